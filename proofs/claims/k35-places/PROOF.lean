import PyProof.Rows.All
import Wide.All
import OpenK.AllK
import Wide.FinOn
import KE.OsGo
import HandS.ForMost
import HandS.TryOnly
import HandS.ExcOwn
import HandS.WordsExc
import HandS.Wide
import HandS.TupAny
import HandS.TupLe
import HandS.Deep
import HandS.IsInst
import HandS.Style
import HandS.ExcIs
import HandS.Exc
import HandS.ExcCtx
import HandS.HotCalls
import HandS.WideMore
import HandS.WideBits
import HandS.Comp
import HandS.Zip
import HandS.Rev
import HandS.Conv
import PyProof.Rows.ChunkLeaf
import HandS.Text
import HandS.SortInts
import HandS.Property
import HandS.Replace
import PyProof.StrOps2
import PyProof.SliceList
import KE.KIndexWalk
import PyProof.Rows.SeqMore
import HandS.ListItems
import HandS.MapObj
import KE.KDictZip
import KE.KItemsList
import HandS.Star
import HandS.ExcInit
import HandS.ExcField
import HandS.FStr
import KE.KExcSuper
import HandS.WordsDict
import HandS.SetKeys
import HandS.Small
import HandS.Defaults
import PyProof.Rows.EnumRows
import PyProof.Rows.MinMaxGenD
import HandS.TupLen
import PySem.Challenge.RW_scanpages_k35_places
set_option Elab.async false
set_option maxRecDepth 100000
set_option Elab.async false
set_option linter.all false
set_option maxRecDepth 100000
set_option maxHeartbeats 2000000
/-! Dat: data-level denotations of Python code over the layer HandS: what a value stands for as plain data, with who may change it. -/
namespace Dt
open PySem PySem.Spec PyProof.Rows L2

/-- plain data; on a list, an instance, a dict: none is frozen, some 0 is one's own, some (k + 1) is the object of parameter k -/
inductive D where
  | non | bl (b : Bool) | int (i : Int) | str (s : Str)
  | ty (n : String) | cls (C : String)
  | exc (C : String) (own : Bool) (ns : List String) (vs : List D)
  | tup (xs : List D)
  | lst (o : Option Nat) (xs : List D)
  | obj (o : Option Nat) (C : String) (ns : List String) (vs : List D)
  | dic (o : Option Nat) (ks : List Key) (vs : List D)
  | dct (o : Option Nat) (ks : List (List Key)) (vs : List D)

/-- the root is frozen (or never changes) -/
def D.rf : D → Bool
  | .lst (some _) _ => false
  | .obj (some _) _ _ _ => false
  | .dic (some _) _ _ => false
  | .dct (some _) _ _ => false
  | _ => true
def D.tg : D → Nat
  | .lst (some t) _ => t
  | .obj (some t) _ _ _ => t
  | .dic (some t) _ _ => t
  | .dct (some t) _ _ => t
  | _ => 0
/-- the root's tag told anew, where it is one's own -/
def D.tag (t : Nat) : D → D
  | .lst (some _) xs => .lst (some t) xs
  | .obj (some _) C ns vs => .obj (some t) C ns vs
  | .dic (some _) ks vs => .dic (some t) ks vs
  | .dct (some _) ks vs => .dct (some t) ks vs
  | d => d
abbrev D.un (d : D) : D := d.tag 0

mutual
def D.frz : D → D
  | .non => .non
  | .bl b => .bl b
  | .int i => .int i
  | .str s => .str s
  | .ty n => .ty n
  | .cls C => .cls C
  | .exc C b ns vs => .exc C b ns vs
  | .tup xs => .tup (D.frzL xs)
  | .lst _ xs => .lst none (D.frzL xs)
  | .obj _ C ns vs => .obj none C ns (D.frzL vs)
  | .dic _ ks vs => .dic none ks (D.frzL vs)
  | .dct _ ks vs => .dct none ks (D.frzL vs)
def D.frzL : List D → List D
  | [] => []
  | d :: ds => D.frz d :: D.frzL ds
end
theorem D.frzL_eq : ∀ ds : List D, D.frzL ds = ds.map D.frz
  | [] => rfl
  | d :: ds => by rw [D.frzL, D.frzL_eq ds, List.map_cons]
theorem D.rf_frz (d : D) : d.frz.rf = true := by cases d <;> simp [D.frz, D.rf]
theorem D.tg_un (d : D) : d.un.tg = 0 := by
  cases d with
  | lst o xs => cases o <;> rfl
  | obj o C ns vs => cases o <;> rfl
  | dic o ks vs => cases o <;> rfl
  | dct o ks vs => cases o <;> rfl
  | _ => rfl

/-- ex: the exception that is handled here: its address, its class, its own dict -/
structure G where
  K : PySem.W.Frag
  mg : Str → Option Value
  ex : Option (Addr × Value × Option Addr)

abbrev nmS (s : String) : Str := Str.ofString s

/-- a tuple of the text's own -/
def KT (K : PySem.W.Frag) (a : Addr) (xs : List V) : Prop := ∃ o its n, K.lookup a = some o ∧ o.cls = .type "tuple" ∧ o.data = .seq its n ∧ its.size ≤ sizeLine ∧ Vals xs its.toList
/-- a tuple that is kept, or the text's own -/
def SqU (K : PySem.W.Frag) (F : Hp) (a : Addr) (xs : List V) : Prop := F a = some (.tup xs) ∨ KT K a xs
theorem SqU.t {K : PySem.W.Frag} {F : Hp} {a : Addr} {xs : List V} (h : SqU K F a xs) : SqT K F a xs := h.imp .inl id

mutual
/-- in the heap F the value v stands for the data d -/
inductive Rp (g : G) (F : Hp) : V → D → Prop
  | non : Rp g F .non .non
  | bl (b : Bool) : Rp g F (.bl b) (.bl b)
  | int (i : Int) : Rp g F (.int i) (.int i)
  | str (s : Str) : Rp g F (.str s) (.str s)
  | ty (n : String) : Rp g F (.ty n) (.ty n)
  | cls {ca : Addr} {C : String} : g.mg (nmS C) = some (.ref ca) → Rp g F (.ref ca) (.cls C)
  | exc0 {a ca : Addr} {C : String} : g.ex = some (a, .ref ca, none) → g.mg (nmS C) = some (.ref ca) → Rp g F (.ref a) (.exc C false [] [])
  | exc1 {a ca d : Addr} {C : String} {fs : List (Str × V)} {ns : List String} {ds : List D} : g.ex = some (a, .ref ca, some d) → g.mg (nmS C) = some (.ref ca) → F d = some (.xd fs) → fs.map (·.1) = ns.map nmS → RpL g F (fs.map (·.2)) ds → Rp g F (.ref a) (.exc C true ns ds)
  | tup {a : Addr} {vs : List V} {ds : List D} : SqU g.K F a vs → RpL g F vs ds → Rp g F (.ref a) (.tup ds)
  | lst {o : Option Nat} {a : Addr} {vs : List V} {ds : List D} : SqL g.K F a vs → RpL g F vs ds → Rp g F (.ref a) (.lst o ds)
  | obj {o : Option Nat} {a ca dx : Addr} {C : String} {fs : List (Str × V)} {ns : List String} {ds : List D} : F a = some (.ins ca dx fs) → F dx = some (.own a) → g.mg (nmS C) = some (.ref ca) →
      fs.map (·.1) = ns.map nmS → RpL g F (fs.map (·.2)) ds → Rp g F (.ref a) (.obj o C ns ds)
  | dic {o : Option Nat} {a : Addr} {kvs : List (Key × V)} {ks : List Key} {ds : List D} : F a = some (.dK kvs) → kvs.map (·.1) = ks → RpL g F (kvs.map (·.2)) ds → Rp g F (.ref a) (.dic o ks ds)
  | dct {o : Option Nat} {a : Addr} {kvs : List (List Key × V)} {ks : List (List Key)} {ds : List D} : F a = some (.dT kvs) → kvs.map (·.1) = ks → RpL g F (kvs.map (·.2)) ds → Rp g F (.ref a) (.dct o ks ds)
inductive RpL (g : G) (F : Hp) : List V → List D → Prop
  | nil : RpL g F [] []
  | cons {v : V} {d : D} {vs : List V} {ds : List D} : Rp g F v d → RpL g F vs ds → RpL g F (v :: vs) (d :: ds)
end

mutual
/-- v stands for d; what may be changed of it stands at A: out of F, as H has it -/
inductive Own (g : G) (F H : Hp) : V → D → List Addr → Prop
  | frz {v : V} {d : D} : d.rf = true → Rp g F v d → Own g F H v d []
  | lst {p : Addr} {vs : List V} {ds : List D} {A : List Addr} : H p = some (.lst vs) → F p = none → OwnL g F H vs ds A → p ∉ A → Own g F H (.ref p) (.lst (some 0) ds) (p :: A)
  | obj {p ca dx : Addr} {C : String} {fs : List (Str × V)} {ns : List String} {ds : List D} {A : List Addr} : H p = some (.ins ca dx fs) → H dx = some (.own p) → F p = none → F dx = none → g.mg (nmS C) = some (.ref ca) →
      fs.map (·.1) = ns.map nmS → OwnL g F H (fs.map (·.2)) ds A → p ∉ A → dx ∉ A → dx ≠ p → Own g F H (.ref p) (.obj (some 0) C ns ds) (p :: dx :: A)
  | dic {p : Addr} {kvs : List (Key × V)} {ks : List Key} {ds : List D} {A : List Addr} : H p = some (.dK kvs) → F p = none → kvs.map (·.1) = ks → OwnL g F H (kvs.map (·.2)) ds A → p ∉ A → Own g F H (.ref p) (.dic (some 0) ks ds) (p :: A)
  | dct {p : Addr} {kvs : List (List Key × V)} {ks : List (List Key)} {ds : List D} {A : List Addr} : H p = some (.dT kvs) → F p = none → kvs.map (·.1) = ks → OwnL g F H (kvs.map (·.2)) ds A → p ∉ A → Own g F H (.ref p) (.dct (some 0) ks ds) (p :: A)
inductive OwnL (g : G) (F H : Hp) : List V → List D → List Addr → Prop
  | nil : OwnL g F H [] [] []
  | cons {v : V} {d : D} {vs : List V} {ds : List D} {A B : List Addr} : Own g F H v d A → OwnL g F H vs ds B → (∀ p, p ∈ A → p ∉ B) → OwnL g F H (v :: vs) (d :: ds) (A ++ B)
end

section
variable {g : G} {F F' H H' : Hp}
theorem same_sqU {K : PySem.W.Frag} {a : Addr} {xs : List V} (e : Same F F') (h : SqU K F a xs) : SqU K F' a xs := h.imp (e _ _) id
theorem same_sqT {K : PySem.W.Frag} {a : Addr} {xs : List V} (e : Same F F') (h : SqT K F a xs) : SqT K F' a xs := by
  rcases h with (h | ⟨o, h⟩) | h
  · exact .inl (.inl (e _ _ h))
  · exact .inl (.inr ⟨o, e _ _ h⟩)
  · exact .inr h
mutual
theorem Rp.mono (e : Same F F') : ∀ {v : V} {d : D}, Rp g F v d → Rp g F' v d
  | _, _, .non => .non
  | _, _, .bl b => .bl b
  | _, _, .int b => .int b
  | _, _, .str b => .str b
  | _, _, .ty b => .ty b
  | _, _, .cls h => .cls h
  | _, _, .exc0 h k => .exc0 h k
  | _, _, .exc1 h1 h2 h3 h4 r => .exc1 h1 h2 (e _ _ h3) h4 (RpL.mono e r)
  | _, _, .tup h r => .tup (same_sqU e h) (RpL.mono e r)
  | _, _, .lst h r => .lst (e.seq h) (RpL.mono e r)
  | _, _, .obj h1 h2 h3 h4 r => .obj (e _ _ h1) (e _ _ h2) h3 h4 (RpL.mono e r)
  | _, _, .dic h1 h2 r => .dic (e _ _ h1) h2 (RpL.mono e r)
  | _, _, .dct h1 h2 r => .dct (e _ _ h1) h2 (RpL.mono e r)
theorem RpL.mono (e : Same F F') : ∀ {vs : List V} {ds : List D}, RpL g F vs ds → RpL g F' vs ds
  | _, _, .nil => .nil
  | _, _, .cons h r => .cons (Rp.mono e h) (RpL.mono e r)
end
mutual
theorem Rp.frz : ∀ {v : V} {d : D}, Rp g F v d → Rp g F v d.frz
  | _, _, .non => .non
  | _, _, .bl b => .bl b
  | _, _, .int b => .int b
  | _, _, .str b => .str b
  | _, _, .ty b => .ty b
  | _, _, .cls h => .cls h
  | _, _, .exc0 h k => .exc0 h k
  | _, _, .exc1 h1 h2 h3 h4 r => .exc1 h1 h2 h3 h4 r
  | _, _, .tup h r => .tup h (RpL.frz r)
  | _, _, .lst h r => .lst h (RpL.frz r)
  | _, _, .obj h1 h2 h3 h4 r => .obj h1 h2 h3 h4 (RpL.frz r)
  | _, _, .dic h1 h2 r => .dic h1 h2 (RpL.frz r)
  | _, _, .dct h1 h2 r => .dct h1 h2 (RpL.frz r)
theorem RpL.frz : ∀ {vs : List V} {ds : List D}, RpL g F vs ds → RpL g F vs (D.frzL ds)
  | _, _, .nil => .nil
  | _, _, .cons h r => .cons (Rp.frz h) (RpL.frz r)
end
theorem Rp.tag (t : Nat) {v : V} {d : D} (h : Rp g F v d) : Rp g F v (d.tag t) := by
  cases h with
  | lst h r => rename_i o _ _ _; cases o <;> exact .lst h r
  | obj h1 h2 h3 h4 r => rename_i o _ _ _ _ _ _ _; cases o <;> exact .obj h1 h2 h3 h4 r
  | dic h1 h2 r => rename_i o _ _ _ _; cases o <;> exact .dic h1 h2 r
  | dct h1 h2 r => rename_i o _ _ _ _; cases o <;> exact .dct h1 h2 r
  | non => exact .non
  | bl b => exact .bl b
  | int b => exact .int b
  | str b => exact .str b
  | ty b => exact .ty b
  | cls b => exact .cls b
  | exc0 h k => exact .exc0 h k
  | exc1 h1 h2 h3 h4 r => exact .exc1 h1 h2 h3 h4 r
  | tup h r => exact .tup h r
theorem Rp.ofTag {t : Nat} {v : V} {d : D} (h : Rp g F v (d.tag t)) : Rp g F v d := by
  cases d with
  | lst o xs => cases o <;> (cases h with | lst h r => exact .lst h r)
  | obj o C ns vs => cases o <;> (cases h with | obj h1 h2 h3 h4 r => exact .obj h1 h2 h3 h4 r)
  | dic o ks vs => cases o <;> (cases h with | dic h1 h2 r => exact .dic h1 h2 r)
  | dct o ks vs => cases o <;> (cases h with | dct h1 h2 r => exact .dct h1 h2 r)
  | non => exact h
  | bl b => exact h
  | int b => exact h
  | str b => exact h
  | ty b => exact h
  | cls b => exact h
  | exc C b ns vs => exact h
  | tup xs => exact h
theorem RpL.length : ∀ {vs : List V} {ds : List D}, RpL g F vs ds → vs.length = ds.length
  | _, _, .nil => rfl
  | _, _, .cons _ r => by rw [List.length_cons, List.length_cons, RpL.length r]
theorem RpL.get : ∀ {vs : List V} {ds : List D} {i : Nat} {d : D}, RpL g F vs ds → ds[i]? = some d → ∃ v, vs[i]? = some v ∧ Rp g F v d
  | _, _, _, _, .nil, e => by simp at e
  | _, _, 0, _, .cons r _, e => by simp at e; subst e; exact ⟨_, rfl, r⟩
  | _, _, i + 1, _, .cons _ t, e => by
    obtain ⟨v, h1, h2⟩ := RpL.get (i := i) t (by simpa using e)
    exact ⟨v, by simpa using h1, h2⟩
theorem RpL.append : ∀ {vs ws : List V} {ds es : List D}, RpL g F vs ds → RpL g F ws es → RpL g F (vs ++ ws) (ds ++ es)
  | _, _, _, _, .nil, s => s
  | _, _, _, _, .cons r t, s => .cons r (RpL.append t s)
theorem RpL.take : ∀ {vs : List V} {ds : List D} (n : Nat), RpL g F vs ds → RpL g F (vs.take n) (ds.take n)
  | _, _, 0, _ => .nil
  | _, _, _ + 1, .nil => .nil
  | _, _, n + 1, .cons r t => .cons r (RpL.take n t)
theorem RpL.drop : ∀ {vs : List V} {ds : List D} (n : Nat), RpL g F vs ds → RpL g F (vs.drop n) (ds.drop n)
  | _, _, 0, r => r
  | _, _, _ + 1, .nil => .nil
  | _, _, n + 1, .cons _ t => RpL.drop n t
theorem RpL.reverse {vs : List V} {ds : List D} (h : RpL g F vs ds) : RpL g F vs.reverse ds.reverse := by
  induction h using RpL.rec (motive_1 := fun _ _ _ => True) with
  | nil => exact .nil
  | cons r _ _ ih => rw [List.reverse_cons, List.reverse_cons]; exact RpL.append ih (.cons r .nil)
  | _ => trivial
mutual
theorem Own.rp (e : Same F H) : ∀ {v : V} {d : D} {A : List Addr}, Own g F H v d A → Rp g H v d
  | _, _, _, .frz _ r => Rp.mono e r
  | _, _, _, .lst h _ r _ => .lst (SqL.of h) (OwnL.rp e r)
  | _, _, _, .obj h1 h2 _ _ h3 h4 r _ _ _ => .obj h1 h2 h3 h4 (OwnL.rp e r)
  | _, _, _, .dic h1 _ h2 r _ => .dic h1 h2 (OwnL.rp e r)
  | _, _, _, .dct h1 _ h2 r _ => .dct h1 h2 (OwnL.rp e r)
theorem OwnL.rp (e : Same F H) : ∀ {vs : List V} {ds : List D} {A : List Addr}, OwnL g F H vs ds A → RpL g H vs ds
  | _, _, _, .nil => .nil
  | _, _, _, .cons h r _ => .cons (Own.rp e h) (OwnL.rp e r)
end
mutual
theorem Own.keep (e : Same F F') : ∀ {v : V} {d : D} {A : List Addr}, Own g F H v d A → (∀ p, p ∈ A → F' p = none ∧ H' p = H p) → Own g F' H' v d A
  | _, _, _, .frz h r, _ => .frz h (Rp.mono e r)
  | _, _, _, .lst h f r n, k => .lst ((k _ List.mem_cons_self).2.trans h) (k _ List.mem_cons_self).1 (OwnL.keep e r fun p hp => k p (List.mem_cons_of_mem _ hp)) n
  | _, _, _, .obj h1 h2 f1 f2 h3 h4 r n1 n2 n3, k => .obj ((k _ List.mem_cons_self).2.trans h1) ((k _ (List.mem_cons_of_mem _ List.mem_cons_self)).2.trans h2) (k _ List.mem_cons_self).1 (k _ (List.mem_cons_of_mem _ List.mem_cons_self)).1 h3 h4
      (OwnL.keep e r fun p hp => k p (List.mem_cons_of_mem _ (List.mem_cons_of_mem _ hp))) n1 n2 n3
  | _, _, _, .dic h1 f h2 r n, k => .dic ((k _ List.mem_cons_self).2.trans h1) (k _ List.mem_cons_self).1 h2 (OwnL.keep e r fun p hp => k p (List.mem_cons_of_mem _ hp)) n
  | _, _, _, .dct h1 f h2 r n, k => .dct ((k _ List.mem_cons_self).2.trans h1) (k _ List.mem_cons_self).1 h2 (OwnL.keep e r fun p hp => k p (List.mem_cons_of_mem _ hp)) n
theorem OwnL.keep (e : Same F F') : ∀ {vs : List V} {ds : List D} {A : List Addr}, OwnL g F H vs ds A → (∀ p, p ∈ A → F' p = none ∧ H' p = H p) → OwnL g F' H' vs ds A
  | _, _, _, .nil, _ => .nil
  | _, _, _, .cons h r d, k => .cons (Own.keep e h fun p hp => k p (List.mem_append_left _ hp)) (OwnL.keep e r fun p hp => k p (List.mem_append_right _ hp)) d
end
mutual
theorem Own.mem : ∀ {v : V} {d : D} {A : List Addr}, Own g F H v d A → ∀ p, p ∈ A → F p = none ∧ ∃ o, H p = some o
  | _, _, _, .frz _ _, p, hp => nomatch hp
  | _, _, _, .lst h f r n, p, hp => by
    rcases List.mem_cons.mp hp with e | hp
    · exact e ▸ ⟨f, _, h⟩
    · exact OwnL.mem r p hp
  | _, _, _, .obj h1 h2 f1 f2 h3 h4 r n1 n2 n3, p, hp => by
    rcases List.mem_cons.mp hp with e | hp
    · exact e ▸ ⟨f1, _, h1⟩
    · rcases List.mem_cons.mp hp with e | hp
      · exact e ▸ ⟨f2, _, h2⟩
      · exact OwnL.mem r p hp
  | _, _, _, .dic h f _ r n, p, hp => by
    rcases List.mem_cons.mp hp with e | hp
    · exact e ▸ ⟨f, _, h⟩
    · exact OwnL.mem r p hp
  | _, _, _, .dct h f _ r n, p, hp => by
    rcases List.mem_cons.mp hp with e | hp
    · exact e ▸ ⟨f, _, h⟩
    · exact OwnL.mem r p hp
theorem OwnL.mem : ∀ {vs : List V} {ds : List D} {A : List Addr}, OwnL g F H vs ds A → ∀ p, p ∈ A → F p = none ∧ ∃ o, H p = some o
  | _, _, _, .nil, p, hp => nomatch hp
  | _, _, _, .cons h r _, p, hp => by
    rcases List.mem_append.mp hp with hp | hp
    · exact Own.mem h p hp
    · exact OwnL.mem r p hp
end
/-- F with what H has at A -/
def frzH (F H : Hp) (A : List Addr) : Hp := fun q => if q ∈ A then H q else F q
theorem frzH_same {A : List Addr} (e : Same F H) (h : ∀ p, p ∈ A → F p = none) : Same F (frzH F H A) := fun b o q => by
  unfold frzH
  split
  · exact e b o q
  · exact q
theorem frzH_le {A : List Addr} (e : Same F H) : Same (frzH F H A) H := fun b o q => by
  unfold frzH at q
  split at q
  · exact q
  · exact e b o q
theorem frzH_out {A : List Addr} {q : Addr} (h : q ∉ A) : frzH F H A q = F q := by unfold frzH; rw [if_neg h]
theorem frzH_in {A : List Addr} {q : Addr} (h : q ∈ A) : frzH F H A q = H q := by unfold frzH; rw [if_pos h]
/-- frozen: F grows by the footprint -/
theorem Own.freeze {v : V} {d : D} {A : List Addr} (e : Same F H) (h : Own g F H v d A) : Rp g (frzH F H A) v d := by
  have q : Own g F (frzH F H A) v d A := h.keep (fun _ _ z => z) fun p hp => ⟨(h.mem p hp).1, frzH_in hp⟩
  exact q.rp (frzH_same e fun p hp => (h.mem p hp).1)
theorem Own.rf_nil {v : V} {d : D} {A : List Addr} (h : Own g F H v d A) (r : d.rf = true) : Rp g F v d ∧ A = [] := by
  cases h with
  | frz _ q => exact ⟨q, rfl⟩
  | lst => cases r
  | obj => cases r
  | dic => cases r
  | dct => cases r
end

/-! ### the frame's slots -/
abbrev Env := List (Option D)
inductive OwnE (g : G) (τ : List V) (F H : Hp) : L2.St → Env → List Addr → Prop
  | nil : OwnE g τ F H [] [] []
  | skip {x : Option V} {σ : L2.St} {ρ : Env} {A : List Addr} : OwnE g τ F H σ ρ A → OwnE g τ F H (x :: σ) (none :: ρ) A
  | cons {v : V} {d : D} {σ : L2.St} {ρ : Env} {A B : List Addr} : Own g F H v d.un A → (∀ k, d.tg = k + 1 → τ[k]? = some v) → OwnE g τ F H σ ρ B → (∀ p, p ∈ A → p ∉ B) → OwnE g τ F H (some v :: σ) (some d :: ρ) (A ++ B)
section
variable {g : G} {τ : List V} {F F' H H' B : Hp}
theorem OwnE.length {σ : L2.St} {ρ : Env} {A : List Addr} (h : OwnE g τ F H σ ρ A) : σ.length = ρ.length := by
  induction h with
  | nil => rfl
  | skip _ ih => rw [List.length_cons, List.length_cons, ih]
  | cons _ _ _ _ ih => rw [List.length_cons, List.length_cons, ih]
theorem OwnE.keep (e : Same F F') {σ : L2.St} {ρ : Env} {A : List Addr} (h : OwnE g τ F H σ ρ A) (k : ∀ p, p ∈ A → F' p = none ∧ H' p = H p) : OwnE g τ F' H' σ ρ A := by
  induction h with
  | nil => exact .nil
  | skip _ ih => exact .skip (ih k)
  | cons h t r d ih => exact .cons (h.keep e fun p hp => k p (List.mem_append_left _ hp)) t (ih fun p hp => k p (List.mem_append_right _ hp)) d
theorem OwnE.mem {σ : L2.St} {ρ : Env} {A : List Addr} (h : OwnE g τ F H σ ρ A) : ∀ p, p ∈ A → F p = none ∧ ∃ o, H p = some o := by
  induction h with
  | nil => exact fun p hp => nomatch hp
  | skip _ ih => exact ih
  | cons h t r d ih =>
    intro p hp
    rcases List.mem_append.mp hp with hp | hp
    · exact h.mem p hp
    · exact ih p hp
theorem OwnE.get {σ : L2.St} {ρ : Env} {A : List Addr} (h : OwnE g τ F H σ ρ A) : ∀ {i : Nat} {d : D}, ρ[i]? = some (some d) → ∃ v A', σ[i]? = some (some v) ∧ Own g F H v d.un A' ∧ (∀ p, p ∈ A' → p ∈ A) ∧ ∀ k, d.tg = k + 1 → τ[k]? = some v := by
  induction h with
  | nil => intro i d e; simp at e
  | skip _ ih =>
    intro i d e
    cases i with
    | zero => simp at e
    | succ i => exact ih (i := i) (by simpa using e)
  | cons h t r dj ih =>
    intro i d e
    cases i with
    | zero =>
      simp at e
      subst e
      exact ⟨_, _, rfl, h, fun p hp => List.mem_append_left _ hp, t⟩
    | succ i =>
      obtain ⟨v, A', h1, h2, h3, h4⟩ := ih (i := i) (by simpa using e)
      exact ⟨v, A', by simpa using h1, h2, fun p hp => List.mem_append_right _ (h3 p hp), h4⟩
/-- slot i told anew -/
theorem OwnE.put {σ : L2.St} {ρ : Env} {A : List Addr} (h : OwnE g τ F H σ ρ A) : ∀ {i : Nat} {v : V} {d : D} {A1 : List Addr}, Own g F H v d.un A1 → (∀ k, d.tg = k + 1 → τ[k]? = some v) → (∀ p, p ∈ A1 → p ∉ A) →
    ∃ A', OwnE g τ F H (σ.set i (some v)) (ρ.set i (some d)) A' ∧ ∀ p, p ∈ A' → p ∈ A1 ∨ p ∈ A := by
  induction h with
  | nil => intro i v d A1 _ _ _; exact ⟨[], by simpa using OwnE.nil, fun p hp => nomatch hp⟩
  | @skip x σ ρ A hr ih =>
    intro i v d A1 o t dj
    cases i with
    | zero => exact ⟨A1 ++ A, .cons o t hr dj, fun p hp => List.mem_append.mp hp⟩
    | succ i =>
      obtain ⟨A', h1, h2⟩ := ih (i := i) o t dj
      exact ⟨A', .skip h1, h2⟩
  | @cons w e σ ρ A B ho ht hr hd ih =>
    intro i v d A1 o t dj
    cases i with
    | zero => exact ⟨A1 ++ B, .cons o t hr fun p hp => fun hb => dj p hp (List.mem_append_right _ hb), fun p hp => (List.mem_append.mp hp).imp id fun q => List.mem_append_right _ q⟩
    | succ i =>
      obtain ⟨A', h1, h2⟩ := ih (i := i) o t fun p hp hb => dj p hp (List.mem_append_right _ hb)
      refine ⟨A ++ A', .cons ho ht h1 fun p hp hb => ?_, fun p hp => ?_⟩
      · rcases h2 p hb with q | q
        · exact dj p q (List.mem_append_left _ hp)
        · exact hd p hp q
      · rcases List.mem_append.mp hp with q | q
        · exact .inr (List.mem_append_left _ q)
        · exact (h2 p q).imp id fun q => List.mem_append_right _ q
/-- slot i forgotten -/
theorem OwnE.gone {σ : L2.St} {ρ : Env} {A : List Addr} (h : OwnE g τ F H σ ρ A) : ∀ (i : Nat) (x : Option V), ∃ A', OwnE g τ F H (σ.set i x) (ρ.set i none) A' ∧ ∀ p, p ∈ A' → p ∈ A := by
  induction h with
  | nil => intro i x; exact ⟨[], by simpa using OwnE.nil, fun p hp => nomatch hp⟩
  | @skip y σ ρ A hr ih =>
    intro i x
    cases i with
    | zero => exact ⟨A, .skip hr, fun _ q => q⟩
    | succ i =>
      obtain ⟨A', h1, h2⟩ := ih i x
      exact ⟨A', .skip h1, h2⟩
  | @cons w e σ ρ A B ho ht hr hd ih =>
    intro i x
    cases i with
    | zero => exact ⟨B, .skip hr, fun p hp => List.mem_append_right _ hp⟩
    | succ i =>
      obtain ⟨A', h1, h2⟩ := ih i x
      refine ⟨A ++ A', .cons ho ht h1 fun p hp hb => hd p hp (h2 p hb), fun p hp => ?_⟩
      rcases List.mem_append.mp hp with q | q
      · exact List.mem_append_left _ q
      · exact List.mem_append_right _ (h2 p q)
end

/-- a frame's slots stand for ρ: B is what must stay, F what is frozen -/
structure EnvR (g : G) (τ : List V) (B F H : Hp) (σ : L2.St) (ρ : Env) : Prop where
  bh : Same B H
  fh : Same F H
  own : ∃ A, OwnE g τ F H σ ρ A ∧ ∀ p, p ∈ A → B p = none
/-- a step that changes nothing of one's own -/
structure StepP (F H F' H' : Hp) : Prop where
  ff : Same F F'
  fh : Same F' H'
  hh : Same H H'
  new : ∀ q o, H q = some o → F' q = F q
structure StepI (B F F' H' : Hp) : Prop where
  ff : Same F F'
  fh : Same F' H'
  bh : Same B H'
  new : ∀ q o, B q = some o → F' q = F q
section
variable {g : G} {τ : List V} {B F F' F'' H H' H'' : Hp} {σ : L2.St} {ρ : Env}
theorem StepP.refl (h : Same F H) : StepP F H F H := ⟨.refl F, h, .refl H, fun _ _ _ => rfl⟩
theorem StepP.trans (a : StepP F H F' H') (b : StepP F' H' F'' H'') : StepP F H F'' H'' := ⟨a.ff.trans b.ff, b.fh, a.hh.trans b.hh, fun q o h => (b.new q o (a.hh q o h)).trans (a.new q o h)⟩
theorem StepI.trans (a : StepI B F F' H') (b : StepI B F' F'' H'') : StepI B F F'' H'' := ⟨a.ff.trans b.ff, b.fh, b.bh, fun q o h => (b.new q o h).trans (a.new q o h)⟩
theorem StepI.refl (f : Same F H) (b : Same B H) : StepI B F F H := ⟨.refl F, f, b, fun _ _ _ => rfl⟩
theorem StepP.toI (b : Same B H) (a : StepP F H F' H') : StepI B F F' H' := ⟨a.ff, a.fh, b.trans a.hh, fun q o h => a.new q o (b q o h)⟩
theorem Own.stepP {v : V} {d : D} {A : List Addr} (h : Own g F H v d A) (s : StepP F H F' H') : Own g F' H' v d A := h.keep s.ff fun p hp => by
  obtain ⟨f, o, q⟩ := h.mem p hp
  exact ⟨(s.new p o q).trans f, (s.hh p o q).trans q.symm⟩
theorem OwnL.stepP {vs : List V} {ds : List D} {A : List Addr} (h : OwnL g F H vs ds A) (s : StepP F H F' H') : OwnL g F' H' vs ds A := h.keep s.ff fun p hp => by
  obtain ⟨f, o, q⟩ := h.mem p hp
  exact ⟨(s.new p o q).trans f, (s.hh p o q).trans q.symm⟩
theorem OwnE.stepP {A : List Addr} (h : OwnE g τ F H σ ρ A) (s : StepP F H F' H') : OwnE g τ F' H' σ ρ A := h.keep s.ff fun p hp => by
  obtain ⟨f, o, q⟩ := h.mem p hp
  exact ⟨(s.new p o q).trans f, (s.hh p o q).trans q.symm⟩
theorem EnvR.stepP (E : EnvR g τ B F H σ ρ) (s : StepP F H F' H') : EnvR g τ B F' H' σ ρ := by
  obtain ⟨A, h, b⟩ := E.own
  exact ⟨E.bh.trans s.hh, s.fh, A, h.stepP s, b⟩
/-- some new things are frozen -/
theorem StepP.freeze {A : List Addr} (s : StepP F H F' H') (new : ∀ p, p ∈ A → H p = none) (f : ∀ p, p ∈ A → F' p = none) : StepP F H (frzH F' H' A) H' :=
  ⟨s.ff.trans (frzH_same s.fh f), frzH_le s.fh, s.hh, fun q o h => by
    rw [frzH_out fun hq => by rw [new q hq] at h; cases h]
    exact s.new q o h⟩
end
end Dt

set_option Elab.async false
set_option linter.all false
set_option maxRecDepth 100000
set_option maxHeartbeats 2000000
/-! Dat: denotations: what an expression, a test, an argument list, a statement is at the level of plain data. -/
namespace Dt
open PySem PySem.Spec PyProof.Rows L2

/-- an exception: its class by name, its own attributes (none: a class that stores none) -/
structure XD where
  C : String
  fs : Option (List String × List D)
inductive R (α : Type) where
  | ok (a : α)
  | ex (x : XD)
  | bad
def R.bind {α β : Type} (r : R α) (f : α → R β) : R β := match r with
  | .ok a => f a
  | .ex x => .ex x
  | .bad => .bad
@[simp] theorem R.bind_ok {α β : Type} (a : α) (f : α → R β) : (R.ok a).bind f = f a := rfl
@[simp] theorem R.bind_ex {α β : Type} (x : XD) (f : α → R β) : (R.ex x : R α).bind f = .ex x := rfl
@[simp] theorem R.bind_bad {α β : Type} (f : α → R β) : (R.bad : R α).bind f = .bad := rfl
theorem R.bind_of_ok {α β : Type} {r : R α} {a : α} (h : r = .ok a) (f : α → R β) : r.bind f = f a := by rw [h]; rfl

/-- frozen at the root, or frozen here -/
def D.fr (d : D) : D := if d.rf then d else d.frz
theorem D.rf_fr (d : D) : d.fr.rf = true := by
  unfold D.fr
  split
  · assumption
  · exact D.rf_frz d
def D.sc : D → Bool
  | .non | .bl _ | .int _ | .str _ => true
  | _ => false
def allRf (ds : List D) : Bool := ds.all D.rf
def allSc (ds : List D) : Bool := ds.all D.sc
theorem D.rf_of_sc {d : D} (h : d.sc = true) : d.rf = true := by cases d <;> first | rfl | cases h
theorem allRf_of_sc {ds : List D} (h : allSc ds = true) : allRf ds = true := List.all_eq_true.mpr fun d hd => D.rf_of_sc (List.all_eq_true.mp h d hd)

/-- the wish about exceptions; the exception that is handled here -/
structure Wx where
  w : WX
  ex : Option (Addr × Value × Option Addr)
abbrev gx (X : Cx) (W : Wx) : G := ⟨X.K, X.mg, W.ex⟩

section
variable {g : G} {F F' H H' : Hp}
theorem Rp.fr {v : V} {d : D} (h : Rp g F v d) : Rp g F v d.fr := by
  unfold D.fr
  split
  · exact h
  · exact h.frz
theorem Rp.sc {v : V} {d : D} (h : Rp g F v d) (s : d.sc = true) (F' : Hp) : Rp g F' v d := by
  cases h with
  | non => exact .non
  | bl b => exact .bl b
  | int b => exact .int b
  | str b => exact .str b
  | _ => cases s
theorem RpL.sc : ∀ {vs : List V} {ds : List D}, RpL g F vs ds → allSc ds = true → ∀ F', RpL g F' vs ds
  | _, _, .nil, _, _ => .nil
  | _, _, .cons h r, s, F' => by
    have s' := Bool.and_eq_true_iff.mp (show (_ && _) = true from s)
    exact .cons (h.sc s'.1 F') (RpL.sc r s'.2 F')
theorem RpL.own : ∀ {vs : List V} {ds : List D}, RpL g F vs ds → allRf ds = true → OwnL g F H vs ds []
  | _, _, .nil, _ => .nil
  | _, _, .cons h r, s => by
    have s' := Bool.and_eq_true_iff.mp (show (_ && _) = true from s)
    exact .cons (A := []) (B := []) (.frz s'.1 h) (RpL.own r s'.2) fun _ q => nomatch q
end

/-! ### what is only read: one's own as the heap stands, its frozen parts as such -/
mutual
inductive Sw (g : G) (F H : Hp) : V → D → Prop
  | frz {v : V} {d : D} : d.rf = true → Rp g F v d → Sw g F H v d
  | lst {t : Nat} {p : Addr} {vs : List V} {ds : List D} : H p = some (.lst vs) → SwL g F H vs ds → Sw g F H (.ref p) (.lst (some t) ds)
  | obj {t : Nat} {p ca dx : Addr} {C : String} {fs : List (Str × V)} {ns : List String} {ds : List D} : H p = some (.ins ca dx fs) → H dx = some (.own p) → g.mg (nmS C) = some (.ref ca) → fs.map (·.1) = ns.map nmS → SwL g F H (fs.map (·.2)) ds → Sw g F H (.ref p) (.obj (some t) C ns ds)
  | dic {t : Nat} {p : Addr} {kvs : List (Key × V)} {ks : List Key} {ds : List D} : H p = some (.dK kvs) → kvs.map (·.1) = ks → SwL g F H (kvs.map (·.2)) ds → Sw g F H (.ref p) (.dic (some t) ks ds)
  | dct {t : Nat} {p : Addr} {kvs : List (List Key × V)} {ks : List (List Key)} {ds : List D} : H p = some (.dT kvs) → kvs.map (·.1) = ks → SwL g F H (kvs.map (·.2)) ds → Sw g F H (.ref p) (.dct (some t) ks ds)
inductive SwL (g : G) (F H : Hp) : List V → List D → Prop
  | nil : SwL g F H [] []
  | cons {v : V} {d : D} {vs : List V} {ds : List D} : Sw g F H v d → SwL g F H vs ds → SwL g F H (v :: vs) (d :: ds)
end
section
variable {g : G} {F F' H H' : Hp}
mutual
theorem Own.sw : ∀ {v : V} {d : D} {A : List Addr}, Own g F H v d A → Sw g F H v d
  | _, _, _, .frz h r => .frz h r
  | _, _, _, .lst h _ r _ => .lst h (OwnL.sw r)
  | _, _, _, .obj h1 h2 _ _ h3 h4 r _ _ _ => .obj h1 h2 h3 h4 (OwnL.sw r)
  | _, _, _, .dic h1 _ h2 r _ => .dic h1 h2 (OwnL.sw r)
  | _, _, _, .dct h1 _ h2 r _ => .dct h1 h2 (OwnL.sw r)
theorem OwnL.sw : ∀ {vs : List V} {ds : List D} {A : List Addr}, OwnL g F H vs ds A → SwL g F H vs ds
  | _, _, _, .nil => .nil
  | _, _, _, .cons h r _ => .cons (Own.sw h) (OwnL.sw r)
end
mutual
theorem Sw.rp (e : Same F H) : ∀ {v : V} {d : D}, Sw g F H v d → Rp g H v d
  | _, _, .frz _ r => Rp.mono e r
  | _, _, .lst h r => .lst (SqL.of h) (SwL.rp e r)
  | _, _, .obj h1 h2 h3 h4 r => .obj h1 h2 h3 h4 (SwL.rp e r)
  | _, _, .dic h1 h2 r => .dic h1 h2 (SwL.rp e r)
  | _, _, .dct h1 h2 r => .dct h1 h2 (SwL.rp e r)
theorem SwL.rp (e : Same F H) : ∀ {vs : List V} {ds : List D}, SwL g F H vs ds → RpL g H vs ds
  | _, _, .nil => .nil
  | _, _, .cons h r => .cons (Sw.rp e h) (SwL.rp e r)
end
mutual
theorem Sw.mono (e1 : Same F F') (e2 : Same H H') : ∀ {v : V} {d : D}, Sw g F H v d → Sw g F' H' v d
  | _, _, .frz h r => .frz h (Rp.mono e1 r)
  | _, _, .lst h r => .lst (e2 _ _ h) (SwL.mono e1 e2 r)
  | _, _, .obj h1 h2 h3 h4 r => .obj (e2 _ _ h1) (e2 _ _ h2) h3 h4 (SwL.mono e1 e2 r)
  | _, _, .dic h1 h2 r => .dic (e2 _ _ h1) h2 (SwL.mono e1 e2 r)
  | _, _, .dct h1 h2 r => .dct (e2 _ _ h1) h2 (SwL.mono e1 e2 r)
theorem SwL.mono (e1 : Same F F') (e2 : Same H H') : ∀ {vs : List V} {ds : List D}, SwL g F H vs ds → SwL g F' H' vs ds
  | _, _, .nil => .nil
  | _, _, .cons h r => .cons (Sw.mono e1 e2 h) (SwL.mono e1 e2 r)
end
theorem Sw.rf {v : V} {d : D} (h : Sw g F H v d) (r : d.rf = true) : Rp g F v d := by
  cases h with
  | frz _ q => exact q
  | lst => cases r
  | obj => cases r
  | dic => cases r
  | dct => cases r
theorem SwL.items : ∀ {vs : List V} {ds : List D}, SwL g F H vs ds → allRf ds = true → RpL g F vs ds
  | _, _, .nil, _ => .nil
  | _, _, .cons h r, c => by
    have c' := Bool.and_eq_true_iff.mp (show (_ && _) = true from c)
    exact .cons (h.rf c'.1) (SwL.items r c'.2)
theorem SwL.length : ∀ {vs : List V} {ds : List D}, SwL g F H vs ds → vs.length = ds.length
  | _, _, .nil => rfl
  | _, _, .cons _ r => by rw [List.length_cons, List.length_cons, SwL.length r]
theorem SwL.get : ∀ {vs : List V} {ds : List D} {i : Nat} {d : D}, SwL g F H vs ds → ds[i]? = some d → ∃ v, vs[i]? = some v ∧ Sw g F H v d
  | _, _, i, _, .nil, e => by simp at e
  | _, _, 0, _, .cons r _, e => by simp at e; subst e; exact ⟨_, rfl, r⟩
  | _, _, i + 1, _, .cons _ t, e => by
    obtain ⟨v, h1, h2⟩ := SwL.get (i := i) t (by simpa using e)
    exact ⟨v, by simpa using h1, h2⟩
theorem RpL.sw : ∀ {vs : List V} {ds : List D}, RpL g F vs ds → allRf ds = true → SwL g F H vs ds
  | _, _, .nil, _ => .nil
  | _, _, .cons h r, c => by
    have c' := Bool.and_eq_true_iff.mp (show (_ && _) = true from c)
    exact .cons (.frz c'.1 h) (RpL.sw r c'.2)
theorem Sw.ofTag {t : Nat} {v : V} {d : D} (h : Sw g F H v (d.tag t)) : Sw g F H v d := by
  cases d with
  | lst o xs => cases o with
    | none => exact h
    | some k =>
      cases (show Sw g F H v (.lst (some t) xs) from h) with
      | frz r => cases r
      | lst a b => exact .lst a b
  | obj o C ns xs => cases o with
    | none => exact h
    | some k =>
      cases (show Sw g F H v (.obj (some t) C ns xs) from h) with
      | frz r => cases r
      | obj a b c e f => exact .obj a b c e f
  | dic o ks xs => cases o with
    | none => exact h
    | some k =>
      cases (show Sw g F H v (.dic (some t) ks xs) from h) with
      | frz r => cases r
      | dic a b c => exact .dic a b c
  | dct o ks xs => cases o with
    | none => exact h
    | some k =>
      cases (show Sw g F H v (.dct (some t) ks xs) from h) with
      | frz r => cases r
      | dct a b c => exact .dct a b c
  | _ => exact h
/-- a list that is read: where its items lie, the frozen ones as such -/
theorem Sw.lstI {v : V} {o : Option Nat} {ds : List D} (s : Same F H) (h : Sw g F H v (.lst o ds)) : ∃ a vs, v = .ref a ∧ SqL g.K H a vs ∧ (SwL g F H vs ds ∨ RpL g F vs ds) := by
  cases h with
  | frz r q =>
    cases q with
    | lst hs r => exact ⟨_, _, rfl, s.seq hs, .inr r⟩
  | lst a b => exact ⟨_, _, rfl, SqL.of a, .inl b⟩
end

/-- what comes of a pure expression: gr: one's own or frozen; else only as the heap stands -/
def ResG (gr : Bool) (g : G) (F H F' H' : Hp) (v : V) (d : D) : Prop := match gr with
  | true => ∃ A, Own g F' H' v d A ∧ ∀ p, p ∈ A → H p = none
  | false => Sw g F' H' v d
def ResX (g : G) (H F' H' : Hp) (cls : Value) (dd : Option Addr) (x : XD) : Prop := ∃ ca, g.mg (nmS x.C) = some (.ref ca) ∧ cls = .ref ca ∧ match x.fs with
  | none => dd = none
  | some (ns, ds) => ∃ d fs, dd = some d ∧ F' d = some (.xd fs) ∧ fs.map (·.1) = ns.map nmS ∧ RpL g F' (fs.map (·.2)) ds
theorem ResX.back {g : G} {H H0 F' H' : Hp} {cls : Value} {dd : Option Addr} {x : XD} (s : Same H0 H) (h : ResX g H F' H' cls dd x) : ResX g H0 F' H' cls dd x := by
  obtain ⟨ca, h1, h2, h3⟩ := h
  refine ⟨ca, h1, h2, ?_⟩
  cases hx : x.fs with
  | none => rw [hx] at h3; exact h3
  | some p =>
    rw [hx] at h3
    exact h3

def outE (gr : Bool) (g : G) (W : Wx) (F H : Hp) (σ : L2.St) (Q : VK) : R D → Prop
  | .ok d => ∀ v H' F', StepP F H F' H' → ResG gr g F H F' H' v d → Q v H'
  | .ex x => ∀ cls dd H' F', StepP F H F' H' → ResX g H F' H' cls dd x → W.w cls dd σ H'
  | .bad => False
def liftE (gr : Bool) (g : G) (W : Wx) (f : Env → R D) : TE := fun σ H Q => ∃ τ B F ρ, EnvR g τ B F H σ ρ ∧ outE gr g W F H σ Q (f ρ)
/-- the judgement of a pure expression -/
abbrev DE (gr : Bool) (X : Cx) (W : Wx) (e : Expr) (f : Env → R D) : Prop := PE X e (liftE gr (gx X W) W f)
def outT (g : G) (W : Wx) (F H : Hp) (σ : L2.St) (Q : Bool → Hp → Prop) : R Bool → Prop
  | .ok b => ∀ H' F', StepP F H F' H' → Q b H'
  | .ex x => ∀ cls dd H' F', StepP F H F' H' → ResX g H F' H' cls dd x → W.w cls dd σ H'
  | .bad => False
def liftT (g : G) (W : Wx) (f : Env → R Bool) : TT := fun σ H Q => ∃ τ B F ρ, EnvR g τ B F H σ ρ ∧ outT g W F H σ Q (f ρ)
abbrev DT (X : Cx) (W : Wx) (e : Expr) (f : Env → R Bool) : Prop := PT X e (liftT (gx X W) W f)
/-- an argument list: all frozen (gr), or as the heap stands; the data are frozen ones -/
def ResA (gr : Bool) (g : G) (F' H' : Hp) (vs : List V) (ds : List D) : Prop := match gr with
  | true => RpL g F' vs ds
  | false => SwL g F' H' vs ds
def outA (gr : Bool) (g : G) (W : Wx) (F H : Hp) (σ : L2.St) (Q : List V → Hp → Prop) : R (List D) → Prop
  | .ok ds => ∀ vs H' F', StepP F H F' H' → ResA gr g F' H' vs ds → Q vs H'
  | .ex x => ∀ cls dd H' F', StepP F H F' H' → ResX g H F' H' cls dd x → W.w cls dd σ H'
  | .bad => False
def liftA (gr : Bool) (g : G) (W : Wx) (f : Env → R (List D)) : TA := fun σ H Q => ∃ τ B F ρ, EnvR g τ B F H σ ρ ∧ outA gr g W F H σ Q (f ρ)
abbrev DA (gr : Bool) (X : Cx) (W : Wx) (es : List Expr) (f : Env → R (List D)) : Prop := PA X es (liftA gr (gx X W) W f)

theorem pe_imp {X : Cx} {e : Expr} {t t' : TE} (h : PE X e t) (i : ∀ σ H Q, t' σ H Q → t σ H Q) : PE X e t' := ⟨fun pins s σ H Q I q => h.run pins s σ H Q I (i σ H Q q)⟩
theorem pt_imp {X : Cx} {e : Expr} {t t' : TT} (h : PT X e t) (i : ∀ σ H Q, t' σ H Q → t σ H Q) : PT X e t' := ⟨fun pins s σ H Q I q => h.run pins s σ H Q I (i σ H Q q)⟩
theorem pa_imp {X : Cx} {es : List Expr} {t t' : TA} (h : PA X es t) (i : ∀ σ H Q, t' σ H Q → t σ H Q) : PA X es t' := ⟨fun pos pins s σ H Q I q => h.run pos pins s σ H Q I (i σ H Q q)⟩
theorem ps_imp {X : Cx} {st : Stmt} {t t' : TS} (h : PS X st t) (i : ∀ D σ H, t' D σ H → t D σ H) : PS X st t' := ⟨fun pins s σ H D I q => h.run pins s σ H D I (i D σ H q)⟩
theorem pss_imp {X : Cx} {st : List Stmt} {t t' : TS} (h : PSs X st t) (i : ∀ D σ H, t' D σ H → t D σ H) : PSs X st t' := ⟨fun pins s σ H D I q => h.run pins s σ H D I (i D σ H q)⟩

section
variable {g : G} {W : Wx} {gr gr1 gr2 : Bool} {τ : List V} {B F F' H H' : Hp} {σ : L2.St} {ρ : Env}

theorem outE.step {Q : VK} {r : R D} (s : StepP F H F' H') (h : outE gr g W F H σ Q r) : outE gr g W F' H' σ Q r := by
  cases r with
  | ok d =>
    intro v H2 F2 s2 q
    refine h v H2 F2 (s.trans s2) ?_
    cases gr with
    | true =>
      obtain ⟨A, o, f⟩ := q
      exact ⟨A, o, fun p hp => s.hh.free (f p hp)⟩
    | false => exact q
  | ex x => exact fun cls dd H2 F2 s2 q => h cls dd H2 F2 (s.trans s2) (q.back s.hh)
  | bad => exact h
theorem outT.step {Q : Bool → Hp → Prop} {r : R Bool} (s : StepP F H F' H') (h : outT g W F H σ Q r) : outT g W F' H' σ Q r := by
  cases r with
  | ok d => exact fun H2 F2 s2 => h H2 F2 (s.trans s2)
  | ex x => exact fun cls dd H2 F2 s2 q => h cls dd H2 F2 (s.trans s2) (q.back s.hh)
  | bad => exact h
theorem outA.step {Q : List V → Hp → Prop} {r : R (List D)} (s : StepP F H F' H') (h : outA gr g W F H σ Q r) : outA gr g W F' H' σ Q r := by
  cases r with
  | ok d => exact fun vs H2 F2 s2 => h vs H2 F2 (s.trans s2)
  | ex x => exact fun cls dd H2 F2 s2 q => h cls dd H2 F2 (s.trans s2) (q.back s.hh)
  | bad => exact h

/-- what an operand is once it is there: frozen (gr), or as the heap stands -/
def Op (gr : Bool) (g : G) (F H : Hp) (v : V) (d : D) : Prop := match gr with
  | true => Rp g F v d
  | false => Sw g F H v d
def D.op (gr : Bool) (d : D) : D := match gr with
  | true => d.fr
  | false => d
theorem Op.rp {v : V} {d : D} (s : Same F H) (h : Op gr g F H v d) : Rp g H v d := by
  cases gr with
  | true => exact Rp.mono s h
  | false => exact Sw.rp s h
theorem Op.step {v : V} {d : D} (s : StepP F H F' H') (h : Op gr g F H v d) : Op gr g F' H' v d := by
  cases gr with
  | true => exact Rp.mono s.ff h
  | false => exact Sw.mono s.ff s.hh h
/-- a result becomes an operand -/
theorem ResG.op {v : V} {d : D} (s : StepP F H F' H') (h : ResG gr g F H F' H' v d) : ∃ F2, StepP F H F2 H' ∧ Op gr g F2 H' v (d.op gr) := by
  cases gr with
  | true =>
    obtain ⟨A, o, f⟩ := h
    exact ⟨frzH F' H' A, s.freeze f fun p hp => (o.mem p hp).1, (o.freeze s.fh).fr⟩
  | false => exact ⟨F', s, h⟩
end

section
variable {X : Cx} {W : Wx} {gr gr1 gr2 gr3 : Bool} {e a b : Expr} {pos : Pos} {fa fb fc : Env → R D}

/-- one's own or frozen is more than «as the heap stands» -/
theorem de_weak (h : DE true X W e fa) : DE false X W e fa := pe_imp h fun σ H Q => fun ⟨τ, B, F, ρ, E, q⟩ => ⟨τ, B, F, ρ, E, by
  cases hf : fa ρ with
  | ok d =>
    rw [hf] at q
    exact fun v H' F' s ⟨A, o, _⟩ => q v H' F' s o.sw
  | ex x => rw [hf] at q; exact q
  | bad => rw [hf] at q; exact q⟩

/-! ### names and constants -/
def dVar (i : Nat) : Env → R D := fun ρ => match ρ[i]? with
  | some (some d) => if d.rf then .ok d else .bad
  | _ => .bad
/-- a name that is only read here -/
def dRef (i : Nat) : Env → R D := fun ρ => match ρ[i]? with
  | some (some d) => .ok d
  | _ => .bad
theorem tag_rf {d : D} (h : d.rf = true) (t : Nat) : d.tag t = d := by
  cases d with
  | lst o xs => cases o with
    | none => rfl
    | some t => cases h
  | obj o C ns vs => cases o with
    | none => rfl
    | some t => cases h
  | dic o ks vs => cases o with
    | none => rfl
    | some t => cases h
  | dct o ks vs => cases o with
    | none => rfl
    | some t => cases h
  | _ => rfl
theorem de_var {i : Nat} (h : PE X e (tVar i)) : DE true X W e (dVar i) := pe_imp h fun σ H Q => fun ⟨τ, B, F, ρ, E, q⟩ => by
  cases hf : ρ[i]? with
  | none => simp only [dVar, hf] at q; exact q.elim
  | some od =>
    cases od with
    | none => simp only [dVar, hf] at q; exact q.elim
    | some d =>
      cases hr : d.rf with
      | false => simp only [dVar, hf, hr] at q; exact q.elim
      | true =>
        simp only [dVar, hf, hr] at q
        obtain ⟨A, o, _⟩ := E.own
        obtain ⟨v, A', h1, h2, _, _⟩ := o.get hf
        rw [D.un, tag_rf hr] at h2
        obtain ⟨r, _⟩ := h2.rf_nil hr
        exact ⟨v, h1, q v H F (StepP.refl E.fh) ⟨[], .frz hr r, fun _ z => nomatch z⟩⟩
theorem de_ref {i : Nat} (h : PE X e (tVar i)) : DE false X W e (dRef i) := pe_imp h fun σ H Q => fun ⟨τ, B, F, ρ, E, q⟩ => by
  cases hf : ρ[i]? with
  | none => simp only [dRef, hf] at q; exact q.elim
  | some od =>
    cases od with
    | none => simp only [dRef, hf] at q; exact q.elim
    | some d =>
      simp only [dRef, hf] at q
      obtain ⟨A, o, _⟩ := E.own
      obtain ⟨v, A', h1, h2, _, _⟩ := o.get hf
      exact ⟨v, h1, q v H F (StepP.refl E.fh) (Sw.ofTag h2.sw)⟩
def dC (d : D) : Env → R D := fun _ => .ok d
theorem de_c {v : V} {d : D} (h : PE X e (tC v)) (hr : d.rf = true) (r : ∀ F, Rp (gx X W) F v d) : DE true X W e (dC d) := pe_imp h fun σ H Q => fun ⟨τ, B, F, ρ, E, q⟩ => q v H F (StepP.refl E.fh) ⟨[], .frz hr (r F), fun _ z => nomatch z⟩
theorem de_int {i : Int} {j} : DE true X W (.Constant (.int i) j pos) (dC (.int i)) := de_c pe_int rfl fun _ => .int i
theorem de_bl {b : Bool} {j} : DE true X W (.Constant (.bool b) j pos) (dC (.bl b)) := de_c pe_bl rfl fun _ => .bl b
theorem de_non {j} : DE true X W (.Constant .none j pos) (dC .non) := de_c pe_non rfl fun _ => .non
theorem de_str {x : Str} {j} : DE true X W (.Constant (.str x) j pos) (dC (.str x)) := de_c pe_str rfl fun _ => .str x
/-- a constant of the module -/
theorem de_glob {x : Str} {v : V} {u : Value} {d : D} (hg : Gl X x) (hm : X.mg x = some u) (r : RelV v u) (hr : d.rf = true) (rp : ∀ F, Rp (gx X W) F v d) (hd : (x == ("__debug__" : Str)) = false := by decide) : DE true X W (.Name x pos) (dC d) :=
  de_c (pe_glob hg hm r hd) hr rp

/-! ### two operands -/
def dOp (gr1 gr2 : Bool) (f2 : D → D → R D) (fa fb : Env → R D) : Env → R D := fun ρ => (fa ρ).bind fun x => (fb ρ).bind fun y => f2 (x.op gr1) (y.op gr2)
/-- what an operator asks of its operands -/
def OpDG (gr3 : Bool) (g : G) (gr1 gr2 : Bool) (r : R2) (f2 : D → D → R D) : Prop := ∀ (F H : Hp) (vx vy : V) (x y : D) (Q : VK), Same F H → Op gr1 g F H vx x → Op gr2 g F H vy y →
  (match f2 x y with | .ok z => ∀ v H' F', StepP F H F' H' → ResG gr3 g F H F' H' v z → Q v H' | _ => False) → r vx vy H Q
abbrev OpD (g : G) (gr1 gr2 : Bool) (r : R2) (f2 : D → D → R D) : Prop := OpDG true g gr1 gr2 r f2
theorem OpDG.out {g : G} {r : R2} {f2 : D → D → R D} (h : OpDG gr3 g gr1 gr2 r f2) {F H : Hp} {vx vy : V} {x y : D} {σ : L2.St} {Q : VK} (s : Same F H) (hx : Op gr1 g F H vx x) (hy : Op gr2 g F H vy y) (nx : ∀ w, f2 x y ≠ .ex w) (q : outE gr3 g W F H σ Q (f2 x y)) : r vx vy H Q := by
  refine h F H vx vy x y Q s hx hy ?_
  cases hf : f2 x y with
  | ok z => rw [hf] at q; exact q
  | ex w => exact absurd hf (nx w)
  | bad => rw [hf] at q; exact q
theorem lift2 {r : R2} {f2 : D → D → R D} (ho : OpDG gr3 (gx X W) gr1 gr2 r f2) (nx : ∀ x y w, f2 x y ≠ .ex w) {σ : L2.St} {H : Hp} {Q : VK} (h : liftE gr3 (gx X W) W (dOp gr1 gr2 f2 fa fb) σ H Q) :
    liftE gr1 (gx X W) W fa σ H fun vx H1 => liftE gr2 (gx X W) W fb σ H1 fun vy H2 => r vx vy H2 Q := by
  obtain ⟨τ, B, F, ρ, E, q⟩ := h
  refine ⟨τ, B, F, ρ, E, ?_⟩
  unfold dOp at q
  cases hfa : fa ρ with
  | bad => rw [hfa] at q; exact q
  | ex x => rw [hfa] at q; exact q
  | ok x =>
    rw [hfa] at q
    intro vx H1 F1 s1 rx
    obtain ⟨F2, s2, ox⟩ := rx.op s1
    refine ⟨τ, B, F2, ρ, E.stepP s2, ?_⟩
    rw [R.bind_ok] at q
    cases hfb : fb ρ with
    | bad => rw [hfb] at q; exact q
    | ex x => rw [hfb] at q; exact fun cls dd H' F' s3 rx => q cls dd H' F' (s2.trans s3) (rx.back s2.hh)
    | ok y =>
      rw [hfb, R.bind_ok] at q
      intro vy H3 F3 s3 ry
      obtain ⟨F4, s4, oy⟩ := ry.op s3
      exact ho.out s4.fh (ox.step s4) oy (nx _ _) (q.step (s2.trans s4))
theorem de_op {op : Operator} {r : R2} {f2 : D → D → R D} (h : OpR X (binaryOp op) r) (ho : OpD (gx X W) gr1 gr2 r f2) (nx : ∀ x y w, f2 x y ≠ .ex w) (ha : DE gr1 X W a fa) (hb : DE gr2 X W b fb) : DE true X W (.BinOp a op b pos) (dOp gr1 gr2 f2 fa fb) :=
  pe_imp (pe_op h ha hb) fun _ _ _ q => lift2 ho nx q
theorem de_cmp {op : CmpOp} {r : R2} {f2 : D → D → R D} (h : OpR X (compareOp op) r) (ho : OpD (gx X W) gr1 gr2 r f2) (nx : ∀ x y w, f2 x y ≠ .ex w) (ha : DE gr1 X W a fa) (hb : DE gr2 X W b fb) (hm : behindInMarks op b = false) : DE true X W (.Compare a [op] [b] pos) (dOp gr1 gr2 f2 fa fb) :=
  pe_imp (pe_cmpR h ha hb hm) fun _ _ _ q => lift2 ho nx q
/-- an answer that is True or False -/
def dB (f : Env → R D) : Env → R Bool := fun ρ => (f ρ).bind fun d => match d with
  | .bl b => .ok b
  | _ => .bad
theorem liftB {g : G} {f : Env → R D} {σ : L2.St} {H : Hp} {Q : Bool → Hp → Prop} (h : liftT g W (dB f) σ H Q) : liftE gr g W f σ H fun x H1 => ∃ k, x = .bl k ∧ Q k H1 := by
  obtain ⟨τ, B, F, ρ, E, q⟩ := h
  refine ⟨τ, B, F, ρ, E, ?_⟩
  unfold dB at q
  cases hf : f ρ with
  | bad => rw [hf] at q; exact q
  | ex x => rw [hf] at q; exact q
  | ok d =>
    rw [hf, R.bind_ok] at q
    cases d with
    | bl b =>
      intro v H' F' s r
      have r' : Rp g H' v (.bl b) := by
        cases gr with
        | true => obtain ⟨A, o, _⟩ := r; exact o.rp s.fh
        | false => exact Sw.rp s.fh r
      cases r'
      exact ⟨b, rfl, q H' F' s⟩
    | _ => exact q.elim
theorem dt_cmp {op : CmpOp} {r : R2} {f2 : D → D → R D} (h : OpR X (compareOp op) r) (ho : OpD (gx X W) gr1 gr2 r f2) (nx : ∀ x y w, f2 x y ≠ .ex w) (ha : DE gr1 X W a fa) (hb : DE gr2 X W b fb) (hm : behindInMarks op b = false) : DT X W (.Compare a [op] [b] pos) (dB (dOp gr1 gr2 f2 fa fb)) :=
  pt_imp (pt_cmpR h ha hb hm) fun σ H Q q => lift2 ho nx (liftB (gr := true) q)

/-! ### and, or, not -/
def dAnd (fa fb : Env → R Bool) : Env → R Bool := fun ρ => (fa ρ).bind fun b => if b then fb ρ else .ok false
def dOr (fa fb : Env → R Bool) : Env → R Bool := fun ρ => (fa ρ).bind fun b => if b then .ok true else fb ρ
def dNot (fa : Env → R Bool) : Env → R Bool := fun ρ => (fa ρ).bind fun b => .ok (!b)
abbrev DW (X : Cx) (W : Wx) (e : Expr) (f : Env → R Bool) : Prop := PW X e (liftT (gx X W) W f)
theorem pw_imp {e : Expr} {t t' : TT} (h : PW X e t) (i : ∀ σ H Q, t' σ H Q → t σ H Q) : PW X e t' := ⟨fun whole pins s σ H Q I q => h.run whole pins s σ H Q I (i σ H Q q)⟩
variable {rest : List Expr} {ta tb : Env → R Bool}
theorem lift_then {g : G} {f : Env → R Bool} {k : Bool → Env → R Bool} {σ : L2.St} {H : Hp} {Q : Bool → Hp → Prop} (h : liftT g W (fun ρ => (f ρ).bind fun b => k b ρ) σ H Q) : liftT g W f σ H fun b H1 => liftT g W (k b) σ H1 Q := by
  obtain ⟨τ, B, F, ρ, E, q⟩ := h
  refine ⟨τ, B, F, ρ, E, ?_⟩
  have q : outT g W F H σ Q ((f ρ).bind fun b => k b ρ) := q
  cases hf : f ρ with
  | bad => rw [hf] at q; exact q
  | ex x => rw [hf] at q; exact q
  | ok b =>
    rw [hf, R.bind_ok] at q
    exact fun H' F' s => ⟨τ, B, F', ρ, E.stepP s, q.step s⟩
theorem liftT_ok {g : G} {b : Bool} {σ : L2.St} {H : Hp} {Q : Bool → Hp → Prop} (h : liftT g W (fun _ => .ok b) σ H Q) : Q b H := by
  obtain ⟨τ, B, F, ρ, E, q⟩ := h
  exact q H F (StepP.refl E.fh)
theorem dw_and1 (ha : DT X W a ta) : DW X W (.BoolOp .And [a] pos) ta := pw_and1 ha
theorem dw_or1 (ha : DT X W a ta) : DW X W (.BoolOp .Or [a] pos) ta := pw_or1 ha
theorem dw_and (ha : DT X W a ta) (hb : DW X W (.BoolOp .And (b :: rest) pos) tb) : DW X W (.BoolOp .And (a :: b :: rest) pos) (dAnd ta tb) := pw_imp (pw_and ha hb) fun σ H Q q => by
  have q := lift_then (k := fun c ρ => if c then tb ρ else .ok false) q
  refine (show liftT _ _ _ _ _ _ from ?_)
  obtain ⟨τ, B, F, ρ, E, q⟩ := q
  refine ⟨τ, B, F, ρ, E, ?_⟩
  cases hf : ta ρ with
  | bad => rw [hf] at q; exact q
  | ex x => rw [hf] at q; exact q
  | ok c =>
    rw [hf] at q
    intro H' F' s
    have q' := q H' F' s
    cases c with
    | true => exact iteT q'
    | false => exact iteF (liftT_ok q')
theorem dw_or (ha : DT X W a ta) (hb : DW X W (.BoolOp .Or (b :: rest) pos) tb) : DW X W (.BoolOp .Or (a :: b :: rest) pos) (dOr ta tb) := pw_imp (pw_or ha hb) fun σ H Q q => by
  have q := lift_then (k := fun c ρ => if c then .ok true else tb ρ) q
  refine (show liftT _ _ _ _ _ _ from ?_)
  obtain ⟨τ, B, F, ρ, E, q⟩ := q
  refine ⟨τ, B, F, ρ, E, ?_⟩
  cases hf : ta ρ with
  | bad => rw [hf] at q; exact q
  | ex x => rw [hf] at q; exact q
  | ok c =>
    rw [hf] at q
    intro H' F' s
    have q' := q H' F' s
    cases c with
    | true => exact iteT (liftT_ok q')
    | false => exact iteF q'
theorem dt_w (h : DW X W e ta) : DT X W e ta := h.pt
theorem dt_not (ha : DT X W a ta) : DT X W (.UnaryOp .Not a pos) (dNot ta) := pt_imp (pt_not ha) fun σ H Q q => by
  have q := lift_then (k := fun c _ => .ok (!c)) q
  obtain ⟨τ, B, F, ρ, E, q⟩ := q
  refine ⟨τ, B, F, ρ, E, ?_⟩
  cases hf : ta ρ with
  | bad => rw [hf] at q; exact q
  | ex x => rw [hf] at q; exact q
  | ok c =>
    rw [hf] at q
    intro H' F' s
    exact liftT_ok (q H' F' s)
/-- a if t else b -/
def dIfE (ft : Env → R Bool) (fa fb : Env → R D) : Env → R D := fun ρ => (ft ρ).bind fun c => if c then fa ρ else fb ρ
theorem de_if {c : Expr} (hc : DT X W c ta) (ha : DE gr X W a fa) (hb : DE gr X W b fb) : DE gr X W (.IfExp c a b pos) (dIfE ta fa fb) := pe_imp (pe_ifExp hc ha hb) fun σ H Q => fun ⟨τ, B, F, ρ, E, q⟩ => by
  refine ⟨τ, B, F, ρ, E, ?_⟩
  unfold dIfE at q
  cases hf : ta ρ with
  | bad => rw [hf] at q; exact q
  | ex x => rw [hf] at q; exact q
  | ok c =>
    rw [hf, R.bind_ok] at q
    intro H' F' s
    cases c with
    | true => exact iteT ⟨τ, B, F', ρ, E.stepP s, q.step s⟩
    | false => exact iteF ⟨τ, B, F', ρ, E.stepP s, q.step s⟩
/-- a test's answer as a value -/
def dBV (f : Env → R Bool) : Env → R D := fun ρ => (f ρ).bind fun b => .ok (.bl b)
end
end Dt

set_option Elab.async false
set_option linter.all false
set_option maxRecDepth 100000
set_option maxHeartbeats 2000000
/-! Dat: operators. -/
namespace Dt
open PySem PySem.Spec PyProof.Rows L2

/-- items that may be handed on: frozen ones, or scalars where the list is only read -/
def ck (gr : Bool) (xs : List D) : Bool := allRf xs
section
variable {g : G} {gr : Bool} {F F' H H' : Hp}
theorem Op.items {a : Addr} {vs : List V} {ds : List D} (h : match gr with | true => RpL g F vs ds | false => SwL g F H vs ds) (c : ck gr ds = true) : RpL g F vs ds ∧ allRf ds = true := by
  cases gr with
  | true => exact ⟨h, c⟩
  | false => exact ⟨SwL.items h c, c⟩
theorem Op.lst {v : V} {o : Option Nat} {ds : List D} (s : Same F H) (h : Op gr g F H v (.lst o ds)) : ∃ a vs, v = .ref a ∧ SqL g.K H a vs ∧ vs.length = ds.length ∧ RpL g H vs ds ∧ (ck gr ds = true → RpL g F vs ds ∧ allRf ds = true) := by
  cases gr with
  | true =>
    cases (show Rp g F v (.lst o ds) from h) with
    | lst hs r => exact ⟨_, _, rfl, s.seq hs, r.length, RpL.mono s r, fun c => ⟨r, c⟩⟩
  | false =>
    obtain ⟨a, vs, rfl, hs, r⟩ := Sw.lstI s (show Sw g F H v (.lst o ds) from h)
    rcases r with r | r
    · exact ⟨a, vs, rfl, hs, r.length, r.rp s, fun c => ⟨r.items c, c⟩⟩
    · exact ⟨a, vs, rfl, hs, r.length, RpL.mono s r, fun c => ⟨r, c⟩⟩
theorem Op.rf {v : V} {d : D} (h : Op gr g F H v d) (r : d.rf = true) : Rp g F v d := by
  cases gr with
  | true => exact h
  | false => exact Sw.rf h r
theorem Op.tup {v : V} {ds : List D} (s : Same F H) (h : Op gr g F H v (.tup ds)) : ∃ a vs, v = .ref a ∧ SqT g.K H a vs ∧ vs.length = ds.length ∧ RpL g H vs ds ∧ (ck gr ds = true → RpL g F vs ds ∧ allRf ds = true) := by
  cases h.rf rfl with
  | tup hs0 r => have hs := hs0.t; exact ⟨_, _, rfl, same_sqT s hs, r.length, RpL.mono s r, fun c => ⟨r, c⟩⟩
theorem Op.int {v : V} {i : Int} (h : Op gr g F H v (.int i)) : v = .int i := by
  cases h.rf rfl; rfl
theorem Op.str {v : V} {i : Str} (h : Op gr g F H v (.str i)) : v = .str i := by
  cases h.rf rfl; rfl
theorem Op.bl {v : V} {i : Bool} (h : Op gr g F H v (.bl i)) : v = .bl i := by
  cases h.rf rfl; rfl
theorem Op.non {v : V} (h : Op gr g F H v .non) : v = .non := by
  cases h.rf rfl; rfl

/-- answers -/
theorem out_sc {v : V} {d : D} {Q : VK} (s : Same F H) (r : Rp g F v d) (hr : d.rf = true) (q : ∀ v H' F', StepP F H F' H' → ResG true g F H F' H' v d → Q v H') : Q v H := q v H F (StepP.refl s) ⟨[], .frz hr r, fun _ z => nomatch z⟩
theorem step_new {p : Addr} {o : HO} (s : Same F H) (n : H p = none) : StepP F H F (upd H p o) := ⟨.refl F, fun b u e => by
    have e' := s b u e
    rw [upd_ne (ne_of_none e' n)]; exact e', fun b u e => by rw [upd_ne (ne_of_none e n)]; exact e, fun _ _ _ => rfl⟩
theorem out_lst {p : Addr} {vs : List V} {ds : List D} {Q : VK} (s : Same F H) (n : H p = none) (r : RpL g F vs ds) (c : allRf ds = true) (q : ∀ v H' F', StepP F H F' H' → ResG true g F H F' H' v (.lst (some 0) ds) → Q v H') : Q (.ref p) (upd H p (.lst vs)) := by
  have st := step_new (o := .lst vs) s n
  refine q (.ref p) _ F st ⟨[p], .lst upd_same (s.free n) (RpL.own r c) (fun z => nomatch z), fun a ha => ?_⟩
  rw [List.mem_singleton.mp ha]; exact n
/-- a new tuple, frozen -/
theorem step_tup {p : Addr} {vs : List V} (s : Same F H) (n : H p = none) : StepP F H (upd F p (.tup vs)) (upd H p (.tup vs)) := ⟨fun b u e => by
    rw [upd_ne (ne_of_none (s b u e) n)]; exact e, fun b u e => by
    unfold upd at e ⊢
    split
    · rename_i h; rw [if_pos h] at e; exact e
    · rename_i h; rw [if_neg h] at e; exact s b u e, fun b u e => by rw [upd_ne (ne_of_none e n)]; exact e, fun q o e => by rw [upd_ne (ne_of_none e n)]⟩
theorem out_tup {p : Addr} {vs : List V} {ds : List D} {Q : VK} (s : Same F H) (n : H p = none) (r : RpL g F vs ds) (q : ∀ v H' F', StepP F H F' H' → ResG true g F H F' H' v (.tup ds) → Q v H') : Q (.ref p) (upd H p (.tup vs)) := by
  have st := step_tup (vs := vs) s n
  exact q (.ref p) _ _ st ⟨[], .frz rfl (.tup (.inl upd_same) (RpL.mono st.ff r)), fun _ z => nomatch z⟩
end

/-! ### arithmetic -/
def fAdd (g1 g2 : Bool) : D → D → R D
  | .int i, .int j => .ok (.int (i + j))
  | .int i, .bl b => .ok (.int (i + b2i b))
  | .str a, .str b => if a.length + b.length ≤ 16777216 then .ok (.str (a ++ b)) else .bad
  | .lst _ xs, .lst _ ys => if (ck g1 xs && ck g2 ys) = true ∧ xs.length + ys.length ≤ 16777216 then .ok (.lst (some 0) (xs ++ ys)) else .bad
  | .tup xs, .tup ys => if xs.length + ys.length ≤ 16777216 then .ok (.tup (xs ++ ys)) else .bad
  | _, _ => .bad
def fSub : D → D → R D
  | .int i, .int j => .ok (.int (i - j))
  | _, _ => .bad
def fMul (g1 : Bool) : D → D → R D
  | .int i, .int j => if (-18446744073709551616 < i ∧ i < 18446744073709551616) ∨ (-18446744073709551616 < j ∧ j < 18446744073709551616) then .ok (.int (i * j)) else .bad
  | .lst _ xs, .int k => if ck g1 xs = true ∧ -9223372036854775808 ≤ k ∧ k < 9223372036854775808 ∧ xs.length * k.toNat ≤ 16777216 then .ok (.lst (some 0) (List.replicate k.toNat xs).flatten) else .bad
  | _, _ => .bad
def fDiv : D → D → R D
  | .int i, .int j => if 0 < j ∧ j < 18446744073709551616 then .ok (.int (i / j)) else .bad
  | _, _ => .bad
def fMod : D → D → R D
  | .int i, .int j => if 0 < j then .ok (.int (i % j)) else .bad
  | _, _ => .bad
def fPow : D → D → R D
  | .int i, .int j => if 0 ≤ j ∧ j ≤ 1000000 ∧ i.natAbs < 18446744073709551616 then .ok (.int (i ^ j.toNat)) else .bad
  | _, _ => .bad
def fShl : D → D → R D
  | .int i, .int j => if 0 ≤ j ∧ j ≤ 1000000 ∧ i.natAbs < 18446744073709551616 then .ok (.int (i * 2 ^ j.toNat)) else .bad
  | _, _ => .bad
def fShr : D → D → R D
  | .int i, .int j => if 0 ≤ j then .ok (.int (i / 2 ^ j.toNat)) else .bad
  | _, _ => .bad
def fAnd : D → D → R D
  | .int i, .int j => .ok (.int (Builtin.bitAnd i j))
  | _, _ => .bad
def fOr : D → D → R D
  | .int i, .int j => .ok (.int (Builtin.bitOr i j))
  | _, _ => .bad
def fXor : D → D → R D
  | .int i, .int j => .ok (.int (Builtin.bitXor i j))
  | _, _ => .bad

section
variable {X : Cx}
/-- lists of any kind joined -/
def rCatS (K : PySem.W.Frag) : R2 := fun x y H Q => ∃ l b xs zs, x = .ref l ∧ y = .ref b ∧ SqL K H l xs ∧ SqL K H b zs ∧ xs.length + zs.length ≤ sizeLine ∧ ∀ p, H p = none → Q (.ref p) (upd H p (.lst (xs ++ zs)))
theorem op_catS : OpR X (binaryOp .Add) (rCatS X.K) := by
  intro pins s σ H x y v u Q I rx ry h
  obtain ⟨l, b, xs, zs, rfl, rfl, hH, hB, hz, q⟩ := h
  cases rx
  cases ry
  obtain ⟨its, r, hl, z⟩ := I.list hH
  obtain ⟨its2, r2, hl2, z2⟩ := I.list hB
  obtain ⟨⟨cls, dd, data, sl⟩, ho, hc, n, hd⟩ := hl.isList
  obtain ⟨⟨cls2, dd2, data2, sl2⟩, ho2, hc2, n2, hd2⟩ := hl2.isList
  simp only at hc hd hc2 hd2
  subst hc hd hc2 hd2
  have e : its.toArray ++ its2.toArray = (its ++ its2).toArray := by simp
  have e1 := r.length
  have e2 := r2.length
  refine concat_meets ⟨_, ho, rfl⟩ ⟨_, ho2, rfl⟩ noFill_list_add seq_list_add PySem.F.slot_list_add PySem.F.entry_list_add (PySem.F.args_list_add_2 _ _) (list_addW l b its.toArray its2.toArray n n2 dd dd2 sl sl2 (by rw [List.size_toArray, List.size_toArray]; omega)) ⟨ho, ho2, ?_⟩
  rw [e]
  exact ⟨.ref _, _, I.lnew (t' := s.toks) (r.append r2) (by rw [List.length_append]; omega), rfl, q _ I.fresh⟩
def rRepS (K : PySem.W.Frag) : R2 := fun x y H Q => ∃ l k xs, x = .ref l ∧ y = .int k ∧ SqL K H l xs ∧ -(2 ^ 63) ≤ k ∧ k < 2 ^ 63 ∧ xs.length * k.toNat ≤ 2 ^ 24 ∧
  ∀ p, H p = none → Q (.ref p) (upd H p (.lst (List.replicate k.toNat xs).flatten))
theorem op_repS : OpR X (binaryOp .Mult) (rRepS X.K) := by
  intro pins s σ H x y v u Q I rx ry h
  obtain ⟨l, k, xs, rfl, rfl, hH, h1, h2, hz, q⟩ := h
  cases rx
  obtain ⟨t, rfl⟩ := ry
  obtain ⟨its, r, hl, z⟩ := I.list hH
  obtain ⟨⟨cls, dd, data, sl⟩, ho, hc, n, hd⟩ := hl.isList
  simp only at hc hd
  subst hc hd
  have e1 := r.length
  have hsz' : its.toArray.size * k.toNat ≤ 2 ^ 24 := by rw [List.size_toArray, ← e1]; exact hz
  refine wpAny_binaryOp_repeat_ref (T := "list") (U := "int") (by decide) ⟨_, ho, rfl⟩ (fun s' => typeIs_int s' k t) noFill_list_mul F.fills_int_mul F.slot_int_rmul repeat_list F.slot_int_index.lookup
    (call_meets F.slot_int_rmul (typeIs_int s k t) F.entry_int_rmul (F.args_int_rmul_2 _ _) (lm_int_rmul_list_any k t l its.toArray n dd sl)
      ⟨ho, rfl, ⟨_, ho, rfl⟩, call_meets F.slot_list_mul ⟨_, ho, rfl⟩ F.entry_list_mul (F.args_list_mul_2 _ _)
        (lm_list_mul_any l its.toArray n dd sl k t (by simp [Builtin.List.listFitsIndex]; omega) (by omega) (by simp [Builtin.List.listTooLong, sizeLine]; omega))
        ⟨ho, ?_⟩⟩)
  rw [listMul_foldl_if]
  exact ⟨.ref _, _, I.lnew (t' := s.toks) (r.rep k.toNat) (by rw [PyProof.Rows.lm_len_rep_flat, Nat.mul_comm, sizeLine_eq]; exact hz), rfl, q _ I.fresh⟩
end
section
variable {X : Cx} {W : Wx} {g1 g2 : Bool} {a b : Expr} {pos : Pos} {fa fb : Env → R D}
theorem rpL_rep {g : G} {F : Hp} {vs : List V} {ds : List D} (h : RpL g F vs ds) : ∀ k : Nat, RpL g F (List.replicate k vs).flatten (List.replicate k ds).flatten
  | 0 => .nil
  | k + 1 => by
    rw [List.replicate_succ, List.replicate_succ, List.flatten_cons, List.flatten_cons]
    exact RpL.append h (rpL_rep h k)
theorem allRf_append {xs ys : List D} : allRf (xs ++ ys) = (allRf xs && allRf ys) := List.all_append
theorem allRf_rep {ds : List D} (h : allRf ds = true) (k : Nat) : allRf (List.replicate k ds).flatten = true := by
  refine List.all_eq_true.mpr fun d hd => ?_
  obtain ⟨l, hl, hd'⟩ := List.mem_flatten.mp hd
  rw [List.eq_of_mem_replicate hl] at hd'
  exact List.all_eq_true.mp h d hd'

/-- a rule over ints -/
theorem opd_int {g : G} {C : Int → Int → Prop} {t : Int → Int → D} {gv : Int → Int → V} {f2 : D → D → R D} (ht : ∀ i j F, Rp g F (gv i j) (t i j)) (hr : ∀ i j, (t i j).rf = true)
    (hf : ∀ x y z, f2 x y = .ok z → ∃ i j, x = .int i ∧ y = .int j ∧ z = t i j ∧ C i j) : OpD g g1 g2 (rI C gv) f2 := by
  intro F H vx vy x y Q s hx hy q
  cases hq : f2 x y with
  | ok z =>
    rw [hq] at q
    obtain ⟨i, j, rfl, rfl, rfl, c⟩ := hf x y z hq
    exact ⟨i, j, hx.int, hy.int, c, out_sc s (ht i j F) (hr i j) q⟩
  | ex x => rw [hq] at q; exact q.elim
  | bad => rw [hq] at q; exact q.elim
theorem opd_int0 {g : G} {t : Int → Int → D} {gv : Int → Int → V} {f2 : D → D → R D} (ht : ∀ i j F, Rp g F (gv i j) (t i j)) (hr : ∀ i j, (t i j).rf = true)
    (hf : ∀ x y z, f2 x y = .ok z → ∃ i j, x = .int i ∧ y = .int j ∧ z = t i j) : OpD g g1 g2 (rI0 gv) f2 := by
  intro F H vx vy x y Q s hx hy q
  cases hq : f2 x y with
  | ok z =>
    rw [hq] at q
    obtain ⟨i, j, rfl, rfl, rfl⟩ := hf x y z hq
    exact ⟨i, j, hx.int, hy.int, out_sc s (ht i j F) (hr i j) q⟩
  | ex x => rw [hq] at q; exact q.elim
  | bad => rw [hq] at q; exact q.elim

theorem nx_of {f2 : D → D → R D} (h : ∀ x y, f2 x y = .bad ∨ ∃ z, f2 x y = .ok z) : ∀ x y w, f2 x y ≠ .ex w := fun x y w e => by
  rcases h x y with q | ⟨z, q⟩ <;> (rw [q] at e; cases e)

theorem nx_sub : ∀ x y w, fSub x y ≠ .ex w := by intro x y w; unfold fSub; split <;> exact fun e => nomatch e
theorem nx_div : ∀ x y w, fDiv x y ≠ .ex w := by
  intro x y w; unfold fDiv; split
  · split <;> exact fun e => nomatch e
  · exact fun e => nomatch e
theorem nx_mod : ∀ x y w, fMod x y ≠ .ex w := by
  intro x y w; unfold fMod; split
  · split <;> exact fun e => nomatch e
  · exact fun e => nomatch e
theorem nx_pow : ∀ x y w, fPow x y ≠ .ex w := by
  intro x y w; unfold fPow; split
  · split <;> exact fun e => nomatch e
  · exact fun e => nomatch e
theorem nx_shl : ∀ x y w, fShl x y ≠ .ex w := by
  intro x y w; unfold fShl; split
  · split <;> exact fun e => nomatch e
  · exact fun e => nomatch e
theorem nx_shr : ∀ x y w, fShr x y ≠ .ex w := by
  intro x y w; unfold fShr; split
  · split <;> exact fun e => nomatch e
  · exact fun e => nomatch e
theorem nx_and : ∀ x y w, fAnd x y ≠ .ex w := by intro x y w; unfold fAnd; split <;> exact fun e => nomatch e
theorem nx_or : ∀ x y w, fOr x y ≠ .ex w := by intro x y w; unfold fOr; split <;> exact fun e => nomatch e
theorem nx_xor : ∀ x y w, fXor x y ≠ .ex w := by intro x y w; unfold fXor; split <;> exact fun e => nomatch e
theorem nx_add : ∀ x y w, fAdd g1 g2 x y ≠ .ex w := by
  intro x y w; unfold fAdd; split
  all_goals (intro e; first | (cases e; done) | (split at e <;> cases e))
theorem nx_mul : ∀ x y w, fMul g1 x y ≠ .ex w := by
  intro x y w; unfold fMul; split
  all_goals (intro e; first | (cases e; done) | (split at e <;> cases e))

theorem opd_sub {g : G} : OpD g g1 g2 (rI0 fun i j => .int (i - j)) fSub := opd_int0 (t := fun i j => .int (i - j)) (fun _ _ _ => .int _) (fun _ _ => rfl) fun x y z h => by
  unfold fSub at h
  split at h
  · exact ⟨_, _, rfl, rfl, (R.ok.inj h).symm⟩
  · cases h
theorem opd_div {g : G} : OpD g g1 g2 (rI CDivW fun i j => .int (i / j)) fDiv := opd_int (t := fun i j => .int (i / j)) (fun _ _ _ => .int _) (fun _ _ => rfl) fun x y z h => by
  unfold fDiv at h
  split at h
  · split at h
    · rename_i i j c
      exact ⟨_, _, rfl, rfl, (R.ok.inj h).symm, wide_div (b := 64) c.1 (by have := c.2; omega) (by decide) (by decide)⟩
    · cases h
  · cases h
theorem opd_mod {g : G} : OpD g g1 g2 (rI (fun _ j => 0 < j) fun i j => .int (i % j)) fMod := opd_int (t := fun i j => .int (i % j)) (fun _ _ _ => .int _) (fun _ _ => rfl) fun x y z h => by
  unfold fMod at h
  split at h
  · split at h
    · rename_i i j c
      exact ⟨_, _, rfl, rfl, (R.ok.inj h).symm, c⟩
    · cases h
  · cases h
theorem opd_pow {g : G} : OpD g g1 g2 (rI CPow fun i j => .int (i ^ j.toNat)) fPow := opd_int (t := fun i j => .int (i ^ j.toNat)) (fun _ _ _ => .int _) (fun _ _ => rfl) fun x y z h => by
  unfold fPow at h
  split at h
  · split at h
    · rename_i i j c
      exact ⟨_, _, rfl, rfl, (R.ok.inj h).symm, c⟩
    · cases h
  · cases h
theorem opd_shl {g : G} : OpD g g1 g2 (rI CPow fun i j => .int (i * 2 ^ j.toNat)) fShl := opd_int (t := fun i j => .int (i * 2 ^ j.toNat)) (fun _ _ _ => .int _) (fun _ _ => rfl) fun x y z h => by
  unfold fShl at h
  split at h
  · split at h
    · rename_i i j c
      exact ⟨_, _, rfl, rfl, (R.ok.inj h).symm, c⟩
    · cases h
  · cases h
theorem opd_shr {g : G} : OpD g g1 g2 (rI (fun _ j => 0 ≤ j) fun i j => .int (i / 2 ^ j.toNat)) fShr := opd_int (t := fun i j => .int (i / 2 ^ j.toNat)) (fun _ _ _ => .int _) (fun _ _ => rfl) fun x y z h => by
  unfold fShr at h
  split at h
  · split at h
    · rename_i i j c
      exact ⟨_, _, rfl, rfl, (R.ok.inj h).symm, c⟩
    · cases h
  · cases h
theorem opd_and {g : G} : OpD g g1 g2 (rI0 fun i j => .int (Builtin.bitAnd i j)) fAnd := opd_int0 (t := fun i j => .int (Builtin.bitAnd i j)) (fun _ _ _ => .int _) (fun _ _ => rfl) fun x y z h => by
  unfold fAnd at h
  split at h
  · exact ⟨_, _, rfl, rfl, (R.ok.inj h).symm⟩
  · cases h
theorem opd_or {g : G} : OpD g g1 g2 (rI0 fun i j => .int (Builtin.bitOr i j)) fOr := opd_int0 (t := fun i j => .int (Builtin.bitOr i j)) (fun _ _ _ => .int _) (fun _ _ => rfl) fun x y z h => by
  unfold fOr at h
  split at h
  · exact ⟨_, _, rfl, rfl, (R.ok.inj h).symm⟩
  · cases h
theorem opd_xor {g : G} : OpD g g1 g2 (rI0 fun i j => .int (Builtin.bitXor i j)) fXor := opd_int0 (t := fun i j => .int (Builtin.bitXor i j)) (fun _ _ _ => .int _) (fun _ _ => rfl) fun x y z h => by
  unfold fXor at h
  split at h
  · exact ⟨_, _, rfl, rfl, (R.ok.inj h).symm⟩
  · cases h
def rAddD (K : PySem.W.Frag) : R2 := fun x y H Q => rI0 (fun i j => .int (i + j)) x y H Q ∨ (∃ i k, x = .int i ∧ y = .bl k ∧ Q (.int (i + b2i k)) H) ∨ (∃ i j, x = .str i ∧ y = .str j ∧ i.length + j.length ≤ sizeLine ∧ Q (.str (i ++ j)) H) ∨ rCatS K x y H Q ∨ rCatA K x y H Q
theorem op_addD : OpR X (binaryOp .Add) (rAddD X.K) := op_add.or (op_add_ib.or (op_add_str.or (op_catS.or op_catA)))
theorem opd_of {g : G} {r : R2} {f2 : D → D → R D} (h : ∀ (F H : Hp) (vx vy : V) (x y z : D) (Q : VK), Same F H → Op g1 g F H vx x → Op g2 g F H vy y → f2 x y = .ok z →
    (∀ v H' F', StepP F H F' H' → ResG true g F H F' H' v z → Q v H') → r vx vy H Q) : OpD g g1 g2 r f2 := by
  intro F H vx vy x y Q s hx hy q
  cases e : f2 x y with
  | ok z => rw [e] at q; exact h F H vx vy x y z Q s hx hy e q
  | ex w => rw [e] at q; exact q.elim
  | bad => rw [e] at q; exact q.elim
theorem opd_add {g : G} : OpD g g1 g2 (rAddD g.K) (fAdd g1 g2) := opd_of fun F H vx vy x y z Q s hx hy e q => by
  unfold fAdd at e
  split at e
  · cases e; exact .inl ⟨_, _, hx.int, hy.int, out_sc s (.int _) rfl q⟩
  · cases e; exact .inr (.inl ⟨_, _, hx.int, hy.bl, out_sc s (.int _) rfl q⟩)
  · split at e
    · rename_i c
      cases e
      exact .inr (.inr (.inl ⟨_, _, hx.str, hy.str, by rw [sizeLine_eq]; exact c, out_sc s (.str _) rfl q⟩))
    · cases e
  · split at e
    · rename_i c
      cases e
      obtain ⟨c1, c2⟩ := Bool.and_eq_true_iff.mp c.1
      obtain ⟨a, vs, rfl, h1, l1, _, k1⟩ := hx.lst s
      obtain ⟨b, ws, rfl, h2, l2, _, k2⟩ := hy.lst s
      obtain ⟨r1, f1⟩ := k1 c1
      obtain ⟨r2, f2⟩ := k2 c2
      exact .inr (.inr (.inr (.inl ⟨a, b, vs, ws, rfl, rfl, h1, h2, by rw [sizeLine_eq, l1, l2]; exact c.2, fun p n => out_lst s n (r1.append r2) (by rw [allRf_append, f1, f2]; rfl) q⟩)))
    · cases e
  · split at e
    · rename_i xs ys c
      cases e
      cases hx.rf rfl with
      | @tup a vs1 _ t1 r1 =>
        cases hy.rf rfl with
        | @tup b ws1 _ t2 r2 =>
          have e1 := r1.length
          have e2 := r2.length
          refine .inr (.inr (.inr (.inr ⟨a, b, vs1, ws1, rfl, rfl, same_sqT s t1.t, same_sqT s t2.t, by rw [sizeLine_eq, e1, e2]; exact c, fun z => ?_, fun _ z => ?_, fun _ _ p n => out_tup s n (r1.append r2) q⟩)))
          · subst z
            cases r1
            exact q (.ref b) H F (StepP.refl s) ⟨[], .frz rfl (.tup t2 r2), fun _ z => nomatch z⟩
          · subst z
            cases r2
            rw [List.append_nil] at q
            exact q (.ref a) H F (StepP.refl s) ⟨[], .frz rfl (.tup t1 r1), fun _ z => nomatch z⟩
    · cases e
  · cases e
def rMulD (K : PySem.W.Frag) : R2 := fun x y H Q => rI CMul (fun i j => .int (i * j)) x y H Q ∨ rRepS K x y H Q
theorem op_mulD : OpR X (binaryOp .Mult) (rMulD X.K) := op_mul.or op_repS
theorem opd_mul {g : G} : OpD g g1 g2 (rMulD g.K) (fMul g1) := opd_of fun F H vx vy x y z Q s hx hy e q => by
  unfold fMul at e
  split at e
  · split at e
    · rename_i c
      cases e
      exact .inl ⟨_, _, hx.int, hy.int, c, out_sc s (.int _) rfl q⟩
    · cases e
  · split at e
    · rename_i c
      cases e
      obtain ⟨c1, c2, c3, c4⟩ := c
      obtain ⟨a, vs, rfl, h1, l1, _, k1⟩ := hx.lst s
      obtain ⟨r1, f1⟩ := k1 c1
      exact .inr ⟨a, _, vs, rfl, hy.int, h1, c2, c3, by rw [l1]; exact c4, fun p n => out_lst s n (rpL_rep r1 _) (allRf_rep f1 _) q⟩
    · cases e
  · cases e

theorem de_add (ha : DE g1 X W a fa) (hb : DE g2 X W b fb) : DE true X W (.BinOp a .Add b pos) (dOp g1 g2 (fAdd g1 g2) fa fb) := de_op op_addD opd_add nx_add ha hb
theorem de_sub (ha : DE g1 X W a fa) (hb : DE g2 X W b fb) : DE true X W (.BinOp a .Sub b pos) (dOp g1 g2 fSub fa fb) := de_op op_sub opd_sub nx_sub ha hb
theorem de_mul (ha : DE g1 X W a fa) (hb : DE g2 X W b fb) : DE true X W (.BinOp a .Mult b pos) (dOp g1 g2 (fMul g1) fa fb) := de_op op_mulD opd_mul nx_mul ha hb
theorem de_fdiv (ha : DE g1 X W a fa) (hb : DE g2 X W b fb) : DE true X W (.BinOp a .FloorDiv b pos) (dOp g1 g2 fDiv fa fb) := de_op op_fdivW opd_div nx_div ha hb
theorem de_mod (ha : DE g1 X W a fa) (hb : DE g2 X W b fb) : DE true X W (.BinOp a .Mod b pos) (dOp g1 g2 fMod fa fb) := de_op op_mod opd_mod nx_mod ha hb
theorem de_pow (ha : DE g1 X W a fa) (hb : DE g2 X W b fb) : DE true X W (.BinOp a .Pow b pos) (dOp g1 g2 fPow fa fb) := de_op op_pow opd_pow nx_pow ha hb
theorem de_shl (ha : DE g1 X W a fa) (hb : DE g2 X W b fb) : DE true X W (.BinOp a .LShift b pos) (dOp g1 g2 fShl fa fb) := de_op op_shl opd_shl nx_shl ha hb
theorem de_shr (ha : DE g1 X W a fa) (hb : DE g2 X W b fb) : DE true X W (.BinOp a .RShift b pos) (dOp g1 g2 fShr fa fb) := de_op op_shr opd_shr nx_shr ha hb
theorem de_and (ha : DE g1 X W a fa) (hb : DE g2 X W b fb) : DE true X W (.BinOp a .BitAnd b pos) (dOp g1 g2 fAnd fa fb) := de_op op_and opd_and nx_and ha hb
theorem de_bor (ha : DE g1 X W a fa) (hb : DE g2 X W b fb) : DE true X W (.BinOp a .BitOr b pos) (dOp g1 g2 fOr fa fb) := de_op op_or opd_or nx_or ha hb
theorem de_xor (ha : DE g1 X W a fa) (hb : DE g2 X W b fb) : DE true X W (.BinOp a .BitXor b pos) (dOp g1 g2 fXor fa fb) := de_op op_xor opd_xor nx_xor ha hb
end
end Dt

set_option Elab.async false
set_option linter.all false
set_option maxRecDepth 100000
set_option maxHeartbeats 2000000
/-! Dat: comparisons, displays, subscripts, slices, calls of built-ins. -/
namespace Dt
open PySem PySem.Spec PyProof.Rows L2

/-! ### comparisons -/
mutual
def D.py : D → PyData
  | .non => .none
  | .bl b => .bool b
  | .int i => .int i
  | .str s => .str s
  | .lst _ xs => .list (D.pyL xs)
  | .tup xs => .tuple (D.pyL xs)
  | _ => .none
def D.pyL : List D → List PyData
  | [] => []
  | d :: ds => D.py d :: D.pyL ds
end
mutual
/-- plain data (no instances, no dicts), no deeper than n -/
def D.shp : D → Nat → Bool
  | .non, _ => true
  | .bl _, _ => true
  | .int _, _ => true
  | .str s, _ => PyData.strOk s
  | .lst _ xs, n + 1 => D.shpL xs n
  | .tup xs, n + 1 => D.shpL xs n
  | _, _ => false
def D.shpL : List D → Nat → Bool
  | [], _ => true
  | d :: ds, n => D.shp d n && D.shpL ds n
end
theorem D.pyL_eq : ∀ ds : List D, D.pyL ds = ds.map D.py
  | [] => rfl
  | d :: ds => by rw [D.pyL, D.pyL_eq ds, List.map_cons]
theorem D.shpL_eq (n : Nat) : ∀ ds : List D, D.shpL ds n = ds.all (fun d => d.shp n)
  | [] => rfl
  | d :: ds => by rw [D.shpL, D.shpL_eq n ds, List.all_cons]
mutual
theorem D.shp_ok : ∀ (d : D) (n : Nat), d.shp n = true → d.py.canLay0 = true ∧ d.py.depth ≤ n
  | .non, _, _ => ⟨rfl, Nat.zero_le _⟩
  | .bl _, _, _ => ⟨rfl, Nat.zero_le _⟩
  | .int _, _, _ => ⟨rfl, Nat.zero_le _⟩
  | .str _, _, h => ⟨by simpa [D.shp, D.py, PyData.canLay0] using h, Nat.zero_le _⟩
  | .lst _ xs, n + 1, h => by
    obtain ⟨a, b⟩ := D.shpL_ok xs n (by simpa [D.shp] using h)
    exact ⟨by simpa [D.py, PyData.canLay0] using a, by simp only [D.py, PyData.depth]; omega⟩
  | .tup xs, n + 1, h => by
    obtain ⟨a, b⟩ := D.shpL_ok xs n (by simpa [D.shp] using h)
    exact ⟨by simpa [D.py, PyData.canLay0] using a, by simp only [D.py, PyData.depth]; omega⟩
  | .lst _ xs, 0, h => by simp [D.shp] at h
  | .tup xs, 0, h => by simp [D.shp] at h
  | .obj _ _ _ _, n, h => by cases n <;> simp [D.shp] at h
  | .dic _ _ _, n, h => by cases n <;> simp [D.shp] at h
  | .dct _ _ _, n, h => by cases n <;> simp [D.shp] at h
  | .ty _, n, h => by cases n <;> simp [D.shp] at h
  | .cls _, n, h => by cases n <;> simp [D.shp] at h
  | .exc _ _ _ _, n, h => by cases n <;> simp [D.shp] at h
theorem D.shpL_ok : ∀ (ds : List D) (n : Nat), D.shpL ds n = true → PyData.canLayAll0 (D.pyL ds) = true ∧ PyData.depthAll (D.pyL ds) ≤ n
  | [], _, _ => ⟨rfl, Nat.zero_le _⟩
  | d :: ds, n, h => by
    have h' : d.shp n = true ∧ D.shpL ds n = true := by simpa [D.shpL] using h
    obtain ⟨a, b⟩ := D.shp_ok d n h'.1
    obtain ⟨c, e⟩ := D.shpL_ok ds n h'.2
    exact ⟨by simp [D.pyL, PyData.canLayAll0, a, c], by simp only [D.pyL, PyData.depthAll]; omega⟩
end
theorem D.shaped {d : D} (h : d.shp 64 = true) : SeqAt.shaped d.py = true := by
  obtain ⟨a, b⟩ := D.shp_ok d 64 h
  unfold SeqAt.shaped
  rw [a, decide_eq_true b]; rfl
mutual
theorem Rp.dp {g : G} {H : Hp} : ∀ {v : V} {d : D}, Rp g H v d → ∀ n, d.shp n = true → Dp g.K H v d.py
  | _, _, .non, _, _ => .non
  | _, _, .bl b, _, _ => .bl b
  | _, _, .int b, _, _ => .int b
  | _, _, .str b, _, _ => .str b
  | _, _, .tup h r, n, s => by
    cases n with
    | zero => simp [D.shp] at s
    | succ n => exact .tup h.t (RpL.dp r n (by simpa [D.shp] using s))
  | _, _, .lst h r, n, s => by
    cases n with
    | zero => simp [D.shp] at s
    | succ n => exact .lst h (RpL.dp r n (by simpa [D.shp] using s))
  | _, _, .obj _ _ _ _ _, n, s => by cases n <;> simp [D.shp] at s
  | _, _, .dic _ _ _, n, s => by cases n <;> simp [D.shp] at s
  | _, _, .dct _ _ _, n, s => by cases n <;> simp [D.shp] at s
  | _, _, .ty _, n, s => by cases n <;> simp [D.shp] at s
  | _, _, .cls _, n, s => by cases n <;> simp [D.shp] at s
  | _, _, .exc0 _ _, n, s => by cases n <;> simp [D.shp] at s
  | _, _, .exc1 _ _ _ _ _, n, s => by cases n <;> simp [D.shp] at s
theorem RpL.dp {g : G} {H : Hp} : ∀ {vs : List V} {ds : List D}, RpL g H vs ds → ∀ n, D.shpL ds n = true → DpAll g.K H vs (D.pyL ds)
  | _, _, .nil, _, _ => .nil
  | _, _, .cons h r, n, s => by
    rw [D.shpL] at s
    have s' := Bool.and_eq_true_iff.mp s
    exact .cons (Rp.dp h n s'.1) (RpL.dp r n s'.2)
end
/-- == of plain data -/
def D.eqv (x y : D) : Bool := PyData.eqv x.py y.py
/-- two scalars that == takes at once -/
def D.scal2 : D → D → Bool
  | .non, .int _ => true | .int _, .non => true | .non, .bl _ => true | .bl _, .non => true | .non, .str _ => true | .str _, .non => true | .non, .non => true
  | .int _, .int _ => true | .bl _, .bl _ => true | .str _, .str _ => true
  | .int _, .str _ => true | .str _, .int _ => true | .bl _, .str _ => true | .str _, .bl _ => true
  | _, _ => false
def fEq (x y : D) : R D := if (D.scal2 x y || (x.shp 64 && y.shp 64)) = true then .ok (.bl (D.eqv x y)) else .bad
def fNe (x y : D) : R D := if (D.scal2 x y || (x.shp 64 && y.shp 64)) = true then .ok (.bl (!D.eqv x y)) else .bad
def D.isNon : D → Bool
  | .non => true
  | _ => false
def fIs : D → D → R D
  | x, .non => .ok (.bl x.isNon)
  | _, _ => .bad
def fIsNot : D → D → R D
  | x, .non => .ok (.bl (!x.isNon))
  | _, _ => .bad
def fLt : D → D → R D
  | .int i, .int j => .ok (.bl (decide (i < j)))
  | .str a, .str b => .ok (.bl (decide (a.cps.toList < b.cps.toList)))
  | _, _ => .bad
def fLe : D → D → R D
  | .int i, .int j => .ok (.bl (decide (i ≤ j)))
  | .str a, .str b => .ok (.bl (!decide (b.cps.toList < a.cps.toList)))
  | _, _ => .bad
def fGt : D → D → R D
  | .int i, .int j => .ok (.bl (decide (j < i)))
  | .str a, .str b => .ok (.bl (decide (b.cps.toList < a.cps.toList)))
  | _, _ => .bad
def fGe : D → D → R D
  | .int i, .int j => .ok (.bl (decide (j ≤ i)))
  | .str a, .str b => .ok (.bl (!decide (a.cps.toList < b.cps.toList)))
  | _, _ => .bad
/-- one sign in a text -/
def strIn (c z : Str) : Option Bool := match c.cps.toList with
  | [k] => some (decide (k ∈ z.cps.toList))
  | _ => none
theorem strIn_some {c z : Str} {b : Bool} (h : strIn c z = some b) : ∃ k, c = ⟨#[k]⟩ ∧ decide (k ∈ z.cps.toList) = b := by
  unfold strIn at h
  split at h
  · rename_i k e
    cases c with
    | mk cps =>
      have e' : cps = #[k] := Array.toList_inj.mp e
      exact ⟨k, by rw [e'], Option.some.inj h⟩
  · cases h
/-- x in y: a scalar among scalars, plain data in a list of such, a sign in a text -/
def dIn (x : D) : D → Option Bool
  | .lst _ ys => if (x.sc && allSc ys || x.shp 64 && D.shpL ys 63) = true then some (ys.any fun z => z.eqv x) else none
  | .tup ys => if (x.sc && allSc ys) = true then some (ys.any fun z => z.eqv x) else none
  | .str z => match x with
    | .str c => strIn c z
    | _ => none
  | _ => none
def fIn (x y : D) : R D := match dIn x y with
  | some b => .ok (.bl b)
  | none => .bad
def fNotIn (x y : D) : R D := match dIn x y with
  | some b => .ok (.bl (!b))
  | none => .bad

section
variable {X : Cx} {W : Wx} {gr g1 g2 : Bool} {a b e : Expr} {pos : Pos} {fa fb : Env → R D}
theorem Op.rp' {g : G} {F H : Hp} {v : V} {d : D} (s : Same F H) (h : Op gr g F H v d) : Rp g H v d := Op.rp s h
theorem scal2_eq {g : G} {F H : Hp} {vx vy : V} {x y : D} (hx : Op g1 g F H vx x) (hy : Op g2 g F H vy y) (h : D.scal2 x y = true) : scal vx vy = true ∧ decide (vx = vy) = D.eqv x y := by
  cases x <;> cases y <;> first | cases h | skip
  all_goals first | (have ex := hx.non; subst ex) | (have ex := hx.int; subst ex) | (have ex := hx.bl; subst ex) | (have ex := hx.str; subst ex)
  all_goals first | (have ey := hy.non; subst ey) | (have ey := hy.int; subst ey) | (have ey := hy.bl; subst ey) | (have ey := hy.str; subst ey)
  all_goals refine ⟨rfl, ?_⟩
  all_goals simp [D.eqv, D.py, PyData.eqv]
  all_goals (rw [Bool.eq_iff_iff]; simp)
def rEqA (K : PySem.W.Frag) : R2 := fun x y H Q => rEq x y H Q ∨ rEqD K x y H Q
def rNeA (K : PySem.W.Frag) : R2 := fun x y H Q => rNe x y H Q ∨ rNeD K x y H Q
theorem op_eqA (hu : X.A.units + 65 < cLine) : OpR X (compareOp .Eq) (rEqA X.K) := op_eq.or (op_eqD (by omega))
theorem op_neA (hu : X.A.units + 65 < cLine) : OpR X (compareOp .NotEq) (rNeA X.K) := op_ne.or (op_neD (by omega))
theorem nx_eq : ∀ x y w, fEq x y ≠ .ex w := by intro x y w e; unfold fEq at e; split at e <;> cases e
theorem nx_ne : ∀ x y w, fNe x y ≠ .ex w := by intro x y w e; unfold fNe at e; split at e <;> cases e
theorem nx_is : ∀ x y w, fIs x y ≠ .ex w := by intro x y w e; unfold fIs at e; split at e <;> cases e
theorem nx_isNot : ∀ x y w, fIsNot x y ≠ .ex w := by intro x y w e; unfold fIsNot at e; split at e <;> cases e
theorem nx_lt : ∀ x y w, fLt x y ≠ .ex w := by intro x y w e; unfold fLt at e; split at e <;> cases e
theorem nx_le : ∀ x y w, fLe x y ≠ .ex w := by intro x y w e; unfold fLe at e; split at e <;> cases e
theorem nx_gt : ∀ x y w, fGt x y ≠ .ex w := by intro x y w e; unfold fGt at e; split at e <;> cases e
theorem nx_ge : ∀ x y w, fGe x y ≠ .ex w := by intro x y w e; unfold fGe at e; split at e <;> cases e
theorem nx_in : ∀ x y w, fIn x y ≠ .ex w := by intro x y w e; unfold fIn at e; split at e <;> cases e
theorem nx_notIn : ∀ x y w, fNotIn x y ≠ .ex w := by intro x y w e; unfold fNotIn at e; split at e <;> cases e
theorem opd_eq {g : G} : OpD g g1 g2 (rEqA g.K) fEq := opd_of fun F H vx vy x y z Q s hx hy e q => by
  unfold fEq at e
  split at e
  · rename_i c
    cases e
    rcases Bool.or_eq_true_iff.mp c with c | c
    · obtain ⟨h1, h2⟩ := scal2_eq hx hy c
      exact .inl ⟨h1, by rw [h2]; exact out_sc s (.bl _) rfl q⟩
    · obtain ⟨c1, c2⟩ := Bool.and_eq_true_iff.mp c
      exact .inr ⟨_, _, (hx.rp s).dp 64 c1, (hy.rp s).dp 64 c2, D.shaped c1, D.shaped c2, out_sc s (.bl _) rfl q⟩
  · cases e
theorem opd_ne {g : G} : OpD g g1 g2 (rNeA g.K) fNe := opd_of fun F H vx vy x y z Q s hx hy e q => by
  unfold fNe at e
  split at e
  · rename_i c
    cases e
    rcases Bool.or_eq_true_iff.mp c with c | c
    · obtain ⟨h1, h2⟩ := scal2_eq hx hy c
      exact .inl ⟨h1, by rw [h2]; exact out_sc s (.bl _) rfl q⟩
    · obtain ⟨c1, c2⟩ := Bool.and_eq_true_iff.mp c
      exact .inr ⟨_, _, (hx.rp s).dp 64 c1, (hy.rp s).dp 64 c2, D.shaped c1, D.shaped c2, out_sc s (.bl _) rfl q⟩
  · cases e
theorem isNon_eq {g : G} {F H : Hp} {v : V} {d : D} (s : Same F H) (h : Op gr g F H v d) : decide (v = .non) = d.isNon := by
  have r := h.rp s
  cases r <;> rfl
theorem opd_is {g : G} : OpD g g1 g2 (fun x y H Q => y = .non ∧ Q (.bl (decide (x = .non))) H) fIs := opd_of fun F H vx vy x y z Q s hx hy e q => by
  unfold fIs at e
  split at e
  · cases e
    exact ⟨hy.non, by rw [isNon_eq s hx]; exact out_sc s (.bl _) rfl q⟩
  · cases e
theorem opd_isNot {g : G} : OpD g g1 g2 (fun x y H Q => y = .non ∧ Q (.bl (!decide (x = .non))) H) fIsNot := opd_of fun F H vx vy x y z Q s hx hy e q => by
  unfold fIsNot at e
  split at e
  · cases e
    exact ⟨hy.non, by rw [isNon_eq s hx]; exact out_sc s (.bl _) rfl q⟩
  · cases e
def rCmpD (p : Int → Int → Bool) (r : Str → Str → Bool) : R2 := fun x y H Q => rI0 (fun i j => .bl (p i j)) x y H Q ∨ ∃ i j, x = .str i ∧ y = .str j ∧ Q (.bl (r i j)) H
theorem opd_cmp {g : G} {p : Int → Int → Bool} {r : Str → Str → Bool} {f2 : D → D → R D} (hf : ∀ x y z, f2 x y = .ok z → (∃ i j, x = .int i ∧ y = .int j ∧ z = .bl (p i j)) ∨ ∃ i j, x = .str i ∧ y = .str j ∧ z = .bl (r i j)) :
    OpD g g1 g2 (rCmpD p r) f2 := opd_of fun F H vx vy x y z Q s hx hy e q => by
  rcases hf x y z e with ⟨i, j, rfl, rfl, rfl⟩ | ⟨i, j, rfl, rfl, rfl⟩
  · exact .inl ⟨i, j, hx.int, hy.int, out_sc s (.bl _) rfl q⟩
  · exact .inr ⟨i, j, hx.str, hy.str, out_sc s (.bl _) rfl q⟩
theorem opd_lt {g : G} : OpD g g1 g2 (rCmpD (fun i j => decide (i < j)) fun a b => decide (a.cps.toList < b.cps.toList)) fLt := opd_cmp fun x y z e => by
  unfold fLt at e
  split at e
  · exact .inl ⟨_, _, rfl, rfl, (R.ok.inj e).symm⟩
  · exact .inr ⟨_, _, rfl, rfl, (R.ok.inj e).symm⟩
  · cases e
theorem opd_le {g : G} : OpD g g1 g2 (rCmpD (fun i j => decide (i ≤ j)) fun a b => !decide (b.cps.toList < a.cps.toList)) fLe := opd_cmp fun x y z e => by
  unfold fLe at e
  split at e
  · exact .inl ⟨_, _, rfl, rfl, (R.ok.inj e).symm⟩
  · exact .inr ⟨_, _, rfl, rfl, (R.ok.inj e).symm⟩
  · cases e
theorem opd_gt {g : G} : OpD g g1 g2 (rCmpD (fun i j => decide (j < i)) fun a b => decide (b.cps.toList < a.cps.toList)) fGt := opd_cmp fun x y z e => by
  unfold fGt at e
  split at e
  · exact .inl ⟨_, _, rfl, rfl, (R.ok.inj e).symm⟩
  · exact .inr ⟨_, _, rfl, rfl, (R.ok.inj e).symm⟩
  · cases e
theorem opd_ge {g : G} : OpD g g1 g2 (rCmpD (fun i j => decide (j ≤ i)) fun a b => !decide (a.cps.toList < b.cps.toList)) fGe := opd_cmp fun x y z e => by
  unfold fGe at e
  split at e
  · exact .inl ⟨_, _, rfl, rfl, (R.ok.inj e).symm⟩
  · exact .inr ⟨_, _, rfl, rfl, (R.ok.inj e).symm⟩
  · cases e
theorem op_ltA : OpR X (compareOp .Lt) (rCmpD (fun i j => decide (i < j)) fun a b => decide (a.cps.toList < b.cps.toList)) := op_lt.or op_lt_str
theorem op_leA : OpR X (compareOp .LtE) (rCmpD (fun i j => decide (i ≤ j)) fun a b => !decide (b.cps.toList < a.cps.toList)) := op_le.or op_le_str
theorem op_gtA : OpR X (compareOp .Gt) (rCmpD (fun i j => decide (j < i)) fun a b => decide (b.cps.toList < a.cps.toList)) := op_gt.or op_gt_str
theorem op_geA : OpR X (compareOp .GtE) (rCmpD (fun i j => decide (j ≤ i)) fun a b => !decide (a.cps.toList < b.cps.toList)) := op_ge.or op_ge_str
/-- flat values -/
theorem sc_flat {g : G} {H : Hp} {v : V} {d : D} (r : Rp g H v d) (h : d.sc = true) : flatV v = true := by
  cases r <;> first | rfl | cases h
theorem sc_eqv {g : G} {H : Hp} {v u : V} {d e : D} (r : Rp g H v d) (q : Rp g H u e) (h : d.sc = true) (k : e.sc = true) : eqV v u = d.eqv e := by
  cases r <;> cases q <;> first | rfl | (cases h; done) | (cases k; done)
theorem allSc_flat {g : G} {H : Hp} : ∀ {vs : List V} {ds : List D}, RpL g H vs ds → allSc ds = true → vs.all flatV = true
  | _, _, .nil, _ => rfl
  | _, _, .cons h r, s => by
    have s' := Bool.and_eq_true_iff.mp (show (_ && _) = true from s)
    rw [List.all_cons, sc_flat h s'.1, allSc_flat r s'.2]; rfl
theorem allSc_any {g : G} {H : Hp} {vx : V} {x : D} (rx : Rp g H vx x) (hx : x.sc = true) : ∀ {vs : List V} {ds : List D}, RpL g H vs ds → allSc ds = true → inV vx vs = ds.any fun z => z.eqv x
  | _, _, .nil, _ => rfl
  | _, _, .cons h r, s => by
    have s' := Bool.and_eq_true_iff.mp (show (_ && _) = true from s)
    have ih := allSc_any rx hx r s'.2
    unfold inV at ih ⊢
    rw [List.any_cons, List.any_cons, sc_eqv h rx s'.1 hx, ih]
def rInA (K : PySem.W.Frag) : R2 := fun x y H Q => rIn K false x y H Q ∨ rInD K x y H Q ∨ ∃ (c : Nat) (z : Str), x = .str ⟨#[c]⟩ ∧ y = .str z ∧ Q (.bl (decide (c ∈ z.cps.toList))) H
def rNotInA (K : PySem.W.Frag) : R2 := fun x y H Q => rIn K true x y H Q ∨ rNotInD K x y H Q ∨ ∃ (c : Nat) (z : Str), x = .str ⟨#[c]⟩ ∧ y = .str z ∧ Q (.bl (!decide (c ∈ z.cps.toList))) H
theorem op_inA (hu : X.A.units + 65 < cLine) : OpR X (compareOp .In) (rInA X.K) := op_in_seq.or ((op_inD hu).or op_in_sign)
theorem op_notInA (hu : X.A.units + 65 < cLine) : OpR X (compareOp .NotIn) (rNotInA X.K) := op_notIn_seq.or ((op_notInD hu).or op_notIn_sign)
theorem any_pyL (x : D) : ∀ ys : List D, ((D.pyL ys).any fun z => PyData.eqv z x.py) = ys.any fun z => z.eqv x
  | [] => rfl
  | d :: ds => by rw [D.pyL, List.any_cons, List.any_cons, any_pyL x ds]; rfl
theorem in_cases {g : G} {F H : Hp} {vx vy : V} {x y : D} {b : Bool} (s : Same F H) (hx : Op g1 g F H vx x) (hy : Op g2 g F H vy y) (h : dIn x y = some b) :
    (∃ p vs, vy = .ref p ∧ (SqL g.K H p vs ∨ SqT g.K H p vs) ∧ flatV vx = true ∧ vs.all flatV = true ∧ inV vx vs = b) ∨
    (∃ ds, Dp g.K H vx x.py ∧ Dp g.K H vy (.list (D.pyL ds)) ∧ SeqAt.shaped x.py = true ∧ SeqAt.shaped (.list (D.pyL ds)) = true ∧ ((D.pyL ds).any fun z => PyData.eqv z x.py) = b) ∨
    ∃ (c : Nat) (z : Str), vx = .str ⟨#[c]⟩ ∧ vy = .str z ∧ decide (c ∈ z.cps.toList) = b := by
  unfold dIn at h
  split at h
  · rename_i o ys
    split at h
    · rename_i c
      cases h
      rcases Bool.or_eq_true_iff.mp c with c | c
      · obtain ⟨c1, c2⟩ := Bool.and_eq_true_iff.mp c
        obtain ⟨p, vs, rfl, hs, _, r, _⟩ := hy.lst s
        exact .inl ⟨p, vs, rfl, .inl hs, sc_flat (hx.rp s) c1, allSc_flat r c2, allSc_any (hx.rp s) c1 r c2⟩
      · obtain ⟨c1, c2⟩ := Bool.and_eq_true_iff.mp c
        have c3 : (D.lst o ys).shp 64 = true := by simpa [D.shp] using c2
        exact .inr (.inl ⟨ys, (hx.rp s).dp 64 c1, (hy.rp s).dp 64 c3, D.shaped c1, D.shaped c3, any_pyL x ys⟩)
    · cases h
  · split at h
    · rename_i ys c
      cases h
      obtain ⟨c1, c2⟩ := Bool.and_eq_true_iff.mp c
      obtain ⟨p, vs, rfl, hs, _, r, _⟩ := hy.tup s
      exact .inl ⟨p, vs, rfl, .inr hs, sc_flat (hx.rp s) c1, allSc_flat r c2, allSc_any (hx.rp s) c1 r c2⟩
    · cases h
  · cases x with
    | str c =>
      obtain ⟨k, rfl, e⟩ := strIn_some h
      exact .inr (.inr ⟨k, _, hx.str, hy.str, e⟩)
    | _ => cases h
  · cases h
theorem opd_in {g : G} : OpD g g1 g2 (rInA g.K) fIn := opd_of fun F H vx vy x y z Q s hx hy e q => by
  unfold fIn at e
  split at e
  · rename_i b hb
    cases e
    have q' := out_sc (g := g) s (.bl b) rfl q
    rcases in_cases s hx hy hb with ⟨p, vs, rfl, h1, h2, h3, h4⟩ | ⟨ds, h1, h2, h3, h4, h5⟩ | ⟨c, z, rfl, rfl, h⟩
    · exact .inl ⟨p, vs, rfl, h1, h2, h3, by rw [if_neg Bool.false_ne_true, h4]; exact q'⟩
    · exact .inr (.inl ⟨_, _, h1, h2, h3, h4, by rw [h5]; exact q'⟩)
    · exact .inr (.inr ⟨c, z, rfl, rfl, by rw [h]; exact q'⟩)
  · cases e
theorem opd_notIn {g : G} : OpD g g1 g2 (rNotInA g.K) fNotIn := opd_of fun F H vx vy x y z Q s hx hy e q => by
  unfold fNotIn at e
  split at e
  · rename_i b hb
    cases e
    have q' := out_sc (g := g) s (.bl (!b)) rfl q
    rcases in_cases s hx hy hb with ⟨p, vs, rfl, h1, h2, h3, h4⟩ | ⟨ds, h1, h2, h3, h4, h5⟩ | ⟨c, z, rfl, rfl, h⟩
    · exact .inl ⟨p, vs, rfl, h1, h2, h3, by rw [if_pos rfl, h4]; exact q'⟩
    · exact .inr (.inl ⟨_, _, h1, h2, h3, h4, by rw [h5]; exact q'⟩)
    · exact .inr (.inr ⟨c, z, rfl, rfl, by rw [h]; exact q'⟩)
  · cases e

theorem dt_eq (hu : X.A.units + 65 < cLine) (ha : DE g1 X W a fa) (hb : DE g2 X W b fb) : DT X W (.Compare a [.Eq] [b] pos) (dB (dOp g1 g2 fEq fa fb)) := dt_cmp (op_eqA hu) opd_eq nx_eq ha hb (nomark _)
theorem dt_ne (hu : X.A.units + 65 < cLine) (ha : DE g1 X W a fa) (hb : DE g2 X W b fb) : DT X W (.Compare a [.NotEq] [b] pos) (dB (dOp g1 g2 fNe fa fb)) := dt_cmp (op_neA hu) opd_ne nx_ne ha hb (nomark _)
theorem dt_is (ha : DE g1 X W a fa) (hb : DE g2 X W b fb) : DT X W (.Compare a [.Is] [b] pos) (dB (dOp g1 g2 fIs fa fb)) := dt_cmp op_isN opd_is nx_is ha hb (nomark _)
theorem dt_isnot (ha : DE g1 X W a fa) (hb : DE g2 X W b fb) : DT X W (.Compare a [.IsNot] [b] pos) (dB (dOp g1 g2 fIsNot fa fb)) := dt_cmp op_notN opd_isNot nx_isNot ha hb (nomark _)
theorem dt_lt (ha : DE g1 X W a fa) (hb : DE g2 X W b fb) : DT X W (.Compare a [.Lt] [b] pos) (dB (dOp g1 g2 fLt fa fb)) := dt_cmp op_ltA opd_lt nx_lt ha hb (nomark _)
theorem dt_le (ha : DE g1 X W a fa) (hb : DE g2 X W b fb) : DT X W (.Compare a [.LtE] [b] pos) (dB (dOp g1 g2 fLe fa fb)) := dt_cmp op_leA opd_le nx_le ha hb (nomark _)
theorem dt_gt (ha : DE g1 X W a fa) (hb : DE g2 X W b fb) : DT X W (.Compare a [.Gt] [b] pos) (dB (dOp g1 g2 fGt fa fb)) := dt_cmp op_gtA opd_gt nx_gt ha hb (nomark _)
theorem dt_ge (ha : DE g1 X W a fa) (hb : DE g2 X W b fb) : DT X W (.Compare a [.GtE] [b] pos) (dB (dOp g1 g2 fGe fa fb)) := dt_cmp op_geA opd_ge nx_ge ha hb (nomark _)
theorem dt_in (hu : X.A.units + 65 < cLine) (ha : DE g1 X W a fa) (hb : DE g2 X W b fb) (hm : behindInMarks .In b = false := by rfl) : DT X W (.Compare a [.In] [b] pos) (dB (dOp g1 g2 fIn fa fb)) := dt_cmp (op_inA hu) opd_in nx_in ha hb hm
theorem dt_notin (hu : X.A.units + 65 < cLine) (ha : DE g1 X W a fa) (hb : DE g2 X W b fb) (hm : behindInMarks .NotIn b = false := by rfl) : DT X W (.Compare a [.NotIn] [b] pos) (dB (dOp g1 g2 fNotIn fa fb)) := dt_cmp (op_notInA hu) opd_notIn nx_notIn ha hb hm
theorem de_eq (hu : X.A.units + 65 < cLine) (ha : DE g1 X W a fa) (hb : DE g2 X W b fb) : DE true X W (.Compare a [.Eq] [b] pos) (dOp g1 g2 fEq fa fb) := de_cmp (op_eqA hu) opd_eq nx_eq ha hb (nomark _)
theorem de_ne (hu : X.A.units + 65 < cLine) (ha : DE g1 X W a fa) (hb : DE g2 X W b fb) : DE true X W (.Compare a [.NotEq] [b] pos) (dOp g1 g2 fNe fa fb) := de_cmp (op_neA hu) opd_ne nx_ne ha hb (nomark _)
theorem de_is (ha : DE g1 X W a fa) (hb : DE g2 X W b fb) : DE true X W (.Compare a [.Is] [b] pos) (dOp g1 g2 fIs fa fb) := de_cmp op_isN opd_is nx_is ha hb (nomark _)
theorem de_isnot (ha : DE g1 X W a fa) (hb : DE g2 X W b fb) : DE true X W (.Compare a [.IsNot] [b] pos) (dOp g1 g2 fIsNot fa fb) := de_cmp op_notN opd_isNot nx_isNot ha hb (nomark _)
theorem de_lt (ha : DE g1 X W a fa) (hb : DE g2 X W b fb) : DE true X W (.Compare a [.Lt] [b] pos) (dOp g1 g2 fLt fa fb) := de_cmp op_ltA opd_lt nx_lt ha hb (nomark _)
theorem de_le (ha : DE g1 X W a fa) (hb : DE g2 X W b fb) : DE true X W (.Compare a [.LtE] [b] pos) (dOp g1 g2 fLe fa fb) := de_cmp op_leA opd_le nx_le ha hb (nomark _)
theorem de_gt (ha : DE g1 X W a fa) (hb : DE g2 X W b fb) : DE true X W (.Compare a [.Gt] [b] pos) (dOp g1 g2 fGt fa fb) := de_cmp op_gtA opd_gt nx_gt ha hb (nomark _)
theorem de_ge (ha : DE g1 X W a fa) (hb : DE g2 X W b fb) : DE true X W (.Compare a [.GtE] [b] pos) (dOp g1 g2 fGe fa fb) := de_cmp op_geA opd_ge nx_ge ha hb (nomark _)
theorem de_in (hu : X.A.units + 65 < cLine) (ha : DE g1 X W a fa) (hb : DE g2 X W b fb) (hm : behindInMarks .In b = false := by rfl) : DE true X W (.Compare a [.In] [b] pos) (dOp g1 g2 fIn fa fb) := de_cmp (op_inA hu) opd_in nx_in ha hb hm
theorem de_notin (hu : X.A.units + 65 < cLine) (ha : DE g1 X W a fa) (hb : DE g2 X W b fb) (hm : behindInMarks .NotIn b = false := by rfl) : DE true X W (.Compare a [.NotIn] [b] pos) (dOp g1 g2 fNotIn fa fb) := de_cmp (op_notInA hu) opd_notIn nx_notIn ha hb hm

/-! ### unary minus, ~ -/
def dNeg (fa : Env → R D) : Env → R D := fun ρ => (fa ρ).bind fun x => match x with
  | .int i => .ok (.int (-i))
  | _ => .bad
theorem de_neg (ha : DE gr X W a fa) : DE true X W (.UnaryOp .USub a pos) (dNeg fa) := pe_imp (pe_un un_neg ha) fun σ H Q => fun ⟨τ, B, F, ρ, E, q⟩ => by
  refine ⟨τ, B, F, ρ, E, ?_⟩
  unfold dNeg at q
  cases hf : fa ρ with
  | bad => rw [hf] at q; exact q
  | ex x => rw [hf] at q; exact q
  | ok x =>
    rw [hf, R.bind_ok] at q
    intro vx H1 F1 s1 rx
    obtain ⟨F2, s2, ox⟩ := rx.op s1
    have rx' : Rp (gx X W) H1 vx x := by
      cases gr with
      | true => obtain ⟨A, o, _⟩ := rx; exact o.rp s1.fh
      | false => exact Sw.rp s1.fh rx
    cases rx' with
    | int i => exact ⟨i, rfl, q _ H1 F1 s1 ⟨[], .frz rfl (.int _), fun _ z => nomatch z⟩⟩
    | _ => exact q.elim

/-! ### argument lists, displays -/
variable {es : List Expr} {fs : Env → R (List D)}
def dNil : Env → R (List D) := fun _ => .ok []
def dCons (fa : Env → R D) (fs : Env → R (List D)) : Env → R (List D) := fun ρ => (fa ρ).bind fun x => (fs ρ).bind fun xs => .ok (x.fr :: xs)
/-- arguments that are only read -/
def dConsB (fa : Env → R D) (fs : Env → R (List D)) : Env → R (List D) := fun ρ => (fa ρ).bind fun x => (fs ρ).bind fun xs => .ok (x :: xs)
theorem da_nil : DA gr X W [] dNil := pa_imp pa_nil fun σ H Q => fun ⟨τ, B, F, ρ, E, q⟩ => q [] H F (StepP.refl E.fh) (by cases gr with
  | true => exact RpL.nil
  | false => exact SwL.nil)
theorem da_cons (ha : DE true X W e fa) (hs : DA true X W es fs) (h : starEach (e :: es) X.env = (false, eval e X.env) :: starEach es X.env := by rfl) : DA true X W (e :: es) (dCons fa fs) := pa_imp (pa_cons ha hs h) fun σ H Q => fun ⟨τ, B, F, ρ, E, q⟩ => by
  refine ⟨τ, B, F, ρ, E, ?_⟩
  unfold dCons at q
  cases hfa : fa ρ with
  | bad => rw [hfa] at q; exact q
  | ex x => rw [hfa] at q; exact q
  | ok x =>
    rw [hfa, R.bind_ok] at q
    intro vx H1 F1 s1 rx
    obtain ⟨F2, s2, ox⟩ := rx.op s1
    refine ⟨τ, B, F2, ρ, E.stepP s2, ?_⟩
    cases hfs : fs ρ with
    | bad => rw [hfs] at q; exact q
    | ex w => rw [hfs] at q; exact fun cls dd H' F' s3 rx => q cls dd H' F' (s2.trans s3) (rx.back s2.hh)
    | ok xs =>
      rw [hfs, R.bind_ok] at q
      intro vs H3 F3 s3 rs
      exact q (vx :: vs) H3 F3 (s2.trans s3) (.cons (Rp.mono s3.ff ox) rs)
theorem da_consB (ha : DE false X W e fa) (hs : DA false X W es fs) (h : starEach (e :: es) X.env = (false, eval e X.env) :: starEach es X.env := by rfl) : DA false X W (e :: es) (dConsB fa fs) := pa_imp (pa_cons ha hs h) fun σ H Q => fun ⟨τ, B, F, ρ, E, q⟩ => by
  refine ⟨τ, B, F, ρ, E, ?_⟩
  unfold dConsB at q
  cases hfa : fa ρ with
  | bad => rw [hfa] at q; exact q
  | ex x => rw [hfa] at q; exact q
  | ok x =>
    rw [hfa, R.bind_ok] at q
    intro vx H1 F1 s1 rx
    refine ⟨τ, B, F1, ρ, E.stepP s1, ?_⟩
    cases hfs : fs ρ with
    | bad => rw [hfs] at q; exact q
    | ex w => rw [hfs] at q; exact fun cls dd H' F' s3 rx => q cls dd H' F' (s1.trans s3) (rx.back s1.hh)
    | ok xs =>
      rw [hfs, R.bind_ok] at q
      intro vs H3 F3 s3 rs
      exact q (vx :: vs) H3 F3 (s1.trans s3) (.cons (Sw.mono s3.ff s3.hh rx) rs)
def dTup (fs : Env → R (List D)) : Env → R D := fun ρ => (fs ρ).bind fun xs => if xs.length ≤ 16777216 then .ok (.tup xs) else .bad
def dLst (fs : Env → R (List D)) : Env → R D := fun ρ => (fs ρ).bind fun xs => if (allRf xs = true) ∧ xs.length ≤ 16777216 then .ok (.lst (some 0) xs) else .bad
theorem de_tup {x1} (hs : DA true X W es fs) : DE true X W (.Tuple es x1 pos) (dTup fs) := pe_imp (pe_tup hs) fun σ H Q => fun ⟨τ, B, F, ρ, E, q⟩ => by
  refine ⟨τ, B, F, ρ, E, ?_⟩
  unfold dTup at q
  cases hf : fs ρ with
  | bad => rw [hf] at q; exact q
  | ex x => rw [hf] at q; exact q
  | ok xs =>
    rw [hf, R.bind_ok] at q
    split at q
    · rename_i c
      intro vs H1 F1 s1 r
      have r : RpL (gx X W) F1 vs xs := r
      exact ⟨by rw [sizeLine_eq, r.length]; exact c, fun p n => out_tup s1.fh n r fun v H' F' s2 g2 => q v H' F' (s1.trans s2) (by
        obtain ⟨A, o, f⟩ := g2
        exact ⟨A, o, fun p hp => s1.hh.free (f p hp)⟩)⟩
    · exact q.elim
theorem de_lst (hs : DA true X W es fs) : DE true X W (.List es pos) (dLst fs) := pe_imp (pe_lst hs) fun σ H Q => fun ⟨τ, B, F, ρ, E, q⟩ => by
  refine ⟨τ, B, F, ρ, E, ?_⟩
  unfold dLst at q
  cases hf : fs ρ with
  | bad => rw [hf] at q; exact q
  | ex x => rw [hf] at q; exact q
  | ok xs =>
    rw [hf, R.bind_ok] at q
    split at q
    · rename_i c
      intro vs H1 F1 s1 r
      have r : RpL (gx X W) F1 vs xs := r
      exact ⟨by rw [sizeLine_eq, r.length]; exact c.2, fun p n => out_lst s1.fh n r c.1 fun v H' F' s2 g2 => q v H' F' (s1.trans s2) (by
        obtain ⟨A, o, f⟩ := g2
        exact ⟨A, o, fun p hp => s1.hh.free (f p hp)⟩)⟩
    · exact q.elim
end
end Dt

set_option Elab.async false
set_option linter.all false
set_option maxRecDepth 100000
set_option maxHeartbeats 2000000
/-! Dat: subscripts, slices, truth, calls of built-ins. -/
namespace Dt
open PySem PySem.Spec PyProof.Rows L2

def ck1 (gr : Bool) (d : D) : Bool := d.rf
def ixD (xs : List D) (i : Int) : R D := match atI xs i with
  | some d => .ok d
  | none => .bad
/-- x[i] that may be kept -/
def fIx (gr : Bool) : D → D → R D
  | .lst _ xs, .int i => (ixD xs i).bind fun d => if ck1 gr d = true then .ok d else .bad
  | .tup xs, .int i => (ixD xs i).bind fun d => if ck1 gr d = true then .ok d else .bad
  | .str z, .int i => if z.length ≤ 16777216 then (match atI z.cps.toList i with | some c => .ok (.str ⟨#[c]⟩) | none => .bad) else .bad
  | _, _ => .bad
/-- x[i] that is only read -/
def fIxB : D → D → R D
  | .lst (some _) xs, .int i => ixD xs i
  | .lst none xs, .int i => (ixD xs i).bind fun d => if d.rf = true then .ok d else .bad
  | .tup xs, .int i => (ixD xs i).bind fun d => if d.rf = true then .ok d else .bad
  | _, _ => .bad
def cutD (xs : List D) (lo hi : Option Int) : List D := (xs.drop (HT.sIx xs.length 0 lo)).take (HT.sIx xs.length xs.length hi - HT.sIx xs.length 0 lo)
def fSl (gr : Bool) (x : D) (lo hi : Option Int) : R D := match x with
  | .lst _ xs => if ck gr (cutD xs lo hi) = true then .ok (.lst (some 0) (cutD xs lo hi)) else .bad
  | .tup xs => .ok (.tup (cutD xs lo hi))
  | .str z => if z.length ≤ 16777216 then .ok (.str (cutS z lo hi)) else .bad
  | _ => .bad

section
variable {g : G} {gr g1 g2 : Bool} {F F' H H' : Hp}
theorem RpL.atI {vs : List V} {ds : List D} {i : Int} {d : D} (r : RpL g F vs ds) (h : L2.atI ds i = some d) : ∃ v, L2.atI vs i = some v ∧ Rp g F v d := by
  unfold L2.atI at h ⊢
  rw [r.length]
  cases hi : ixN ds.length i with
  | none => rw [hi] at h; cases h
  | some j =>
    rw [hi] at h
    exact r.get (i := j) h
theorem SwL.atI {vs : List V} {ds : List D} {i : Int} {d : D} (r : SwL g F H vs ds) (h : L2.atI ds i = some d) : ∃ v, L2.atI vs i = some v ∧ Sw g F H v d := by
  unfold L2.atI at h ⊢
  rw [r.length]
  cases hi : ixN ds.length i with
  | none => rw [hi] at h; cases h
  | some j =>
    rw [hi] at h
    exact r.get (i := j) h
theorem ixD_ok {xs : List D} {i : Int} {d : D} (h : ixD xs i = .ok d) : atI xs i = some d := by
  unfold ixD at h
  split at h
  · rename_i e he; cases h; exact he
  · cases h
theorem bind_ok_inv {α β : Type} {r : R α} {f : α → R β} {b : β} (h : r.bind f = .ok b) : ∃ a, r = .ok a ∧ f a = .ok b := by
  cases r with
  | ok a => exact ⟨a, rfl, h⟩
  | ex x => cases h
  | bad => cases h
theorem if_ok_inv {α : Type} {c : Prop} [Decidable c] {a b : α} (h : (if c then R.ok a else .bad) = .ok b) : c ∧ a = b := by
  split at h
  · rename_i hc; exact ⟨hc, R.ok.inj h⟩
  · cases h
theorem nx_ix : ∀ x y w, fIx gr x y ≠ .ex w := by
  intro x y w e
  unfold fIx at e
  split at e
  · cases h : ixD _ _ with
    | ok d => rw [h, R.bind_ok] at e; split at e <;> cases e
    | ex x => unfold ixD at h; split at h <;> cases h
    | bad => rw [h] at e; cases e
  · cases h : ixD _ _ with
    | ok d => rw [h, R.bind_ok] at e; split at e <;> cases e
    | ex x => unfold ixD at h; split at h <;> cases h
    | bad => rw [h] at e; cases e
  · split at e
    · split at e <;> cases e
    · cases e
  · cases e
theorem nx_ixB : ∀ x y w, fIxB x y ≠ .ex w := by
  intro x y w e
  unfold fIxB at e
  split at e
  · unfold ixD at e; split at e <;> cases e
  · cases h : ixD _ _ with
    | ok d => rw [h, R.bind_ok] at e; split at e <;> cases e
    | ex x => unfold ixD at h; split at h <;> cases h
    | bad => rw [h] at e; cases e
  · cases h : ixD _ _ with
    | ok d => rw [h, R.bind_ok] at e; split at e <;> cases e
    | ex x => unfold ixD at h; split at h <;> cases h
    | bad => rw [h] at e; cases e
  · cases e
theorem own_item {vs : List V} {ds : List D} {i : Int} {d : D} (s : Same F H) (r : ResA gr g F H vs ds) (h : L2.atI ds i = some d) (c : ck1 gr d = true) : ∃ v, L2.atI vs i = some v ∧ Rp g F v d ∧ d.rf = true := by
  cases gr with
  | true =>
    obtain ⟨v, h1, h2⟩ := RpL.atI (show RpL g F vs ds from r) h
    exact ⟨v, h1, h2, c⟩
  | false =>
    obtain ⟨v, h1, h2⟩ := SwL.atI (show SwL g F H vs ds from r) h
    exact ⟨v, h1, h2.rf c, c⟩
theorem Op.lst' {v : V} {o : Option Nat} {ds : List D} (s : Same F H) (h : Op gr g F H v (.lst o ds)) : ∃ a vs g', v = .ref a ∧ SqL g.K H a vs ∧ ResA g' g F H vs ds := by
  cases gr with
  | true =>
    cases (show Rp g F v (.lst o ds) from h) with
    | lst hs r => exact ⟨_, _, true, rfl, s.seq hs, r⟩
  | false =>
    obtain ⟨a, vs, rfl, hs, r⟩ := Sw.lstI s (show Sw g F H v (.lst o ds) from h)
    rcases r with r | r
    · exact ⟨a, vs, false, rfl, hs, r⟩
    · exact ⟨a, vs, true, rfl, hs, r⟩
theorem Op.tup' {v : V} {ds : List D} (s : Same F H) (h : Op gr g F H v (.tup ds)) : ∃ a vs, v = .ref a ∧ SqT g.K H a vs ∧ ResA true g F H vs ds := by
  cases h.rf rfl with
  | tup hs0 r => have hs := hs0.t; exact ⟨_, _, rfl, same_sqT s hs, r⟩
theorem opd_ix : OpD g g1 g2 (rIx g.K) (fIx g1) := opd_of fun F H vx vy x y z Q s hx hy e q => by
  unfold fIx at e
  split at e
  · obtain ⟨d, h1, h2⟩ := bind_ok_inv e
    obtain ⟨c, rfl⟩ := if_ok_inv h2
    obtain ⟨a, vs, _, rfl, hs, r⟩ := hx.lst' s
    obtain ⟨v, h3, h4, h5⟩ := own_item s r (ixD_ok h1) c
    exact .inl ⟨a, vs, _, v, rfl, hy.int, hs, h3, out_sc s h4 h5 q⟩
  · obtain ⟨d, h1, h2⟩ := bind_ok_inv e
    obtain ⟨c, rfl⟩ := if_ok_inv h2
    obtain ⟨a, vs, rfl, hs, r⟩ := hx.tup' s
    obtain ⟨v, h3, h4, h5⟩ := own_item s r (ixD_ok h1) c
    exact .inr (.inl ⟨a, vs, _, v, rfl, hy.int, hs, h3, out_sc s h4 h5 q⟩)
  · split at e
    · rename_i hz
      split at e
      · rename_i c hc
        cases e
        exact .inr (.inr ⟨_, _, c, hx.str, hy.int, by rw [sizeLine_eq]; exact hz, hc, out_sc s (.str _) rfl q⟩)
      · cases e
    · cases e
  · cases e
theorem opd_ixB : OpDG false g false g2 (rIx g.K) fIxB := by
  intro F H vx vy x y Q s hx hy q
  cases e : fIxB x y with
  | ok z =>
    rw [e] at q
    unfold fIxB at e
    split at e
    · cases (show Sw g F H vx _ from hx) with
      | frz z _ => cases z
      | lst hs r =>
        obtain ⟨v, h3, h4⟩ := SwL.atI r (ixD_ok e)
        exact .inl ⟨_, _, _, v, rfl, hy.int, SqL.of hs, h3, q v H F (StepP.refl s) h4⟩
    · obtain ⟨d, h1, h2⟩ := bind_ok_inv e
      obtain ⟨c, rfl⟩ := if_ok_inv h2
      cases (Sw.rf (show Sw g F H vx _ from hx) rfl) with
      | lst hs r =>
        obtain ⟨v, h3, h4⟩ := RpL.atI r (ixD_ok h1)
        exact .inl ⟨_, _, _, v, rfl, hy.int, s.seq hs, h3, q v H F (StepP.refl s) (.frz c h4)⟩
    · obtain ⟨d, h1, h2⟩ := bind_ok_inv e
      obtain ⟨c, rfl⟩ := if_ok_inv h2
      cases (Sw.rf (show Sw g F H vx _ from hx) rfl) with
      | tup hs0 r =>
        have hs := hs0.t
        obtain ⟨v, h3, h4⟩ := RpL.atI r (ixD_ok h1)
        exact .inr (.inl ⟨_, _, _, v, rfl, hy.int, same_sqT s hs, h3, q v H F (StepP.refl s) (.frz c h4)⟩)
    · cases e
  | ex w => rw [e] at q; exact q.elim
  | bad => rw [e] at q; exact q.elim
end
section
variable {X : Cx} {W : Wx} {gr g1 g2 gr3 : Bool} {a b e : Expr} {pos : Pos} {fa fb : Env → R D} {es : List Expr} {fs : Env → R (List D)}
theorem de_ix (ha : DE g1 X W a fa) (hb : DE g2 X W b fb) (hs : PlainIx b := by exact fun _ _ => rfl) : DE true X W (.Subscript a b pos) (dOp g1 g2 (fIx g1) fa fb) := pe_imp (pe_ix ix_seq ha hb hs) fun _ _ _ q => lift2 opd_ix nx_ix q
theorem de_ixB (ha : DE false X W a fa) (hb : DE g2 X W b fb) (hs : PlainIx b := by exact fun _ _ => rfl) : DE false X W (.Subscript a b pos) (dOp false g2 fIxB fa fb) := pe_imp (pe_ix ix_seq ha hb hs) fun _ _ _ q => lift2 opd_ixB nx_ixB q

/-! ### slices -/
def outO (g : G) (W : Wx) (F H : Hp) (σ : L2.St) (Q : Option Int → Hp → Prop) : R (Option Int) → Prop
  | .ok b => ∀ H' F', StepP F H F' H' → Q b H'
  | .ex x => ∀ cls dd H' F', StepP F H F' H' → ResX g H F' H' cls dd x → W.w cls dd σ H'
  | .bad => False
def liftO (g : G) (W : Wx) (f : Env → R (Option Int)) : TO := fun σ H Q => ∃ τ B F ρ, EnvR g τ B F H σ ρ ∧ outO g W F H σ Q (f ρ)
abbrev DO (X : Cx) (W : Wx) (e : Option Expr) (f : Env → R (Option Int)) : Prop := PO X e (liftO (gx X W) W f)
theorem po_imp {e : Option Expr} {t t' : TO} (h : PO X e t) (i : ∀ σ H Q, t' σ H Q → t σ H Q) : PO X e t' := ⟨fun pins s σ H Q I q => h.run pins s σ H Q I (i σ H Q q)⟩
theorem outO.step {g : G} {F F' H H' : Hp} {σ : L2.St} {Q : Option Int → Hp → Prop} {r : R (Option Int)} (s : StepP F H F' H') (h : outO g W F H σ Q r) : outO g W F' H' σ Q r := by
  cases r with
  | ok d => exact fun H2 F2 s2 => h H2 F2 (s.trans s2)
  | ex x => exact fun cls dd H2 F2 s2 q => h cls dd H2 F2 (s.trans s2) (q.back s.hh)
  | bad => exact h
def dNo : Env → R (Option Int) := fun _ => .ok none
def dPart (fa : Env → R D) : Env → R (Option Int) := fun ρ => (fa ρ).bind fun x => match x with
  | .int i => .ok (some i)
  | _ => .bad
theorem do_none : DO X W none dNo := po_imp po_none fun σ H Q => fun ⟨τ, B, F, ρ, E, q⟩ => q H F (StepP.refl E.fh)
theorem ResG.rp {g : G} {F F' H H' : Hp} {v : V} {d : D} (s : StepP F H F' H') (h : ResG gr g F H F' H' v d) : Rp g H' v d := by
  cases gr with
  | true => obtain ⟨A, o, _⟩ := h; exact o.rp s.fh
  | false => exact Sw.rp s.fh h
theorem do_some (ha : DE gr X W a fa) : DO X W (some a) (dPart fa) := po_imp (po_some ha) fun σ H Q => fun ⟨τ, B, F, ρ, E, q⟩ => by
  refine ⟨τ, B, F, ρ, E, ?_⟩
  unfold dPart at q
  cases hf : fa ρ with
  | bad => rw [hf] at q; exact q
  | ex x => rw [hf] at q; exact q
  | ok x =>
    rw [hf, R.bind_ok] at q
    intro vx H1 F1 s1 rx
    have r := rx.rp s1
    cases r with
    | int i => exact ⟨i, rfl, q H1 F1 s1⟩
    | _ => exact q.elim
def rSlX (K : PySem.W.Frag) : V → Option Int → Option Int → Hp → VK → Prop := fun x lo hi H Q => rSlL K x lo hi H Q ∨ rSlA K x lo hi H Q ∨ rSlS x lo hi H Q
theorem sl_any : SlR X (rSlX X.K) := sl_list.or (sl_tupA.or sl_str)
def dSl (gr : Bool) (fa : Env → R D) (fl fh : Env → R (Option Int)) : Env → R D := fun ρ => (fa ρ).bind fun x => (fl ρ).bind fun l => (fh ρ).bind fun h => fSl gr (x.op gr) l h
theorem RpL.cut {g : G} {F : Hp} {vs : List V} {ds : List D} (r : RpL g F vs ds) (lo hi : Option Int) : RpL g F (cutV vs lo hi) (cutD ds lo hi) := by
  unfold cutV cutD
  rw [r.length]
  exact (r.drop _).take _
theorem SwL.take {g : G} {F H : Hp} : ∀ {vs : List V} {ds : List D} (n : Nat), SwL g F H vs ds → SwL g F H (vs.take n) (ds.take n)
  | _, _, 0, _ => .nil
  | _, _, _ + 1, .nil => .nil
  | _, _, n + 1, .cons r t => .cons r (SwL.take n t)
theorem SwL.drop {g : G} {F H : Hp} : ∀ {vs : List V} {ds : List D} (n : Nat), SwL g F H vs ds → SwL g F H (vs.drop n) (ds.drop n)
  | _, _, 0, r => r
  | _, _, _ + 1, .nil => .nil
  | _, _, n + 1, .cons _ t => SwL.drop n t
theorem SwL.cut {g : G} {F H : Hp} {vs : List V} {ds : List D} (r : SwL g F H vs ds) (lo hi : Option Int) : SwL g F H (cutV vs lo hi) (cutD ds lo hi) := by
  unfold cutV cutD
  rw [r.length]
  exact (r.drop _).take _
theorem sl_out {g : G} {F H : Hp} {vx : V} {x z : D} {lo hi : Option Int} {Q : VK} (s : Same F H) (hx : Op gr g F H vx x) (e : fSl gr x lo hi = .ok z) (q : ∀ v H' F', StepP F H F' H' → ResG true g F H F' H' v z → Q v H') : rSlX g.K vx lo hi H Q := by
  unfold fSl at e
  split at e
  · obtain ⟨c, rfl⟩ := if_ok_inv e
    obtain ⟨a, vs, g', rfl, hs, r⟩ := hx.lst' s
    refine .inl ⟨a, vs, rfl, hs, fun p n => ?_⟩
    cases g' with
    | true => exact out_lst s n (RpL.cut r lo hi) c q
    | false => exact out_lst s n ((SwL.cut r lo hi).items c) c q
  · rename_i xs
    cases e
    cases hx.rf rfl with
    | @tup a vs _ t r =>
      refine .inr (.inl ⟨a, vs, rfl, same_sqT s t.t, fun hw => ?_, fun _ p n => out_tup s n (RpL.cut r lo hi) q⟩)
      have e1 : cutD xs lo hi = xs := by
        unfold cutD
        rw [← r.length, hw.1, hw.2, List.drop_zero, Nat.sub_zero, r.length, List.take_length]
      rw [e1] at q
      exact q _ H F (StepP.refl s) ⟨[], .frz rfl (.tup t r), fun _ z => nomatch z⟩
  · obtain ⟨c, rfl⟩ := if_ok_inv e
    exact .inr (.inr ⟨_, hx.str, by rw [sizeLine_eq]; exact c, out_sc s (.str _) rfl q⟩)
  · cases e
theorem fSl_nx {x : D} {lo hi : Option Int} {w : XD} : fSl gr x lo hi ≠ .ex w := by
  intro e; unfold fSl at e; split at e
  · split at e <;> cases e
  · cases e
  · split at e <;> cases e
  · cases e
theorem de_slice {lo hi : Option Expr} {p2 : Pos} {fl fh : Env → R (Option Int)} (ha : DE gr X W a fa) (hl : DO X W lo fl) (hh : DO X W hi fh) : DE true X W (.Subscript a (.Slice lo hi none p2) pos) (dSl gr fa fl fh) :=
  pe_imp (pe_slice sl_any ha hl hh) fun σ H Q => fun ⟨τ, B, F, ρ, E, q⟩ => by
  refine ⟨τ, B, F, ρ, E, ?_⟩
  unfold dSl at q
  cases hf : fa ρ with
  | bad => rw [hf] at q; exact q
  | ex x => rw [hf] at q; exact q
  | ok x =>
    rw [hf, R.bind_ok] at q
    intro vx H1 F1 s1 rx
    obtain ⟨F2, s2, ox⟩ := rx.op s1
    refine ⟨τ, B, F2, ρ, E.stepP s2, ?_⟩
    cases hl : fl ρ with
    | bad => rw [hl] at q; exact q
    | ex w => rw [hl] at q; exact fun cls dd H' F' s3 rx => q cls dd H' F' (s2.trans s3) (rx.back s2.hh)
    | ok l =>
      rw [hl, R.bind_ok] at q
      intro H3 F3 s3
      refine ⟨τ, B, F3, ρ, (E.stepP s2).stepP s3, ?_⟩
      cases hh : fh ρ with
      | bad => rw [hh] at q; exact q
      | ex w => rw [hh] at q; exact fun cls dd H' F' s4 rx => q cls dd H' F' ((s2.trans s3).trans s4) ((rx.back s3.hh).back s2.hh)
      | ok h =>
        rw [hh, R.bind_ok] at q
        intro H4 F4 s4
        cases hz : fSl gr (x.op gr) l h with
        | bad => rw [hz] at q; exact q.elim
        | ex w => exact absurd hz fSl_nx
        | ok z =>
          have q' := q.step ((s2.trans s3).trans s4)
          rw [hz] at q'
          exact sl_out s4.fh ((ox.step s3).step s4) hz q'

/-! ### truth -/
def D.tru : D → Option Bool
  | .non => some false
  | .bl b => some b
  | .int i => some (i != 0)
  | .str s => if s.length ≤ 16777216 then some ((s.length : Int) != 0) else none
  | .lst _ xs => some (!xs.isEmpty)
  | .tup xs => some (!xs.isEmpty)
  | .dic _ ks _ => some (!ks.isEmpty)
  | _ => none
def dTru (fa : Env → R D) : Env → R Bool := fun ρ => (fa ρ).bind fun x => match x.tru with
  | some b => .ok b
  | none => .bad
theorem RpL.isEmpty {g : G} {F : Hp} {vs : List V} {ds : List D} (r : RpL g F vs ds) : vs.isEmpty = ds.isEmpty := by cases r <;> rfl
theorem tru_of {g : G} {H : Hp} {v : V} {d : D} {b : Bool} (r : Rp g H v d) (h : d.tru = some b) : TruV g.K v H b := by
  cases r with
  | non => cases h; rfl
  | bl b => cases h; rfl
  | int i => cases h; rfl
  | str s =>
    simp only [D.tru] at h
    split at h
    · rename_i c; cases h; exact ⟨by rw [sizeLine_eq]; exact c, rfl⟩
    · cases h
  | tup hs0 r => have hs := hs0.t; cases h; exact .inr (.inl ⟨_, hs, by rw [r.isEmpty]⟩)
  | lst hs r => cases h; exact .inl ⟨_, hs, by rw [r.isEmpty]⟩
  | dic h1 h2 r =>
    cases h
    subst h2
    exact .inr (.inr ⟨_, h1, by rw [List.isEmpty_map]⟩)
  | _ => cases h
theorem dt_tru (ha : DE gr X W a fa) (he : ∀ whole, isTrue a X.env whole = (do let v ← whole; standAt a.pos; holding [v] (truthy v)) := by exact fun _ => rfl) : DT X W a (dTru fa) := pt_imp (pt_truth ha he) fun σ H Q => fun ⟨τ, B, F, ρ, E, q⟩ => by
  refine ⟨τ, B, F, ρ, E, ?_⟩
  unfold dTru at q
  cases hf : fa ρ with
  | bad => rw [hf] at q; exact q
  | ex x => rw [hf] at q; exact q
  | ok x =>
    rw [hf, R.bind_ok] at q
    intro vx H1 F1 s1 rx
    have r := rx.rp s1
    cases ht : x.tru with
    | none => rw [ht] at q; exact q.elim
    | some b =>
      rw [ht] at q
      exact ⟨b, tru_of r ht, q H1 F1 s1⟩

/-! ### calls of built-ins -/
def CallD (gr3 gr : Bool) (g : G) (r : List V → Hp → VK → Prop) (fn : List D → R D) : Prop := ∀ (F H : Hp) (vs : List V) (ds : List D) (z : D) (Q : VK), Same F H → ResA gr g F H vs ds → fn ds = .ok z →
  (∀ v H' F', StepP F H F' H' → ResG gr3 g F H F' H' v z → Q v H') → r vs H Q
def dCall (fn : List D → R D) (fs : Env → R (List D)) : Env → R D := fun ρ => (fs ρ).bind fn
theorem liftCall {r : List V → Hp → VK → Prop} {fn : List D → R D} (hd : CallD gr3 gr (gx X W) r fn) (nx : ∀ ds w, fn ds ≠ .ex w) {σ : L2.St} {H : Hp} {Q : VK} (h : liftE gr3 (gx X W) W (dCall fn fs) σ H Q) : tCB r (liftA gr (gx X W) W fs) σ H Q := by
  obtain ⟨τ, B, F, ρ, E, q⟩ := h
  refine ⟨τ, B, F, ρ, E, ?_⟩
  unfold dCall at q
  cases hf : fs ρ with
  | bad => rw [hf] at q; exact q
  | ex x => rw [hf] at q; exact q
  | ok ds =>
    rw [hf, R.bind_ok] at q
    intro vs H1 F1 s1 r
    have q' := q.step s1
    cases hz : fn ds with
    | bad => rw [hz] at q; exact q.elim
    | ex w => exact absurd hz (nx _ _)
    | ok z =>
      rw [hz] at q'
      exact hd F1 H1 vs ds z Q s1.fh r hz q'
section
variable {x : Str} {p : Pos} {id T : String} {r : List V → Hp → VK → Prop} {fn : List D → R D}
theorem de_callB (hc : CallR X (.builtin id) r) (hd : CallD gr3 gr (gx X W) r fn) (nx : ∀ ds w, fn ds ≠ .ex w) (hg : Gl X x) (hm : X.mg x = none) (hv : bootBuiltins x = some (.builtin id)) (ha : DA gr X W (e :: es) fs) (hn : x ≠ "__name__" := by decide) (hdb : (x == ("__debug__" : Str)) = false := by decide)
    (he : starEach (e :: es) X.env = (false, eval e X.env) :: starEach es X.env := by rfl) (hpl : (backTo pos (starEach es X.env)).any (·.1) = false := by rfl) : DE gr3 X W (.Call (.Name x p) (e :: es) [] pos) (dCall fn fs) :=
  pe_imp (pe_callB hc hg hm hv ha hn hdb he hpl) fun _ _ _ q => liftCall hd nx q
theorem de_callTy (hc : CallR X (.type T) r) (hd : CallD gr3 gr (gx X W) r fn) (nx : ∀ ds w, fn ds ≠ .ex w) (hg : Gl X x) (hm : X.mg x = none) (hv : bootBuiltins x = some (.type T)) (ha : DA gr X W (e :: es) fs) (hn : x ≠ "__name__" := by decide) (hdb : (x == ("__debug__" : Str)) = false := by decide)
    (he : starEach (e :: es) X.env = (false, eval e X.env) :: starEach es X.env := by rfl) (hpl : (backTo pos (starEach es X.env)).any (·.1) = false := by rfl) : DE gr3 X W (.Call (.Name x p) (e :: es) [] pos) (dCall fn fs) :=
  pe_imp (pe_callTy hc hg hm hv ha hn hdb he hpl) fun _ _ _ q => liftCall hd nx q
end
theorem ResA.rp {g : G} {F H : Hp} {vs : List V} {ds : List D} (s : Same F H) (h : ResA gr g F H vs ds) : RpL g H vs ds := by
  cases gr with
  | true => exact RpL.mono s h
  | false => exact SwL.rp s h
theorem ResA.one {g : G} {F H : Hp} {vs : List V} {d : D} (h : ResA gr g F H vs [d]) : ∃ v, vs = [v] ∧ Op gr g F H v d := by
  cases gr with
  | true =>
    cases (show RpL g F vs [d] from h) with
    | cons a b => cases b; exact ⟨_, rfl, a⟩
  | false =>
    cases (show SwL g F H vs [d] from h) with
    | cons a b => cases b; exact ⟨_, rfl, a⟩
theorem ResA.two {g : G} {F H : Hp} {vs : List V} {d e : D} (h : ResA gr g F H vs [d, e]) : ∃ v u, vs = [v, u] ∧ Op gr g F H v d ∧ Op gr g F H u e := by
  cases gr with
  | true =>
    cases (show RpL g F vs [d, e] from h) with
    | cons a b =>
      cases b with
      | cons c b => cases b; exact ⟨_, _, rfl, a, c⟩
  | false =>
    cases (show SwL g F H vs [d, e] from h) with
    | cons a b =>
      cases b with
      | cons c b => cases b; exact ⟨_, _, rfl, a, c⟩

def nLen : List D → R D
  | [.lst _ xs] => .ok (.int xs.length)
  | [.tup xs] => .ok (.int xs.length)
  | [.str s] => if s.length ≤ 16777216 then .ok (.int s.length) else .bad
  | [.dic _ ks _] => .ok (.int ks.length)
  | _ => .bad
def nAbs : List D → R D
  | [.int i] => .ok (.int (if i < 0 then -i else i))
  | _ => .bad
def nMax2 : List D → R D
  | [.int i, .int j] => .ok (.int (if j > i then j else i))
  | _ => .bad
def nMin2 : List D → R D
  | [.int i, .int j] => .ok (.int (if j < i then j else i))
  | _ => .bad
def nInt : List D → R D
  | [.int i] => .ok (.int i)
  | [.bl k] => .ok (.int (if k then 1 else 0))
  | _ => .bad
def nOrd : List D → R D
  | [.str s] => if s.length = 1 then .ok (.int (s.cps.getD 0 0 : Nat)) else .bad
  | _ => .bad
def nChr : List D → R D
  | [.int i] => if 0 ≤ i ∧ i ≤ 1114111 then .ok (.str ⟨#[i.toNat]⟩) else .bad
  | _ => .bad
def nList (gr : Bool) : List D → R D
  | [.lst _ xs] => if ck gr xs = true then .ok (.lst (some 0) xs) else .bad
  | [.tup xs] => if ck gr xs = true then .ok (.lst (some 0) xs) else .bad
  | _ => .bad
def nTuple (gr : Bool) : List D → R D
  | [.lst _ xs] => if ck gr xs = true then .ok (.tup xs) else .bad
  | [.tup xs] => if gr = true then .ok (.tup xs) else .bad
  | _ => .bad
def dBools : List D → Option (List Bool)
  | [] => some []
  | .bl b :: r => (dBools r).map (b :: ·)
  | _ => none
def dInts : List D → Option (List Int)
  | [] => some []
  | .int b :: r => (dInts r).map (b :: ·)
  | _ => none
def nAny : List D → R D
  | [.lst _ xs] => match dBools xs with
    | some bs => .ok (.bl (bs.any id))
    | none => .bad
  | _ => .bad
def nAll : List D → R D
  | [.lst _ xs] => match dBools xs with
    | some bs => .ok (.bl (bs.all id))
    | none => .bad
  | _ => .bad
def nSum : List D → R D
  | [.lst _ xs] => match dInts xs with
    | some ns => .ok (.int ns.sum)
    | none => .bad
  | _ => .bad
/-- a type's name; whether it is one of T's -/
def D.tyN : D → Option String
  | .non => some "NoneType"
  | .bl _ => some "bool"
  | .int _ => some "int"
  | .str _ => some "str"
  | .lst _ _ => some "list"
  | .tup _ => some "tuple"
  | .dic _ _ _ => some "dict"
  | .dct _ _ _ => some "dict"
  | _ => none
def isTy (t T : String) : Bool := t == T || (t == "bool" && T == "int")
def knownTy (T : String) : Bool := T == "int" || T == "bool" || T == "str" || T == "list" || T == "tuple" || T == "dict"
def nIsi : List D → R D
  | [d, .ty T] => match d.tyN with
    | some t => if knownTy T = true then .ok (.bl (isTy t T)) else .bad
    | none => .bad
  | _ => .bad
section
variable {g : G}
theorem dBools_rp {F : Hp} : ∀ {vs : List V} {xs : List D} {bs : List Bool}, RpL g F vs xs → dBools xs = some bs → vs = bs.map V.bl
  | _, _, _, .nil, h => by cases h; rfl
  | _, _, _, .cons r t, h => by
    cases r with
    | bl b =>
      unfold dBools at h
      obtain ⟨b', h1, h2⟩ := Option.map_eq_some_iff.mp h
      subst h2
      rw [List.map_cons, dBools_rp t h1]
    | _ => cases h
theorem dInts_rp {F : Hp} : ∀ {vs : List V} {xs : List D} {bs : List Int}, RpL g F vs xs → dInts xs = some bs → vs = bs.map V.int
  | _, _, _, .nil, h => by cases h; rfl
  | _, _, _, .cons r t, h => by
    cases r with
    | int b =>
      unfold dInts at h
      obtain ⟨b', h1, h2⟩ := Option.map_eq_some_iff.mp h
      subst h2
      rw [List.map_cons, dInts_rp t h1]
    | _ => cases h
def rLenA (K : PySem.W.Frag) : List V → Hp → VK → Prop := fun xs H Q => (∃ x n, xs = [x] ∧ LenV K x H n ∧ Q (.int n) H) ∨ ∃ a kvs, xs = [V.ref a] ∧ H a = some (.dK kvs) ∧ Q (.int kvs.length) H
theorem call_lenA : CallR X (.builtin "len") (rLenA X.K) := call_len.or call_lenD
theorem cd_len : CallD true gr g (rLenA g.K) nLen := fun F H vs ds z Q s ha e q => by
  unfold nLen at e
  split at e
  · cases e
    obtain ⟨v, rfl, o⟩ := ha.one
    obtain ⟨a, us, rfl, h1, h2, _⟩ := o.lst s
    exact .inl ⟨_, _, rfl, .inl ⟨us, h1, h2.symm⟩, out_sc s (.int _) rfl q⟩
  · cases e
    obtain ⟨v, rfl, o⟩ := ha.one
    obtain ⟨a, us, rfl, h1, h2, _⟩ := o.tup s
    exact .inl ⟨_, _, rfl, .inr ⟨us, h1, h2.symm⟩, out_sc s (.int _) rfl q⟩
  · obtain ⟨c, rfl⟩ := if_ok_inv e
    obtain ⟨v, rfl, o⟩ := ha.one
    exact .inl ⟨_, _, rfl, by rw [o.str]; exact ⟨by rw [sizeLine_eq]; exact c, rfl⟩, out_sc s (.int _) rfl q⟩
  · cases e
    obtain ⟨v, rfl, o⟩ := ha.one
    cases o.rp s with
    | dic h1 h2 r =>
      subst h2
      rw [List.length_map] at q
      exact .inr ⟨_, _, rfl, h1, out_sc s (.int _) rfl q⟩
  · cases e
theorem nx_len : ∀ ds w, nLen ds ≠ .ex w := by
  intro ds w e; unfold nLen at e; split at e
  all_goals first | (cases e; done) | (split at e <;> cases e)
theorem cd_abs : CallD true gr g (fun xs H Q => ∃ i, xs = [.int i] ∧ Q (.int (if i < 0 then -i else i)) H) nAbs := fun F H vs ds z Q s ha e q => by
  unfold nAbs at e
  split at e
  · cases e
    obtain ⟨v, rfl, o⟩ := ha.one
    exact ⟨_, by rw [o.int], out_sc s (.int _) rfl q⟩
  · cases e
theorem nx_abs : ∀ ds w, nAbs ds ≠ .ex w := by intro ds w e; unfold nAbs at e; split at e <;> cases e
theorem cd_max2 : CallD true gr g (fun xs H Q => ∃ i j, xs = [.int i, .int j] ∧ Q (.int (if j > i then j else i)) H) nMax2 := fun F H vs ds z Q s ha e q => by
  unfold nMax2 at e
  split at e
  · cases e
    obtain ⟨v, u, rfl, o, o2⟩ := ha.two
    exact ⟨_, _, by rw [o.int, o2.int], out_sc s (.int _) rfl q⟩
  · cases e
theorem nx_max2 : ∀ ds w, nMax2 ds ≠ .ex w := by intro ds w e; unfold nMax2 at e; split at e <;> cases e
theorem cd_min2 : CallD true gr g (fun xs H Q => ∃ i j, xs = [.int i, .int j] ∧ Q (.int (if j < i then j else i)) H) nMin2 := fun F H vs ds z Q s ha e q => by
  unfold nMin2 at e
  split at e
  · cases e
    obtain ⟨v, u, rfl, o, o2⟩ := ha.two
    exact ⟨_, _, by rw [o.int, o2.int], out_sc s (.int _) rfl q⟩
  · cases e
theorem nx_min2 : ∀ ds w, nMin2 ds ≠ .ex w := by intro ds w e; unfold nMin2 at e; split at e <;> cases e
theorem cd_int : CallD true gr g (fun xs H Q => (∃ i, xs = [.int i] ∧ Q (.int i) H) ∨ ∃ k, xs = [.bl k] ∧ Q (.int (if k then 1 else 0)) H) nInt := fun F H vs ds z Q s ha e q => by
  unfold nInt at e
  split at e
  · cases e
    obtain ⟨v, rfl, o⟩ := ha.one
    exact .inl ⟨_, by rw [o.int], out_sc s (.int _) rfl q⟩
  · cases e
    obtain ⟨v, rfl, o⟩ := ha.one
    exact .inr ⟨_, by rw [o.bl], out_sc s (.int _) rfl q⟩
  · cases e
theorem nx_int : ∀ ds w, nInt ds ≠ .ex w := by intro ds w e; unfold nInt at e; split at e <;> cases e
theorem cd_ord : CallD true gr g (fun xs H Q => ∃ x, xs = [.str x] ∧ x.length = 1 ∧ Q (.int (x.cps.getD 0 0 : Nat)) H) nOrd := fun F H vs ds z Q s ha e q => by
  unfold nOrd at e
  split at e
  · obtain ⟨c, rfl⟩ := if_ok_inv e
    obtain ⟨v, rfl, o⟩ := ha.one
    exact ⟨_, by rw [o.str], c, out_sc s (.int _) rfl q⟩
  · cases e
theorem nx_ord : ∀ ds w, nOrd ds ≠ .ex w := by intro ds w e; unfold nOrd at e; split at e; split at e <;> cases e; cases e
theorem cd_chr : CallD true gr g (fun xs H Q => ∃ i, xs = [.int i] ∧ 0 ≤ i ∧ i ≤ 1114111 ∧ Q (.str ⟨#[i.toNat]⟩) H) nChr := fun F H vs ds z Q s ha e q => by
  unfold nChr at e
  split at e
  · obtain ⟨c, rfl⟩ := if_ok_inv e
    obtain ⟨v, rfl, o⟩ := ha.one
    exact ⟨_, by rw [o.int], c.1, c.2, out_sc s (.str _) rfl q⟩
  · cases e
theorem nx_chr : ∀ ds w, nChr ds ≠ .ex w := by intro ds w e; unfold nChr at e; split at e; split at e <;> cases e; cases e
theorem cd_list : CallD true gr g (fun xs H Q => ∃ p ys, xs = [.ref p] ∧ (SqL g.K H p ys ∨ SqT g.K H p ys) ∧ ∀ l, H l = none → Q (.ref l) (upd H l (.lst ys))) (nList gr) := fun F H vs ds z Q s ha e q => by
  unfold nList at e
  split at e
  · obtain ⟨c, rfl⟩ := if_ok_inv e
    obtain ⟨v, rfl, o⟩ := ha.one
    obtain ⟨a, us, rfl, h1, _, _, k⟩ := o.lst s
    obtain ⟨r, f⟩ := k c
    exact ⟨a, us, rfl, .inl h1, fun l n => out_lst s n r f q⟩
  · obtain ⟨c, rfl⟩ := if_ok_inv e
    obtain ⟨v, rfl, o⟩ := ha.one
    obtain ⟨a, us, rfl, h1, _, _, k⟩ := o.tup s
    obtain ⟨r, f⟩ := k c
    exact ⟨a, us, rfl, .inr h1, fun l n => out_lst s n r f q⟩
  · cases e
theorem nx_list : ∀ ds w, nList gr ds ≠ .ex w := by
  intro ds w e; unfold nList at e; split at e
  all_goals first | (cases e; done) | (split at e <;> cases e)
theorem cd_tuple : CallD true gr g (fun xs H Q => ∃ p ys, xs = [.ref p] ∧ ((SqL g.K H p ys ∧ ∀ l, H l = none → Q (.ref l) (upd H l (.tup ys))) ∨ (SqT g.K H p ys ∧ Q (.ref p) H))) (nTuple gr) := fun F H vs ds z Q s ha e q => by
  unfold nTuple at e
  split at e
  · obtain ⟨c, rfl⟩ := if_ok_inv e
    obtain ⟨v, rfl, o⟩ := ha.one
    obtain ⟨a, us, rfl, h1, _, _, k⟩ := o.lst s
    obtain ⟨r, f⟩ := k c
    exact ⟨a, us, rfl, .inl ⟨h1, fun l n => out_tup s n r q⟩⟩
  · obtain ⟨c, rfl⟩ := if_ok_inv e
    subst c
    obtain ⟨v, rfl, o⟩ := ha.one
    cases (show Rp g F v _ from o) with
    | tup t r => exact ⟨_, _, rfl, .inr ⟨same_sqT s t.t, q _ H F (StepP.refl s) ⟨[], .frz rfl (.tup t r), fun _ z => nomatch z⟩⟩⟩
  · cases e
theorem nx_tuple : ∀ ds w, nTuple gr ds ≠ .ex w := by
  intro ds w e; unfold nTuple at e; split at e
  all_goals first | (cases e; done) | (split at e <;> cases e)
theorem cd_any : CallD true gr g (rAny g.K) nAny := fun F H vs ds z Q s ha e q => by
  unfold nAny at e
  split at e
  · split at e
    · rename_i bs hb
      cases e
      obtain ⟨v, rfl, o⟩ := ha.one
      obtain ⟨a, us, rfl, h1, _, r, _⟩ := o.lst s
      rw [dBools_rp r hb] at h1
      exact ⟨a, bs, rfl, h1, out_sc s (.bl _) rfl q⟩
    · cases e
  · cases e
theorem nx_any : ∀ ds w, nAny ds ≠ .ex w := by intro ds w e; unfold nAny at e; split at e; split at e <;> cases e; cases e
theorem cd_all : CallD true gr g (rAll g.K) nAll := fun F H vs ds z Q s ha e q => by
  unfold nAll at e
  split at e
  · split at e
    · rename_i bs hb
      cases e
      obtain ⟨v, rfl, o⟩ := ha.one
      obtain ⟨a, us, rfl, h1, _, r, _⟩ := o.lst s
      rw [dBools_rp r hb] at h1
      exact ⟨a, bs, rfl, h1, out_sc s (.bl _) rfl q⟩
    · cases e
  · cases e
theorem nx_all : ∀ ds w, nAll ds ≠ .ex w := by intro ds w e; unfold nAll at e; split at e; split at e <;> cases e; cases e
theorem cd_sum : CallD true gr g (rSum g.K) nSum := fun F H vs ds z Q s ha e q => by
  unfold nSum at e
  split at e
  · split at e
    · rename_i bs hb
      cases e
      obtain ⟨v, rfl, o⟩ := ha.one
      obtain ⟨a, us, rfl, h1, _, r, _⟩ := o.lst s
      rw [dInts_rp r hb] at h1
      exact ⟨a, bs, rfl, h1, out_sc s (.int _) rfl q⟩
    · cases e
  · cases e
theorem nx_sum : ∀ ds w, nSum ds ≠ .ex w := by intro ds w e; unfold nSum at e; split at e; split at e <;> cases e; cases e
theorem tyN_ok {H : Hp} {v : V} {d : D} {t : String} (r : Rp g H v d) (h : d.tyN = some t) : TyX g.K H v (.type t) := by
  cases r with
  | non => cases h; exact .base .non
  | bl b => cases h; exact .base (.bl b)
  | int b => cases h; exact .base (.int b)
  | str b => cases h; exact .base (.str b)
  | tup hs0 r =>
    have hs := hs0.t
    cases h
    rcases hs with (hs | ⟨o, hs⟩) | ⟨o, its, n, hs, hc, _⟩
    · exact .base (.tup hs)
    · exact .fTuple hs
    · exact .kTuple hs hc
  | lst hs r =>
    cases h
    rcases hs with (hs | ⟨o, hs⟩) | ⟨o, its, n, hs, hc, _⟩
    · exact .base (.lst hs)
    · exact .base (.frz hs)
    · exact .kList hs hc
  | dic h1 h2 r => cases h; exact .base (.dK h1)
  | dct h1 h2 r => cases h; exact .base (.dT h1)
  | _ => cases h
theorem kit_known {d : D} {t T : String} (h : d.tyN = some t) (k : knownTy T = true) : kitB t T = some (isTy t T) := by
  have hT : T = "int" ∨ T = "bool" ∨ T = "str" ∨ T = "list" ∨ T = "tuple" ∨ T = "dict" := by
    unfold knownTy at k
    simpa [or_assoc] using k
  have ht : t = "NoneType" ∨ t = "bool" ∨ t = "int" ∨ t = "str" ∨ t = "list" ∨ t = "tuple" ∨ t = "dict" := by
    cases d <;> first | (cases h; simp; done) | (cases h)
  rcases hT with rfl | rfl | rfl | rfl | rfl | rfl <;> rcases ht with rfl | rfl | rfl | rfl | rfl | rfl | rfl <;> decide +kernel
theorem cd_isi : CallD true gr g (rIsi g.K) nIsi := fun F H vs ds z Q s ha e q => by
  unfold nIsi at e
  split at e
  · rename_i d T
    split at e
    · rename_i t ht
      obtain ⟨c, rfl⟩ := if_ok_inv e
      obtain ⟨v, u, rfl, o, o2⟩ := ha.two
      cases o2.rp s with
      | ty n => exact ⟨v, _, _, _, _, rfl, .ty _, tyN_ok (o.rp s) ht, kit_ty (kit_known ht c), out_sc s (.bl _) rfl q⟩
    · cases e
  · cases e
theorem nx_isi : ∀ ds w, nIsi ds ≠ .ex w := by
  intro ds w e; unfold nIsi at e; split at e
  · split at e
    · split at e <;> cases e
    · cases e
  · cases e
end
/-- a built-in type's name -/
theorem de_ty {x : Str} {n : String} (hg : Gl X x) (hm : X.mg x = none) (hv : bootBuiltins x = some (.type n)) (hn : x ≠ "__name__" := by decide) (hd : (x == ("__debug__" : Str)) = false := by decide) : DE true X W (.Name x pos) (dC (.ty n)) :=
  de_c (pe_bltn (v := .ty n) hg hm hv rfl hn hd) rfl fun _ => .ty n
end
end Dt

set_option Elab.async false
set_option linter.all false
set_option maxRecDepth 100000
set_option maxHeartbeats 2000000
/-! Dat: statements. -/
namespace Dt
open PySem PySem.Spec PyProof.Rows L2

/-- what a statement comes to -/
inductive Out where
  | nx (ρ : Env) | rt (d : D) (ρ : Env) | bk (ρ : Env) | ct (ρ : Env) | xc (x : XD) (ρ : Env) | bad
abbrev DTS := Env → Out
def Out.andThen (o : Out) (t : DTS) : Out := match o with
  | .nx ρ => t ρ
  | o => o
@[simp] theorem Out.then_nx (ρ : Env) (t : DTS) : (Out.nx ρ).andThen t = t ρ := rfl
@[simp] theorem Out.then_rt (d : D) (ρ : Env) (t : DTS) : (Out.rt d ρ).andThen t = .rt d ρ := rfl
@[simp] theorem Out.then_bk (ρ : Env) (t : DTS) : (Out.bk ρ).andThen t = .bk ρ := rfl
@[simp] theorem Out.then_ct (ρ : Env) (t : DTS) : (Out.ct ρ).andThen t = .ct ρ := rfl
@[simp] theorem Out.then_xc (x : XD) (ρ : Env) (t : DTS) : (Out.xc x ρ).andThen t = .xc x ρ := rfl
@[simp] theorem Out.then_bad (t : DTS) : Out.bad.andThen t = .bad := rfl

def outS (g : G) (W : Wx) (τ : List V) (B F : Hp) (E : Ends) : Out → Prop
  | .nx ρ => ∀ σ H' F', StepI B F F' H' → EnvR g τ B F' H' σ ρ → E.nx σ H'
  | .rt d ρ => ∀ v σ H' F', StepI B F F' H' → EnvR g τ B F' H' (some v :: σ) (some d :: ρ) → E.rt v H'
  | .bk ρ => ∀ σ H' F', StepI B F F' H' → EnvR g τ B F' H' σ ρ → E.bk σ H'
  | .ct ρ => ∀ σ H' F', StepI B F F' H' → EnvR g τ B F' H' σ ρ → E.ct σ H'
  | .xc x ρ => ∀ cls dd σ H H' F', StepI B F F' H' → EnvR g τ B F' H' σ ρ → ResX g H F' H' cls dd x → W.w cls dd σ H'
  | .bad => False
def liftS (g : G) (W : Wx) (t : DTS) : TS := fun E σ H => ∃ τ B F ρ, EnvR g τ B F H σ ρ ∧ outS g W τ B F E (t ρ)
abbrev DS (X : Cx) (W : Wx) (st : Stmt) (t : DTS) : Prop := PS X st (liftS (gx X W) W t)
abbrev DSs (X : Cx) (W : Wx) (st : List Stmt) (t : DTS) : Prop := PSs X st (liftS (gx X W) W t)

section
variable {g : G} {W : Wx} {τ : List V} {B F F' H H' : Hp} {σ : L2.St} {ρ : Env}
theorem outS.step {E : Ends} {o : Out} (s : StepI B F F' H') (h : outS g W τ B F E o) : outS g W τ B F' E o := by
  cases o with
  | nx ρ => exact fun σ H2 F2 s2 e => h σ H2 F2 (s.trans s2) e
  | rt d ρ => exact fun v σ H2 F2 s2 e => h v σ H2 F2 (s.trans s2) e
  | bk ρ => exact fun σ H2 F2 s2 e => h σ H2 F2 (s.trans s2) e
  | ct ρ => exact fun σ H2 F2 s2 e => h σ H2 F2 (s.trans s2) e
  | xc x ρ => exact fun cls dd σ H1 H2 F2 s2 e r => h cls dd σ H1 H2 F2 (s.trans s2) e r
  | bad => exact h
/-- other ends for what goes on -/
theorem outS.nxs {E E' : Ends} {o : Out} {t : DTS} (h : outS g W τ B F E (o.andThen t)) (rt : E'.rt = E.rt) (bk : E'.bk = E.bk) (ct : E'.ct = E.ct)
    (nx : ∀ ρ σ H' F', StepI B F F' H' → EnvR g τ B F' H' σ ρ → outS g W τ B F' E (t ρ) → E'.nx σ H') : outS g W τ B F E' o := by
  cases o with
  | nx ρ => exact fun σ H2 F2 s2 e => nx ρ σ H2 F2 s2 e (outS.step s2 h)
  | rt d ρ => intro v σ H2 F2 s2 e; rw [rt]; exact h v σ H2 F2 s2 e
  | bk ρ => intro σ H2 F2 s2 e; rw [bk]; exact h σ H2 F2 s2 e
  | ct ρ => intro σ H2 F2 s2 e; rw [ct]; exact h σ H2 F2 s2 e
  | xc x ρ => exact h
  | bad => exact h
theorem Own.un_eq {v : V} {d : D} {A : List Addr} (h : Own g F H v d A) : d.un = d := by
  cases h with
  | frz r _ => exact tag_rf r 0
  | lst => rfl
  | obj => rfl
  | dic => rfl
  | dct => rfl
theorem Own.tg_eq {v : V} {d : D} {A : List Addr} (h : Own g F H v d A) : d.tg = 0 := by rw [← h.un_eq]; exact D.tg_un d
/-- a result goes into slot i -/
theorem EnvR.setRes (E : EnvR g τ B F H σ ρ) {F2 H2 : Hp} {v : V} {d : D} (s : StepP F H F2 H2) (r : ResG true g F H F2 H2 v d) (i : Nat) : EnvR g τ B F2 H2 (σ.set i (some v)) (ρ.set i (some d)) := by
  have E2 := E.stepP s
  obtain ⟨A, o, b⟩ := E.own
  obtain ⟨A1, o1, f1⟩ := r
  have o2 := o.stepP s
  obtain ⟨A', o3, h3⟩ := o2.put (i := i) (v := v) (d := d) (A1 := A1) (by rw [o1.un_eq]; exact o1) (fun k hk => by rw [o1.tg_eq] at hk; cases hk) fun p hp ha => by
    obtain ⟨_, u, hu⟩ := o.mem p ha
    rw [f1 p hp] at hu; cases hu
  exact ⟨E2.bh, E2.fh, A', o3, fun p hp => (h3 p hp).elim (fun q => E.bh.free (f1 p q)) (b p)⟩
/-- a result goes ahead -/
theorem EnvR.consRes (E : EnvR g τ B F H σ ρ) {F2 H2 : Hp} {v : V} {d : D} (s : StepP F H F2 H2) (r : ResG true g F H F2 H2 v d) : EnvR g τ B F2 H2 (some v :: σ) (some d :: ρ) := by
  have E2 := E.stepP s
  obtain ⟨A, o, b⟩ := E.own
  obtain ⟨A1, o1, f1⟩ := r
  have o2 := o.stepP s
  refine ⟨E2.bh, E2.fh, A1 ++ A, .cons (by rw [o1.un_eq]; exact o1) (fun k hk => by rw [o1.tg_eq] at hk; cases hk) o2 fun p hp ha => ?_, fun p hp => ?_⟩
  · obtain ⟨_, u, hu⟩ := o.mem p ha
    rw [f1 p hp] at hu; cases hu
  · rcases List.mem_append.mp hp with q | q
    · exact E.bh.free (f1 p q)
    · exact b p q
theorem EnvR.forget (E : EnvR g τ B F H σ ρ) (i : Nat) : EnvR g τ B F H σ (ρ.set i none) := by
  obtain ⟨A, o, b⟩ := E.own
  have e : σ.set i (σ[i]?.getD none) = σ := by
    by_cases h : i < σ.length
    · rw [List.getElem?_eq_getElem h]; simp
    · rw [List.set_eq_of_length_le (by omega)]
  obtain ⟨A', o', h'⟩ := o.gone i (σ[i]?.getD none)
  rw [e] at o'
  exact ⟨E.bh, E.fh, A', o', fun p hp => b p (h' p hp)⟩
/-- a slot of one's own is frozen -/
theorem OwnE.frzAt {A : List Addr} (h : OwnE g τ F H σ ρ A) (s : Same F H) : ∀ {i : Nat} {d : D}, ρ[i]? = some (some d) → d.tg = 0 → ∃ F' A', Same F F' ∧ Same F' H ∧ (∀ q, q ∉ A → F' q = F q) ∧ OwnE g τ F' H σ (ρ.set i (some d.frz)) A' ∧ ∀ p, p ∈ A' → p ∈ A := by
  induction h with
  | nil => intro i d e; simp at e
  | @skip x σ ρ A hr ih =>
    intro i d e t
    cases i with
    | zero => simp at e
    | succ i =>
      obtain ⟨F', A', h1, h2, h3, h4, h5⟩ := ih (i := i) (by simpa using e) t
      exact ⟨F', A', h1, h2, h3, .skip h4, h5⟩
  | @cons w e0 σ ρ A B ho ht hr hd ih =>
    intro i d e t
    cases i with
    | zero =>
      simp at e
      subst e
      refine ⟨frzH F H A, B, frzH_same s fun p hp => (ho.mem p hp).1, frzH_le s, fun q hq => frzH_out fun z => hq (List.mem_append_left _ z), ?_, fun p hp => List.mem_append_right _ hp⟩
      have r := (ho.freeze s).ofTag.frz
      refine .cons (A := []) (B := B) (.frz (by rw [D.un, tag_rf (D.rf_frz _)]; exact D.rf_frz _) (by rw [D.un, tag_rf (D.rf_frz _)]; exact r)) (fun k hk => ?_) (hr.keep (frzH_same s fun p hp => (ho.mem p hp).1) fun p hp => ⟨?_, rfl⟩) fun _ z => nomatch z
      · have : (D.frz e0).tg = 0 := by cases e0 <;> rfl
        rw [this] at hk; cases hk
      · rw [frzH_out fun z => hd p z hp]; exact (hr.mem p hp).1
    | succ i =>
      obtain ⟨F', A', h1, h2, h3, h4, h5⟩ := ih (i := i) (by simpa using e) t
      refine ⟨F', A ++ A', h1, h2, fun q hq => h3 q fun z => hq (List.mem_append_right _ z), .cons (ho.keep h1 fun p hp => ⟨?_, rfl⟩) ht h4 fun p hp hb => hd p hp (h5 p hb), fun p hp => ?_⟩
      · rw [h3 p (hd p hp)]; exact (ho.mem p hp).1
      · rcases List.mem_append.mp hp with q | q
        · exact List.mem_append_left _ q
        · exact List.mem_append_right _ (h5 p q)
theorem EnvR.frzAt (E : EnvR g τ B F H σ ρ) {i : Nat} {d : D} (e : ρ[i]? = some (some d)) (t : d.tg = 0) : ∃ F', StepI B F F' H ∧ EnvR g τ B F' H σ (ρ.set i (some d.frz)) := by
  obtain ⟨A, o, b⟩ := E.own
  obtain ⟨F', A', h1, h2, h3, h4, h5⟩ := o.frzAt E.fh e t
  refine ⟨F', ⟨h1, h2, E.bh, fun q u hq => h3 q fun z => ?_⟩, E.bh, h2, A', h4, fun p hp => b p (h5 p hp)⟩
  rw [b q z] at hq; cases hq
end

section
variable {X : Cx} {W : Wx} {gr g1 g2 : Bool} {a b e : Expr} {pos : Pos} {fa fb : Env → R D} {st : Stmt} {rest : List Stmt} {t u : DTS}

def dNx : DTS := fun ρ => .nx ρ
def dSeq (t u : DTS) : DTS := fun ρ => (t ρ).andThen u
theorem dss_nil : DSs X W [] dNx := pss_imp pss_nil fun E σ H => fun ⟨τ, B, F, ρ, R, q⟩ => q σ H F (StepI.refl R.fh R.bh) R
theorem dss_cons (h1 : DS X W st t) (h2 : DSs X W rest u) : DSs X W (st :: rest) (dSeq t u) := pss_imp (pss_cons h1 h2) fun E σ H => fun ⟨τ, B, F, ρ, R, q⟩ =>
  ⟨τ, B, F, ρ, R, outS.nxs (E' := { E with nx := _ }) q rfl rfl rfl fun ρ' σ' H' F' s e o => ⟨τ, B, F', ρ', e, o⟩⟩
theorem dss_one (h1 : DS X W st t) : DSs X W [st] t := pss_one h1
theorem ds_pass : DS X W (.Pass pos) dNx := ps_imp ps_pass fun E σ H => fun ⟨τ, B, F, ρ, R, q⟩ => q σ H F (StepI.refl R.fh R.bh) R
theorem ds_doc {x j pos'} : DS X W (.Expr (.Constant (.str x) j pos) pos') dNx := ps_imp ps_doc fun E σ H => fun ⟨τ, B, F, ρ, R, q⟩ => q σ H F (StepI.refl R.fh R.bh) R
def dBk : DTS := fun ρ => .bk ρ
def dCt : DTS := fun ρ => .ct ρ
theorem ds_break : DS X W (.Break pos) dBk := ps_imp ps_break fun E σ H => fun ⟨τ, B, F, ρ, R, q⟩ => q σ H F (StepI.refl R.fh R.bh) R
theorem ds_continue : DS X W (.Continue pos) dCt := ps_imp ps_continue fun E σ H => fun ⟨τ, B, F, ρ, R, q⟩ => q σ H F (StepI.refl R.fh R.bh) R
/-- an expression, then a statement's end -/
def Out.of (r : R D) (ρ : Env) (k : D → Out) : Out := match r with
  | .ok d => k d
  | .ex x => .xc x ρ
  | .bad => .bad
@[simp] theorem Out.of_ok (d : D) (ρ : Env) (k : D → Out) : Out.of (.ok d) ρ k = k d := rfl
@[simp] theorem Out.of_ex (x : XD) (ρ : Env) (k : D → Out) : Out.of (.ex x) ρ k = .xc x ρ := rfl
@[simp] theorem Out.of_bad (ρ : Env) (k : D → Out) : Out.of .bad ρ k = .bad := rfl
theorem lift_of {g : G} {f : Env → R D} {k : D → Out} {ρ : Env} {τ : List V} {B F H : Hp} {σ : L2.St} {E : Ends} {Q : VK} (R : EnvR g τ B F H σ ρ) (q : outS g W τ B F E (Out.of (f ρ) ρ k))
    (go : ∀ d v H' F', f ρ = .ok d → StepP F H F' H' → ResG gr g F H F' H' v d → outS g W τ B F' E (k d) → Q v H') : liftE gr g W f σ H Q := by
  refine ⟨τ, B, F, ρ, R, ?_⟩
  cases hf : f ρ with
  | ok d =>
    rw [hf] at q
    exact fun v H' F' s r => go d v H' F' hf s r (outS.step (s.toI R.bh) q)
  | ex x =>
    rw [hf] at q
    exact fun cls dd H' F' s r => q cls dd σ H H' F' (s.toI R.bh) (R.stepP s) r
  | bad => rw [hf] at q; exact q
theorem liftT_of {g : G} {f : Env → R Bool} {t : Bool → Out} {ρ : Env} {τ : List V} {B F H : Hp} {σ : L2.St} {E : Ends} {Q : Bool → Hp → Prop} (R : EnvR g τ B F H σ ρ)
    (q : outS g W τ B F E (match f ρ with | .ok b => t b | .ex x => .xc x ρ | .bad => .bad)) (go : ∀ b H' F', f ρ = .ok b → StepP F H F' H' → outS g W τ B F' E (t b) → Q b H') : liftT g W f σ H Q := by
  refine ⟨τ, B, F, ρ, R, ?_⟩
  cases hf : f ρ with
  | ok d =>
    rw [hf] at q
    exact fun H' F' s => go d H' F' hf s (outS.step (s.toI R.bh) q)
  | ex x =>
    rw [hf] at q
    exact fun cls dd H' F' s r => q cls dd σ H H' F' (s.toI R.bh) (R.stepP s) r
  | bad => rw [hf] at q; exact q

def dRet (fa : Env → R D) : DTS := fun ρ => Out.of (fa ρ) ρ fun d => .rt d ρ
theorem ds_ret (ha : DE true X W a fa) : DS X W (.Return (some a) pos) (dRet fa) := ps_imp (ps_ret ha) fun E σ H => fun ⟨τ, B, F, ρ, R, q⟩ =>
  lift_of R q fun d v H' F' _ s r o => o v σ H' F' (StepI.refl s.fh (R.bh.trans s.hh)) (R.consRes s r)
def dRetN : DTS := fun ρ => .rt .non ρ
theorem ds_retN : DS X W (.Return none pos) dRetN := ps_imp ps_retN fun E σ H => fun ⟨τ, B, F, ρ, R, q⟩ =>
  q .non σ H F (StepI.refl R.fh R.bh) (R.consRes (StepP.refl R.fh) ⟨[], .frz rfl .non, fun _ z => nomatch z⟩)
/-- return x: what stands at x is handed out -/
def dRetV (i : Nat) : DTS := fun ρ => match ρ[i]? with
  | some (some d) => if d.tg = 0 then .rt d (ρ.set i none) else .bad
  | _ => .bad
theorem ds_retV {i : Nat} (h : PE X a (tVar i)) : DS X W (.Return (some a) pos) (dRetV i) := ps_imp (ps_ret h) fun E σ H => fun ⟨τ, B, F, ρ, R, q⟩ => by
  unfold dRetV at q
  split at q
  · rename_i d hd
    split at q
    · rename_i ht
      obtain ⟨A, o, b⟩ := R.own
      obtain ⟨v, A', h1, h2, h3, h4⟩ := o.get hd
      refine ⟨v, h1, q v σ H F (StepI.refl R.fh R.bh) ?_⟩
      have key : ∀ {σ : L2.St} {ρ : Env} {A : List Addr}, OwnE (gx X W) τ F H σ ρ A → ∀ (i : Nat), ρ[i]? = some (some d) → σ[i]? = some (some v) → ∃ A1 A2, Own (gx X W) F H v d.un A1 ∧ OwnE (gx X W) τ F H σ (ρ.set i none) A2 ∧ (∀ p, p ∈ A1 → p ∉ A2) ∧ (∀ p, p ∈ A1 → p ∈ A) ∧ ∀ p, p ∈ A2 → p ∈ A := by
        intro σ ρ A o
        induction o with
        | nil => intro i e _; simp at e
        | @skip x σ ρ A hr ih =>
          intro i e1 e2
          cases i with
          | zero => simp at e1
          | succ i =>
            obtain ⟨A1, A2, k1, k2, k3, k4, k5⟩ := ih i (by simpa using e1) (by simpa using e2)
            exact ⟨A1, A2, k1, .skip k2, k3, k4, k5⟩
        | @cons w e0 σ ρ A B ho ht2 hr hdj ih =>
          intro i e1 e2
          cases i with
          | zero =>
            simp at e1 e2
            subst e1 e2
            exact ⟨A, B, ho, .skip hr, hdj, fun p hp => List.mem_append_left _ hp, fun p hp => List.mem_append_right _ hp⟩
          | succ i =>
            obtain ⟨A1, A2, k1, k2, k3, k4, k5⟩ := ih i (by simpa using e1) (by simpa using e2)
            refine ⟨A1, A ++ A2, k1, .cons ho ht2 k2 fun p hp hb => hdj p hp (k5 p hb), fun p hp hb => ?_, fun p hp => List.mem_append_right _ (k4 p hp), fun p hp => ?_⟩
            · rcases List.mem_append.mp hb with z | z
              · exact hdj p z (k4 p hp)
              · exact k3 p hp z
            · rcases List.mem_append.mp hp with z | z
              · exact List.mem_append_left _ z
              · exact List.mem_append_right _ (k5 p z)
      obtain ⟨A1, A2, k1, k2, k3, k4, k5⟩ := key o i hd h1
      exact ⟨R.bh, R.fh, A1 ++ A2, .cons k1 (fun k hk => by rw [ht] at hk; cases hk) k2 k3, fun p hp => by
        rcases List.mem_append.mp hp with z | z
        · exact b p (k4 p z)
        · exact b p (k5 p z)⟩
    · exact q.elim
  · exact q.elim
/-- e, as a statement -/
def dDo (fa : Env → R D) : DTS := fun ρ => Out.of (fa ρ) ρ fun _ => .nx ρ
theorem ds_do (ha : DE gr X W a fa) (hs : swapsWith a none pos.line X.env = pure false := by rfl) : DS X W (.Expr a pos) (dDo fa) := ps_imp (ps_expr ha hs) fun E σ H => fun ⟨τ, B, F, ρ, R, q⟩ =>
  lift_of R q fun d v H' F' _ s r o => o σ H' F' (StepI.refl s.fh (R.bh.trans s.hh)) (R.stepP s)
/-- x = e -/
def dSet (i : Nat) (fa : Env → R D) : DTS := fun ρ => Out.of (fa ρ) ρ fun d => .nx (ρ.set i (some d))
theorem ds_set {i : Nat} (h : ∀ te, PE X a te → PS X st (tAsg te (gName i))) (ha : DE true X W a fa) : DS X W st (dSet i fa) := ps_imp (h _ ha) fun E σ H => fun ⟨τ, B, F, ρ, R, q⟩ =>
  lift_of R q fun d v H' F' _ s r o => o (σ.set i (some v)) H' F' (StepI.refl s.fh (R.bh.trans s.hh)) (R.setRes s r i)
/-- x = e, frozen at once -/
def dSetF (i : Nat) (fa : Env → R D) : DTS := fun ρ => Out.of (fa ρ) ρ fun d => .nx (ρ.set i (some d.fr))
theorem ResG.frz {g : G} {F F' H H' : Hp} {v : V} {d : D} (s : StepP F H F' H') (r : ResG true g F H F' H' v d) : ∃ F2, StepP F H F2 H' ∧ ResG true g F H F2 H' v d.fr := by
  obtain ⟨F2, s2, o⟩ := r.op s
  exact ⟨F2, s2, [], .frz (D.rf_fr d) o, fun _ z => nomatch z⟩
theorem ds_setF {i : Nat} (h : ∀ te, PE X a te → PS X st (tAsg te (gName i))) (ha : DE true X W a fa) : DS X W st (dSetF i fa) := ps_imp (h _ ha) fun E σ H => fun ⟨τ, B, F, ρ, R, q⟩ => by
  refine ⟨τ, B, F, ρ, R, ?_⟩
  unfold dSetF at q
  cases hf : fa ρ with
  | ok d =>
    rw [hf] at q
    intro v H' F' s r
    obtain ⟨F2, s2, r2⟩ := r.frz s
    exact q (σ.set i (some v)) H' F2 (s2.toI R.bh) (R.setRes s2 r2 i)
  | ex x => rw [hf] at q; exact fun cls dd H' F' s r => q cls dd σ H H' F' (s.toI R.bh) (R.stepP s) r
  | bad => rw [hf] at q; exact q
/-- ghost: slots frozen, forgotten ahead of what follows -/
def dFrz (i : Nat) (t : DTS) : DTS := fun ρ => match ρ[i]? with
  | some (some d) => if d.tg = 0 then t (ρ.set i (some d.frz)) else .bad
  | _ => .bad
theorem dss_frz {i : Nat} {sts : List Stmt} (h : DSs X W sts t) : DSs X W sts (dFrz i t) := pss_imp h fun E σ H => fun ⟨τ, B, F, ρ, R, q⟩ => by
  unfold dFrz at q
  split at q
  · rename_i d hd
    split at q
    · rename_i ht
      obtain ⟨F', s, R'⟩ := R.frzAt hd ht
      exact ⟨τ, B, F', _, R', outS.step s q⟩
    · exact q.elim
  · exact q.elim
def dDrop (is : List Nat) (t : DTS) : DTS := fun ρ => t (is.foldl (fun ρ i => ρ.set i none) ρ)
theorem EnvR.drops {g : G} {τ : List V} {B F H : Hp} {σ : L2.St} : ∀ (is : List Nat) {ρ : Env}, EnvR g τ B F H σ ρ → EnvR g τ B F H σ (is.foldl (fun ρ i => ρ.set i none) ρ)
  | [], _, R => R
  | i :: is, _, R => EnvR.drops is (R.forget i)
theorem dss_drop {is : List Nat} {sts : List Stmt} (h : DSs X W sts t) : DSs X W sts (dDrop is t) := pss_imp h fun E σ H => fun ⟨τ, B, F, ρ, R, q⟩ => ⟨τ, B, F, _, R.drops is, q⟩
/-- if -/
def dIf (fc : Env → R Bool) (t u : DTS) : DTS := fun ρ => match fc ρ with
  | .ok b => if b then t ρ else u ρ
  | .ex x => .xc x ρ
  | .bad => .bad
theorem ds_if {c : Expr} {ss us : List Stmt} {fc : Env → R Bool} (hc : DT X W c fc) (ht : DSs X W ss t) (hu : DSs X W us u) : DS X W (.If c ss us pos) (dIf fc t u) := ps_imp (ps_if hc ht hu) fun E σ H => fun ⟨τ, B, F, ρ, R, q⟩ => by
  refine liftT_of (t := fun b => if b then t ρ else u ρ) R q fun b H' F' _ s o => ?_
  cases b with
  | true => exact iteT ⟨τ, B, F', ρ, R.stepP s, o⟩
  | false => exact iteF ⟨τ, B, F', ρ, R.stepP s, o⟩

/-! ### while -/
/-- at most n turns -/
def dWhN (fc : Env → R Bool) (t : DTS) : Nat → Env → Out
  | 0, _ => .bad
  | n + 1, ρ => match fc ρ with
    | .ok true => match t ρ with
      | .nx ρ' => dWhN fc t n ρ'
      | .ct ρ' => dWhN fc t n ρ'
      | .bk ρ' => .nx ρ'
      | o => o
    | .ok false => .nx ρ
    | .ex x => .xc x ρ
    | .bad => .bad
theorem dWhN_mono {fc : Env → R Bool} {t : DTS} : ∀ (n : Nat) (ρ : Env) {o : Out}, dWhN fc t n ρ = o → o ≠ .bad → ∀ m, n ≤ m → dWhN fc t m ρ = o
  | 0, _, _, h, ne, _, _ => absurd h.symm ne
  | n + 1, ρ, o, h, ne, m, hm => by
    cases m with
    | zero => omega
    | succ m =>
      cases hc : fc ρ with
      | bad => simp only [dWhN, hc] at h ⊢; exact h
      | ex x => simp only [dWhN, hc] at h ⊢; exact h
      | ok b =>
        cases b with
        | false => simp only [dWhN, hc] at h ⊢; exact h
        | true =>
          cases ht : t ρ with
          | nx ρ' => simp only [dWhN, hc, ht] at h ⊢; exact dWhN_mono n _ h ne m (by omega)
          | ct ρ' => simp only [dWhN, hc, ht] at h ⊢; exact dWhN_mono n _ h ne m (by omega)
          | _ => simp only [dWhN, hc, ht] at h ⊢; exact h
open Classical in
noncomputable def dWhile (fc : Env → R Bool) (t : DTS) : DTS := fun ρ => if h : ∃ n, dWhN fc t n ρ ≠ .bad then dWhN fc t (Classical.choose h) ρ else .bad
theorem dWhile_of {fc : Env → R Bool} {t : DTS} {n : Nat} {ρ : Env} {o : Out} (h : dWhN fc t n ρ = o) (ne : o ≠ .bad) : dWhile fc t ρ = o := by
  unfold dWhile
  have ex : ∃ n, dWhN fc t n ρ ≠ .bad := ⟨n, by rw [h]; exact ne⟩
  rw [dif_pos ex]
  have h2 := Classical.choose_spec ex
  have a := dWhN_mono _ ρ rfl h2 (max n (Classical.choose ex)) (Nat.le_max_right _ _)
  have b := dWhN_mono n ρ h ne (max n (Classical.choose ex)) (Nat.le_max_left _ _)
  rw [← a, b]
theorem dWhile_ex {fc : Env → R Bool} {t : DTS} {ρ : Env} (ne : dWhile fc t ρ ≠ .bad) : ∃ n, dWhN fc t n ρ = dWhile fc t ρ := by
  by_cases ex : ∃ n, dWhN fc t n ρ ≠ .bad
  · exact ⟨Classical.choose ex, by unfold dWhile; rw [dif_pos ex]⟩
  · exact absurd (by unfold dWhile; rw [dif_neg ex]) ne
theorem dWhile_true {fc : Env → R Bool} {t : DTS} {ρ ρ' : Env} (h1 : fc ρ = .ok true) (h2 : t ρ = .nx ρ') : dWhile fc t ρ = dWhile fc t ρ' := by
  by_cases ne : dWhile fc t ρ' = .bad
  · rw [ne]
    refine Classical.byContradiction fun c => ?_
    obtain ⟨n, hn⟩ := dWhile_ex c
    cases n with
    | zero => exact c hn.symm
    | succ n =>
      unfold dWhN at hn
      rw [h1] at hn
      simp only [h2] at hn
      by_cases e : dWhN fc t n ρ' = .bad
      · rw [e] at hn; exact c hn.symm
      · exact e ((dWhile_of rfl e).symm.trans ne)
  · obtain ⟨n, hn⟩ := dWhile_ex ne
    refine dWhile_of (n := n + 1) ?_ ne
    show (match fc ρ with | .ok true => _ | .ok false => _ | .ex x => _ | .bad => _) = _
    rw [h1]
    simp only [h2]
    exact hn
theorem dWhile_out {fc : Env → R Bool} {t : DTS} {ρ : Env} {o : Out} (h1 : fc ρ = .ok true) (h2 : t ρ = o) (hx : o.andThen (fun _ => .bad) = o) (hb : ∀ ρ', o ≠ .bk ρ') (hc : ∀ ρ', o ≠ .ct ρ') (ne : o ≠ .bad) : dWhile fc t ρ = o := by
  refine dWhile_of (n := 1) ?_ ne
  unfold dWhN
  rw [h1]
  simp only [h2]
  cases o with
  | nx ρ => cases hx
  | bk ρ => exact absurd rfl (hb _)
  | ct ρ => exact absurd rfl (hc _)
  | _ => rfl
theorem dWhile_break {fc : Env → R Bool} {t : DTS} {ρ ρ' : Env} (h1 : fc ρ = .ok true) (h2 : t ρ = .bk ρ') : dWhile fc t ρ = .nx ρ' := by
  refine dWhile_of (n := 1) ?_ (fun e => nomatch e)
  unfold dWhN
  rw [h1]
  simp only [h2]
theorem dWhile_false {fc : Env → R Bool} {t : DTS} {ρ : Env} (h1 : fc ρ = .ok false) : dWhile fc t ρ = .nx ρ := by
  refine dWhile_of (n := 1) ?_ (fun e => nomatch e)
  unfold dWhN
  rw [h1]
theorem ds_while {c : Expr} {ss : List Stmt} {fc : Env → R Bool} (hp : PassesOwn (model X.prog X.w) X.A X.env X.xe) (hc : DT X W c fc) (ht : DSs X W ss t) : DS X W (.While c ss [] pos) (dWhile fc t) := ps_imp (ps_while hp hc ht) fun E σ H => fun ⟨τ, B, F, ρ, R, q⟩ => by
  have ne : dWhile fc t ρ ≠ .bad := fun e => by rw [e] at q; exact q
  obtain ⟨n, hn⟩ := dWhile_ex ne
  rw [← hn] at q
  refine ⟨fun m σ H => ∃ τ B F ρ, EnvR (gx X W) τ B F H σ ρ ∧ outS (gx X W) W τ B F E (dWhN fc t m ρ), ⟨n, τ, B, F, ρ, R, q⟩, fun m σ H hw => ?_⟩
  obtain ⟨τ, B, F, ρ, R, q⟩ := hw
  cases m with
  | zero => exact q.elim
  | succ m =>
    refine ⟨τ, B, F, ρ, R, ?_⟩
    unfold dWhN at q
    cases hf : fc ρ with
    | bad => rw [hf] at q; exact q
    | ex x => rw [hf] at q; exact fun cls dd H' F' s r => q cls dd σ H H' F' (s.toI R.bh) (R.stepP s) r
    | ok c =>
      rw [hf] at q
      intro H' F' s
      have R' := R.stepP s
      cases c with
      | false => exact iteF (q σ H' F' (s.toI R.bh) R')
      | true =>
        refine iteT ⟨fun σ' H' => ∃ τ B F ρ, EnvR (gx X W) τ B F H' σ' ρ ∧ outS (gx X W) W τ B F E (dWhN fc t m ρ), fun σ' H' w => ⟨m, Nat.lt_succ_self m, w⟩, τ, B, F', ρ, R', ?_⟩
        have q := outS.step (s.toI R.bh) q
        simp only at q
        cases ht : t ρ with
        | nx ρ' => rw [ht] at q; exact fun σ2 H2 F2 s2 e => ⟨τ, B, F2, ρ', e, outS.step s2 q⟩
        | ct ρ' => rw [ht] at q; exact fun σ2 H2 F2 s2 e => ⟨τ, B, F2, ρ', e, outS.step s2 q⟩
        | bk ρ' => rw [ht] at q; exact q
        | rt d ρ' => rw [ht] at q; exact q
        | xc x ρ' => rw [ht] at q; exact q
        | bad => rw [ht] at q; exact q
end
end Dt

set_option Elab.async false
set_option linter.all false
set_option maxRecDepth 100000
set_option maxHeartbeats 2000000
/-! Dat: targets, what a for walks, for. -/
namespace Dt
open PySem PySem.Spec PyProof.Rows L2

abbrev Tg := D → Env → Option Env
abbrev Tgs := List D → Env → Option Env
def outG (g : G) (τ : List V) (B F : Hp) (Q : L2.St → Hp → Prop) : Option Env → Prop
  | some ρ => ∀ σ H' F', StepI B F F' H' → EnvR g τ B F' H' σ ρ → Q σ H'
  | none => False
def liftG (g : G) (t : Tg) : TG := fun v σ H Q => ∃ τ B F ρ d, EnvR g τ B F H σ ρ ∧ Rp g F v d ∧ d.rf = true ∧ outG g τ B F Q (t d ρ)
def liftGs (g : G) (t : Tgs) : TGs := fun vs σ H Q => ∃ τ B F ρ ds, EnvR g τ B F H σ ρ ∧ RpL g F vs ds ∧ outG g τ B F Q (t ds ρ)
abbrev DG (X : Cx) (W : Wx) (e : Expr) (t : Tg) : Prop := PG X e (liftG (gx X W) t)
abbrev DGs (X : Cx) (W : Wx) (es : List Expr) (t : Tgs) : Prop := PGs X es (liftGs (gx X W) t)
theorem pg_imp {X : Cx} {e : Expr} {t t' : TG} (h : PG X e t) (i : ∀ v σ H Q, t' v σ H Q → t v σ H Q) : PG X e t' := ⟨fun pins s σ H v u Q I r q => h.run pins s σ H v u Q I r (i v σ H Q q)⟩
theorem pgs_imp {X : Cx} {es : List Expr} {t t' : TGs} (h : PGs X es t) (i : ∀ v σ H Q, t' v σ H Q → t v σ H Q) : PGs X es t' := ⟨fun pins s σ H v u Q I r q => h.run pins s σ H v u Q I r (i v σ H Q q)⟩
theorem pg_or {X : Cx} {e : Expr} {t t' : TG} (h : PG X e t) (h' : PG X e t') : PG X e (fun v σ H Q => t v σ H Q ∨ t' v σ H Q) := ⟨fun pins s σ H v u Q I r q => q.elim (h.run pins s σ H v u Q I r) (h'.run pins s σ H v u Q I r)⟩
theorem pi_imp {X : Cx} {tg e : Expr} {t t' : TI} (h : PI X tg e t) (i : ∀ σ H R, t' σ H R → t σ H R) : PI X tg e t' := ⟨fun pins s σ H R I q => h.run pins s σ H R I (i σ H R q)⟩
theorem pi_or {X : Cx} {tg e : Expr} {t t' : TI} (h : PI X tg e t) (h' : PI X tg e t') : PI X tg e (fun σ H R => t σ H R ∨ t' σ H R) := ⟨fun pins s σ H R I q => q.elim (h.run pins s σ H R I) (h'.run pins s σ H R I)⟩

section
variable {X : Cx} {W : Wx} {gr g1 g2 : Bool} {a b e : Expr} {pos : Pos} {es : List Expr} {tg : Tg} {tgs : Tgs}
theorem outG.step {g : G} {τ : List V} {B F F' H' : Hp} {Q : L2.St → Hp → Prop} {o : Option Env} (s : StepI B F F' H') (h : outG g τ B F Q o) : outG g τ B F' Q o := by
  cases o with
  | some ρ => exact fun σ H2 F2 s2 e => h σ H2 F2 (s.trans s2) e
  | none => exact h
def tName (i : Nat) : Tg := fun d ρ => some (ρ.set i (some d))
/-- a name whose value nobody asks -/
def tSkip (i : Nat) : Tg := fun _ ρ => some (ρ.set i none)
theorem dg_name {i : Nat} (h : PG X e (gName i)) : DG X W e (tName i) := pg_imp h fun v σ H Q => fun ⟨τ, B, F, ρ, d, R, r, f, q⟩ =>
  q (σ.set i (some v)) H F (StepI.refl R.fh R.bh) (R.setRes (StepP.refl R.fh) ⟨[], .frz f r, fun _ z => nomatch z⟩ i)
theorem dg_skip {i : Nat} (h : PG X e (gName i)) : DG X W e (tSkip i) := pg_imp h fun v σ H Q => fun ⟨τ, B, F, ρ, d, R, r, f, q⟩ => by
  have R' := (R.setRes (StepP.refl R.fh) ⟨[], .frz f r, fun _ z => nomatch z⟩ i).forget i
  rw [List.set_set] at R'
  exact q (σ.set i (some v)) H F (StepI.refl R.fh R.bh) R'
def tNone : Tgs := fun ds ρ => match ds with
  | [] => some ρ
  | _ => none
def tMore (t : Tg) (ts : Tgs) : Tgs := fun ds ρ => match ds with
  | d :: ds => if d.rf = true then (match t d ρ with | some ρ' => ts ds ρ' | none => none) else none
  | [] => none
theorem dgs_nil : DGs X W [] tNone := pgs_imp pgs_nil fun vs σ H Q => fun ⟨τ, B, F, ρ, ds, R, r, q⟩ => by
  cases r with
  | nil => exact ⟨rfl, q σ H F (StepI.refl R.fh R.bh) R⟩
  | cons _ _ => exact q.elim
theorem dgs_cons (h1 : DG X W e tg) (h2 : DGs X W es tgs) (hs : (assignEach (e :: es) X.env).map (·.2) = assign e X.env :: (assignEach es X.env).map (·.2) := by rfl) : DGs X W (e :: es) (tMore tg tgs) := pgs_imp (pgs_cons h1 h2 hs) fun vs σ H Q => fun ⟨τ, B, F, ρ, ds, R, r, q⟩ => by
  cases r with
  | nil => exact q.elim
  | @cons v d vs ds r1 r2 =>
    have q : outG (gx X W) τ B F Q (if d.rf = true then (match tg d ρ with | some ρ' => tgs ds ρ' | none => none) else none) := q
    split at q
    · rename_i hd
      refine ⟨v, vs, rfl, τ, B, F, ρ, d, R, r1, hd, ?_⟩
      cases ht : tg d ρ with
      | none => rw [ht] at q; exact q.elim
      | some ρ' =>
        rw [ht] at q
        exact fun σ' H' F' s e => ⟨τ, B, F', ρ', ds, e, RpL.mono s.ff r2, outG.step s q⟩
    · exact q.elim
def tTup (n : Nat) (ts : Tgs) : Tg := fun d ρ => match d with
  | .tup ds => if ds.length = n then ts ds ρ else none
  | .lst _ ds => if ds.length = n then ts ds ρ else none
  | _ => none
theorem dg_tup {k : Nat} {n : Nat} (hc : X.calm = true) (h : DGs X W es tgs) (hn : (assignEach es X.env).length = n := by rfl) (hst : (assignEach es X.env).findIdx? (·.1) = none := by rfl) : DG X W (.Tuple es k pos) (tTup n tgs) :=
  pg_imp (pg_or (pg_tup hc h hn hst) (pg_lst hc h hn hst)) fun v σ H Q => fun ⟨τ, B, F, ρ, d, R, r, f, q⟩ => by
  cases r with
  | tup hs0 r =>
    have hs := hs0.t
    have q : outG (gx X W) τ B F Q (if _ then _ else none) := q
    split at q
    · rename_i hl
      exact .inl ⟨_, _, rfl, same_sqT R.fh hs, by rw [r.length]; exact hl, τ, B, F, ρ, _, R, r, q⟩
    · exact q.elim
  | lst hs r =>
    have q : outG (gx X W) τ B F Q (if _ then _ else none) := q
    split at q
    · rename_i hl
      exact .inr ⟨_, _, rfl, R.fh.seq hs, by rw [r.length]; exact hl, τ, B, F, ρ, _, R, r, q⟩
    · exact q.elim
  | _ => exact q.elim
/-- targets = e -/
def dSetG (tg : Tg) (fa : Env → R D) : DTS := fun ρ => Out.of (fa ρ) ρ fun d => match tg d.fr ρ with
  | some ρ' => .nx ρ'
  | none => .bad
theorem ds_setG {fa : Env → R D} (hg : DG X W e tg) (ha : DE true X W a fa) (hs : swapsWithSole [e] a pos.line X.env = pure false := by rfl) (hw : swappedStores [e] a X.env = pure none := by rfl)
    (h1 : (assignEach [e] X.env).map (·.2) = [assign e X.env] := by rfl) : DS X W (.Assign [e] a pos) (dSetG tg fa) := ps_imp (ps_asg ha hg hs hw h1) fun E σ H => fun ⟨τ, B, F, ρ, R, q⟩ => by
  refine ⟨τ, B, F, ρ, R, ?_⟩
  unfold dSetG at q
  cases hf : fa ρ with
  | ok d =>
    rw [hf] at q
    have q : outS (gx X W) W τ B F E (match tg d.fr ρ with | some ρ' => .nx ρ' | none => .bad) := q
    intro v H' F' s r
    obtain ⟨F2, s2, o⟩ := r.op s
    refine ⟨τ, B, F2, ρ, d.fr, R.stepP s2, o, D.rf_fr d, ?_⟩
    cases ht : tg d.fr ρ with
    | none => rw [ht] at q; exact q.elim
    | some ρ' =>
      rw [ht] at q
      exact fun σ2 H2 F3 s3 e2 => q σ2 H2 F3 ((s2.toI R.bh).trans s3) e2
  | ex x => rw [hf] at q; exact fun cls dd H' F' s r => q cls dd σ H H' F' (s.toI R.bh) (R.stepP s) r
  | bad => rw [hf] at q; exact q

/-! ### what a for walks -/
/-- the items of J are ds, while C holds of the frozen part -/
structure Src (g : G) (J : It) (ds : List D) (C : Hp → Prop) : Prop where
  go : ∀ i F H, i < ds.length → C F → Same F H → J.go i H
  stop : ∀ i F H, ds.length ≤ i → C F → Same F H → J.stop i H
  yld : ∀ i d F H x H', C F → Same F H → ds[i]? = some d → J.yld i H x H' → ∃ F', StepP F H F' H' ∧ Rp g F' x d ∧ d.rf = true
  mono : ∀ F F', Same F F' → C F → C F'
def outI (g : G) (W : Wx) (F H : Hp) (σ : L2.St) (Q : It → Hp → Prop) : R (List D) → Prop
  | .ok ds => ∀ J C H' F', StepP F H F' H' → Src g J ds C → C F' → Q J H'
  | .ex x => ∀ cls dd H' F', StepP F H F' H' → ResX g H F' H' cls dd x → W.w cls dd σ H'
  | .bad => False
def liftI (g : G) (W : Wx) (f : Env → R (List D)) : TI := fun σ H Q => ∃ τ B F ρ, EnvR g τ B F H σ ρ ∧ outI g W F H σ Q (f ρ)
abbrev DI (X : Cx) (W : Wx) (tg e : Expr) (f : Env → R (List D)) : Prop := PI X tg e (liftI (gx X W) W f)
theorem outI.step {g : G} {F F' H H' : Hp} {σ : L2.St} {Q : It → Hp → Prop} {r : R (List D)} (s : StepP F H F' H') (h : outI g W F H σ Q r) : outI g W F' H' σ Q r := by
  cases r with
  | ok d => exact fun J C H2 F2 s2 => h J C H2 F2 (s.trans s2)
  | ex x => exact fun cls dd H2 F2 s2 q => h cls dd H2 F2 (s.trans s2) (q.back s.hh)
  | bad => exact h
def seqD : D → R (List D)
  | .lst _ xs => if allRf xs = true then .ok xs else .bad
  | .tup xs => if allRf xs = true then .ok xs else .bad
  | .str s => .ok (s.cps.toList.map fun c => .str ⟨#[c]⟩)
  | _ => .bad
theorem allRf_get {xs : List D} {i : Nat} {d : D} (h : allRf xs = true) (e : xs[i]? = some d) : d.rf = true := List.all_eq_true.mp h d (List.mem_of_getElem? e)
theorem src_list {g : G} {a : Addr} {ds : List D} (h : allRf ds = true) : Src g (Itl g.K a) ds (fun F => ∃ vs, SqL g.K F a vs ∧ RpL g F vs ds) where
  go := fun i F H hi ⟨vs, hs, r⟩ s => by
    obtain ⟨v, h1, _⟩ := r.get (List.getElem?_eq_getElem hi)
    exact ⟨vs, v, s.seq hs, h1⟩
  stop := fun i F H hi ⟨vs, hs, r⟩ s => ⟨vs, s.seq hs, by rw [r.length]; exact hi⟩
  yld := fun i d F H x H' ⟨vs, hs, r⟩ s e ⟨e1, e2⟩ => by
    subst e1
    obtain ⟨v, h1, h2⟩ := r.get e
    have e3 := e2 vs (s.seq hs)
    rw [h1] at e3
    cases e3
    exact ⟨F, StepP.refl s, h2, allRf_get h e⟩
  mono := fun F F' s ⟨vs, hs, r⟩ => ⟨vs, s.seq hs, RpL.mono s r⟩
theorem src_tup {g : G} {a : Addr} {ds : List D} (h : allRf ds = true) : Src g (Itt g.K a) ds (fun F => ∃ vs, SqT g.K F a vs ∧ RpL g F vs ds) where
  go := fun i F H hi ⟨vs, hs, r⟩ s => by
    obtain ⟨v, h1, _⟩ := r.get (List.getElem?_eq_getElem hi)
    exact ⟨vs, v, same_sqT s hs, h1⟩
  stop := fun i F H hi ⟨vs, hs, r⟩ s => ⟨vs, same_sqT s hs, by rw [r.length]; exact hi⟩
  yld := fun i d F H x H' ⟨vs, hs, r⟩ s e ⟨e1, e2⟩ => by
    subst e1
    obtain ⟨v, h1, h2⟩ := r.get e
    have e3 := e2 vs (same_sqT s hs)
    rw [h1] at e3
    cases e3
    exact ⟨F, StepP.refl s, h2, allRf_get h e⟩
  mono := fun F F' s ⟨vs, hs, r⟩ => ⟨vs, same_sqT s hs, RpL.mono s r⟩
theorem src_str {g : G} {z : Str} : Src g (Its z) (z.cps.toList.map fun c => .str ⟨#[c]⟩) (fun _ => True) where
  go := fun i F H hi _ _ => by
    rw [List.length_map, Array.length_toList] at hi
    exact hi
  stop := fun i F H hi _ _ => by
    rw [List.length_map, Array.length_toList] at hi
    exact hi
  yld := fun i d F H x H' _ s e ⟨e1, c, e2, e3⟩ => by
    subst e1 e3
    rw [List.getElem?_map, Array.getElem?_toList, e2] at e
    cases e
    exact ⟨F, StepP.refl s, .str _, rfl⟩
  mono := fun _ _ _ _ => trivial
def rangeD (lo : Int) (n : Nat) : List D := (List.range n).map fun i => .int (lo + (i : Nat))
theorem src_range {g : G} {lo : Int} {n : Nat} : Src g (Itr lo n) (rangeD lo n) (fun _ => True) where
  go := fun i F H hi _ _ => by
    unfold rangeD at hi
    rw [List.length_map, List.length_range] at hi
    exact hi
  stop := fun i F H hi _ _ => by
    unfold rangeD at hi
    rw [List.length_map, List.length_range] at hi
    exact hi
  yld := fun i d F H x H' _ s e ⟨e1, e2⟩ => by
    subst e1 e2
    unfold rangeD at e
    obtain ⟨j, h1, h2⟩ := List.getElem?_map .. ▸ e |> Option.map_eq_some_iff.mp
    subst h2
    obtain ⟨_, h3⟩ := List.getElem?_eq_some_iff.mp h1
    rw [List.getElem_range] at h3
    subst h3
    exact ⟨F, StepP.refl s, .int _, rfl⟩
  mono := fun _ _ _ _ => trivial
def rangeCD (lo c : Int) (n : Nat) : List D := (List.range n).map fun i => .int (lo + (i : Nat) * c)
theorem src_rangeC {g : G} {lo c : Int} {n : Nat} : Src g (Itc lo c n) (rangeCD lo c n) (fun _ => True) where
  go := fun i F H hi _ _ => by
    unfold rangeCD at hi
    rw [List.length_map, List.length_range] at hi
    exact hi
  stop := fun i F H hi _ _ => by
    unfold rangeCD at hi
    rw [List.length_map, List.length_range] at hi
    exact hi
  yld := fun i d F H x H' _ s e ⟨e1, e2⟩ => by
    subst e1 e2
    unfold rangeCD at e
    obtain ⟨j, h1, h2⟩ := List.getElem?_map .. ▸ e |> Option.map_eq_some_iff.mp
    subst h2
    obtain ⟨_, h3⟩ := List.getElem?_eq_some_iff.mp h1
    rw [List.getElem_range] at h3
    subst h3
    exact ⟨F, StepP.refl s, .int _, rfl⟩
  mono := fun _ _ _ _ => trivial
/-- a sequence, by its kind -/
def dIter (fa : Env → R D) : Env → R (List D) := fun ρ => (fa ρ).bind fun x => seqD x.fr
theorem di_seq {t : Expr} {fa : Env → R D} (ha : DE true X W a fa) : DI X W t a (dIter fa) := pi_imp (pi_or (pi_list ha) (pi_or (pi_tup ha) (pi_str ha))) fun σ H Q => fun ⟨τ, B, F, ρ, RR, q⟩ => by
  unfold dIter at q
  have go : ∀ (T : V → Hp → Prop), (∀ d v H' F', fa ρ = .ok d → StepP F H F' H' → Rp (gx X W) F' v d.fr → outI (gx X W) W F' H' σ Q (seqD d.fr) → T v H') → liftE true (gx X W) W fa σ H T := fun T k => by
    refine ⟨τ, B, F, ρ, RR, ?_⟩
    cases hf : fa ρ with
    | ok d =>
      rw [hf, R.bind_ok] at q
      intro v H' F' s r
      obtain ⟨F2, s2, o⟩ := r.op s
      exact k d v H' F2 hf s2 o (q.step s2)
    | ex x => rw [hf] at q; exact q
    | bad => rw [hf] at q; exact q
  cases hf : fa ρ with
  | bad => rw [hf] at q; exact q.elim
  | ex x =>
    refine .inl (go _ fun d v H' F' hd _ _ _ => ?_)
    rw [hf] at hd; cases hd
  | ok d =>
    have all : ∀ d', fa ρ = .ok d' → d' = d := fun d' h => by rw [hf] at h; cases h; rfl
    cases hk : d.fr with
    | lst o xs =>
      refine .inl (go _ fun d' v H' F' hd s r q' => ?_)
      obtain rfl := all d' hd
      rw [hk] at r q'
      cases r with
      | lst hs r =>
        have q' : outI (gx X W) W F' H' σ Q (if allRf xs = true then .ok xs else .bad) := q'
        split at q'
        · rename_i hr
          exact ⟨_, rfl, ⟨_, s.fh.seq hs⟩, q' _ _ H' F' (StepP.refl s.fh) (src_list hr) ⟨_, hs, r⟩⟩
        · exact q'.elim
    | tup xs =>
      refine .inr (.inl (go _ fun d' v H' F' hd s r q' => ?_))
      obtain rfl := all d' hd
      rw [hk] at r q'
      cases r with
      | tup hs0 r =>
        have hs := hs0.t
        have q' : outI (gx X W) W F' H' σ Q (if allRf xs = true then .ok xs else .bad) := q'
        split at q'
        · rename_i hr
          exact ⟨_, rfl, ⟨_, same_sqT s.fh hs⟩, q' _ _ H' F' (StepP.refl s.fh) (src_tup hr) ⟨_, hs, r⟩⟩
        · exact q'.elim
    | str z =>
      refine .inr (.inr (go _ fun d' v H' F' hd s r q' => ?_))
      obtain rfl := all d' hd
      rw [hk] at r q'
      cases r with
      | str _ => exact ⟨z, rfl, q' _ _ H' F' (StepP.refl s.fh) src_str trivial⟩
    | _ =>
      rw [hf, R.bind_ok, hk] at q
      exact q.elim
def nRange1 : List D → R (List D)
  | [.int j] => if -4611686018427387904 ≤ j ∧ j < 4611686018427387904 then .ok (rangeD 0 j.toNat) else .bad
  | _ => .bad
def nRange2 : List D → R (List D)
  | [.int i, .int j] => if -4611686018427387904 ≤ i ∧ i < 4611686018427387904 ∧ -4611686018427387904 ≤ j ∧ j < 4611686018427387904 then .ok (rangeD i (j - i).toNat) else .bad
  | _ => .bad
/-- the number of turns of range(i, j, c) -/
def turns (i j c : Int) : Nat := if 0 < c then ((j - i + c - 1) / c).toNat else ((i - j - c - 1) / -c).toNat
def nRange3 : List D → R (List D)
  | [.int i, .int j, .int c] => if (-4611686018427387904 ≤ i ∧ i < 4611686018427387904 ∧ -4611686018427387904 ≤ j ∧ j < 4611686018427387904) ∧ c ≠ 0 ∧ c.natAbs < 1073741824 then .ok (rangeCD i c (turns i j c)) else .bad
  | _ => .bad
def dArgs {α : Type} (n : List D → R α) (fs : Env → R (List D)) : Env → R α := fun ρ => (fs ρ).bind n
theorem di_args {fs : Env → R (List D)} {n : List D → R (List D)} {K : List V → Hp → (It → Hp → Prop) → Prop}
    (k : ∀ vs ds H F σ Q, Same F H → ResA gr (gx X W) F H vs ds → outI (gx X W) W F H σ Q (n ds) → K vs H Q) (σ : L2.St) (H : Hp) (Q : It → Hp → Prop) (h : liftI (gx X W) W (dArgs n fs) σ H Q) : liftA gr (gx X W) W fs σ H fun vs H1 => K vs H1 Q := by
  obtain ⟨τ, B, F, ρ, E, q⟩ := h
  refine ⟨τ, B, F, ρ, E, ?_⟩
  have q : outI (gx X W) W F H σ Q ((fs ρ).bind n) := q
  cases hf : fs ρ with
  | bad => rw [hf] at q; exact q
  | ex x => rw [hf] at q; exact q
  | ok ds =>
    rw [hf, R.bind_ok] at q
    exact fun vs H' F' s r => k vs ds H' F' σ Q s.fh r (q.step s)
theorem di_range1 {t : Expr} {p : Pos} {fs : Env → R (List D)} (hg : Gl X "range") (hm : X.mg "range" = none) (ha : DA gr X W [a] fs) (hs : starEach [a] X.env = [(false, eval a X.env)] := by rfl) : DI X W t (.Call (.Name "range" p) [a] [] pos) (dArgs nRange1 fs) :=
  pi_imp (pi_range1 hg hm ha hs) (di_args (K := fun vs H1 Q => ∃ j : Int, vs = [.int j] ∧ -(2 ^ 62) ≤ j ∧ j < 2 ^ 62 ∧ Q (Itr 0 j.toNat) H1) fun vs ds H F σ Q s r q => by
  have r := ResA.rp s r
  unfold nRange1 at q
  split at q
  · split at q
    · rename_i c
      cases r with
      | cons r1 r2 => cases r1; cases r2; exact ⟨_, rfl, c.1, c.2, q _ _ H F (StepP.refl s) src_range trivial⟩
    · exact q.elim
  · exact q.elim)
theorem di_range2 {t : Expr} {p : Pos} {fs : Env → R (List D)} (hg : Gl X "range") (hm : X.mg "range" = none) (ha : DA gr X W [a, b] fs) (hs : starEach [a, b] X.env = [(false, eval a X.env), (false, eval b X.env)] := by rfl) (hs2 : starEach [b] X.env = [(false, eval b X.env)] := by rfl) :
    DI X W t (.Call (.Name "range" p) [a, b] [] pos) (dArgs nRange2 fs) :=
  pi_imp (pi_range2 hg hm ha hs hs2) (di_args (K := fun vs H1 Q => ∃ i j : Int, vs = [.int i, .int j] ∧ (-(2 ^ 62) ≤ i ∧ i < 2 ^ 62 ∧ -(2 ^ 62) ≤ j ∧ j < 2 ^ 62) ∧ Q (Itr i (j - i).toNat) H1) fun vs ds H F σ Q s r q => by
  have r := ResA.rp s r
  unfold nRange2 at q
  split at q
  · split at q
    · rename_i c
      cases r with
      | cons r1 r2 => cases r1; cases r2 with
        | cons r3 r4 => cases r3; cases r4; exact ⟨_, _, rfl, c, q _ _ H F (StepP.refl s) src_range trivial⟩
    · exact q.elim
  · exact q.elim)

/-! ### for -/
def dForL (tg : Tg) (t : DTS) : List D → Env → Out
  | [], ρ => .nx ρ
  | d :: ds, ρ => match tg d ρ with
    | none => .bad
    | some ρ1 => match t ρ1 with
      | .nx ρ2 => dForL tg t ds ρ2
      | .ct ρ2 => dForL tg t ds ρ2
      | .bk ρ2 => .nx ρ2
      | o => o
def dFor (fi : Env → R (List D)) (tg : Tg) (t : DTS) : DTS := fun ρ => match fi ρ with
  | .ok ds => dForL tg t ds ρ
  | .ex x => .xc x ρ
  | .bad => .bad
theorem ds_for {target iter : Expr} {ss : List Stmt} {fi : Env → R (List D)} {t : DTS} (hp : PassesOwn (model X.prog X.w) X.A X.env X.xe) (hc : X.calm = true) (hi : DI X W target iter fi) (hg : DG X W target tg) (ht : DSs X W ss t) (hs : ∀ x, foldedSetIterable iter X.env x = pure x := by exact fun _ => rfl) :
    DS X W (.For target iter ss [] pos) (dFor fi tg t) := ps_imp (ps_for hp hc hi hg ht hs) fun E σ H => fun ⟨τ, B, F, ρ, R, q⟩ => by
  refine ⟨τ, B, F, ρ, R, ?_⟩
  unfold dFor at q
  cases hf : fi ρ with
  | bad => rw [hf] at q; exact q
  | ex x => rw [hf] at q; exact fun cls dd H' F' s r => q cls dd σ H H' F' (s.toI R.bh) (R.stepP s) r
  | ok ds =>
    rw [hf] at q
    intro J C H1 F1 s1 S c1
    refine ⟨fun i m σ H => m = ds.length - i ∧ i ≤ ds.length ∧ ∃ τ B F ρ, EnvR (gx X W) τ B F H σ ρ ∧ C F ∧ outS (gx X W) W τ B F E (dForL tg t (ds.drop i) ρ),
      ⟨ds.length, rfl, Nat.zero_le _, τ, B, F1, ρ, R.stepP s1, c1, outS.step (s1.toI R.bh) q⟩, fun i m σ H hw => ?_⟩
    obtain ⟨rfl, hi, τ, B, F, ρ, R, c, q⟩ := hw
    by_cases hl : i < ds.length
    · have hd : ds.drop i = ds[i] :: ds.drop (i + 1) := List.drop_eq_getElem_cons hl
      rw [hd] at q
      refine .inr ⟨S.go i F H hl c R.fh, fun σ' H' => i + 1 ≤ ds.length ∧ ∃ τ B F ρ, EnvR (gx X W) τ B F H' σ' ρ ∧ C F ∧ outS (gx X W) W τ B F E (dForL tg t (ds.drop (i + 1)) ρ), fun σ' H' w => ⟨_, by omega, rfl, w⟩, fun x H' y => ?_⟩
      obtain ⟨F2, s2, r, f⟩ := S.yld i ds[i] F H x H' c R.fh (List.getElem?_eq_getElem hl) y
      refine ⟨τ, B, F2, ρ, ds[i], R.stepP s2, r, f, ?_⟩
      have q := outS.step (s2.toI R.bh) q
      unfold dForL at q
      cases htg : tg ds[i] ρ with
      | none => rw [htg] at q; exact q.elim
      | some ρ1 =>
        rw [htg] at q
        have c2 := S.mono F F2 s2.ff c
        intro σ2 H2 F3 s3 R2
        refine ⟨τ, B, F3, ρ1, R2, ?_⟩
        have q := outS.step s3 q
        have c3 := S.mono F2 F3 s3.ff c2
        simp only at q
        cases ht : t ρ1 with
        | nx ρ2 => rw [ht] at q; exact fun σ4 H4 F4 s4 e => ⟨hl, τ, B, F4, ρ2, e, S.mono _ _ s4.ff c3, outS.step s4 q⟩
        | ct ρ2 => rw [ht] at q; exact fun σ4 H4 F4 s4 e => ⟨hl, τ, B, F4, ρ2, e, S.mono _ _ s4.ff c3, outS.step s4 q⟩
        | bk ρ2 => rw [ht] at q; exact q
        | rt d ρ2 => rw [ht] at q; exact q
        | xc x ρ2 => rw [ht] at q; exact q
        | bad => rw [ht] at q; exact q
    · have e : i = ds.length := by omega
      subst e
      rw [List.drop_length] at q
      exact .inl ⟨S.stop _ F H (Nat.le_refl _) c R.fh, q σ H F (StepI.refl R.fh R.bh) R⟩
end
end Dt

set_option Elab.async false
set_option linter.all false
set_option maxRecDepth 100000
set_option maxHeartbeats 2000000
/-! Dat: places that are one's own, and what changes them. -/
namespace Dt
open PySem PySem.Spec PyProof.Rows L2

def D.kids : D → List D
  | .lst _ xs => xs
  | .obj _ _ _ xs => xs
  | .dic _ _ xs => xs
  | .dct _ _ xs => xs
  | _ => []
def D.withKids (d : D) (xs : List D) : D := match d with
  | .lst o _ => .lst o xs
  | .obj o C ns _ => .obj o C ns xs
  | .dic o ks _ => .dic o ks xs
  | .dct o ks _ => .dct o ks xs
  | d => d
/-- what stands at a path through what is one's own -/
def D.at (d : D) : List Nat → Option D
  | [] => some d
  | n :: π => if d.rf = true then none else match d.kids[n]? with
    | some k => k.at π
    | none => none
def D.put (d : D) (e : D) : List Nat → D
  | [] => e
  | n :: π => match d.kids[n]? with
    | some k => d.withKids (d.kids.set n (k.put e π))
    | none => d
def KidsAt (H : Hp) (p : Addr) (vs : List V) : Prop := H p = some (.lst vs) ∨ (∃ ca dx fs, H p = some (.ins ca dx fs) ∧ vs = fs.map (·.2)) ∨ (∃ kvs, H p = some (.dK kvs) ∧ vs = kvs.map (·.2)) ∨ ∃ kvs, H p = some (.dT kvs) ∧ vs = kvs.map (·.2)
def LocV (H : Hp) : V → D → List Nat → V → Prop
  | v, _, [], u => u = v
  | v, d, n :: π, u => ∃ p vs w k, v = .ref p ∧ KidsAt H p vs ∧ vs[n]? = some w ∧ d.kids[n]? = some k ∧ LocV H w k π u
section
variable {g : G} {τ : List V} {B F F' H H' : Hp} {σ : L2.St} {ρ : Env}
theorem un_tg0 {d : D} (h : d.tg = 0) : d.un = d := by
  cases d with
  | lst o xs => cases o with
    | none => rfl
    | some t => cases h; rfl
  | obj o C ns vs => cases o with
    | none => rfl
    | some t => cases h; rfl
  | dic o ks vs => cases o with
    | none => rfl
    | some t => cases h; rfl
  | dct o ks vs => cases o with
    | none => rfl
    | some t => cases h; rfl
  | _ => rfl
theorem KidsAt.mono {p : Addr} {vs : List V} (s : Same H H') (h : KidsAt H p vs) : KidsAt H' p vs := by
  rcases h with h | ⟨ca, dx, fs, h, e⟩ | ⟨kvs, h, e⟩ | ⟨kvs, h, e⟩
  · exact .inl (s _ _ h)
  · exact .inr (.inl ⟨ca, dx, fs, s _ _ h, e⟩)
  · exact .inr (.inr (.inl ⟨kvs, s _ _ h, e⟩))
  · exact .inr (.inr (.inr ⟨kvs, s _ _ h, e⟩))
theorem LocV.mono (s : Same H H') : ∀ {π : List Nat} {v : V} {d : D} {u : V}, LocV H v d π u → LocV H' v d π u
  | [], _, _, _, h => h
  | _ :: _, _, _, _, ⟨p, vs, w, k, h1, h2, h3, h4, h5⟩ => ⟨p, vs, w, k, h1, h2.mono s, h3, h4, LocV.mono s h5⟩
theorem KidsAt.lst {p : Addr} {vs ws : List V} (h : KidsAt H p ws) (e : H p = some (.lst vs)) : ws = vs := by
  rcases h with h | ⟨ca, dx, fs, h, _⟩ | ⟨kvs, h, _⟩ | ⟨kvs, h, _⟩ <;> (rw [e] at h; cases h)
  rfl
theorem KidsAt.ins {p ca dx : Addr} {fs : List (Str × V)} {ws : List V} (h : KidsAt H p ws) (e : H p = some (.ins ca dx fs)) : ws = fs.map (·.2) := by
  rcases h with h | ⟨ca, dx, fs, h, z⟩ | ⟨kvs, h, _⟩ | ⟨kvs, h, _⟩ <;> (rw [e] at h; cases h)
  exact z
theorem KidsAt.dK {p : Addr} {fs : List (Key × V)} {ws : List V} (h : KidsAt H p ws) (e : H p = some (.dK fs)) : ws = fs.map (·.2) := by
  rcases h with h | ⟨ca, dx, fs, h, _⟩ | ⟨kvs, h, z⟩ | ⟨kvs, h, _⟩ <;> (rw [e] at h; cases h)
  exact z
theorem KidsAt.dT {p : Addr} {fs : List (List Key × V)} {ws : List V} (h : KidsAt H p ws) (e : H p = some (.dT fs)) : ws = fs.map (·.2) := by
  rcases h with h | ⟨ca, dx, fs, h, _⟩ | ⟨kvs, h, _⟩ | ⟨kvs, h, z⟩ <;> (rw [e] at h; cases h)
  exact z
theorem OwnL.sub {vs : List V} {ds : List D} {A : List Addr} (h : OwnL g F H vs ds A) : ∀ {n : Nat} {w : V} {k : D}, vs[n]? = some w → ds[n]? = some k →
    ∃ Ak, Own g F H w k Ak ∧ (∀ q, q ∈ Ak → q ∈ A) ∧ ∀ F' H' k' Ak', Same F F' → Own g F' H' w k' Ak' → (∀ q, q ∈ A → q ∉ Ak → H' q = H q ∧ F' q = none) → (∀ q, q ∈ Ak' → q ∈ Ak ∨ q ∉ A) →
      ∃ A', OwnL g F' H' vs (ds.set n k') A' ∧ ∀ q, q ∈ A' → q ∈ Ak' ∨ (q ∈ A ∧ q ∉ Ak) := by
  induction ds generalizing vs A with
  | nil => intro n w k _ e; simp at e
  | cons d ds ih =>
    intro n w k e1 e2
    cases h with
    | @cons v d vs ds A B ho hr hd =>
      cases n with
      | zero =>
        simp at e1 e2
        subst e1 e2
        refine ⟨A, ho, fun q hq => List.mem_append_left _ hq, fun F' H' k' Ak' s o keep new => ?_⟩
        have hr' : OwnL g F' H' vs ds B := hr.keep s fun q hq => by
          have z := keep q (List.mem_append_right _ hq) fun z => hd q z hq
          exact ⟨z.2, z.1⟩
        refine ⟨Ak' ++ B, .cons o hr' fun q hq hb => ?_, fun q hq => ?_⟩
        · rcases new q hq with z | z
          · exact hd q z hb
          · exact z (List.mem_append_right _ hb)
        · rcases List.mem_append.mp hq with z | z
          · exact .inl z
          · exact .inr ⟨List.mem_append_right _ z, fun y => hd q y z⟩
      | succ n =>
        obtain ⟨Ak, o1, sub, up⟩ := ih hr (n := n) (by simpa using e1) (by simpa using e2)
        refine ⟨Ak, o1, fun q hq => List.mem_append_right _ (sub q hq), fun F' H' k' Ak' s o keep new => ?_⟩
        obtain ⟨A', h1, h2⟩ := up F' H' k' Ak' s o (fun q hq => keep q (List.mem_append_right _ hq)) fun q hq => (new q hq).imp id fun z y => z (List.mem_append_right _ y)
        have ho' : Own g F' H' v d A := ho.keep s fun q hq => by
          have z := keep q (List.mem_append_left _ hq) fun z => hd q hq (sub q z)
          exact ⟨z.2, z.1⟩
        refine ⟨A ++ A', .cons ho' h1 fun q hq hb => ?_, fun q hq => ?_⟩
        · rcases h2 q hb with z | z
          · rcases new q z with y | y
            · exact hd q hq (sub q y)
            · exact y (List.mem_append_left _ hq)
          · exact hd q hq z.1
        · rcases List.mem_append.mp hq with z | z
          · exact .inr ⟨List.mem_append_left _ z, fun y => hd q z (sub q y)⟩
          · exact (h2 q z).imp id fun y => ⟨List.mem_append_right _ y.1, y.2⟩
theorem Own.upd : ∀ (π : List Nat) {v : V} {d e : D} {A : List Addr} {u : V}, Own g F H v d.un A → d.at π = some e → LocV H v d π u →
    ∃ A1, Own g F H u e.un A1 ∧ (∀ q, q ∈ A1 → q ∈ A) ∧ ∀ F' H' e' A1', Same F F' → Own g F' H' u e'.un A1' → e'.tg = e.tg → (∀ q, q ∈ A → q ∉ A1 → H' q = H q ∧ F' q = none) → (∀ q, q ∈ A1' → q ∈ A1 ∨ q ∉ A) →
      ∃ A', Own g F' H' v (d.put e' π).un A' ∧ (d.put e' π).tg = d.tg ∧ ∀ q, q ∈ A' → q ∈ A1' ∨ (q ∈ A ∧ q ∉ A1)
  | [], v, d, e, A, u, h, ha, hl => by
    cases ha
    have hl : u = v := hl
    subst hl
    exact ⟨A, h, fun q hq => hq, fun F' H' e' A1' s o t keep new => ⟨A1', o, t, fun q hq => .inl hq⟩⟩
  | n :: π, v, d, e, A, u, h, ha, hl => by
    unfold D.at at ha
    split at ha
    · cases ha
    · rename_i hrf
      split at ha
      · rename_i k hk
        obtain ⟨p, ws, w, k', rfl, hkid, hw, hk', hl'⟩ := hl
        rw [hk] at hk'
        cases hk'
        have fin : ∀ (A0 : List Addr) (vs : List V), OwnL g F H vs d.kids A0 → vs[n]? = some w → (∀ q, q ∈ A0 → q ∈ A) →
            (∀ F' H' ds' A0', Same F F' → OwnL g F' H' vs ds' A0' → (∀ q, q ∈ A → q ∉ A0 → H' q = H q ∧ F' q = none) → (∀ q, q ∈ A0' → q ∈ A0 ∨ q ∉ A) →
              ∃ A', Own g F' H' (.ref p) (d.withKids ds').un A' ∧ (d.withKids ds').tg = d.tg ∧ ∀ q, q ∈ A' → q ∈ A0' ∨ (q ∈ A ∧ q ∉ A0)) →
            ∃ A1, Own g F H u e.un A1 ∧ (∀ q, q ∈ A1 → q ∈ A) ∧ ∀ F' H' e' A1', Same F F' → Own g F' H' u e'.un A1' → e'.tg = e.tg → (∀ q, q ∈ A → q ∉ A1 → H' q = H q ∧ F' q = none) → (∀ q, q ∈ A1' → q ∈ A1 ∨ q ∉ A) →
              ∃ A', Own g F' H' (.ref p) (d.put e' (n :: π)).un A' ∧ (d.put e' (n :: π)).tg = d.tg ∧ ∀ q, q ∈ A' → q ∈ A1' ∨ (q ∈ A ∧ q ∉ A1) := by
          intro A0 vs o0 hvs hsub close
          obtain ⟨Ak, ok, subk, upk⟩ := o0.sub hvs hk
          have ku : k.un = k := ok.un_eq
          obtain ⟨A1, o1, sub1, up1⟩ := Own.upd π (by rw [ku]; exact ok) ha hl'
          refine ⟨A1, o1, fun q hq => hsub q (subk q (sub1 q hq)), fun F' H' e' A1' s o t keep new => ?_⟩
          obtain ⟨Ak', ok', tk', hk2⟩ := up1 F' H' e' A1' s o t (fun q hq hn => keep q (hsub q (subk q hq)) hn) fun q hq => (new q hq).imp id fun z y => z (hsub q (subk q y))
          rw [un_tg0 (by rw [tk']; exact ok.tg_eq)] at ok'
          obtain ⟨A0', o0', h0'⟩ := upk F' H' _ Ak' s ok' (fun q hq hn => keep q (hsub q hq) fun z => hn (sub1 q z)) fun q hq => by
            rcases hk2 q hq with z | z
            · rcases new q z with y | y
              · exact .inl (sub1 q y)
              · exact .inr fun x => y (hsub q x)
            · exact .inl z.1
          obtain ⟨A', oA', tA', hA'⟩ := close F' H' _ A0' s o0' (fun q hq hn => keep q hq fun z => hn (subk q (sub1 q z))) fun q hq => by
            rcases h0' q hq with z | z
            · rcases hk2 q z with y | y
              · rcases new q y with x | x
                · exact .inl (subk q (sub1 q x))
                · exact .inr x
              · exact .inl (subk q y.1)
            · exact .inl z.1
          have ep : d.put e' (n :: π) = d.withKids (d.kids.set n (k.put e' π)) := by
            show (match d.kids[n]? with | some k => d.withKids (d.kids.set n (k.put e' π)) | none => d) = _
            rw [hk]
          rw [ep]
          refine ⟨A', oA', tA', fun q hq => ?_⟩
          rcases hA' q hq with z | z
          · rcases h0' q z with y | y
            · rcases hk2 q y with x | x
              · exact .inl x
              · exact .inr ⟨hsub q (subk q x.1), x.2⟩
            · exact .inr ⟨hsub q y.1, fun x => y.2 (sub1 q x)⟩
          · exact .inr ⟨z.1, fun y => z.2 (subk q (sub1 q y))⟩
        cases d with
        | lst o xs =>
          cases o with
          | none => exact absurd rfl hrf
          | some t =>
            cases (show Own g F H (.ref p) (.lst (some 0) xs) A from h) with
            | frz r _ => cases r
            | @lst _ vs _ A0 h1 h2 h3 h4 =>
              refine fin A0 vs h3 (by rw [← hkid.lst h1]; exact hw) (fun q hq => List.mem_cons_of_mem _ hq) fun F' H' ds' A0' s o keep new => ?_
              have kp := keep p List.mem_cons_self h4
              refine ⟨p :: A0', .lst (kp.1.trans h1) kp.2 o fun z => (new p z).elim h4 fun y => y List.mem_cons_self, rfl, fun q hq => ?_⟩
              rcases List.mem_cons.mp hq with z | z
              · exact .inr (by rw [z]; exact ⟨List.mem_cons_self, h4⟩)
              · exact .inl z
        | obj o C ns xs =>
          cases o with
          | none => exact absurd rfl hrf
          | some t =>
            cases (show Own g F H (.ref p) (.obj (some 0) C ns xs) A from h) with
            | frz r _ => cases r
            | @obj _ ca dx _ fs _ _ A0 h1 h2 h3 h4 h5 h6 h7 h8 h9 h10 =>
              refine fin A0 (fs.map (·.2)) h7 (by rw [← hkid.ins h1]; exact hw) (fun q hq => List.mem_cons_of_mem _ (List.mem_cons_of_mem _ hq)) fun F' H' ds' A0' s o keep new => ?_
              have kp := keep p List.mem_cons_self h8
              have kd := keep dx (List.mem_cons_of_mem _ List.mem_cons_self) h9
              refine ⟨p :: dx :: A0', .obj (kp.1.trans h1) (kd.1.trans h2) kp.2 kd.2 h5 h6 o (fun z => (new p z).elim h8 fun y => y List.mem_cons_self) (fun z => (new dx z).elim h9 fun y => y (List.mem_cons_of_mem _ List.mem_cons_self)) h10, rfl, fun q hq => ?_⟩
              rcases List.mem_cons.mp hq with z | z
              · exact .inr (by rw [z]; exact ⟨List.mem_cons_self, h8⟩)
              · rcases List.mem_cons.mp z with z | z
                · exact .inr (by rw [z]; exact ⟨List.mem_cons_of_mem _ List.mem_cons_self, h9⟩)
                · exact .inl z
        | dic o ks xs =>
          cases o with
          | none => exact absurd rfl hrf
          | some t =>
            cases (show Own g F H (.ref p) (.dic (some 0) ks xs) A from h) with
            | frz r _ => cases r
            | @dic _ kvs _ _ A0 h1 h2 h3 h4 h5 =>
              refine fin A0 (kvs.map (·.2)) h4 (by rw [← hkid.dK h1]; exact hw) (fun q hq => List.mem_cons_of_mem _ hq) fun F' H' ds' A0' s o keep new => ?_
              have kp := keep p List.mem_cons_self h5
              refine ⟨p :: A0', .dic (kp.1.trans h1) kp.2 h3 o fun z => (new p z).elim h5 fun y => y List.mem_cons_self, rfl, fun q hq => ?_⟩
              rcases List.mem_cons.mp hq with z | z
              · exact .inr (by rw [z]; exact ⟨List.mem_cons_self, h5⟩)
              · exact .inl z
        | dct o ks xs =>
          cases o with
          | none => exact absurd rfl hrf
          | some t =>
            cases (show Own g F H (.ref p) (.dct (some 0) ks xs) A from h) with
            | frz r _ => cases r
            | @dct _ kvs _ _ A0 h1 h2 h3 h4 h5 =>
              refine fin A0 (kvs.map (·.2)) h4 (by rw [← hkid.dT h1]; exact hw) (fun q hq => List.mem_cons_of_mem _ hq) fun F' H' ds' A0' s o keep new => ?_
              have kp := keep p List.mem_cons_self h5
              refine ⟨p :: A0', .dct (kp.1.trans h1) kp.2 h3 o fun z => (new p z).elim h5 fun y => y List.mem_cons_self, rfl, fun q hq => ?_⟩
              rcases List.mem_cons.mp hq with z | z
              · exact .inr (by rw [z]; exact ⟨List.mem_cons_self, h5⟩)
              · exact .inl z
        | _ => exact absurd rfl hrf
      · cases ha
/-- the slot's own is changed -/
theorem OwnE.upd {A : List Addr} (h : OwnE g τ F H σ ρ A) : ∀ {i : Nat} {d e : D} {v u : V} {π : List Nat}, ρ[i]? = some (some d) → σ[i]? = some (some v) → d.at π = some e → LocV H v d π u →
    ∃ A1, Own g F H u e.un A1 ∧ (∀ q, q ∈ A1 → q ∈ A) ∧ ∀ F' H' e' A1', Same F F' → Own g F' H' u e'.un A1' → e'.tg = e.tg → (∀ q, q ∈ A → q ∉ A1 → H' q = H q ∧ F' q = none) → (∀ q, q ∈ A1' → q ∈ A1 ∨ q ∉ A) →
      ∃ A', OwnE g τ F' H' σ (ρ.set i (some (d.put e' π))) A' ∧ ∀ q, q ∈ A' → q ∈ A1' ∨ (q ∈ A ∧ q ∉ A1) := by
  induction h with
  | nil => intro i d e v u π e1; simp at e1
  | @skip x σ ρ A hr ih =>
    intro i d e v u π e1 e2 ha hl
    cases i with
    | zero => simp at e1
    | succ i =>
      obtain ⟨A1, o1, sub, up⟩ := ih (i := i) (by simpa using e1) (by simpa using e2) ha hl
      refine ⟨A1, o1, sub, fun F' H' e' A1' s o t keep new => ?_⟩
      obtain ⟨A', h1, h2⟩ := up F' H' e' A1' s o t keep new
      exact ⟨A', .skip h1, h2⟩
  | @cons w k σ ρ A B ho ht hr hd ih =>
    intro i d e v u π e1 e2 ha hl
    cases i with
    | zero =>
      simp at e1 e2
      subst e1 e2
      obtain ⟨A1, o1, sub, up⟩ := ho.upd π ha hl
      refine ⟨A1, o1, fun q hq => List.mem_append_left _ (sub q hq), fun F' H' e' A1' s o t keep new => ?_⟩
      obtain ⟨A', h1, h2, h3⟩ := up F' H' e' A1' s o t (fun q hq => keep q (List.mem_append_left _ hq)) fun q hq => (new q hq).imp id fun z y => z (List.mem_append_left _ y)
      have hr' : OwnE g τ F' H' σ ρ B := hr.keep s fun q hq => by
        have z := keep q (List.mem_append_right _ hq) fun z => hd q (sub q z) hq
        exact ⟨z.2, z.1⟩
      refine ⟨A' ++ B, .cons h1 (fun n hn => ht n (by rw [← h2]; exact hn)) hr' fun q hq hb => ?_, fun q hq => ?_⟩
      · rcases h3 q hq with z | z
        · rcases new q z with y | y
          · exact hd q (sub q y) hb
          · exact y (List.mem_append_right _ hb)
        · exact hd q z.1 hb
      · rcases List.mem_append.mp hq with z | z
        · exact (h3 q z).imp id fun y => ⟨List.mem_append_left _ y.1, y.2⟩
        · exact .inr ⟨List.mem_append_right _ z, fun y => hd q (sub q y) z⟩
    | succ i =>
      obtain ⟨A1, o1, sub, up⟩ := ih (i := i) (by simpa using e1) (by simpa using e2) ha hl
      refine ⟨A1, o1, fun q hq => List.mem_append_right _ (sub q hq), fun F' H' e' A1' s o t keep new => ?_⟩
      obtain ⟨A', h1, h2⟩ := up F' H' e' A1' s o t (fun q hq => keep q (List.mem_append_right _ hq)) fun q hq => (new q hq).imp id fun z y => z (List.mem_append_right _ y)
      have ho' : Own g F' H' w k.un A := ho.keep s fun q hq => by
        have z := keep q (List.mem_append_left _ hq) fun z => hd q hq (sub q z)
        exact ⟨z.2, z.1⟩
      refine ⟨A ++ A', .cons ho' ht h1 fun q hq hb => ?_, fun q hq => ?_⟩
      · rcases h2 q hb with z | z
        · rcases new q z with y | y
          · exact hd q hq (sub q y)
          · exact y (List.mem_append_left _ hq)
        · exact hd q hq z.1
      · rcases List.mem_append.mp hq with z | z
        · exact .inr ⟨List.mem_append_left _ z, fun y => hd q z (sub q y)⟩
        · exact (h2 q z).imp id fun y => ⟨List.mem_append_right _ y.1, y.2⟩
theorem EnvR.upd (E : EnvR g τ B F H σ ρ) {i : Nat} {d e : D} {v u : V} {π : List Nat} (e1 : ρ[i]? = some (some d)) (e2 : σ[i]? = some (some v)) (ha : d.at π = some e) (hl : LocV H v d π u) :
    ∃ A1, Own g F H u e.un A1 ∧ (∀ q, q ∈ A1 → B q = none) ∧ ∀ F' H' e' A1', Same F F' → Same F' H' → Own g F' H' u e'.un A1' → e'.tg = e.tg → (∀ q o, H q = some o → q ∉ A1 → H' q = some o ∧ F' q = F q) → (∀ q, q ∈ A1' → q ∈ A1 ∨ H q = none) →
      EnvR g τ B F' H' σ (ρ.set i (some (d.put e' π))) ∧ StepI B F F' H' := by
  obtain ⟨A, o, b⟩ := E.own
  obtain ⟨A1, o1, sub, up⟩ := o.upd e1 e2 ha hl
  refine ⟨A1, o1, fun q hq => b q (sub q hq), fun F' H' e' A1' s1 s2 oo t keep new => ?_⟩
  obtain ⟨A', h1, h2⟩ := up F' H' e' A1' s1 oo t (fun q hq hn => by
    obtain ⟨f, x, hx⟩ := o.mem q hq
    obtain ⟨k1, k2⟩ := keep q x hx hn
    exact ⟨k1.trans hx.symm, k2.trans f⟩) fun q hq => (new q hq).imp id fun z y => by
    obtain ⟨_, x, hx⟩ := o.mem q y
    rw [z] at hx; cases hx
  have bh : Same B H' := fun q x hx => (keep q x (E.bh q x hx) fun z => by rw [b q (sub q z)] at hx; cases hx).1
  have bf : ∀ q o, B q = some o → F' q = F q := fun q x hx => (keep q x (E.bh q x hx) fun z => by rw [b q (sub q z)] at hx; cases hx).2
  refine ⟨⟨bh, s2, A', h1, fun p hp => ?_⟩, s1, s2, bh, bf⟩
  rcases h2 p hp with z | z
  · rcases new p z with y | y
    · exact b p (sub p y)
    · exact E.bh.free y
  · exact b p z.1
end
end Dt

set_option Elab.async false
set_option linter.all false
set_option maxRecDepth 100000
set_option maxHeartbeats 2000000
/-! Dat: places named by expressions; append, stores, attributes. -/
namespace Dt
open PySem PySem.Spec PyProof.Rows L2

/-- a place: a slot, a path -/
abbrev Pl := Nat × List Nat
def getP (ρ : Env) (p : Pl) : Option D := match ρ[p.1]? with
  | some (some d) => d.at p.2
  | _ => none
def putP (ρ : Env) (p : Pl) (e : D) : Env := match ρ[p.1]? with
  | some (some d) => ρ.set p.1 (some (d.put e p.2))
  | _ => ρ
def Loc (H : Hp) (σ : L2.St) (ρ : Env) (p : Pl) (u : V) : Prop := ∃ d e v0, ρ[p.1]? = some (some d) ∧ σ[p.1]? = some (some v0) ∧ d.at p.2 = some e ∧ LocV H v0 d p.2 u

section
variable {g : G} {τ : List V} {B F F' H H' : Hp} {σ : L2.St} {ρ : Env}
theorem Loc.mono {p : Pl} {u : V} (s : Same H H') (h : Loc H σ ρ p u) : Loc H' σ ρ p u := by
  obtain ⟨d, e, v0, h1, h2, h3, h4⟩ := h
  exact ⟨d, e, v0, h1, h2, h3, h4.mono s⟩
theorem KidsAt.uniq {p : Addr} {vs ws : List V} (h : KidsAt H p vs) (k : KidsAt H p ws) : vs = ws := by
  rcases h with h | ⟨ca, dx, fs, h, e⟩ | ⟨kvs, h, e⟩ | ⟨kvs, h, e⟩
  · exact (k.lst h).symm
  · rw [e, k.ins h]
  · rw [e, k.dK h]
  · rw [e, k.dT h]
theorem LocV.uniq : ∀ {π : List Nat} {v : V} {d : D} {u w : V}, LocV H v d π u → LocV H v d π w → u = w
  | [], _, _, _, _, h, k => (show _ = _ from h).trans (show _ = _ from k).symm
  | _ :: _, _, _, _, _, ⟨p, vs, w, k, h1, h2, h3, h4, h5⟩, ⟨p', vs', w', k', h1', h2', h3', h4', h5'⟩ => by
    rw [h1] at h1'
    cases h1'
    rw [h2'.uniq h2] at h3'
    rw [h3] at h3'
    cases h3'
    rw [h4] at h4'
    cases h4'
    exact LocV.uniq h5 h5'
theorem OwnL.length {vs : List V} {ds : List D} {A : List Addr} (h : OwnL g F H vs ds A) : vs.length = ds.length := by
  induction ds generalizing vs A with
  | nil => cases h; rfl
  | cons d ds ih => cases h with | cons _ r _ => rw [List.length_cons, List.length_cons, ih r]
theorem OwnL.get {vs : List V} {ds : List D} {A : List Addr} (h : OwnL g F H vs ds A) {n : Nat} {k : D} (e : ds[n]? = some k) : ∃ w Ak, vs[n]? = some w ∧ Own g F H w k Ak := by
  have hn : n < vs.length := by rw [h.length]; exact (List.getElem?_eq_some_iff.mp e).1
  obtain ⟨Ak, o, _⟩ := h.sub (List.getElem?_eq_getElem hn) e
  exact ⟨_, Ak, List.getElem?_eq_getElem hn, o⟩
theorem Own.loc : ∀ {π : List Nat} {v : V} {d e : D} {A : List Addr}, Own g F H v d.un A → d.at π = some e → ∃ u, LocV H v d π u
  | [], v, _, _, _, _, _ => ⟨v, rfl⟩
  | n :: π, v, d, e, A, h, ha => by
    unfold D.at at ha
    split at ha
    · cases ha
    · rename_i hrf
      split at ha
      · rename_i k hk
        have fin : ∀ (p : Addr) (vs : List V) (A0 : List Addr), v = .ref p → KidsAt H p vs → OwnL g F H vs d.kids A0 → ∃ u, LocV H v d (n :: π) u := fun p vs A0 e1 e2 o => by
          obtain ⟨w, Ak, h1, h2⟩ := o.get hk
          obtain ⟨u, hu⟩ := Own.loc (π := π) (by rw [h2.un_eq]; exact h2) ha
          exact ⟨u, p, vs, w, k, e1, e2, h1, hk, hu⟩
        cases d with
        | lst o xs => cases o with
          | none => exact absurd rfl hrf
          | some t => cases (show Own g F H v (.lst (some 0) xs) A from h) with
            | frz r _ => cases r
            | lst h1 h2 h3 h4 => exact fin _ _ _ rfl (.inl h1) h3
        | obj o C ns xs => cases o with
          | none => exact absurd rfl hrf
          | some t => cases (show Own g F H v (.obj (some 0) C ns xs) A from h) with
            | frz r _ => cases r
            | obj h1 h2 h3 h4 h5 h6 h7 => exact fin _ _ _ rfl (.inr (.inl ⟨_, _, _, h1, rfl⟩)) h7
        | dic o ks xs => cases o with
          | none => exact absurd rfl hrf
          | some t => cases (show Own g F H v (.dic (some 0) ks xs) A from h) with
            | frz r _ => cases r
            | dic h1 h2 h3 h4 => exact fin _ _ _ rfl (.inr (.inr (.inl ⟨_, h1, rfl⟩))) h4
        | dct o ks xs => cases o with
          | none => exact absurd rfl hrf
          | some t => cases (show Own g F H v (.dct (some 0) ks xs) A from h) with
            | frz r _ => cases r
            | dct h1 h2 h3 h4 => exact fin _ _ _ rfl (.inr (.inr (.inr ⟨_, h1, rfl⟩))) h4
        | _ => exact absurd rfl hrf
      · cases ha
/-- a place found later stood there before -/
theorem EnvR.locBack (E : EnvR g τ B F H σ ρ) (s : Same H H') {p : Pl} {u : V} (h : Loc H' σ ρ p u) : Loc H σ ρ p u := by
  obtain ⟨d, e, v0, h1, h2, h3, h4⟩ := h
  obtain ⟨A, o, _⟩ := E.own
  obtain ⟨v1, A', k1, k2, _, _⟩ := o.get h1
  rw [h2] at k1
  cases k1
  obtain ⟨u', hu'⟩ := Own.loc k2 h3
  rw [← (hu'.mono s).uniq h4]
  exact ⟨d, e, v0, h1, h2, h3, hu'⟩
theorem getP_of {p : Pl} {u : V} {e : D} (h : Loc H σ ρ p u) (e1 : getP ρ p = some e) : ∃ d v0, ρ[p.1]? = some (some d) ∧ σ[p.1]? = some (some v0) ∧ d.at p.2 = some e ∧ LocV H v0 d p.2 u := by
  obtain ⟨d, e', v0, h1, h2, h3, h4⟩ := h
  unfold getP at e1
  rw [h1] at e1
  exact ⟨d, v0, h1, h2, e1, h4⟩
theorem putP_of {p : Pl} {d e : D} (h : ρ[p.1]? = some (some d)) : putP ρ p e = ρ.set p.1 (some (d.put e p.2)) := by unfold putP; rw [h]
theorem OwnL.mono' {vs : List V} {ds : List D} {A : List Addr} (h : OwnL g F H vs ds A) (k : ∀ p, p ∈ A → H' p = H p) : OwnL g F H' vs ds A := h.keep (Same.refl F) fun p hp => ⟨(h.mem p hp).1, k p hp⟩
/-- a list of one's own is changed -/
theorem EnvR.mutL (E : EnvR g τ B F H σ ρ) {p : Pl} {u : V} {t : Nat} {xs : List D} (h : Loc H σ ρ p u) (e1 : getP ρ p = some (.lst (some t) xs)) :
    ∃ a vs A0, u = .ref a ∧ H a = some (.lst vs) ∧ OwnL g F H vs xs A0 ∧ a ∉ A0 ∧ F a = none ∧ ∀ F' H' ws ds A1, StepP F H F' H' → OwnL g F' H' ws ds A1 → a ∉ A1 → (∀ q, q ∈ A1 → q ∈ A0 ∨ H q = none) →
      EnvR g τ B F' (L2.upd H' a (.lst ws)) σ (putP ρ p (.lst (some t) ds)) ∧ StepI B F F' (L2.upd H' a (.lst ws)) := by
  obtain ⟨d, v0, h1, h2, h3, h4⟩ := getP_of h e1
  obtain ⟨A1, o1, hb, up⟩ := E.upd h1 h2 h3 h4
  cases (show Own g F H u (.lst (some 0) xs) A1 from o1) with
  | frz r _ => cases r
  | @lst a vs _ A0 k1 k2 k3 k4 =>
    refine ⟨a, vs, A0, rfl, k1, k3, k4, k2, fun F' H' ws ds A2 s o na new => ?_⟩
    have fa : F' a = none := (s.new a _ k1).trans k2
    rw [putP_of h1]
    refine up F' _ (.lst (some t) ds) (a :: A2) s.ff (fun q x hx => ?_) (.lst upd_same fa (o.mono' fun q hq => upd_ne fun z => na (by rw [← z]; exact hq)) na) rfl (fun q x hx hq => ⟨?_, s.new q x hx⟩) fun q hq => ?_
    · rw [upd_ne fun z => by rw [z, fa] at hx; cases hx]; exact s.fh q x hx
    · rw [upd_ne fun z => hq (by rw [z]; exact List.mem_cons_self)]; exact s.hh q x hx
    · rcases List.mem_cons.mp hq with z | z
      · exact .inl (by rw [z]; exact List.mem_cons_self)
      · exact (new q z).imp (fun y => List.mem_cons_of_mem _ y) id
theorem OwnL.snoc {vs : List V} {ds : List D} {A A1 : List Addr} {v : V} {d : D} (h : OwnL g F H vs ds A) (o : Own g F H v d A1) (dj : ∀ q, q ∈ A → q ∉ A1) : ∃ A', OwnL g F H (vs ++ [v]) (ds ++ [d]) A' ∧ ∀ q, q ∈ A' → q ∈ A ∨ q ∈ A1 := by
  induction ds generalizing vs A with
  | nil =>
    cases h
    exact ⟨A1 ++ [], .cons o .nil (fun _ _ z => nomatch z), fun q hq => .inr (by simpa using hq)⟩
  | cons e ds ih =>
    cases h with
    | @cons w _ vs _ A B ho hr hd =>
      obtain ⟨A', h1, h2⟩ := ih hr fun q hq => dj q (List.mem_append_right _ hq)
      refine ⟨A ++ A', .cons ho h1 fun q hq hb => ?_, fun q hq => ?_⟩
      · rcases h2 q hb with z | z
        · exact hd q hq z
        · exact dj q (List.mem_append_left _ hq) z
      · rcases List.mem_append.mp hq with z | z
        · exact .inl (List.mem_append_left _ z)
        · exact (h2 q z).imp (fun y => List.mem_append_right _ y) id
theorem OwnL.set {vs : List V} {ds : List D} {A A1 : List Addr} {v : V} {d : D} {n : Nat} (h : OwnL g F H vs ds A) (o : Own g F H v d A1) (dj : ∀ q, q ∈ A → q ∉ A1) : ∃ A', OwnL g F H (vs.set n v) (ds.set n d) A' ∧ ∀ q, q ∈ A' → q ∈ A ∨ q ∈ A1 := by
  induction ds generalizing vs A n with
  | nil => cases h; exact ⟨[], by simpa using OwnL.nil, fun q hq => nomatch hq⟩
  | cons e ds ih =>
    cases h with
    | @cons w _ vs _ A B ho hr hd =>
      cases n with
      | zero => exact ⟨A1 ++ B, .cons o hr fun q hq hb => dj q (List.mem_append_right _ hb) hq, fun q hq => (List.mem_append.mp hq).elim .inr fun z => .inl (List.mem_append_right _ z)⟩
      | succ n =>
        obtain ⟨A', h1, h2⟩ := ih (n := n) hr fun q hq => dj q (List.mem_append_right _ hq)
        refine ⟨A ++ A', .cons ho h1 fun q hq hb => ?_, fun q hq => ?_⟩
        · rcases h2 q hb with z | z
          · exact hd q hq z
          · exact dj q (List.mem_append_left _ hq) z
        · rcases List.mem_append.mp hq with z | z
          · exact .inl (List.mem_append_left _ z)
          · exact (h2 q z).imp (fun y => List.mem_append_right _ y) id
theorem OwnL.append {vs ws : List V} {ds es : List D} {A A1 : List Addr} (h : OwnL g F H vs ds A) (o : OwnL g F H ws es A1) (dj : ∀ q, q ∈ A → q ∉ A1) : ∃ A', OwnL g F H (vs ++ ws) (ds ++ es) A' ∧ ∀ q, q ∈ A' → q ∈ A ∨ q ∈ A1 := by
  induction ds generalizing vs A with
  | nil => cases h; exact ⟨A1, o, fun q hq => .inr hq⟩
  | cons e ds ih =>
    cases h with
    | @cons w _ vs _ A B ho hr hd =>
      obtain ⟨A', h1, h2⟩ := ih hr fun q hq => dj q (List.mem_append_right _ hq)
      refine ⟨A ++ A', .cons ho h1 fun q hq hb => ?_, fun q hq => ?_⟩
      · rcases h2 q hb with z | z
        · exact hd q hq z
        · exact dj q (List.mem_append_left _ hq) z
      · rcases List.mem_append.mp hq with z | z
        · exact .inl (List.mem_append_left _ z)
        · exact (h2 q z).imp (fun y => List.mem_append_right _ y) id
end

def outP (W : Wx) (g : G) (F H : Hp) (σ : L2.St) (ρ : Env) (Q : VK) : R Pl → Prop
  | .ok p => ∀ v H' F', StepP F H F' H' → Loc H' σ ρ p v → Q v H'
  | .ex x => ∀ cls dd H' F', StepP F H F' H' → ResX g H F' H' cls dd x → W.w cls dd σ H'
  | .bad => False
def liftP (g : G) (W : Wx) (f : Env → R Pl) : TE := fun σ H Q => ∃ τ B F ρ, EnvR g τ B F H σ ρ ∧ outP W g F H σ ρ Q (f ρ)
abbrev DPl (X : Cx) (W : Wx) (e : Expr) (f : Env → R Pl) : Prop := PE X e (liftP (gx X W) W f)

section
variable {X : Cx} {W : Wx} {gr g1 g2 : Bool} {a b e : Expr} {pos : Pos} {fa fb : Env → R D} {fp : Env → R Pl}
def pName (i : Nat) : Env → R Pl := fun ρ => match ρ[i]? with
  | some (some _) => .ok (i, [])
  | _ => .bad
theorem dp_name {i : Nat} (h : PE X e (tVar i)) : DPl X W e (pName i) := pe_imp h fun σ H Q => fun ⟨τ, B, F, ρ, E, q⟩ => by
  unfold pName at q
  split at q
  · rename_i d hd
    obtain ⟨A, o, _⟩ := E.own
    obtain ⟨v, A', h1, _, _, _⟩ := o.get hd
    exact ⟨v, h1, q v H F (StepP.refl E.fh) ⟨d, d, v, hd, h1, rfl, rfl⟩⟩
  · exact q.elim
/-- the place p's item -/
def stepIx (ρ : Env) (p : Pl) (j : D) : R Pl := match getP ρ p, j with
  | some (.lst (some _) xs), .int k => match ixN xs.length k with
    | some n => .ok (p.1, p.2 ++ [n])
    | none => .bad
  | _, _ => .bad
def pIx (fp : Env → R Pl) (fb : Env → R D) : Env → R Pl := fun ρ => (fp ρ).bind fun p => (fb ρ).bind fun j => stepIx ρ p j
theorem at_snoc : ∀ {π : List Nat} {d e k : D} {n : Nat}, d.at π = some e → e.rf = false → e.kids[n]? = some k → d.at (π ++ [n]) = some k
  | [], d, e, k, n, h, hr, hk => by
    cases h
    show (if d.rf = true then none else match d.kids[n]? with | some k => k.at [] | none => none) = some k
    rw [hr, hk]
    rfl
  | m :: π, d, e, k, n, h, hr, hk => by
    unfold D.at at h
    show (if d.rf = true then none else match d.kids[m]? with | some k => k.at (π ++ [n]) | none => none) = some k
    split at h
    · cases h
    · rename_i hd
      rw [if_neg hd]
      split at h
      · rename_i c hc
        first
        | exact at_snoc h hr hk
        | (rw [hc]; exact at_snoc h hr hk)
      · cases h
theorem loc_snoc {H : Hp} : ∀ {π : List Nat} {v : V} {d e k : D} {n : Nat} {p : Addr} {vs : List V} {w : V}, LocV H v d π (.ref p) → d.at π = some e → KidsAt H p vs → vs[n]? = some w → e.kids[n]? = some k → LocV H v d (π ++ [n]) w
  | [], v, d, e, k, n, p, vs, w, h, ha, hk, hw, he => by
    cases ha
    exact ⟨p, vs, w, k, (show V.ref p = v from h).symm, hk, hw, he, rfl⟩
  | m :: π, v, d, e, k, n, p, vs, w, ⟨p1, vs1, w1, k1, h1, h2, h3, h4, h5⟩, ha, hk, hw, he => by
    unfold D.at at ha
    split at ha
    · cases ha
    · rw [h4] at ha
      exact ⟨p1, vs1, w1, k1, h1, h2, h3, h4, loc_snoc h5 ha hk hw he⟩
/-- what stands at a place, in the heap -/
theorem EnvR.there {g : G} {τ : List V} {B F H : Hp} {σ : L2.St} {ρ : Env} (E : EnvR g τ B F H σ ρ) {p : Pl} {u : V} {e : D} (h : Loc H σ ρ p u) (e1 : getP ρ p = some e) : ∃ A1, Own g F H u e.un A1 := by
  obtain ⟨d, v0, h1, h2, h3, h4⟩ := getP_of h e1
  obtain ⟨A1, o1, _⟩ := E.upd h1 h2 h3 h4
  exact ⟨A1, o1⟩
theorem dp_ix (ha : DPl X W a fp) (hb : DE g2 X W b fb) (hs : PlainIx b := by exact fun _ _ => rfl) : DPl X W (.Subscript a b pos) (pIx fp fb) := pe_imp (pe_ix ix_list ha hb hs) fun σ H Q => fun ⟨τ, B, F, ρ, E, q⟩ => by
  refine ⟨τ, B, F, ρ, E, ?_⟩
  unfold pIx at q
  cases hf : fp ρ with
  | bad => rw [hf] at q; exact q
  | ex x => rw [hf] at q; exact q
  | ok p =>
    rw [hf, R.bind_ok] at q
    intro v H1 F1 s1 l1
    have E1 := E.stepP s1
    refine ⟨τ, B, F1, ρ, E1, ?_⟩
    cases hb : fb ρ with
    | bad => rw [hb] at q; exact q
    | ex x => rw [hb] at q; exact fun cls dd H' F' s2 r => q cls dd H' F' (s1.trans s2) (r.back s1.hh)
    | ok j =>
      rw [hb, R.bind_ok] at q
      intro w H2 F2 s2 r2
      have r2 := r2.rp s2
      have E2 := E1.stepP s2
      have l2 := l1.mono s2.hh
      cases hg : getP ρ p with
      | none => unfold stepIx at q; rw [hg] at q; exact q.elim
      | some e0 =>
      unfold stepIx at q
      rw [hg] at q
      split at q
      · rename_i _ t0 xs k he0 _
        cases he0
        split at q
        · rename_i n hn
          cases r2
          obtain ⟨A1, o⟩ := E2.there l2 hg
          obtain ⟨d, v0, h1, h2, h3, h4⟩ := getP_of l2 hg
          cases (show Own (gx X W) F2 H2 v (.lst (some 0) xs) A1 from o) with
          | frz r _ => cases r
          | @lst a vs _ A0 k1 k2 k3 k4 =>
            have hnl : n < xs.length := by
              obtain ⟨_, z, _⟩ := ixN_seq hn; exact z
            obtain ⟨u, Ak, hu, _⟩ := k3.get (List.getElem?_eq_getElem hnl)
            refine ⟨a, vs, k, u, rfl, rfl, SqL.of k1, ?_, q u H2 F2 (s1.trans s2) ⟨d, xs[n], v0, h1, h2, at_snoc h3 rfl (List.getElem?_eq_getElem hnl), loc_snoc h4 h3 (.inl k1) hu (List.getElem?_eq_getElem hnl)⟩⟩
            unfold L2.atI
            rw [k3.length, hn]
            exact hu
        · exact q.elim
      · exact q.elim
/-- an end that may be an exception -/
def Out.ofP (r : R Pl) (ρ : Env) (k : Pl → Out) : Out := match r with
  | .ok d => k d
  | .ex x => .xc x ρ
  | .bad => .bad
@[simp] theorem Out.ofP_ok (d : Pl) (ρ : Env) (k : Pl → Out) : Out.ofP (.ok d) ρ k = k d := rfl
/-- the list of one's own at a place -/
def onLst (ρ : Env) (p : Pl) (k : Nat → List D → Out) : Out := match getP ρ p with
  | some (.lst (some t) xs) => k t xs
  | _ => .bad
theorem onLst_ok {g : G} {W : Wx} {τ : List V} {B F : Hp} {E : Ends} {ρ : Env} {p : Pl} {k : Nat → List D → Out} (h : outS g W τ B F E (onLst ρ p k)) : ∃ t xs, getP ρ p = some (.lst (some t) xs) ∧ outS g W τ B F E (k t xs) := by
  unfold onLst at h
  split at h
  · rename_i t xs hg; exact ⟨t, xs, hg, h⟩
  · exact h.elim
/-- o.append(e) -/
def dAppend (fp : Env → R Pl) (fa : Env → R D) : DTS := fun ρ => Out.ofP (fp ρ) ρ fun p => onLst ρ p fun t xs => Out.of (fa ρ) ρ fun d => if xs.length < 16777216 then .nx (putP ρ p (.lst (some t) (xs ++ [d]))) else .bad
theorem ds_append {apos cpos : Pos} (hp : DPl X W a fp) (he : DE true X W e fa)
    (hbase : attributeBase a "append" X.env (eval a X.env) = eval a X.env := by rfl)
    (hfew : ((backTo cpos (starEach [e] X.env)).all (fun x => !x.1) && (backToKw cpos (keywordEach [] X.env)).all (fun x => x.1.isSome) && decide ([e].length + ([] : List Keyword).length + (if ([] : List Keyword).isEmpty then 0 else 1) < 30)) = true := by rfl)
    (hline : (apos.endLine == cpos.line) = true := by rfl) (hs : starEach [e] X.env = (false, eval e X.env) :: starEach [] X.env := by rfl) (hplain : (backTo cpos (starEach [] X.env)).any (·.1) = false := by rfl)
    (hsw : swapsWith (.Call (.Attribute a "append" apos) [e] [] cpos) none pos.line X.env = pure false := by rfl) :
    DS X W (.Expr (.Call (.Attribute a "append" apos) [e] [] cpos) pos) (dAppend fp fa) :=
  ps_imp (ps_expr (pe_bm PySem.F.plainAttrs_list PySem.F.slot_list_append PySem.F.type_list_append mt_append hp (pa_cons he pa_nil hs) hbase hfew hline hs hplain) hsw) fun E σ H => fun ⟨τ, B, F, ρ, R, q⟩ => by
  refine ⟨τ, B, F, ρ, R, ?_⟩
  unfold dAppend at q
  cases hf : fp ρ with
  | bad => rw [hf] at q; exact q
  | ex x => rw [hf] at q; exact fun cls dd H' F' s r => q cls dd σ H H' F' (s.toI R.bh) (R.stepP s) r
  | ok p =>
    rw [hf, Out.ofP_ok] at q
    obtain ⟨t, xs, hg, q⟩ := onLst_ok q
    intro u H1 F1 s1 l1
    have R1 := R.stepP s1
    have q := outS.step (s1.toI R.bh) q
    obtain ⟨l, vs, A0, rfl, k1, k2, k3, k4, up⟩ := R1.mutL l1 hg
    refine ⟨.inl ⟨rfl, _, SqL.of k1⟩, ?_⟩
    refine lift_of R1 q fun d v H2 F2 hd s2 r2 o => ?_
    have o : outS (gx X W) W τ B F2 E (if _ then _ else _) := o
    split at o
    · rename_i hlen
      obtain ⟨Ay, oy, fy⟩ := r2
      obtain ⟨A', o1, h1⟩ := (k2.stepP s2).snoc oy fun x hx hy => by
        obtain ⟨_, z, hz⟩ := k2.mem x hx
        rw [fy x hy] at hz; cases hz
      obtain ⟨R3, s3⟩ := up F2 H2 (vs ++ [v]) (xs ++ [d]) A' s2 o1 (fun z => by
        rcases h1 l z with y | y
        · exact k3 y
        · rw [fy l y] at k1; cases k1) fun x hx => (h1 x hx).imp id (fy x)
      have e1 : vs.length < sizeLine := by rw [k2.length, sizeLine_eq]; exact hlen
      exact ⟨l, vs, v, rfl, rfl, s2.hh _ _ k1, e1, o σ _ F2 ⟨Same.refl F2, R3.fh, R3.bh, fun _ _ _ => rfl⟩ R3⟩
    · exact o.elim

/-! ### o[i] = e -/
def dStore (fp : Env → R Pl) (fb fa : Env → R D) : DTS := fun ρ => Out.of (fa ρ) ρ fun d => Out.ofP (fp ρ) ρ fun p => onLst ρ p fun t xs => Out.of (fb ρ) ρ fun j => match j with
  | .int k => match ixN xs.length k with
    | some n => .nx (putP ρ p (.lst (some t) (xs.set n d)))
    | none => .bad
  | _ => .bad
theorem ds_store {v : Expr} {tpos : Pos} (hp : DPl X W a fp) (hb : DE g2 X W b fb) (he : DE true X W v fa)
    (ha : ∀ u, assign (.Subscript a b tpos) X.env u = (do
      let ov ← holding [u] (eval a X.env)
      let iv ← holding [u, ov] (eval b X.env)
      standAt tpos
      holding [u, ov, iv] (setItem ov iv u)
      release [u, ov, iv] []) := by exact fun _ => rfl)
    (hs : swapsWithSole [.Subscript a b tpos] v pos.line X.env = pure false := by rfl) (hw : swappedStores [.Subscript a b tpos] v X.env = pure none := by rfl)
    (h1 : (assignEach [.Subscript a b tpos] X.env).map (·.2) = [assign (.Subscript a b tpos) X.env] := by rfl) :
    DS X W (.Assign [.Subscript a b tpos] v pos) (dStore fp fb fa) := ps_imp (ps_asg he (pg_sub hp hb set_list ha) hs hw h1) fun E σ H => fun ⟨τ, B, F, ρ, R, q⟩ => by
  unfold dStore at q
  refine lift_of R q fun d v H1 F1 hd s1 r1 q => ?_
  have R1 := R.stepP s1
  refine ⟨τ, B, F1, ρ, R1, ?_⟩
  cases hf : fp ρ with
  | bad => rw [hf] at q; exact q
  | ex x => rw [hf] at q; exact fun cls dd H' F' s r => q cls dd σ H1 H' F' (s.toI R1.bh) (R1.stepP s) r
  | ok p =>
    rw [hf, Out.ofP_ok] at q
    obtain ⟨t, xs, hg, q⟩ := onLst_ok q
    intro u H2 F2 s2 l2
    have R2 := R1.stepP s2
    have q := outS.step (s2.toI R1.bh) q
    refine lift_of R2 q fun j w H3 F3 hj s3 r3 o => ?_
    cases j with
    | int k =>
      have o : outS (gx X W) W τ B F3 E (match ixN xs.length k with | some n => .nx (putP ρ p (.lst (some t) (xs.set n d))) | none => .bad) := o
      cases hn : ixN xs.length k with
      | none => rw [hn] at o; exact o.elim
      | some n =>
        rw [hn] at o
        have r3' := r3.rp s3
        cases r3'
        have l0 := R.locBack (s1.hh.trans s2.hh) l2
        obtain ⟨l, vs, A0, rfl, k1, k2, k3, k4, up⟩ := R.mutL l0 hg
        obtain ⟨Ay, oy, fy⟩ := r1
        have s13 := (s1.trans s2).trans s3
        obtain ⟨A', o1, h1⟩ := (k2.stepP s13).set (n := n) ((oy.stepP s2).stepP s3) fun x hx hy => by
          obtain ⟨_, z, hz⟩ := k2.mem x hx
          rw [fy x hy] at hz; cases hz
        obtain ⟨R3, s4⟩ := up F3 H3 (vs.set n v) (xs.set n d) A' s13 o1 (fun z => by
          rcases h1 l z with y | y
          · exact k3 y
          · rw [fy l y] at k1; cases k1) fun x hx => (h1 x hx).imp id (fy x)
        exact ⟨l, vs, k, n, rfl, rfl, s13.hh _ _ k1, by rw [k2.length]; exact hn, o σ _ F3 ⟨Same.refl F3, R3.fh, R3.bh, fun _ _ _ => rfl⟩ R3⟩
    | _ => exact o.elim
end
end Dt

set_option Elab.async false
set_option linter.all false
set_option maxRecDepth 100000
set_option maxHeartbeats 2000000
/-! Dat: defs, their calls; raise, try. -/
namespace Dt
open PySem PySem.Spec PyProof.Rows L2

/-- a def that changes none of its arguments, of N slots -/
def runF (N : Nat) (t : DTS) : List D → R D := fun ds => match t (ds.map some ++ List.replicate (N - ds.length) none) with
  | .rt d _ => .ok d
  | .nx _ => .ok .non
  | .xc x _ => .ex x
  | _ => .bad
def toSp0 (g : G) (n : Nat) (f : List D → R D) : Sp := fun vs H Q E => vs.length = n ∧ ∃ F ds, Same F H ∧ RpL g F vs ds ∧ allRf ds = true ∧ match f ds with
  | .ok r => ∀ v H' F', StepP F H F' H' → ResG true g F H F' H' v r → Q v H'
  | .ex x => ∀ cls dd H' F', StepP F H F' H' → ResX g H F' H' cls dd x → E cls dd H'
  | .bad => False
theorem OwnE.args {g : G} {F H : Hp} {vs : List V} {ds : List D} (r : RpL g F vs ds) (f : allRf ds = true) (k : Nat) : OwnE g [] F H (vs.map some ++ List.replicate k none) (ds.map some ++ List.replicate k none) [] := by
  induction ds generalizing vs with
  | nil =>
    cases r
    induction k with
    | zero => exact .nil
    | succ k ih => exact .skip ih
  | cons d ds ih =>
    cases r with
    | @cons v _ vs _ r1 r2 =>
      have s' := Bool.and_eq_true_iff.mp (show (_ && _) = true from f)
      exact .cons (A := []) (B := []) (by rw [D.un, tag_rf s'.1]; exact .frz s'.1 r1) (fun k hk => by
        have : d.tg = 0 := by rw [← tag_rf s'.1 0]; exact D.tg_un d
        rw [this] at hk; cases hk) (ih r2 s'.2) fun _ z => nomatch z
/-- a frame that is left -/
theorem EnvR.left {g : G} {F H F' H' : Hp} {v : V} {d : D} {σ : L2.St} {ρ : Env} (s : StepI H F F' H') (R : EnvR g [] H F' H' (some v :: σ) (some d :: ρ)) : StepP F H F' H' ∧ ResG true g F H F' H' v d := by
  refine ⟨⟨s.ff, s.fh, s.bh, s.new⟩, ?_⟩
  obtain ⟨A, o, b⟩ := R.own
  cases o with
  | @cons _ _ _ _ A1 A2 o1 t o2 dj =>
    have t0 : d.tg = 0 := by
      cases ht : d.tg with
      | zero => rfl
      | succ k => have := t k ht; simp at this
    rw [un_tg0 t0] at o1
    exact ⟨A1, o1, fun p hp => b p (List.mem_append_left _ hp)⟩
section
variable {P : Program} {w : World} {K : PySem.W.Frag} {mg : Str → Option Value} {base : Heap}
theorem hu65 {k : Nat} {A : Around} (hr : Room k A) : A.units + 65 < cLine := by have := hr.un; omega
theorem okXN {x qual : Str} {st : Stmt} {f : Addr} {fd : FuncData} {N ps : List Str} {k : Nat} {sp : Sp} (F : Fun K x qual st f fd) (S : FnScope N ps (defScope st)) (len : ∀ vs H Q E, sp vs H Q E → vs.length = ps.length)
    (hbody : ∀ (cdv : Value) (A : Around) (outer : List PySem.Env) (s : Shared) (H : Hp) (vs : List V) (Q : VK) (E : XK), Room k (A.deeper (envOfC qual (defScope st) s.heap.objs.size f cdv)) → sp vs H Q E →
      ∃ t, PSs (cxOf (L2N.CX P w) P w K mg base N qual (defScope st) f cdv A outer s H E) (defBody st) t ∧ t { nx := fun _ H' => Q .non H', rt := Q } (start N vs) H) : FnOk P w K mg base (L2N.CX P w) (k + 1) f fd ps sp := by
  obtain ⟨oc, od, kV, doc, pm, an, cdv, ct, osl, rfl, lk, hcd⟩ := F.ex
  exact fn_of lk hcd S len fun A outer s H vs Q E hr hsp => hbody cdv A outer s H vs Q E hr hsp
/-- THE RULE for a def: its body's denotation is what it does -/
theorem fun0 {x qual : Str} {st : Stmt} {f : Addr} {fd : FuncData} {N ps : List Str} {k : Nat} {t : DTS} (F : Fun K x qual st f fd) (S : FnScope N ps (defScope st))
    (hbody : ∀ (cdv : Value) (A : Around) (outer : List PySem.Env) (s : Shared) (H : Hp) (E : XK), Room k (A.deeper (envOfC qual (defScope st) s.heap.objs.size f cdv)) →
      DSs (cxOf (L2N.CX P w) P w K mg base N qual (defScope st) f cdv A outer s H E) ⟨fun cls dd _ H => E cls dd H, none⟩ (defBody st) t) :
    FnOk P w K mg base (L2N.CX P w) (k + 1) f fd ps (toSp0 ⟨K, mg, none⟩ ps.length (runF N.length t)) := by
  refine okXN F S (fun vs H Q E h => h.1) fun cdv A outer s H vs Q E hr h => ⟨_, hbody cdv A outer s H E hr, ?_⟩
  obtain ⟨hl, F, ds, sF, r, f, q⟩ := h
  have hlen : vs.length = ds.length := r.length
  refine ⟨[], H, F, ds.map some ++ List.replicate (N.length - ds.length) none, ⟨Same.refl H, sF, [], ?_, fun _ z => nomatch z⟩, ?_⟩
  · unfold L2.start
    rw [hlen]
    exact OwnE.args r f _
  · unfold runF at q
    cases ht : t (ds.map some ++ List.replicate (N.length - ds.length) none) with
    | nx ρ =>
      rw [ht] at q
      exact fun σ H' F' s R => q .non H' F' ⟨s.ff, s.fh, s.bh, s.new⟩ ⟨[], .frz rfl .non, fun _ z => nomatch z⟩
    | rt d ρ =>
      rw [ht] at q
      exact fun v σ H' F' s R => by
        obtain ⟨s', r'⟩ := R.left s
        exact q v H' F' s' r'
    | xc x ρ =>
      rw [ht] at q
      exact fun cls dd σ H1 H' F' s R rx => q cls dd H' F' ⟨s.ff, s.fh, s.bh, s.new⟩ rx
    | _ => rw [ht] at q; exact q.elim
end

section
variable {X : Cx} {W : Wx} {gr g1 g2 : Bool} {a b e : Expr} {pos : Pos} {fa fb : Env → R D} {es : List Expr} {fs : Env → R (List D)}
def RfA (fs : Env → R (List D)) : Prop := ∀ ρ ds, fs ρ = .ok ds → allRf ds = true
theorem rf_nil : RfA dNil := fun ρ ds h => by cases h; rfl
theorem rf_cons (h : RfA fs) : RfA (dCons fa fs) := fun ρ ds e => by
  unfold dCons at e
  obtain ⟨x, h1, e⟩ := bind_ok_inv e
  obtain ⟨xs, h2, e⟩ := bind_ok_inv e
  cases e
  show (x.fr.rf && allRf xs) = true
  rw [D.rf_fr, h ρ xs h2]; rfl
/-- f(..): a def of one's own that keeps its promise -/
theorem de_call {k n : Nat} {f : Addr} {fd : FuncData} {ps : List Str} {fn : List D → R D} {x : Str} {p : Pos} (Fn : FnOk X.prog X.w X.K X.mg X.base (L2N.CX X.prog X.w) k f fd ps (toSp0 ⟨X.K, X.mg, none⟩ n fn)) (hr : Room k X.A) (hx : W.ex = none) (hg : Gl X x) (hm : X.mg x = some (.ref f)) (hk : PySem.W.keepIn X.K (.ref f) = true)
    (hb : Binds X.K fd ps []) (tk : L2N.Takes X W.w) (ha : DA true X W (e :: es) fs) (hrf : RfA fs) (hn : (e :: es).length = n) (hda : ∀ ρ ds, fs ρ = .ok ds → ds.length = (e :: es).length) (hdb : (x == ("__debug__" : Str)) = false := by decide)
    (he : starEach (e :: es) X.env = (false, eval e X.env) :: starEach es X.env := by rfl) (hpl : (backTo pos (starEach es X.env)).any (·.1) = false := by rfl) : DE true X W (.Call (.Name x p) (e :: es) [] pos) (dCall fn fs) :=
  pe_imp (pe_callS Fn hr hg hm hk hb (fun σ => L2N.passAt tk σ) ha hdb he hpl) fun σ H Q => fun ⟨τ, B, F, ρ, RR, q⟩ => by
  have eg : gx X W = ⟨X.K, X.mg, none⟩ := by show (⟨X.K, X.mg, W.ex⟩ : G) = _; rw [hx]
  refine ⟨τ, B, F, ρ, RR, ?_⟩
  unfold dCall at q
  cases hf : fs ρ with
  | bad => rw [hf] at q; exact q
  | ex x => rw [hf] at q; exact q
  | ok ds =>
    rw [hf, R.bind_ok] at q
    intro vs H1 F1 s1 r
    have q' := q.step s1
    have r : RpL (gx X W) F1 vs ds := r
    rw [eg] at r q'
    refine ⟨by rw [r.length, hda ρ ds hf, hn], F1, ds, s1.fh, r, hrf ρ ds hf, ?_⟩
    cases hz : fn ds with
    | ok z => rw [hz] at q'; exact q'
    | ex w => rw [hz] at q'; exact q'
    | bad => rw [hz] at q'; exact q'
theorem len_nil : ∀ ρ ds, dNil ρ = .ok ds → ds.length = ([] : List Expr).length := fun ρ ds h => by cases h; rfl
theorem len_cons (h : ∀ ρ ds, fs ρ = .ok ds → ds.length = es.length) : ∀ ρ ds, dCons fa fs ρ = .ok ds → ds.length = (e :: es).length := fun ρ ds q => by
  unfold dCons at q
  obtain ⟨x, h1, q⟩ := bind_ok_inv q
  obtain ⟨xs, h2, q⟩ := bind_ok_inv q
  cases q
  rw [List.length_cons, List.length_cons, h ρ xs h2]

/-! ### raise -/
def dRaise (C : String) : DTS := fun ρ => .xc ⟨C, none⟩ ρ
/-- an own error class of the text -/
structure ErC (K : PySem.W.Frag) (mg : Str → Option Value) (C : String) : Prop where
  at_ : ∃ ca, mg (nmS C) = some (.ref ca) ∧ PySem.W.keepIn K (.ref ca) = true ∧ PySem.W.subIn K (.ref ca) (.type "BaseException") = some true ∧ PySem.W.typeIn K (.ref ca) = some (.type "type") ∧ ExcC K ca
theorem ds_raise {C : String} {x m : Str} {j : Nat} {p p2 pos2 : Pos} (hc : X.calm = true) (tk : L2N.Takes X W.w) (T : ErC X.K X.mg C) (q : ∀ ca, X.mg (nmS C) = some (.ref ca) → PySem.W.excIn X.K ca [.type "ValueError", .type "Exception", .type "BaseException", .type "object"] "ValueError.__new__" = true)
    (hx : nmS C = x) (hg : Gl X x) (hdb : (x == ("__debug__" : Str)) = false := by decide) :
    DS X W (.Raise (some (.Call (.Name x p) [.Constant (.str m) j p2] [] pos)) none pos2) (dRaise C) := by
  obtain ⟨ca, h1, h2, h3, h4, h5⟩ := T.at_
  subst hx
  refine ps_imp (L2N.ps_raise hc tk (L2N.pmk_own PySem.F.excBase_ValueError (q ca h1) h1 h2 (raises_own h3 h4) hg hdb)) fun E σ H => fun ⟨τ, B, F, ρ, R, q⟩ => ?_
  exact q (.ref ca) none σ H H F (StepI.refl R.fh R.bh) R ⟨ca, h1, rfl, rfl⟩

/-! ### try -/
/-- D is C or below it -/
def isSubE (D C : String) : Bool := D == C || C == "ArchiveError"
structure ErT (K : PySem.W.Frag) (mg : Str → Option Value) (cs : List String) : Prop where
  c : ∀ C, cs.contains C = true → ErC K mg C
  s : ∀ D C da ca, cs.contains D = true → cs.contains C = true → mg (nmS D) = some (.ref da) → mg (nmS C) = some (.ref ca) → PySem.W.subIn K (.ref da) (.ref ca) = some (isSubE D C) ∧ PySem.W.kitOne K (.ref da) (.ref ca) = some (isSubE D C)
  v : ∀ D da, cs.contains D = true → mg (nmS D) = some (.ref da) → PySem.W.kitOne K (.ref da) (.type "ValueError") = some true
end
mutual
def D.noEx : D → Bool
  | .exc _ _ _ _ => false
  | .lst _ xs => D.noExL xs
  | .tup xs => D.noExL xs
  | .obj _ _ _ xs => D.noExL xs
  | .dic _ _ xs => D.noExL xs
  | .dct _ _ xs => D.noExL xs
  | .non => true
  | .bl _ => true
  | .int _ => true
  | .str _ => true
  | .ty _ => true
  | .cls _ => true
def D.noExL : List D → Bool
  | [] => true
  | d :: ds => d.noEx && D.noExL ds
end
theorem D.noExL_eq : ∀ ds : List D, D.noExL ds = ds.all D.noEx
  | [] => rfl
  | d :: ds => by rw [D.noExL, D.noExL_eq ds, List.all_cons]
section
variable {g g' : G} {τ : List V} {B F H : Hp}
theorem noExL_cons {d : D} {ds : List D} (h : g.ex = none ∨ D.noExL (d :: ds) = true) : (g.ex = none ∨ d.noEx = true) ∧ (g.ex = none ∨ D.noExL ds = true) := by
  rcases h with h | h
  · exact ⟨.inl h, .inl h⟩
  · rw [D.noExL] at h
    have := Bool.and_eq_true_iff.mp h
    exact ⟨.inr this.1, .inr this.2⟩
mutual
theorem Rp.conv (hK : g.K = g'.K) (hm : g.mg = g'.mg) : ∀ {v : V} {d : D}, Rp g F v d → (g.ex = none ∨ d.noEx = true) → Rp g' F v d
  | _, _, .non, _ => .non
  | _, _, .bl b, _ => .bl b
  | _, _, .int b, _ => .int b
  | _, _, .str b, _ => .str b
  | _, _, .ty n, _ => .ty n
  | _, _, .cls h, _ => .cls (by rw [← hm]; exact h)
  | _, _, .exc0 h k, e => by
    rcases e with e | e
    · rw [e] at h; cases h
    · simp [D.noEx] at e
  | _, _, .exc1 h k _ _ _, e => by
    rcases e with e | e
    · rw [e] at h; cases h
    · simp [D.noEx] at e
  | _, _, .tup h r, e => .tup (by rw [← hK]; exact h) (RpL.conv hK hm r (e.imp id fun z => by simpa [D.noEx] using z))
  | _, _, .lst h r, e => .lst (by rw [← hK]; exact h) (RpL.conv hK hm r (e.imp id fun z => by simpa [D.noEx] using z))
  | _, _, .obj h1 h2 h3 h4 r, e => .obj h1 h2 (by rw [← hm]; exact h3) h4 (RpL.conv hK hm r (e.imp id fun z => by simpa [D.noEx] using z))
  | _, _, .dic h1 h2 r, e => .dic h1 h2 (RpL.conv hK hm r (e.imp id fun z => by simpa [D.noEx] using z))
  | _, _, .dct h1 h2 r, e => .dct h1 h2 (RpL.conv hK hm r (e.imp id fun z => by simpa [D.noEx] using z))
theorem RpL.conv (hK : g.K = g'.K) (hm : g.mg = g'.mg) : ∀ {vs : List V} {ds : List D}, RpL g F vs ds → (g.ex = none ∨ D.noExL ds = true) → RpL g' F vs ds
  | _, _, .nil, _ => .nil
  | _, _, .cons h r, e => .cons (Rp.conv hK hm h (noExL_cons e).1) (RpL.conv hK hm r (noExL_cons e).2)
end
mutual
theorem Own.conv (hK : g.K = g'.K) (hm : g.mg = g'.mg) : ∀ {v : V} {d : D} {A : List Addr}, Own g F H v d A → (g.ex = none ∨ d.noEx = true) → Own g' F H v d A
  | _, _, _, .frz h r, e => .frz h (r.conv hK hm e)
  | _, _, _, .lst h f r n, e => .lst h f (OwnL.conv hK hm r (e.imp id fun z => by simpa [D.noEx] using z)) n
  | _, _, _, .obj h1 h2 f1 f2 h3 h4 r n1 n2 n3, e => .obj h1 h2 f1 f2 (by rw [← hm]; exact h3) h4 (OwnL.conv hK hm r (e.imp id fun z => by simpa [D.noEx] using z)) n1 n2 n3
  | _, _, _, .dic h1 f h2 r n, e => .dic h1 f h2 (OwnL.conv hK hm r (e.imp id fun z => by simpa [D.noEx] using z)) n
  | _, _, _, .dct h1 f h2 r n, e => .dct h1 f h2 (OwnL.conv hK hm r (e.imp id fun z => by simpa [D.noEx] using z)) n
theorem OwnL.conv (hK : g.K = g'.K) (hm : g.mg = g'.mg) : ∀ {vs : List V} {ds : List D} {A : List Addr}, OwnL g F H vs ds A → (g.ex = none ∨ D.noExL ds = true) → OwnL g' F H vs ds A
  | _, _, _, .nil, _ => .nil
  | _, _, _, .cons h r d, e => .cons (Own.conv hK hm h (noExL_cons e).1) (OwnL.conv hK hm r (noExL_cons e).2) d
end
theorem noEx_tag (d : D) (t : Nat) : (d.tag t).noEx = d.noEx := by
  cases d with
  | lst o xs => cases o <;> rfl
  | obj o C ns vs => cases o <;> rfl
  | dic o ks vs => cases o <;> rfl
  | dct o ks vs => cases o <;> rfl
  | _ => rfl
/-- a slot that says nothing of the exception -/
def clean : Option D → Option D
  | some d => if d.noEx = true then some d else none
  | none => none
theorem OwnE.conv (hK : g.K = g'.K) (hm : g.mg = g'.mg) (hx : g.ex = none) {σ : L2.St} {ρ : Env} {A : List Addr} (h : OwnE g τ F H σ ρ A) : OwnE g' τ F H σ ρ A := by
  induction h with
  | nil => exact .nil
  | skip _ ih => exact .skip ih
  | cons o t r d ih => exact .cons (o.conv hK hm (.inl hx)) t ih d
theorem OwnE.cleaned (hK : g.K = g'.K) (hm : g.mg = g'.mg) {σ : L2.St} {ρ : Env} {A : List Addr} (h : OwnE g τ F H σ ρ A) : ∃ A', OwnE g' τ F H σ (ρ.map clean) A' ∧ ∀ p, p ∈ A' → p ∈ A := by
  induction h with
  | nil => exact ⟨[], .nil, fun _ z => z⟩
  | skip _ ih =>
    obtain ⟨A', h1, h2⟩ := ih
    exact ⟨A', .skip h1, h2⟩
  | @cons v e σ ρ A B o t r d ih =>
    obtain ⟨A', h1, h2⟩ := ih
    rw [List.map_cons]
    by_cases hn : e.noEx = true
    · rw [show clean (some e) = some e from if_pos hn]
      refine ⟨A ++ A', .cons (o.conv hK hm (.inr (by rw [D.un, noEx_tag]; exact hn))) t h1 fun p hp hb => d p hp (h2 p hb), fun p hp => ?_⟩
      rcases List.mem_append.mp hp with z | z
      · exact List.mem_append_left _ z
      · exact List.mem_append_right _ (h2 p z)
    · rw [show clean (some e) = none from if_neg hn]
      exact ⟨A', .skip h1, fun p hp => List.mem_append_right _ (h2 p hp)⟩
theorem EnvR.conv (hK : g.K = g'.K) (hm : g.mg = g'.mg) (hx : g.ex = none) {σ : L2.St} {ρ : Env} (E : EnvR g τ B F H σ ρ) : EnvR g' τ B F H σ ρ := by
  obtain ⟨A, o, b⟩ := E.own
  exact ⟨E.bh, E.fh, A, o.conv hK hm hx, b⟩
theorem EnvR.cleaned (hK : g.K = g'.K) (hm : g.mg = g'.mg) {σ : L2.St} {ρ : Env} (E : EnvR g τ B F H σ ρ) : EnvR g' τ B F H σ (ρ.map clean) := by
  obtain ⟨A, o, b⟩ := E.own
  obtain ⟨A', o', h⟩ := o.cleaned hK hm
  exact ⟨E.bh, E.fh, A', o', fun p hp => b p (h p hp)⟩
end
/-- an exception as the data that its name stands for -/
def XD.toD (x : XD) : D := match x.fs with
  | none => .exc x.C false [] []
  | some (ns, vs) => .exc x.C true ns vs
/-- what is left behind an except suite whose name has slot i -/
def leaveX (i : Nat) : Out → Out
  | .nx ρ => .nx ((ρ.set i none).map clean)
  | .bk ρ => .bk ((ρ.set i none).map clean)
  | .ct ρ => .ct ((ρ.set i none).map clean)
  | .rt d ρ => if d.noEx = true then .rt d (ρ.map fun _ => none) else .bad
  | _ => .bad
def dTry (cs : List String) (t : DTS) (C : String) (i : Nat) (h : DTS) : DTS := fun ρ => match t ρ with
  | .xc x ρ' => if cs.contains x.C = true then (if isSubE x.C C = true then leaveX i (h (ρ'.set i (some x.toD))) else .xc x ρ') else .bad
  | o => o
theorem OwnE.none {g : G} {τ : List V} {F H : Hp} : ∀ {σ : L2.St} {ρ : Env}, σ.length = ρ.length → OwnE g τ F H σ (ρ.map fun _ => none) []
  | [], [], _ => .nil
  | _ :: _, _ :: _, h => .skip (OwnE.none (by simpa using h))
section
variable {X : Cx} {W : Wx} {x n : Str} {i : Nat} {body suite : List Stmt} {b₀ : Stmt} {np pos pos' : Pos} {t h : DTS}
theorem ds_try_as {cs : List String} {C : String} {ca : Addr} (hs : X.stack = X.env :: X.outer) (hf : X.env.frame = some X.env.locals) (hN : X.N.Nodup) (hi : X.N[i]? = some n) (hln : X.env.kindOf n = some .local) (hg : Gl X x) (hdb : (x == ("__debug__" : Str)) = false)
    (hmc : X.mg x = some (.ref ca)) (hx : nmS C = x) (hcs : cs.contains C = true) (ET : ErT X.K X.mg cs) (tk : L2N.Takes X W.w) (hex : W.ex = none)
    (hb : ∀ (W' : WX) (pn : List (Addr × Obj)) (xe : Value → Shared → Prop), L2N.Takes (X.tr pn xe) W' → PassesOwn (model X.prog X.w) X.A X.env xe → DSs (X.tr pn xe) ⟨W', none⟩ body t)
    (hsu : ∀ (a : Addr) (oe : Obj) (cls : Value) (d : Option Addr) (pn : List (Addr × Obj)), L2N.Zn cls d oe → (∃ vs, oe.data = .fields vs) → DSs (X.suite a ((a, oe) :: pn)) ⟨fun _ _ _ _ => False, some (a, cls, d)⟩ (b₀ :: suite) h) :
    DS X W (.Try body [.ExceptHandler (some (.Name x np)) (some n) (b₀ :: suite) pos'] [] [] pos) (dTry cs t C i h) :=
  ps_imp (L2N.ps_try_as (c := .ref ca) (i := i) (tb := fun W' => liftS ⟨X.K, X.mg, none⟩ ⟨W', none⟩ t) (ts := fun a cls d => liftS ⟨X.K, X.mg, some (a, cls, d)⟩ ⟨fun _ _ _ _ => False, some (a, cls, d)⟩ h) hs hf hN hi hln ⟨hg, hdb, .inl hmc⟩ tk hb hsu) fun E σ H => fun ⟨τ, B, F, ρ, RR, q⟩ => by
  have eg : gx X W = ⟨X.K, X.mg, none⟩ := by show (⟨X.K, X.mg, W.ex⟩ : G) = _; rw [hex]
  rw [eg] at RR q
  refine ⟨τ, B, F, ρ, RR, ?_⟩
  unfold dTry at q
  cases ht : t ρ with
  | nx ρ' => rw [ht] at q; exact q
  | rt d ρ' => rw [ht] at q; exact q
  | bk ρ' => rw [ht] at q; exact q
  | ct ρ' => rw [ht] at q; exact q
  | bad => rw [ht] at q; exact q
  | xc xd ρ' =>
    rw [ht] at q
    have q : outS ⟨X.K, X.mg, none⟩ W τ B F E (if cs.contains xd.C = true then (if isSubE xd.C C = true then leaveX i (h (ρ'.set i (some xd.toD))) else .xc xd ρ') else .bad) := q
    split at q
    · rename_i hc
      intro cls dd σ' H1 H' F' s R' rx
      obtain ⟨da, e1, e2, e3⟩ := rx
      subst hx
      obtain ⟨ca', m1, m2, m3, m4, m5⟩ := (ET.c C hcs).at_
      rw [hmc] at m1
      cases m1
      have e1' : X.mg (nmS xd.C) = some (.ref da) := e1
      obtain ⟨p1, p2⟩ := ET.s xd.C C da ca hc hcs e1' hmc
      refine ⟨isSubE xd.C C, by rw [e2]; exact PySem.W.exm_ref m3 m5.hd m4 p1, fun hy a na => ?_, fun hno => ?_⟩
      · rw [if_pos hy] at q
        have q := outS.step s q
        have R2 : EnvR (⟨X.K, X.mg, some (a, cls, dd)⟩ : G) τ B F' H' σ' ρ' := EnvR.conv (g := ⟨X.K, X.mg, none⟩) (g' := ⟨X.K, X.mg, some (a, cls, dd)⟩) rfl rfl rfl R'
        have R3 : EnvR (⟨X.K, X.mg, some (a, cls, dd)⟩ : G) τ B F' H' (σ'.set i (some (.ref a))) (ρ'.set i (some xd.toD)) := by
          have hr : xd.toD.rf = true := by unfold XD.toD; split <;> rfl
          refine R2.setRes (StepP.refl R2.fh) ⟨[], .frz hr ?_, fun _ z => nomatch z⟩ i
          subst e2
          cases hxf : xd.fs with
          | none =>
            rw [hxf] at e3
            have : xd.toD = .exc xd.C false [] [] := by unfold XD.toD; rw [hxf]
            rw [this]
            subst e3
            exact .exc0 rfl e1'
          | some p =>
            rw [hxf] at e3
            obtain ⟨d, fs, k1, k2, k3, k4⟩ := e3
            have : xd.toD = .exc xd.C true p.1 p.2 := by unfold XD.toD; rw [hxf]
            rw [this]
            subst k1
            exact .exc1 rfl e1' k2 k3 (RpL.conv (g := ⟨X.K, X.mg, none⟩) (g' := ⟨X.K, X.mg, some (a, .ref da, some d)⟩) rfl rfl k4 (.inl rfl))
        refine ⟨τ, B, F', _, R3, ?_⟩
        cases ho : h (ρ'.set i (some xd.toD)) with
        | nx ρ2 =>
          rw [ho] at q
          intro σ2 H2 F2 s2 R4
          obtain ⟨A, o, b⟩ := R4.own
          obtain ⟨A', o', h'⟩ := o.gone i none
          exact q _ H2 F2 s2 (EnvR.cleaned (g := ⟨X.K, X.mg, some (a, cls, dd)⟩) (g' := ⟨X.K, X.mg, none⟩) rfl rfl ⟨R4.bh, R4.fh, A', o', fun p hp => b p (h' p hp)⟩)
        | bk ρ2 =>
          rw [ho] at q
          intro σ2 H2 F2 s2 R4
          obtain ⟨A, o, b⟩ := R4.own
          obtain ⟨A', o', h'⟩ := o.gone i none
          exact q _ H2 F2 s2 (EnvR.cleaned (g := ⟨X.K, X.mg, some (a, cls, dd)⟩) (g' := ⟨X.K, X.mg, none⟩) rfl rfl ⟨R4.bh, R4.fh, A', o', fun p hp => b p (h' p hp)⟩)
        | ct ρ2 =>
          rw [ho] at q
          intro σ2 H2 F2 s2 R4
          obtain ⟨A, o, b⟩ := R4.own
          obtain ⟨A', o', h'⟩ := o.gone i none
          exact q _ H2 F2 s2 (EnvR.cleaned (g := ⟨X.K, X.mg, some (a, cls, dd)⟩) (g' := ⟨X.K, X.mg, none⟩) rfl rfl ⟨R4.bh, R4.fh, A', o', fun p hp => b p (h' p hp)⟩)
        | rt d ρ2 =>
          rw [ho] at q
          have q : outS ⟨X.K, X.mg, none⟩ W τ B F' E (if d.noEx = true then .rt d (ρ2.map fun _ => none) else .bad) := q
          split at q
          · rename_i hd
            intro v σ2 H2 F2 s2 R4
            obtain ⟨A, o, b⟩ := R4.own
            cases o with
            | @cons _ _ _ _ A1 A2 o1 t1 o2 dj =>
              refine q v σ2 H2 F2 s2 ⟨R4.bh, R4.fh, A1 ++ [], .cons (Own.conv (g := ⟨X.K, X.mg, some (a, cls, dd)⟩) (g' := ⟨X.K, X.mg, none⟩) rfl rfl o1 (.inr (by rw [D.un, noEx_tag]; exact hd))) t1 (OwnE.none o2.length) (fun _ _ z => nomatch z), fun p hp => b p (by
                rw [List.append_nil] at hp
                exact List.mem_append_left _ hp)⟩
          · exact q.elim
        | xc x2 ρ2 => rw [ho] at q; exact q.elim
        | bad => rw [ho] at q; exact q.elim
      · rw [hno, if_neg Bool.false_ne_true] at q
        exact q cls dd σ' H1 H' F' s R' ⟨da, e1, e2, e3⟩
    · exact q.elim
end

/-! ### in an except suite -/
def nIsE (cs : List String) : List D → R D
  | [.exc D false _ _, .cls C] => if (cs.contains D && cs.contains C) = true then .ok (.bl (isSubE D C)) else .bad
  | [.exc D false _ _, .ty T] => if (cs.contains D && T == "ValueError") = true then .ok (.bl true) else .bad
  | _ => .bad
section
variable {X : Cx} {Ws : Wx} {cs : List String} {a : Addr} {oe : Obj} {cls : Value} {d : Option Addr} {pn : List (Addr × Obj)}
theorem nx_isE : ∀ ds w, nIsE cs ds ≠ .ex w := by
  intro ds w e; unfold nIsE at e; split at e
  all_goals first | (cases e; done) | (split at e <;> cases e)
theorem kitx_exc2 {prog : Program} {w : World} {K : PySem.W.Frag} {x D : Addr} {ox : Obj} (C : ExcC K D) : PySem.W.KitX K (.ref x) (.ref D) (fun h => PySem.W.InstAt h x ox D none) := PySem.W.handS_kitx_exc C.hg C.hk C.hs C.hd C.ha C.hn C.ht C.hm
/-- isinstance(e, C), e the exception of the suite (a class that stores nothing) -/
def rIsA (K : PySem.W.Frag) (a : Addr) (cls : Value) (d : Option Addr) : List V → Hp → VK → Prop := fun xs H Q => ∃ (D : Addr) (c : V) (cv : Value) (b : Bool), cls = .ref D ∧ d = none ∧ ExcC K D ∧ xs = [.ref a, c] ∧ (∀ u, RelV c u → u = cv) ∧ PySem.W.kitOne K (.ref D) cv = some b ∧ Q (.bl b) H
theorem call_isA (hz : L2N.Zn cls d oe) (hf : ∃ vs, oe.data = .fields vs) : CallR (X.suite a ((a, oe) :: pn)) (.builtin "isinstance") (rIsA X.K a cls d) := by
  intro pins s σ H xs us Q I r h
  obtain ⟨D, c, cv, b, rfl, rfl, C, e1, e2, e3, q⟩ := h
  exact call_isE C hz.zc hf pins s σ H xs us Q I r ⟨c, cv, b, e1, e2, e3, q⟩
theorem cd_isE {gr : Bool} (ET : ErT X.K X.mg cs) : CallD true gr (⟨X.K, X.mg, some (a, cls, d)⟩ : G) (rIsA X.K a cls d) (nIsE cs) := fun F H vs ds z Q s ha e q => by
  unfold nIsE at e
  split at e
  · obtain ⟨c, rfl⟩ := if_ok_inv e
    obtain ⟨c1, c2⟩ := Bool.and_eq_true_iff.mp c
    obtain ⟨v, u, rfl, o, o2⟩ := ha.two
    cases o.rp s with
    | exc0 h1 h2 =>
      cases h1
      cases o2.rp s with
      | cls h3 =>
        obtain ⟨da, m1, m2, m3, m4, m5⟩ := (ET.c _ c1).at_
        have h2' : X.mg (nmS _) = some (.ref _) := h2
        rw [m1] at h2'
        cases h2'
        exact ⟨_, _, _, _, rfl, rfl, m5, rfl, fun u hu => hu, (ET.s _ _ _ _ c1 c2 m1 h3).2, out_sc s (.bl _) rfl q⟩
  · obtain ⟨c, rfl⟩ := if_ok_inv e
    obtain ⟨c1, c2⟩ := Bool.and_eq_true_iff.mp c
    obtain ⟨v, u, rfl, o, o2⟩ := ha.two
    cases o.rp s with
    | exc0 h1 h2 =>
      cases h1
      cases o2.rp s with
      | ty n =>
        obtain ⟨da, m1, m2, m3, m4, m5⟩ := (ET.c _ c1).at_
        have h2' : X.mg (nmS _) = some (.ref _) := h2
        rw [m1] at h2'
        cases h2'
        have e4 := beq_iff_eq.mp c2
        subst e4
        exact ⟨_, _, _, _, rfl, rfl, m5, rfl, fun u hu => hu, ET.v _ _ c1 m1, out_sc s (.bl _) rfl q⟩
  · cases e
end
end Dt

set_option Elab.async false
set_option linter.all false
set_option maxRecDepth 100000
set_option maxHeartbeats 2000000
/-! Dat: and, or, not as values; augmented assignment. -/
namespace Dt
open PySem PySem.Spec PyProof.Rows L2
section
variable {X : Cx} {W : Wx} {gr g1 g2 : Bool} {a b e : Expr} {rest : List Expr} {pos : Pos} {fa fb : Env → R D}
def dAndV (fa fb : Env → R D) : Env → R D := fun ρ => (fa ρ).bind fun x => match x with
  | .bl c => if c then fb ρ else .ok (.bl false)
  | _ => .bad
def dOrV (fa fb : Env → R D) : Env → R D := fun ρ => (fa ρ).bind fun x => match x with
  | .bl c => if c then .ok (.bl true) else fb ρ
  | _ => .bad
def dNotV (fa : Env → R D) : Env → R D := fun ρ => (fa ρ).bind fun x => match x with
  | .bl c => .ok (.bl (!c))
  | _ => .bad
theorem de_one {op} (h : DE gr X W a fa) : DE gr X W (.BoolOp op [a] pos) fa := pe_one h
theorem de_andV (ha : DE gr X W a fa) (hb : DE true X W (.BoolOp .And (b :: rest) pos) fb) : DE true X W (.BoolOp .And (a :: b :: rest) pos) (dAndV fa fb) := pe_imp (pe_and ha hb) fun σ H Q => fun ⟨τ, B, F, ρ, E, q⟩ => by
  refine ⟨τ, B, F, ρ, E, ?_⟩
  unfold dAndV at q
  cases hf : fa ρ with
  | bad => rw [hf] at q; exact q
  | ex x => rw [hf] at q; exact q
  | ok x =>
    rw [hf, R.bind_ok] at q
    intro v H1 F1 s1 r
    have r' := r.rp s1
    cases r' with
    | bl c =>
      refine ⟨c, rfl, ?_⟩
      cases c with
      | true => exact iteT ⟨τ, B, F1, ρ, E.stepP s1, q.step s1⟩
      | false => exact iteF (q (.bl false) H1 F1 s1 ⟨[], .frz rfl (.bl _), fun _ z => nomatch z⟩)
    | _ => exact q.elim
theorem de_orV (ha : DE gr X W a fa) (hb : DE true X W (.BoolOp .Or (b :: rest) pos) fb) : DE true X W (.BoolOp .Or (a :: b :: rest) pos) (dOrV fa fb) := pe_imp (pe_or ha hb) fun σ H Q => fun ⟨τ, B, F, ρ, E, q⟩ => by
  refine ⟨τ, B, F, ρ, E, ?_⟩
  unfold dOrV at q
  cases hf : fa ρ with
  | bad => rw [hf] at q; exact q
  | ex x => rw [hf] at q; exact q
  | ok x =>
    rw [hf, R.bind_ok] at q
    intro v H1 F1 s1 r
    have r' := r.rp s1
    cases r' with
    | bl c =>
      refine ⟨c, rfl, ?_⟩
      cases c with
      | true => exact iteT (q (.bl true) H1 F1 s1 ⟨[], .frz rfl (.bl _), fun _ z => nomatch z⟩)
      | false => exact iteF ⟨τ, B, F1, ρ, E.stepP s1, q.step s1⟩
    | _ => exact q.elim
theorem de_notV (ha : DE gr X W a fa) : DE true X W (.UnaryOp .Not a pos) (dNotV fa) := pe_imp (pe_not ha) fun σ H Q => fun ⟨τ, B, F, ρ, E, q⟩ => by
  refine ⟨τ, B, F, ρ, E, ?_⟩
  unfold dNotV at q
  cases hf : fa ρ with
  | bad => rw [hf] at q; exact q
  | ex x => rw [hf] at q; exact q
  | ok x =>
    rw [hf, R.bind_ok] at q
    intro v H1 F1 s1 r
    have r' := r.rp s1
    cases r' with
    | bl c => exact ⟨c, rfl, q (.bl (!c)) H1 F1 s1 ⟨[], .frz rfl (.bl _), fun _ z => nomatch z⟩⟩
    | _ => exact q.elim

/-! ### x op= e, a new value -/
def dAug (i : Nat) (gr : Bool) (f2 : D → D → R D) (fb : Env → R D) : DTS := fun ρ => match ρ[i]? with
  | some (some x) => if x.rf = true then Out.of ((fb ρ).bind fun y => f2 x (y.op gr)) ρ fun z => .nx (ρ.set i (some z)) else .bad
  | _ => .bad
theorem ds_aug {i : Nat} {st : Stmt} {r : R2} {f2 : D → D → R D} (h : ∀ te, PE X b te → PS X st (tAug i te r)) (ho : OpD (gx X W) true gr r f2) (nx : ∀ x y w, f2 x y ≠ .ex w) (hb : DE gr X W b fb) : DS X W st (dAug i gr f2 fb) := ps_imp (h _ hb) fun E σ H => fun ⟨τ, B, F, ρ, RR, q⟩ => by
  unfold dAug at q
  split at q
  · rename_i x hx
    split at q
    · rename_i hr
      obtain ⟨A, o, _⟩ := RR.own
      obtain ⟨v, A', h1, h2, _, _⟩ := o.get hx
      rw [D.un, tag_rf hr] at h2
      obtain ⟨rx, _⟩ := h2.rf_nil hr
      refine ⟨v, h1, τ, B, F, ρ, RR, ?_⟩
      cases hf : fb ρ with
      | bad => rw [hf] at q; exact q
      | ex w => rw [hf] at q; exact fun cls dd H' F' s r => q cls dd σ H H' F' (s.toI RR.bh) (RR.stepP s) r
      | ok y =>
        rw [hf, R.bind_ok] at q
        intro vy H1 F1 s1 ry
        obtain ⟨F2, s2, oy⟩ := ry.op s1
        refine ho F2 H1 v vy x (y.op gr) _ s2.fh (Rp.mono s2.ff rx) oy ?_
        have q := outS.step (s2.toI RR.bh) q
        cases hz : f2 x (y.op gr) with
        | ok z =>
          rw [hz] at q
          exact fun u H3 F3 s3 r3 => q (σ.set i (some u)) H3 F3 (s3.toI (RR.stepP s2).bh) ((RR.stepP s2).setRes s3 r3 i)
        | ex w => exact absurd hz (nx _ _ _)
        | bad => rw [hz] at q; exact q.elim
    · exact q.elim
  · exact q.elim
end
/-! ### xs += ys -/
theorem list_iaddW (l : Addr) (items : Array Value) (n : Nat) (b : Addr) (items2 : Array Value) (n2 : Nat) (dd2 : Option Addr) (sl2 : Array (Option Value)) (hs0 : ¬(!items.isEmpty && Builtin.List.listTooLong (items.size + items2.size)) = true) (hs1 : items.size ≤ sizeLine) (hs2 : items.size + items2.size ≤ sizeLine + 1) :
    Meets (Builtin.«list.__iadd__» ⟨[.ref l, .ref b], []⟩) (fun _ R s => s.heap.get? l = some { cls := .type "list", dict := none, data := .seq items n, slots := #[] } ∧ s.heap.get? b = some { cls := .type "list", dict := dd2, data := .seq items2 n2, slots := sl2 } ∧ R (.ok (.ret (Value.ref l))) { s with heap := s.heap.update l (Obj.mapSeq fun x => x ++ items2), toks := s.toks }) :=
  .of_wp fun prog w A R s h => by
    obtain ⟨hp, g, d, tk, os⟩ := s; obtain ⟨hl, hb, h⟩ := h; have f1 := AutoSeq1.idx_int; have f2 := AutoSeq1.sub_tuple_tuple; have f3 := AutoSeq1.sub_list_list; have f4 := AutoSeq1.sub_tuple_list; have f5 := AutoSeq1.sub_list_tuple;
    have hz' : (items ++ items2).size ≤ sizeLine + 1 := by rw [Array.size_append]; exact hs2
    wp_walk using (wpAny_updateSeq hl rfl (hz := hs1) (_hz' := hz')), wpAny_loadPart' hl, wpAny_loadPart' hb; exact ⟨_, rfl, h⟩
def rExtS (K : PySem.W.Frag) : R2 := fun x y H Q => ∃ l b xs zs, x = .ref l ∧ y = .ref b ∧ H l = some (.lst xs) ∧ SqL K H b zs ∧ xs.length + zs.length ≤ sizeLine ∧ Q (.ref l) (upd H l (.lst (xs ++ zs)))
section
variable {X : Cx}
theorem iop_extS : OpR X (inplaceOp .Add) (rExtS X.K) := by
  intro pins s σ H x y v u Q I rx ry h
  obtain ⟨l, b, xs, zs, rfl, rfl, hH, hB, hz, q⟩ := h
  cases rx
  cases ry
  obtain ⟨z, its, n, r, hl, e⟩ := I.lstM hH
  obtain ⟨its2, r2, hl2, z2⟩ := I.list hB
  obtain ⟨⟨cls2, dd2, data2, sl2⟩, ho2, hc2, n2, hd2⟩ := hl2.isList
  simp only at hc2 hd2
  subst hc2 hd2
  have e2 := r2.length
  have hsz : its.toArray.size + its2.toArray.size ≤ sizeLine := by rw [List.size_toArray, List.size_toArray]; omega
  have hlong : ¬ (!its.toArray.isEmpty && Builtin.List.listTooLong (its.toArray.size + its2.toArray.size)) = true := by
    rw [notLongL hsz, Bool.and_false]
    exact Bool.false_ne_true
  refine iadd_road ⟨_, e, rfl⟩ ⟨_, ho2, rfl⟩ (call_meets PySem.F.slot_list_iadd ⟨_, e, rfl⟩ PySem.F.entry_list_iadd (PySem.F.args_list_iadd_2 _ _)
    (list_iaddW l its.toArray n b its2.toArray n2 dd2 sl2 hlong (by rw [List.size_toArray]; omega) (by omega)) ⟨e, ho2, ?_⟩)
  refine ⟨.ref l, _, I.lset (its' := its ++ its2) (t' := s.toks) hH e (by simp) (r.append r2) ?_, rfl, q⟩
  rw [List.length_append]
  omega
def rAugAdd (K : PySem.W.Frag) : R2 := fun x y H Q => rI0 (fun i j => .int (i + j)) x y H Q ∨ (∃ i j, x = .str i ∧ y = .str j ∧ i.length + j.length ≤ sizeLine ∧ Q (.str (i ++ j)) H) ∨ rExtS K x y H Q
theorem iop_addA : OpR X (inplaceOp .Add) (rAugAdd X.K) := iop_add.or (iop_add_str.or iop_extS)
end
section
variable {X : Cx} {W : Wx} {gr g1 g2 : Bool} {a b e : Expr} {pos : Pos} {fa fb : Env → R D}
/-- x += e: a number, a text anew; a list of one's own grows -/
def dAugAdd (i : Nat) (gr : Bool) (fb : Env → R D) : DTS := fun ρ => match ρ[i]? with
  | some (some (.int k)) => Out.of (fb ρ) ρ fun y => match y with
    | .int j => .nx (ρ.set i (some (.int (k + j))))
    | _ => .bad
  | some (some (.str k)) => Out.of (fb ρ) ρ fun y => match y with
    | .str j => if k.length + j.length ≤ 16777216 then .nx (ρ.set i (some (.str (k ++ j)))) else .bad
    | _ => .bad
  | some (some (.lst (some t) xs)) => Out.of (fb ρ) ρ fun y => match y.op gr with
    | .lst _ ys => if ck gr ys = true ∧ xs.length + ys.length ≤ 16777216 then .nx (ρ.set i (some (.lst (some t) (xs ++ ys)))) else .bad
    | _ => .bad
  | _ => .bad
theorem ds_augAdd {i : Nat} {st : Stmt} (h : ∀ te, PE X b te → PS X st (tAug i te (rAugAdd X.K))) (hb : DE gr X W b fb) : DS X W st (dAugAdd i gr fb) := ps_imp (h _ hb) fun E σ H => fun ⟨τ, B, F, ρ, RR, q⟩ => by
  unfold dAugAdd at q
  split at q
  · rename_i k hx
    obtain ⟨A, o, _⟩ := RR.own
    obtain ⟨v, A', h1, h2, _, _⟩ := o.get hx
    cases (h2.rp RR.fh)
    refine ⟨_, h1, lift_of RR q fun y w H1 F1 hy s1 r1 q => ?_⟩
    cases y with
    | int j =>
      cases r1.rp s1
      exact .inl ⟨k, j, rfl, rfl, q _ H1 F1 (StepI.refl s1.fh (RR.bh.trans s1.hh)) (RR.setRes s1 ⟨[], .frz rfl (.int _), fun _ z => nomatch z⟩ i)⟩
    | _ => exact q.elim
  · rename_i k hx
    obtain ⟨A, o, _⟩ := RR.own
    obtain ⟨v, A', h1, h2, _, _⟩ := o.get hx
    cases (h2.rp RR.fh)
    refine ⟨_, h1, lift_of RR q fun y w H1 F1 hy s1 r1 q => ?_⟩
    cases y with
    | str j =>
      have q : outS (gx X W) W τ B F1 E (if k.length + j.length ≤ 16777216 then .nx (ρ.set i (some (.str (k ++ j)))) else .bad) := q
      split at q
      · rename_i c
        cases r1.rp s1
        exact .inr (.inl ⟨k, j, rfl, rfl, by rw [sizeLine_eq]; exact c, q _ H1 F1 (StepI.refl s1.fh (RR.bh.trans s1.hh)) (RR.setRes s1 ⟨[], .frz rfl (.str _), fun _ z => nomatch z⟩ i)⟩)
      · exact q.elim
    | _ => exact q.elim
  · rename_i t xs hx
    obtain ⟨A, o, _⟩ := RR.own
    obtain ⟨v, A', h1, h2, _, _⟩ := o.get hx
    have l0 : Loc H σ ρ (i, []) v := ⟨_, _, v, hx, h1, rfl, rfl⟩
    have g0 : getP ρ (i, []) = some (.lst (some t) xs) := by unfold getP; rw [hx]; rfl
    have p0 : ∀ d, putP ρ (i, []) d = ρ.set i (some d) := fun d => by unfold putP; rw [hx]; rfl
    obtain ⟨l, vs, A0, rfl, k1, k2, k3, k4, up⟩ := RR.mutL l0 g0
    refine ⟨_, h1, τ, B, F, ρ, RR, ?_⟩
    cases hf : fb ρ with
    | bad => rw [hf] at q; exact q
    | ex w => rw [hf] at q; exact fun cls dd H' F' s r => q cls dd σ H H' F' (s.toI RR.bh) (RR.stepP s) r
    | ok y =>
      rw [hf, Out.of_ok] at q
      intro w H1 F1 s1 r1
      obtain ⟨F2, s2, oy⟩ := r1.op s1
      have q := outS.step (s2.toI RR.bh) q
      cases hy : y.op gr with
      | lst o ys =>
        rw [hy] at q oy
        have q : outS (gx X W) W τ B F2 E (if ck gr ys = true ∧ xs.length + ys.length ≤ 16777216 then .nx (ρ.set i (some (.lst (some t) (xs ++ ys)))) else .bad) := q
        split at q
        · rename_i c
          obtain ⟨b, ws, rfl, hs, hl, _, kk⟩ := oy.lst s2.fh
          obtain ⟨rr, ff⟩ := kk c.1
          obtain ⟨A', o1, h3⟩ := (k2.stepP s2).append (rr.own (H := H1) ff) fun _ _ z => nomatch z
          have hA : ∀ z, z ∈ A' → z ∈ A0 := fun z hz => (h3 z hz).elim id fun y => nomatch y
          obtain ⟨R3, s3⟩ := up F2 H1 (vs ++ ws) (xs ++ ys) A' s2 o1 (fun z => k3 (hA l z)) fun z hz => .inl (hA z hz)
          rw [p0] at R3
          have eσ : σ.set i (some (.ref l)) = σ := by
            apply List.ext_getElem?
            intro j
            by_cases hj : i = j
            · subst hj
              rw [List.getElem?_set_self (by exact (List.getElem?_eq_some_iff.mp h1).1), h1]
            · rw [List.getElem?_set_ne hj]
          refine .inr (.inr ⟨l, b, vs, ws, rfl, rfl, s2.hh _ _ k1, hs, by rw [k2.length, hl, sizeLine_eq]; exact c.2, ?_⟩)
          show E.nx (σ.set i (some (.ref l))) _
          rw [eσ]
          exact q σ _ F2 ⟨Same.refl F2, R3.fh, R3.bh, fun _ _ _ => rfl⟩ R3
        · exact q.elim
      | _ => rw [hy] at q; exact q.elim
  · exact q.elim
end
end Dt

set_option Elab.async false
set_option linter.all false
set_option maxRecDepth 100000
set_option maxHeartbeats 2000000
/-! Dat: what gen.py's print leans on. -/
namespace Dt
open PySem PySem.Spec PyProof.Rows L2
/-- around a body nothing is let out -/
theorem takes0N {X : Cx} : L2N.Takes X (fun _ _ _ _ => False) := fun _ _ x => by
  obtain ⟨_, _, _, _, _, _, _, _, _, _, _, _, _, _, _, _, z⟩ := x
  exact z.elim
theorem passLN {X : Cx} : Passes (L2N.CX X.prog X.w) X E0 := fun _ _ _ _ _ _ _ h => by
  obtain ⟨_, _, _, _, _, _, _, _, _, _, _, _, z⟩ := h
  exact z.elim
/-- a def that keeps its promise: it changes no argument -/
def Def0 (P : Program) (w : World) (K : PySem.W.Frag) (mg : Str → Option Value) (x : Str) (k : Nat) (ps : List Str) (fn : List D → R D) : Prop :=
  ∃ f fd, mg x = some (.ref f) ∧ PySem.W.keepIn K (.ref f) = true ∧ (∀ (s : Shared) (us : List Value), us.length = ps.length → BindsTo s fd ⟨us, []⟩ (ps.zip us)) ∧
    ∀ base : Heap, FnOk P w K mg base (L2N.CX P w) k f fd ps (toSp0 ⟨K, mg, none⟩ ps.length fn)
theorem bindsTo {K : PySem.W.Frag} {x qual : Str} {st : Stmt} {f : Addr} {fd : FuncData} {ps : List Str} (F : Fun K x qual st f fd)
    (h : ∀ (kV doc pm : Value) (an : Option Addr) (cdv ct : Value) (us : List Value), us.length = ps.length → bindArgs (PySem.W.fnOf x qual (defArgs st) (defBody st) (defScope st) .none kV doc pm an cdv ct) ⟨us, []⟩ = pure (ps.zip us)) :
    ∀ (s : Shared) (us : List Value), us.length = ps.length → BindsTo s fd ⟨us, []⟩ (ps.zip us) := by
  obtain ⟨oc, od, kV, doc, pm, an, cdv, ct, osl, rfl, lk, hcd⟩ := F.ex
  exact fun s us hl => .of_eq (h kV doc pm an cdv ct us hl)
/-! ### the error classes, told one by one -/
def AllP {α : Type} (p : α → Prop) : List α → Prop
  | [] => True
  | a :: l => p a ∧ AllP p l
theorem AllP.get {α : Type} {p : α → Prop} : ∀ {l : List α}, AllP p l → ∀ a, a ∈ l → p a
  | _ :: _, h, _, .head _ => h.1
  | _ :: _, h, a, .tail _ m => h.2.get a m
structure ErF (K : PySem.W.Frag) (mg : Str → Option Value) (C : String) (ca : Addr) : Prop where
  g : mg (nmS C) = some (.ref ca)
  k : PySem.W.keepIn K (.ref ca) = true
  s : PySem.W.subIn K (.ref ca) (.type "BaseException") = some true
  t : PySem.W.typeIn K (.ref ca) = some (.type "type")
  x : ExcC K ca
  i : PySem.W.isClsIn K ca = true
  v : PySem.W.subIn K (.ref ca) (.type "ValueError") = some true
theorem kit_ref {K : PySem.W.Frag} {D C : Addr} {b : Bool} (hi : PySem.W.isClsIn K C = true) (ht : PySem.W.typeIn K (.ref C) = some (.type "type")) (hself : PySem.W.subIn K (.ref C) (.ref C) = some true) (hs : PySem.W.subIn K (.ref D) (.ref C) = some b) : PySem.W.kitOne K (.ref D) (.ref C) = some b := by
  unfold PySem.W.kitOne
  split
  · rename_i e
    have e' : (.ref D : Value) = .ref C := eq_of_beq e
    cases e'
    exact hself.symm.trans hs
  · show (if ((PySem.W.clsIn K C).isSome && PySem.W.typeIn K (.ref C) == some (.type "type")) = true then PySem.W.subIn K (.ref D) (.ref C) else none) = some b
    have h1 : (PySem.W.clsIn K C).isSome = true := hi
    rw [h1, ht, Bool.true_and, if_pos (beq_self_eq_true _), hs]
theorem kit_ve {K : PySem.W.Frag} {D : Addr} (hs : PySem.W.subIn K (.ref D) (.type "ValueError") = some true) : PySem.W.kitOne K (.ref D) (.type "ValueError") = some true := by
  unfold PySem.W.kitOne
  split
  · rfl
  · show (if PySem.W.kitMeta "ValueError" = true then PySem.W.subIn K (.ref D) (.type "ValueError") else none) = some true
    rw [if_pos (by decide +kernel), hs]
theorem ErT.of {K : PySem.W.Frag} {mg : Str → Option Value} {cs : List String} (L : List (String × Addr)) (hcs : cs = L.map (·.1)) (h : AllP (fun p => ErF K mg p.1 p.2) L)
    (h2 : AllP (fun p => AllP (fun q => PySem.W.subIn K (.ref p.2) (.ref q.2) = some (isSubE p.1 q.1)) L) L) : ErT K mg cs := by
  have key : ∀ C, cs.contains C = true → ∃ p, p ∈ L ∧ p.1 = C := fun C hc => by
    rw [hcs] at hc
    exact List.mem_map.mp (List.contains_iff_mem.mp hc)
  refine ⟨fun C hc => ?_, fun D C da ca hD hC hd hc => ?_, fun D da hD hd => ?_⟩
  · obtain ⟨p, hp, rfl⟩ := key C hc
    have f := h.get p hp
    exact ⟨p.2, f.g, f.k, f.s, f.t, f.x⟩
  · obtain ⟨p, hp, rfl⟩ := key D hD
    obtain ⟨q, hq, rfl⟩ := key C hC
    have e1 := (h.get p hp).g.symm.trans hd
    have e2 := (h.get q hq).g.symm.trans hc
    cases e1
    cases e2
    have fq := h.get q hq
    have hs := (h2.get p hp).get q hq
    have hself : PySem.W.subIn K (.ref q.2) (.ref q.2) = some true := by
      have := (h2.get q hq).get q hq
      rwa [show isSubE q.1 q.1 = true from by unfold isSubE; rw [beq_self_eq_true, Bool.true_or]] at this
    exact ⟨hs, kit_ref fq.i fq.t hself hs⟩
  · obtain ⟨p, hp, rfl⟩ := key D hD
    have e1 := (h.get p hp).g.symm.trans hd
    cases e1
    exact kit_ve (h.get p hp).v
/-- the law's own promise -/
def spLaw (K : PySem.W.Frag) : Sp := fun vs H Q _ => ∃ (a : Addr) (ns : List Int), vs = [.ref a] ∧ SqL K H a (ns.map V.int) ∧ ns.length ≤ 63 ∧ ∀ H', Q (.bl true) H'
def script (ns : List Int) : D := .lst none (ns.map .int)
theorem rp_script {g : G} {F : Hp} : ∀ ns : List Int, RpL g F (ns.map V.int) (ns.map D.int)
  | [] => .nil
  | n :: ns => .cons (.int n) (rp_script ns)
theorem law_end {P : Program} {w : World} {K : PySem.W.Frag} {mg : Str → Option Value} {fa : Addr} {k : Nat} {p : Str} {fn : List D → R D} (D0 : Def0 P w K mg "law" k [p] fn) (hfa : mg "law" = some (.ref fa))
    (hl : ∀ ns : List Int, ns.length ≤ 63 → fn [script ns] = .ok (.bl true)) :
    ∃ fd : FuncData, (∀ (s : Shared) (u : Value), BindsTo s fd ⟨[u], []⟩ [(p, u)]) ∧ ∀ base : Heap, K.In base → base.Ns mainGlobals mg → FnOk P w K mg base (L2N.CX P w) k fa fd [p] (spLaw K) := by
  obtain ⟨f, fd, hf, hk, hb, Fn⟩ := D0
  have e := hfa.symm.trans hf
  cases e
  refine ⟨fd, fun s u => hb s [u] rfl, fun base _ _ => (Fn base).imp fun vs H Q E h => ?_⟩
  obtain ⟨a, ns, rfl, hs, hn, q⟩ := h
  refine ⟨rfl, H, [script ns], Same.refl H, .cons (.lst hs (rp_script ns)) .nil, rfl, ?_⟩
  rw [hl ns hn]
  intro v H' F' s r
  cases r.rp s
  exact q H'
theorem cx_end {P : Program} {w : World} {H : Hp} {s s' : Shared} {e : Value} (h : L2N.CX P w [] H s (fun _ _ _ => False) e s') : False := by
  obtain ⟨_, _, _, _, _, _, _, _, _, _, _, _, z⟩ := h
  exact z
section
variable {X : Cx} {W : Wx} {gr g1 g2 : Bool} {a b e : Expr} {pos : Pos} {fa fb : Env → R D} {es : List Expr} {fs : Env → R (List D)}
theorem de_callD {k : Nat} {ps : List Str} {fn : List D → R D} {x : Str} {p : Pos} (F : Def0 X.prog X.w X.K X.mg x k ps fn) (hr : Room k X.A) (hx : W.ex = none) (hg : Gl X x) (tk : L2N.Takes X W.w) (ha : DA true X W (e :: es) fs) (hrf : RfA fs) (hda : ∀ ρ ds, fs ρ = .ok ds → ds.length = (e :: es).length) (hn : (e :: es).length = ps.length) (hdb : (x == ("__debug__" : Str)) = false := by decide)
    (he : starEach (e :: es) X.env = (false, eval e X.env) :: starEach es X.env := by rfl) (hpl : (backTo pos (starEach es X.env)).any (·.1) = false := by rfl) : DE true X W (.Call (.Name x p) (e :: es) [] pos) (dCall fn fs) := by
  obtain ⟨f, fd, hm, hk, hb, Fn⟩ := F
  exact de_call (Fn X.base) hr hx hg hm hk (fun s us _ hl => by
    rw [List.append_nil] at hl ⊢
    exact hb s us hl) tk ha hrf hn hda hdb he hpl
/-- the name of an own error class -/
theorem de_cls {cs : List String} {C : String} {x : Str} (ET : ErT X.K X.mg cs) (hc : cs.contains C = true) (hx : nmS C = x) (hg : Gl X x) (hdb : (x == ("__debug__" : Str)) = false := by decide) : DE true X W (.Name x pos) (dC (.cls C)) := by
  obtain ⟨ca, h1, _⟩ := (ET.c C hc).at_
  subst hx
  exact de_glob (v := .ref ca) hg h1 rfl rfl (fun _ => .cls h1) hdb
end
section
variable {g1 g2 : Bool}
def fMulI : D → D → R D
  | .int i, .int j => if (-18446744073709551616 < i ∧ i < 18446744073709551616) ∨ (-18446744073709551616 < j ∧ j < 18446744073709551616) then .ok (.int (i * j)) else .bad
  | _, _ => .bad
theorem nx_mulI : ∀ x y w, fMulI x y ≠ .ex w := by
  intro x y w; unfold fMulI; split
  · split <;> exact fun e => nomatch e
  · exact fun e => nomatch e
theorem opd_mulI {g : G} : OpD g g1 g2 (rI CMul fun i j => .int (i * j)) fMulI := opd_int (t := fun i j => .int (i * j)) (fun _ _ _ => .int _) (fun _ _ => rfl) fun x y z h => by
  unfold fMulI at h
  split at h
  · split at h
    · rename_i i j c
      exact ⟨_, _, rfl, rfl, (R.ok.inj h).symm, c⟩
    · cases h
  · cases h
end
section
variable {X : Cx} {W : Wx} {x n : Str} {i : Nat} {body suite : List Stmt} {b₀ : Stmt} {np pos pos' : Pos} {t h : DTS}
theorem ds_tryD {cs : List String} {C : String} (hs : X.stack = X.env :: X.outer) (hf : X.env.frame = some X.env.locals) (hN : X.N.Nodup) (hi : X.N[i]? = some n) (hln : X.env.kindOf n = some .local) (hg : Gl X x) (hdb : (x == ("__debug__" : Str)) = false)
    (hx : nmS C = x) (hcs : cs.contains C = true) (ET : ErT X.K X.mg cs) (tk : L2N.Takes X W.w) (hex : W.ex = none)
    (hb : ∀ (W' : WX) (pn : List (Addr × Obj)) (xe : Value → Shared → Prop), L2N.Takes (X.tr pn xe) W' → PassesOwn (model X.prog X.w) X.A X.env xe → DSs (X.tr pn xe) ⟨W', none⟩ body t)
    (hsu : ∀ (a : Addr) (oe : Obj) (cls : Value) (d : Option Addr) (pn : List (Addr × Obj)), L2N.Zn cls d oe → (∃ vs, oe.data = .fields vs) → DSs (X.suite a ((a, oe) :: pn)) ⟨fun _ _ _ _ => False, some (a, cls, d)⟩ (b₀ :: suite) h) :
    DS X W (.Try body [.ExceptHandler (some (.Name x np)) (some n) (b₀ :: suite) pos'] [] [] pos) (dTry cs t C i h) := by
  obtain ⟨ca, h1, _⟩ := (ET.c C hcs).at_
  exact ds_try_as hs hf hN hi hln hg hdb (by rw [← hx]; exact h1) hx hcs ET tk hex hb hsu
end
end Dt

set_option Elab.async false
set_option linter.all false
set_option maxRecDepth 100000
set_option maxHeartbeats 2000000
/-! Dat: reckoning with the denotations: plain rewriting rules. -/
namespace Dt
open PySem PySem.Spec PyProof.Rows L2
def Out.res : Out → R D
  | .rt d _ => .ok d
  | .nx _ => .ok .non
  | .xc x _ => .ex x
  | _ => .bad
@[simp] theorem res_rt (d : D) (ρ : Env) : (Out.rt d ρ).res = .ok d := rfl
@[simp] theorem res_nx (ρ : Env) : (Out.nx ρ).res = .ok .non := rfl
@[simp] theorem res_xc (x : XD) (ρ : Env) : (Out.xc x ρ).res = .ex x := rfl
theorem ev_run (N : Nat) (t : DTS) (ds : List D) : runF N t ds = (t (ds.map some ++ List.replicate (N - ds.length) none)).res := by
  unfold runF
  cases t (ds.map some ++ List.replicate (N - ds.length) none) <;> rfl
section
variable (ρ : Env) (t u : DTS) (fc fd : Env → R Bool) (fa fb : Env → R D) (fs : Env → R (List D)) (g1 g2 : Bool) (i j : Int) (n m : Nat) (d e : D) (f2 : D → D → R D) (fn : List D → R D)
@[simp] theorem ev_seq : dSeq t u ρ = (t ρ).andThen u := rfl
@[simp] theorem ev_nx : dNx ρ = .nx ρ := rfl
@[simp] theorem ev_bk : dBk ρ = .bk ρ := rfl
@[simp] theorem ev_ct : dCt ρ = .ct ρ := rfl
def Out.ofB (r : R Bool) (ρ : Env) (k : Bool → Out) : Out := match r with
  | .ok b => k b
  | .ex x => .xc x ρ
  | .bad => .bad
@[simp] theorem ofB_ok (b : Bool) (k : Bool → Out) : Out.ofB (.ok b) ρ k = k b := rfl
@[simp] theorem ofB_ex (x : XD) (k : Bool → Out) : Out.ofB (.ex x) ρ k = .xc x ρ := rfl
@[simp] theorem ev_if : dIf fc t u ρ = Out.ofB (fc ρ) ρ fun b => if b then t ρ else u ρ := by unfold dIf Out.ofB; cases fc ρ <;> rfl
@[simp] theorem ev_ret : dRet fa ρ = Out.of (fa ρ) ρ fun d => .rt d ρ := rfl
@[simp] theorem ev_retN : dRetN ρ = .rt .non ρ := rfl
@[simp] theorem ev_set : dSet n fa ρ = Out.of (fa ρ) ρ fun d => .nx (ρ.set n (some d)) := rfl
@[simp] theorem ev_setF : dSetF n fa ρ = Out.of (fa ρ) ρ fun d => .nx (ρ.set n (some d.fr)) := rfl
@[simp] theorem ev_do : dDo fa ρ = Out.of (fa ρ) ρ fun _ => .nx ρ := rfl
@[simp] theorem ev_raise (C : String) : dRaise C ρ = .xc ⟨C, none⟩ ρ := rfl
@[simp] theorem ev_op : dOp g1 g2 f2 fa fb ρ = (fa ρ).bind fun x => (fb ρ).bind fun y => f2 (x.op g1) (y.op g2) := rfl
@[simp] theorem ev_b : dB fa ρ = (fa ρ).bind fun d => match d with | .bl b => .ok b | _ => .bad := by
  unfold dB; cases fa ρ with
  | ok d => cases d <;> rfl
  | _ => rfl
@[simp] theorem ev_and : dAnd fc fd ρ = (fc ρ).bind fun b => if b then fd ρ else .ok false := rfl
@[simp] theorem ev_or : dOr fc fd ρ = (fc ρ).bind fun b => if b then .ok true else fd ρ := rfl
@[simp] theorem ev_not : dNot fc ρ = (fc ρ).bind fun b => .ok (!b) := rfl
@[simp] theorem ev_ife : dIfE fc fa fb ρ = (fc ρ).bind fun c => if c then fa ρ else fb ρ := rfl
def R.bl {α : Type} (r : R D) (k : Bool → R α) : R α := match r with
  | .ok (.bl b) => k b
  | .ok _ => .bad
  | .ex x => .ex x
  | .bad => .bad
@[simp] theorem rbl_ok {α : Type} (b : Bool) (k : Bool → R α) : R.bl (.ok (.bl b)) k = k b := rfl
@[simp] theorem ev_andV : dAndV fa fb ρ = R.bl (fa ρ) fun c => if c then fb ρ else .ok (.bl false) := by
  unfold dAndV R.bl; cases fa ρ with
  | ok d => cases d <;> rfl
  | _ => rfl
@[simp] theorem ev_orV : dOrV fa fb ρ = R.bl (fa ρ) fun c => if c then .ok (.bl true) else fb ρ := by
  unfold dOrV R.bl; cases fa ρ with
  | ok d => cases d <;> rfl
  | _ => rfl
@[simp] theorem ev_notV : dNotV fa ρ = R.bl (fa ρ) fun c => .ok (.bl (!c)) := by
  unfold dNotV R.bl; cases fa ρ with
  | ok d => cases d <;> rfl
  | _ => rfl
@[simp] theorem ev_c : dC d ρ = .ok d := rfl
@[simp] theorem ev_nil : dNil ρ = .ok [] := rfl
@[simp] theorem ev_cons : dCons fa fs ρ = (fa ρ).bind fun x => (fs ρ).bind fun xs => .ok (x.fr :: xs) := rfl
@[simp] theorem ev_consB : dConsB fa fs ρ = (fa ρ).bind fun x => (fs ρ).bind fun xs => .ok (x :: xs) := rfl
@[simp] theorem ev_call : dCall fn fs ρ = (fs ρ).bind fn := rfl
@[simp] theorem ev_args {α : Type} (nn : List D → R α) : dArgs nn fs ρ = (fs ρ).bind nn := rfl
@[simp] theorem ev_tup : dTup fs ρ = (fs ρ).bind fun xs => if xs.length ≤ 16777216 then .ok (.tup xs) else .bad := rfl
@[simp] theorem ev_lst : dLst fs ρ = (fs ρ).bind fun xs => if (allRf xs = true) ∧ xs.length ≤ 16777216 then .ok (.lst (some 0) xs) else .bad := rfl
@[simp] theorem ev_iter : dIter fa ρ = (fa ρ).bind fun x => seqD x.fr := rfl
@[simp] theorem ev_for (fi : Env → R (List D)) (tg : Tg) {ds : List D} (h : fi ρ = .ok ds) : dFor fi tg t ρ = dForL tg t ds ρ := by unfold dFor; rw [h]
@[simp] theorem ev_no : dNo ρ = .ok none := rfl
@[simp] theorem ev_part : dPart fa ρ = (fa ρ).bind fun x => match x with | .int i => .ok (some i) | _ => .bad := by
  unfold dPart; cases fa ρ with
  | ok d => cases d <;> rfl
  | _ => rfl
@[simp] theorem ev_sl (fl fh : Env → R (Option Int)) : dSl g1 fa fl fh ρ = (fa ρ).bind fun x => (fl ρ).bind fun l => (fh ρ).bind fun h => fSl g1 (x.op g1) l h := rfl
/-! ### names -/
theorem ev_var {d : D} (h : ρ[n]? = some (some d)) (hr : d.rf = true) : dVar n ρ = .ok d := by unfold dVar; rw [h]; simp [hr]
theorem ev_ref {d : D} (h : ρ[n]? = some (some d)) : dRef n ρ = .ok d := by unfold dRef; rw [h]
@[simp] theorem var_0 (s : Option D) (ρ : Env) : dVar (n + 1) (s :: ρ) = dVar n ρ := rfl
theorem var_z (h : d.rf = true) : dVar 0 (some d :: ρ) = .ok d := ev_var _ _ rfl h
@[simp] theorem var_int : dVar 0 (some (.int i) :: ρ) = .ok (.int i) := rfl
@[simp] theorem var_bl (b : Bool) : dVar 0 (some (.bl b) :: ρ) = .ok (.bl b) := rfl
@[simp] theorem var_str (b : Str) : dVar 0 (some (.str b) :: ρ) = .ok (.str b) := rfl
@[simp] theorem var_non : dVar 0 (some .non :: ρ) = .ok .non := rfl
@[simp] theorem var_tup (b : List D) : dVar 0 (some (.tup b) :: ρ) = .ok (.tup b) := rfl
@[simp] theorem var_lst (b : List D) : dVar 0 (some (.lst none b) :: ρ) = .ok (.lst none b) := rfl
@[simp] theorem var_obj (C : String) (ns : List String) (b : List D) : dVar 0 (some (.obj none C ns b) :: ρ) = .ok (.obj none C ns b) := rfl
@[simp] theorem var_dic (ns : List Key) (b : List D) : dVar 0 (some (.dic none ns b) :: ρ) = .ok (.dic none ns b) := rfl
@[simp] theorem var_dct (ns : List (List Key)) (b : List D) : dVar 0 (some (.dct none ns b) :: ρ) = .ok (.dct none ns b) := rfl
@[simp] theorem var_exc (C : String) (o : Bool) (ns : List String) (b : List D) : dVar 0 (some (.exc C o ns b) :: ρ) = .ok (.exc C o ns b) := rfl
@[simp] theorem ref_0 (s : Option D) (ρ : Env) : dRef (n + 1) (s :: ρ) = dRef n ρ := rfl
@[simp] theorem ref_z : dRef 0 (some d :: ρ) = .ok d := rfl
theorem ev_retV {d : D} (h : ρ[n]? = some (some d)) (ht : d.tg = 0) : dRetV n ρ = .rt d (ρ.set n none) := by unfold dRetV; rw [h]; simp [ht]
theorem ev_name {d : D} (h : ρ[n]? = some (some d)) : pName n ρ = .ok (n, []) := by unfold pName; rw [h]
theorem getP_name {d : D} (h : ρ[n]? = some (some d)) : getP ρ (n, []) = some d := by unfold getP; rw [h]; rfl
theorem putP_name {d : D} (h : ρ[n]? = some (some d)) : putP ρ (n, []) e = ρ.set n (some e) := by unfold putP; rw [h]; rfl
/-- x.append(e), x a name -/
theorem ev_app {k : Nat} {xs : List D} {z : D} (h : ρ[n]? = some (some (.lst (some k) xs))) (hf : fa ρ = .ok z) (hz : xs.length < 16777216) : dAppend (pName n) fa ρ = .nx (ρ.set n (some (.lst (some k) (xs ++ [z])))) := by
  unfold dAppend
  rw [ev_name _ _ h, Out.ofP_ok]
  unfold onLst
  rw [getP_name _ _ h]
  show Out.of (fa ρ) ρ _ = _
  rw [hf, Out.of_ok, if_pos hz, putP_name _ _ _ h]
theorem ev_appX {k : Nat} {xs : List D} {x : XD} (h : ρ[n]? = some (some (.lst (some k) xs))) (hf : fa ρ = .ex x) : dAppend (pName n) fa ρ = .xc x ρ := by
  unfold dAppend
  rw [ev_name _ _ h, Out.ofP_ok]
  unfold onLst
  rw [getP_name _ _ h]
  show Out.of (fa ρ) ρ _ = _
  rw [hf, Out.of_ex]
theorem ev_aug {d z : D} (h : ρ[n]? = some (some d)) (hr : d.rf = true) (hf : fb ρ = .ok z) : dAug n g1 f2 fb ρ = Out.of (f2 d (z.op g1)) ρ fun z => .nx (ρ.set n (some z)) := by
  unfold dAug; rw [h]; simp [hr, hf]
theorem ev_augI (h : ρ[n]? = some (some (.int i))) (hf : fb ρ = .ok (.int j)) : dAugAdd n g1 fb ρ = .nx (ρ.set n (some (.int (i + j)))) := by
  unfold dAugAdd; rw [h]; simp [hf]
end
@[simp] theorem var_script (ns : List Int) (ρ : Env) : dVar 0 (some (script ns) :: ρ) = .ok (script ns) := rfl
@[simp] theorem fr_script (ns : List Int) : (script ns).fr = script ns := rfl
@[simp] theorem len_script (ns : List Int) : nLen [script ns] = .ok (.int ns.length) := by unfold script nLen; simp
/-! ### data -/
section
variable (i j : Int) (b c : Bool) (s r : Str) (xs ys : List D) (o o2 : Option Nat) (n : String) (g1 g2 : Bool)
@[simp] theorem rf_int : (D.int i).rf = true := rfl
@[simp] theorem rf_bl : (D.bl b).rf = true := rfl
@[simp] theorem rf_str : (D.str s).rf = true := rfl
@[simp] theorem rf_non : D.non.rf = true := rfl
@[simp] theorem rf_ty : (D.ty n).rf = true := rfl
@[simp] theorem rf_cls : (D.cls n).rf = true := rfl
@[simp] theorem rf_tup : (D.tup xs).rf = true := rfl
@[simp] theorem rf_lst : (D.lst none xs).rf = true := rfl
@[simp] theorem rf_lst2 (k : Nat) : (D.lst (some k) xs).rf = false := rfl
@[simp] theorem rf_exc (b : Bool) (ns : List String) : (D.exc n b ns xs).rf = true := rfl
@[simp] theorem fr_int : (D.int i).fr = .int i := rfl
@[simp] theorem fr_bl : (D.bl b).fr = .bl b := rfl
@[simp] theorem fr_str : (D.str s).fr = .str s := rfl
@[simp] theorem fr_non : D.non.fr = .non := rfl
@[simp] theorem fr_ty : (D.ty n).fr = .ty n := rfl
@[simp] theorem fr_cls : (D.cls n).fr = .cls n := rfl
@[simp] theorem fr_tup : (D.tup xs).fr = .tup xs := rfl
@[simp] theorem fr_lst : (D.lst none xs).fr = .lst none xs := rfl
@[simp] theorem fr_lst2 (k : Nat) : (D.lst (some k) xs).fr = .lst none (D.frzL xs) := rfl
@[simp] theorem fr_exc (b : Bool) (ns : List String) : (D.exc n b ns xs).fr = .exc n b ns xs := rfl
@[simp] theorem op_true (d : D) : d.op true = d.fr := rfl
@[simp] theorem op_false (d : D) : d.op false = d := rfl
@[simp] theorem frzL_nil : D.frzL [] = [] := rfl
@[simp] theorem frzL_cons (d : D) (ds : List D) : D.frzL (d :: ds) = d.frz :: D.frzL ds := rfl
@[simp] theorem frzL_app : D.frzL (xs ++ ys) = D.frzL xs ++ D.frzL ys := by rw [D.frzL_eq, D.frzL_eq, D.frzL_eq, List.map_append]
@[simp] theorem frz_int : (D.int i).frz = .int i := rfl
@[simp] theorem frz_bl : (D.bl b).frz = .bl b := rfl
@[simp] theorem frz_str : (D.str s).frz = .str s := rfl
@[simp] theorem frz_non : D.non.frz = .non := rfl
@[simp] theorem frz_tup : (D.tup xs).frz = .tup (D.frzL xs) := rfl
@[simp] theorem frz_lst : (D.lst o xs).frz = .lst none (D.frzL xs) := rfl
@[simp] theorem frzL_ints (ns : List Int) : D.frzL (ns.map D.int) = ns.map D.int := by
  induction ns with
  | nil => rfl
  | cons n ns ih => rw [List.map_cons, frzL_cons, ih]; rfl
@[simp] theorem frzL_strs (ns : List Str) : D.frzL (ns.map D.str) = ns.map D.str := by
  induction ns with
  | nil => rfl
  | cons n ns ih => rw [List.map_cons, frzL_cons, ih]; rfl
@[simp] theorem allRf_nil : allRf [] = true := rfl
@[simp] theorem allRf_cons (d : D) (ds : List D) : allRf (d :: ds) = (d.rf && allRf ds) := rfl
@[simp] theorem allRf_app : allRf (xs ++ ys) = (allRf xs && allRf ys) := by unfold allRf; rw [List.all_append]
@[simp] theorem allRf_ints (ns : List Int) : allRf (ns.map D.int) = true := by
  unfold allRf; rw [List.all_map]; exact List.all_eq_true.mpr fun _ _ => rfl
@[simp] theorem allRf_strs (ns : List Str) : allRf (ns.map D.str) = true := by
  unfold allRf; rw [List.all_map]; exact List.all_eq_true.mpr fun _ _ => rfl
@[simp] theorem allSc_nil : allSc [] = true := rfl
@[simp] theorem allSc_cons (d : D) (ds : List D) : allSc (d :: ds) = (d.sc && allSc ds) := rfl
@[simp] theorem allSc_ints (ns : List Int) : allSc (ns.map D.int) = true := by
  unfold allSc; rw [List.all_map]; exact List.all_eq_true.mpr fun _ _ => rfl
@[simp] theorem sc_int : (D.int i).sc = true := rfl
@[simp] theorem sc_str : (D.str s).sc = true := rfl
@[simp] theorem sc_bl : (D.bl b).sc = true := rfl
@[simp] theorem sc_non : D.non.sc = true := rfl
@[simp] theorem tg_int : (D.int i).tg = 0 := rfl
@[simp] theorem tg_lst (k : Nat) : (D.lst (some k) xs).tg = k := rfl
@[simp] theorem tg_lstN : (D.lst none xs).tg = 0 := rfl
@[simp] theorem tru_bl : (D.bl b).tru = some b := rfl
@[simp] theorem tru_int : (D.int i).tru = some (i != 0) := rfl
@[simp] theorem tru_lst : (D.lst o xs).tru = some (!xs.isEmpty) := rfl
@[simp] theorem tru_tup : (D.tup xs).tru = some (!xs.isEmpty) := rfl
@[simp] theorem tru_non : D.non.tru = some false := rfl
@[simp] theorem ev_tru (fa : Env → R D) (ρ : Env) : dTru fa ρ = (fa ρ).bind fun x => match x.tru with | some b => .ok b | none => .bad := by
  unfold dTru; cases fa ρ with
  | ok d =>
    simp only [R.bind_ok]
    all_goals (cases d.tru <;> rfl)
  | _ => rfl
@[simp] theorem ck_t : ck g1 xs = allRf xs := rfl
@[simp] theorem ck1_t (d : D) : ck1 g1 d = d.rf := rfl
/-! ### operators -/
@[simp] theorem fadd_int : fAdd g1 g2 (.int i) (.int j) = .ok (.int (i + j)) := rfl
@[simp] theorem fsub_int : fSub (.int i) (.int j) = .ok (.int (i - j)) := rfl
@[simp] theorem fmul_int : fMul g1 (.int i) (.int j) = if (-18446744073709551616 < i ∧ i < 18446744073709551616) ∨ (-18446744073709551616 < j ∧ j < 18446744073709551616) then .ok (.int (i * j)) else .bad := rfl
@[simp] theorem fdiv_int : fDiv (.int i) (.int j) = if 0 < j ∧ j < 18446744073709551616 then .ok (.int (i / j)) else .bad := rfl
@[simp] theorem fmod_int : fMod (.int i) (.int j) = if 0 < j then .ok (.int (i % j)) else .bad := rfl
@[simp] theorem fpow_int : fPow (.int i) (.int j) = if 0 ≤ j ∧ j ≤ 1000000 ∧ i.natAbs < 18446744073709551616 then .ok (.int (i ^ j.toNat)) else .bad := rfl
@[simp] theorem fshl_int : fShl (.int i) (.int j) = if 0 ≤ j ∧ j ≤ 1000000 ∧ i.natAbs < 18446744073709551616 then .ok (.int (i * 2 ^ j.toNat)) else .bad := rfl
@[simp] theorem fshr_int : fShr (.int i) (.int j) = if 0 ≤ j then .ok (.int (i / 2 ^ j.toNat)) else .bad := rfl
@[simp] theorem fand_int : fAnd (.int i) (.int j) = .ok (.int (Builtin.bitAnd i j)) := rfl
@[simp] theorem for_int : fOr (.int i) (.int j) = .ok (.int (Builtin.bitOr i j)) := rfl
@[simp] theorem fxor_int : fXor (.int i) (.int j) = .ok (.int (Builtin.bitXor i j)) := rfl
@[simp] theorem flt_int : fLt (.int i) (.int j) = .ok (.bl (decide (i < j))) := rfl
@[simp] theorem fle_int : fLe (.int i) (.int j) = .ok (.bl (decide (i ≤ j))) := rfl
@[simp] theorem fgt_int : fGt (.int i) (.int j) = .ok (.bl (decide (i > j))) := rfl
@[simp] theorem fge_int : fGe (.int i) (.int j) = .ok (.bl (decide (i ≥ j))) := rfl
theorem eqv_int : D.eqv (.int i) (.int j) = decide (i = j) := by
  simp [D.eqv, D.py, PyData.eqv]
  rw [Bool.eq_iff_iff]; simp
theorem eqv_bl : D.eqv (.bl b) (.bl c) = decide (b = c) := by
  simp [D.eqv, D.py, PyData.eqv]
  rw [Bool.eq_iff_iff]; simp
theorem eqv_str : D.eqv (.str s) (.str r) = decide (s = r) := by
  simp [D.eqv, D.py, PyData.eqv]
  rw [Bool.eq_iff_iff]; simp
@[simp] theorem feq_int : fEq (.int i) (.int j) = .ok (.bl (decide (i = j))) := by rw [← eqv_int]; rfl
@[simp] theorem fne_int : fNe (.int i) (.int j) = .ok (.bl (!decide (i = j))) := by rw [← eqv_int]; rfl
@[simp] theorem eq_bl : fEq (.bl b) (.bl c) = .ok (.bl (decide (b = c))) := by rw [← eqv_bl]; rfl
@[simp] theorem eq_str : fEq (.str s) (.str r) = .ok (.bl (decide (s = r))) := by rw [← eqv_str]; rfl
@[simp] theorem ne_str : fNe (.str s) (.str r) = .ok (.bl (!decide (s = r))) := by rw [← eqv_str]; rfl
@[simp] theorem ev_neg (fa : Env → R D) (ρ : Env) : dNeg fa ρ = (fa ρ).bind fun x => match x with | .int i => .ok (.int (-i)) | _ => .bad := by
  unfold dNeg; cases fa ρ with
  | ok d => cases d <;> rfl
  | _ => rfl
@[simp] theorem len_lst : nLen [.lst o xs] = .ok (.int xs.length) := rfl
@[simp] theorem len_tup : nLen [.tup xs] = .ok (.int xs.length) := rfl
@[simp] theorem int_int : nInt [.int i] = .ok (.int i) := rfl
@[simp] theorem int_bl : nInt [.bl b] = .ok (.int (if b then 1 else 0)) := rfl
@[simp] theorem seqD_lst : seqD (.lst o xs) = if allRf xs = true then .ok xs else .bad := rfl
@[simp] theorem seqD_tup : seqD (.tup xs) = if allRf xs = true then .ok xs else .bad := rfl
theorem atI_nat' {α : Type} (xs : List α) (k : Nat) (h : k < xs.length) : atI xs (k : Int) = some xs[k] := by
  unfold atI ixN
  rw [if_pos (by omega), if_pos (by omega)]
  simp [h]
@[simp] theorem fix_lst : fIx g1 (.lst o xs) (.int i) = (ixD xs i).bind fun d => if ck1 g1 d = true then .ok d else .bad := rfl
@[simp] theorem fix_tup : fIx g1 (.tup xs) (.int i) = (ixD xs i).bind fun d => if ck1 g1 d = true then .ok d else .bad := rfl
theorem ixD_of {d : D} (h : atI xs i = some d) : ixD xs i = .ok d := by unfold ixD; rw [h]
theorem ix_lst {d : D} (h : atI xs i = some d) (hr : ck1 g1 d = true) : fIx g1 (.lst o xs) (.int i) = .ok d := by
  show (ixD xs i).bind _ = _
  unfold ixD; rw [h]; exact if_pos hr
theorem ix_tup {d : D} (h : atI xs i = some d) (hr : ck1 g1 d = true) : fIx g1 (.tup xs) (.int i) = .ok d := by
  show (ixD xs i).bind _ = _
  unfold ixD; rw [h]; exact if_pos hr
@[simp] theorem ixB_own (k : Nat) : fIxB (.lst (some k) xs) (.int i) = ixD xs i := rfl
@[simp] theorem ixB_lst : fIxB (.lst none xs) (.int i) = (ixD xs i).bind fun d => if d.rf = true then .ok d else .bad := rfl
@[simp] theorem ixB_tup : fIxB (.tup xs) (.int i) = (ixD xs i).bind fun d => if d.rf = true then .ok d else .bad := rfl
end
/-! ### == of lists of numbers -/
theorem shp_ints (ns : List Int) (o : Option Nat) (n : Nat) : (D.lst o (ns.map D.int)).shp (n + 1) = true := by
  rw [D.shp, D.shpL_eq, List.all_map]
  exact List.all_eq_true.mpr fun _ _ => by simp [D.shp]
theorem py_ints (ns : List Int) : D.pyL (ns.map D.int) = ns.map PyData.int := by
  rw [D.pyL_eq, List.map_map]; rfl
theorem eqvL_ints : ∀ ns ms : List Int, PyData.eqvAll (ns.map PyData.int) (ms.map PyData.int) = decide (ns = ms)
  | [], [] => by simp [PyData.eqvAll]
  | [], _ :: _ => by simp [PyData.eqvAll]
  | _ :: _, [] => by simp [PyData.eqvAll]
  | n :: ns, m :: ms => by
    rw [List.map_cons, List.map_cons, PyData.eqvAll, eqvL_ints ns ms]
    have := eqv_int n m
    simp only [D.eqv, D.py] at this
    rw [this]
    by_cases h1 : n = m <;> by_cases h2 : ns = ms <;> simp [h1, h2]
@[simp] theorem eq_ints (ns ms : List Int) (o o2 : Option Nat) : fEq (.lst o (ns.map D.int)) (.lst o2 (ms.map D.int)) = .ok (.bl (decide (ns = ms))) := by
  unfold fEq
  rw [shp_ints, shp_ints, if_pos (by simp)]
  unfold D.eqv
  rw [D.py, D.py, py_ints, py_ints, PyData.eqv, eqvL_ints]
@[simp] theorem ne_ints (ns ms : List Int) (o o2 : Option Nat) : fNe (.lst o (ns.map D.int)) (.lst o2 (ms.map D.int)) = .ok (.bl (!decide (ns = ms))) := by
  unfold fNe
  rw [shp_ints, shp_ints, if_pos (by simp)]
  unfold D.eqv
  rw [D.py, D.py, py_ints, py_ints, PyData.eqv, eqvL_ints]
/-! ### loops -/
section
variable {tg : Tg} {t : DTS} {fc : Env → R Bool} {ρ ρ1 ρ2 : Env} {d : D} {ds : List D}
theorem for_nil : dForL tg t [] ρ = .nx ρ := rfl
theorem for_nx (h1 : tg d ρ = some ρ1) (h2 : t ρ1 = .nx ρ2) : dForL tg t (d :: ds) ρ = dForL tg t ds ρ2 := by rw [dForL, h1]; simp only [h2]
theorem for_ct (h1 : tg d ρ = some ρ1) (h2 : t ρ1 = .ct ρ2) : dForL tg t (d :: ds) ρ = dForL tg t ds ρ2 := by rw [dForL, h1]; simp only [h2]
theorem for_bk (h1 : tg d ρ = some ρ1) (h2 : t ρ1 = .bk ρ2) : dForL tg t (d :: ds) ρ = .nx ρ2 := by rw [dForL, h1]; simp only [h2]
theorem for_rt {z : D} (h1 : tg d ρ = some ρ1) (h2 : t ρ1 = .rt z ρ2) : dForL tg t (d :: ds) ρ = .rt z ρ2 := by rw [dForL, h1]; simp only [h2]
theorem for_xc {z : XD} (h1 : tg d ρ = some ρ1) (h2 : t ρ1 = .xc z ρ2) : dForL tg t (d :: ds) ρ = .xc z ρ2 := by rw [dForL, h1]; simp only [h2]
end
end Dt

set_option Elab.async false
set_option linter.all false
set_option maxRecDepth 100000
set_option maxHeartbeats 2000000
/-! Dat: list comprehensions. -/
namespace Dt
open PySem PySem.Spec PyProof.Rows L2
def wipeE (ρ : Env) : List Nat → Env
  | [] => ρ
  | v :: vs => (wipeE ρ vs).set v none
theorem EnvR.wipe {g : G} {τ : List V} {B F H : Hp} {σ : L2.St} {ρ : Env} (R : EnvR g τ B F H σ ρ) : ∀ vs : List Nat, EnvR g τ B F H (L2.wipe σ vs) (wipeE ρ vs)
  | [] => R
  | v :: vs => by
    obtain ⟨A, o, b⟩ := (EnvR.wipe R vs).own
    obtain ⟨A', o', h⟩ := o.gone v none
    exact ⟨R.bh, R.fh, A', o', fun p hp => b p (h p hp)⟩
theorem wipe_get (σ : L2.St) (i : Nat) : ∀ vs : List Nat, (L2.wipe σ vs)[i]? = if i ∈ vs then (if i < σ.length then some none else none) else σ[i]?
  | [] => by simp [L2.wipe]
  | v :: vs => by
    unfold L2.wipe
    by_cases h : v = i
    · subst h
      rw [List.getElem?_set, if_pos rfl, L2.wipe_length]
      simp
    · rw [List.getElem?_set_ne h, wipe_get σ i vs]
      have : (i ∈ v :: vs) ↔ i ∈ vs := by simp [List.mem_cons, Ne.symm h]
      simp only [this]
theorem wipe_wipe (σ : L2.St) (vs : List Nat) : L2.wipe (L2.wipe σ vs) vs = L2.wipe σ vs := by
  apply List.ext_getElem?
  intro i
  rw [wipe_get, wipe_get, L2.wipe_length]
  split <;> rfl
theorem wipe_set (σ : L2.St) (vs : List Nat) (i : Nat) (x : Option V) (h : i ∈ vs) : L2.wipe (σ.set i x) vs = L2.wipe σ vs := by
  apply List.ext_getElem?
  intro j
  rw [wipe_get, wipe_get, List.length_set]
  split
  · rfl
  · rename_i hj
    rw [List.getElem?_set_ne (fun e : i = j => hj (e ▸ h))]
/-! ### targets that leave the heap alone -/
def outGp (g : G) (τ : List V) (B F H : Hp) (w : L2.St) (vs : List Nat) (Q : L2.St → Hp → Prop) : Option Env → Prop
  | some ρ => ∀ σ', EnvR g τ B F H σ' ρ → L2.wipe σ' vs = w → Q σ' H
  | none => False
def liftGp (g : G) (t : Tg) (vs : List Nat) : TG := fun v σ H Q => ∃ τ B F ρ d, EnvR g τ B F H σ ρ ∧ Rp g F v d ∧ d.rf = true ∧ outGp g τ B F H (L2.wipe σ vs) vs Q (t d ρ)
def liftGps (g : G) (t : Tgs) (vs : List Nat) : TGs := fun ws σ H Q => ∃ τ B F ρ ds, EnvR g τ B F H σ ρ ∧ RpL g F ws ds ∧ outGp g τ B F H (L2.wipe σ vs) vs Q (t ds ρ)
section
variable {X : Cx} {g : G} {e : Expr} {es : List Expr} {pos : Pos} {tg : Tg} {tgs : Tgs} {vs : List Nat}
theorem gp_name {i : Nat} (hi : i ∈ vs) (h : PG X e (gName i)) : PG X e (liftGp g (tName i) vs) := pg_imp h fun v σ H Q => fun ⟨τ, B, F, ρ, d, R, r, f, q⟩ =>
  q (σ.set i (some v)) (R.setRes (StepP.refl R.fh) ⟨[], .frz f r, fun _ z => nomatch z⟩ i) (wipe_set σ vs i _ hi)
theorem gp_skip {i : Nat} (hi : i ∈ vs) (h : PG X e (gName i)) : PG X e (liftGp g (tSkip i) vs) := pg_imp h fun v σ H Q => fun ⟨τ, B, F, ρ, d, R, r, f, q⟩ => by
  have R' := (R.setRes (StepP.refl R.fh) ⟨[], .frz f r, fun _ z => nomatch z⟩ i).forget i
  rw [List.set_set] at R'
  exact q (σ.set i (some v)) R' (wipe_set σ vs i _ hi)
theorem gps_nil : PGs X [] (liftGps g tNone vs) := pgs_imp pgs_nil fun ws σ H Q => fun ⟨τ, B, F, ρ, ds, R, r, q⟩ => by
  cases r with
  | nil => exact ⟨rfl, q σ R rfl⟩
  | cons _ _ => exact q.elim
theorem gps_cons (h1 : PG X e (liftGp g tg vs)) (h2 : PGs X es (liftGps g tgs vs)) (hs : (assignEach (e :: es) X.env).map (·.2) = assign e X.env :: (assignEach es X.env).map (·.2) := by rfl) : PGs X (e :: es) (liftGps g (tMore tg tgs) vs) := pgs_imp (pgs_cons h1 h2 hs) fun ws σ H Q => fun ⟨τ, B, F, ρ, ds, R, r, q⟩ => by
  cases r with
  | nil => exact q.elim
  | @cons v d ws ds r1 r2 =>
    have q : outGp g τ B F H (L2.wipe σ vs) vs Q (if d.rf = true then (match tg d ρ with | some ρ' => tgs ds ρ' | none => none) else none) := q
    split at q
    · rename_i hd
      refine ⟨v, ws, rfl, τ, B, F, ρ, d, R, r1, hd, ?_⟩
      cases ht : tg d ρ with
      | none => rw [ht] at q; exact q.elim
      | some ρ' =>
        rw [ht] at q
        exact fun σ' e hw => ⟨τ, B, F, ρ', ds, e, r2, by rw [hw]; exact q⟩
    · exact q.elim
theorem gp_tup {K : PySem.W.Frag} {mg : Str → Option Value} {ex : Option (Addr × Value × Option Addr)} {k : Nat} {n : Nat} (hK : K = X.K) (hc : X.calm = true) (h : PGs X es (liftGps ⟨K, mg, ex⟩ tgs vs)) (hn : (assignEach es X.env).length = n := by rfl) (hst : (assignEach es X.env).findIdx? (·.1) = none := by rfl) : PG X (.Tuple es k pos) (liftGp ⟨K, mg, ex⟩ (tTup n tgs) vs) := by
  subst hK
  exact pg_imp (pg_or (pg_tup hc h hn hst) (pg_lst hc h hn hst)) fun v σ H Q => fun ⟨τ, B, F, ρ, d, R, r, f, q⟩ => by
    cases r with
    | tup hs0 r =>
      have hs := hs0.t
      have q : outGp ⟨X.K, mg, ex⟩ τ B F H (L2.wipe σ vs) vs Q (if _ then _ else none) := q
      split at q
      · rename_i hl
        exact .inl ⟨_, _, rfl, same_sqT R.fh hs, by rw [r.length]; exact hl, τ, B, F, ρ, _, R, r, q⟩
      · exact q.elim
    | lst hs r =>
      have q : outGp ⟨X.K, mg, ex⟩ τ B F H (L2.wipe σ vs) vs Q (if _ then _ else none) := q
      split at q
      · rename_i hl
        exact .inr ⟨_, _, rfl, R.fh.seq hs, by rw [r.length]; exact hl, τ, B, F, ρ, _, R, r, q⟩
      · exact q.elim
    | _ => exact q.elim
end
/-! ### [e for x in xs if t] -/
def dLcL (tg : Tg) (ft : Env → R Bool) (fe : Env → R D) (ρ : Env) : List D → List D → R (List D)
  | [], acc => .ok acc
  | d :: ds, acc => match tg d ρ with
    | none => .bad
    | some ρ1 => match ft ρ1 with
      | .ok true => match fe ρ1 with
        | .ok y => if acc.length < 16777216 then dLcL tg ft fe ρ ds (acc ++ [y]) else .bad
        | _ => .bad
      | .ok false => dLcL tg ft fe ρ ds acc
      | _ => .bad
def dLc (vs : List Nat) (fi : Env → R (List D)) (tg : Tg) (ft : Env → R Bool) (fe : Env → R D) : Env → R D := fun ρ => (fi ρ).bind fun ds => (dLcL tg ft fe (wipeE ρ vs) ds []).bind fun ys => .ok (.lst (some 0) ys)
def dYes : Env → R Bool := fun _ => .ok true
abbrev wish0 (W : Wx) : Wx := ⟨fun _ _ _ _ => False, W.ex⟩
section
variable {X : Cx} {W : Wx} {vs : List Nat} {fi : Env → R (List D)} {tg : Tg} {ft : Env → R Bool} {fe : Env → R D}
theorem dts_nil {g : G} {W0 : Wx} : PTs X [] (liftT g W0 dYes) := ⟨fun pins s σ H Q I h => pts_nil.run pins s σ H Q I (by
  obtain ⟨τ, B, F, ρ, R, q⟩ := h
  exact q H F (StepP.refl R.fh))⟩
theorem lc_imp {g : G} {σ : L2.St} {H : Hp} {Q : VK} (h : liftE true g W (dLc vs fi tg ft fe) σ H Q) : tLc (liftI g W fi) (liftGp g tg vs) (liftT g (wish0 W) ft) (liftE true g (wish0 W) fe) vs σ H Q := by
  obtain ⟨τ, B, F, ρ, RR, q⟩ := h
  refine ⟨τ, B, F, ρ, RR, ?_⟩
  unfold dLc at q
  cases hf : fi ρ with
  | bad => rw [hf] at q; exact q
  | ex x => rw [hf] at q; exact q
  | ok ds =>
    rw [hf, R.bind_ok] at q
    intro J C H1 F1 s1 S c1 Da nD
    have q := q.step s1
    have R1 := (RR.stepP s1).wipe vs
    refine ⟨fun i m Hc => m = ds.length - i ∧ i ≤ ds.length ∧ ∃ (Fc : Hp) (wA : List V) (acc : List D) (A : List Addr), StepP F1 H1 Fc Hc ∧ Hc Da = some (.lst wA) ∧ Fc Da = none ∧ OwnL g Fc Hc wA acc A ∧ (∀ p, p ∈ A → H1 p = none) ∧ Da ∉ A ∧ C Fc ∧
      outE true g W F1 H1 σ Q ((dLcL tg ft fe (wipeE ρ vs) (ds.drop i) acc).bind fun ys => .ok (.lst (some 0) ys)), ⟨ds.length, rfl, Nat.zero_le _, F1, [], [], [], step_new s1.fh nD, upd_same, s1.fh.free nD, .nil, (fun _ z => (nomatch z)), (fun z => (nomatch z)), c1, q⟩, fun i m Hc hw => ?_⟩
    obtain ⟨rfl, hi, Fc, wA, acc, A, sc, hD, fD, o, nA, dA, c, q⟩ := hw
    have Rc := R1.stepP sc
    by_cases hl : i < ds.length
    · have hd : ds.drop i = ds[i] :: ds.drop (i + 1) := List.drop_eq_getElem_cons hl
      rw [hd, dLcL] at q
      refine .inr ⟨S.go i Fc Hc hl c sc.fh, fun Hn => i + 1 ≤ ds.length ∧ ∃ (Fc : Hp) (wA : List V) (acc : List D) (A : List Addr), StepP F1 H1 Fc Hn ∧ Hn Da = some (.lst wA) ∧ Fc Da = none ∧ OwnL g Fc Hn wA acc A ∧ (∀ p, p ∈ A → H1 p = none) ∧ Da ∉ A ∧ C Fc ∧
        outE true g W F1 H1 σ Q ((dLcL tg ft fe (wipeE ρ vs) (ds.drop (i + 1)) acc).bind fun ys => .ok (.lst (some 0) ys)), fun H' w => ⟨_, by omega, rfl, w⟩, fun x H' y => ?_⟩
      obtain ⟨F2, s2, r, f⟩ := S.yld i ds[i] Fc Hc x H' c sc.fh (List.getElem?_eq_getElem hl) y
      refine ⟨τ, B, F2, _, ds[i], Rc.stepP s2, r, f, ?_⟩
      cases htg : tg ds[i] (wipeE ρ vs) with
      | none => rw [htg] at q; exact q.elim
      | some ρ1 =>
        rw [htg] at q
        intro σ2 R2 hw
        refine ⟨by rw [hw, wipe_wipe], τ, B, F2, ρ1, R2, ?_⟩
        simp only at q
        cases hft : ft ρ1 with
        | bad => rw [hft] at q; exact q.elim
        | ex x => rw [hft] at q; exact q.elim
        | ok b =>
          rw [hft] at q
          intro H3 F3 s3
          have s23 := s2.trans s3
          cases b with
          | false =>
            refine iteF ⟨hl, F3, wA, acc, A, sc.trans s23, s23.hh Da _ hD, (s23.new Da _ hD).trans fD, o.stepP s23, nA, dA, S.mono _ _ s23.ff c, q⟩
          | true =>
            refine iteT ⟨τ, B, F3, ρ1, R2.stepP s3, ?_⟩
            simp only at q
            cases hfe : fe ρ1 with
            | bad => rw [hfe] at q; exact q.elim
            | ex x => rw [hfe] at q; exact q.elim
            | ok yd =>
              rw [hfe] at q
              simp only at q
              split at q
              · rename_i hz
                intro v H4 F4 s4 r4
                obtain ⟨A', o', n'⟩ := r4
                have s24 := s23.trans s4
                have hD4 := s24.hh Da _ hD
                have fD4 : F4 Da = none := (s24.new Da _ hD).trans fD
                have hD3 := s23.hh Da _ hD
                have o3 := o.stepP s23
                have o4 := o.stepP s24
                have dj : ∀ q, q ∈ A → q ∉ A' := fun q h1 h2 => by
                  obtain ⟨_, z, hz⟩ := o3.mem q h1
                  rw [n' q h2] at hz
                  cases hz
                obtain ⟨A2, o2, hA2⟩ := o4.snoc o' dj
                have dA2 : Da ∉ A2 := fun z => by
                  rcases hA2 Da z with z | z
                  · exact dA z
                  · rw [n' Da z] at hD3; cases hD3
                have sT := sc.trans s24
                refine ⟨wA, hD4, by rw [o.length, sizeLine_eq]; exact hz, hl, F4, wA ++ [v], acc ++ [yd], A2, ⟨sT.ff, fun b u e => ?_, fun b u e => ?_, sT.new⟩, upd_same, fD4, o2.mono' fun p hp => ?_, fun p hp => ?_, dA2, S.mono _ _ s24.ff c, q⟩
                · have : b ≠ Da := fun z => by rw [z, fD4] at e; cases e
                  exact (upd_ne this).trans (sT.fh b u e)
                · have : b ≠ Da := fun z => by rw [z, nD] at e; cases e
                  exact (upd_ne this).trans (sT.hh b u e)
                · exact upd_ne fun z => dA2 (z ▸ hp)
                · rcases hA2 p hp with z | z
                  · exact nA p z
                  · exact (sc.trans s23).hh.free (n' p z)
              · exact q.elim
    · have e : i = ds.length := by omega
      subst e
      rw [List.drop_length, dLcL, R.bind_ok] at q
      refine .inl ⟨S.stop _ Fc Hc (Nat.le_refl _) c sc.fh, q (.ref Da) Hc Fc sc ⟨Da :: A, .lst hD fD o dA, fun p hp => ?_⟩⟩
      rcases List.mem_cons.mp hp with z | z
      · rw [z]; exact nD
      · exact nA p z
theorem de_lc {elt tgt iter : Expr} {ifs : List Expr} {scope : Scope} {own : List (Str × Nat)} {pos : Pos} (hc : X.calm = true) (hN : X.N.Nodup) (hi : DI X W tgt iter fi) (ok : BlkOk X.N X.env.scope scope own) (hvs : own.map (·.2) = vs)
    (hg : ∀ (s : Shared) (H : Hp) (C : Addr) (cl : List (Str × Addr)) (fp : List Addr), PG (X.blk s H scope (compEnvC scope cl C X.env) fp) tgt (liftGp (gx X W) tg vs))
    (ht : ∀ (s : Shared) (H : Hp) (C : Addr) (cl : List (Str × Addr)) (fp : List Addr), PTs (X.blk s H scope (compEnvC scope cl C X.env) fp) ifs (liftT (gx X W) (wish0 W) ft))
    (he : ∀ (s : Shared) (H : Hp) (C : Addr) (cl : List (Str × Addr)) (fp : List Addr), DE true (X.blk s H scope (compEnvC scope cl C X.env) fp) (wish0 W) elt fe)
    (hs : ∀ x, foldedSetIterable iter X.env x = pure x := by intro _; rfl) : DE true X W (.ListComp elt [⟨tgt, iter, ifs, 0⟩] scope pos) (dLc vs fi tg ft fe) := by
  subst hvs
  exact pe_imp (pe_lc hc hN hi ok hg ht he hs) fun σ H Q h => lc_imp h
theorem ps_lc {st : Stmt} {i : Nat} {g : G} (h : PS X st (tAsg (tLc (liftI (gx X W) W fi) (liftGp (gx X W) tg vs) (liftT (gx X W) (wish0 W) ft) (liftE true (gx X W) (wish0 W) fe) vs) (gName i))) : DS X W st (dSet i (dLc vs fi tg ft fe)) ∧ DS X W st (dSetF i (dLc vs fi tg ft fe)) := by
  refine ⟨ps_imp h fun E σ H => fun ⟨τ, B, F, ρ, RR, q⟩ => lc_imp (lift_of RR q fun d v H' F' _ s r o => o (σ.set i (some v)) H' F' (StepI.refl s.fh (RR.bh.trans s.hh)) (RR.setRes s r i)), ps_imp h fun E σ H => fun ⟨τ, B, F, ρ, RR, q⟩ => lc_imp ⟨τ, B, F, ρ, RR, ?_⟩⟩
  unfold dSetF at q
  cases hf : dLc vs fi tg ft fe ρ with
  | ok d =>
    rw [hf] at q
    intro v H' F' s r
    obtain ⟨F2, s2, r2⟩ := r.frz s
    exact q (σ.set i (some v)) H' F2 (s2.toI RR.bh) (RR.setRes s2 r2 i)
  | ex x => rw [hf] at q; exact fun cls dd H' F' s r => q cls dd σ H H' F' (s.toI RR.bh) (RR.stepP s) r
  | bad => rw [hf] at q; exact q
section
variable {i : Nat} {y : Str} {py : Pos} {elt tgt iter : Expr} {ifs : List Expr} {scope : Scope} {own : List (Str × Nat)} {pos spos : Pos}
theorem ds_lc0 (hc : X.calm = true) (hN : X.N.Nodup) (hy : X.N[i]? = some y) (hyl : X.env.scope.names.lookup y = some .local)
    (hsw : swapsWith (.ListComp elt [⟨tgt, iter, ifs, 0⟩] scope pos) (some (.Name y py)) spos.line X.env = pure true) (hi : DI X W tgt iter fi) (ok : BlkOk X.N X.env.scope scope own) (hvs : own.map (·.2) = vs)
    (hg : ∀ (s : Shared) (H : Hp) (C : Addr) (cl : List (Str × Addr)) (fp : List Addr), PG (X.blk s H scope (compEnvC scope cl C X.env) fp) tgt (liftGp (gx X W) tg vs))
    (ht : ∀ (s : Shared) (H : Hp) (C : Addr) (cl : List (Str × Addr)) (fp : List Addr), PTs (X.blk s H scope (compEnvC scope cl C X.env) fp) ifs (liftT (gx X W) (wish0 W) ft))
    (he : ∀ (s : Shared) (H : Hp) (C : Addr) (cl : List (Str × Addr)) (fp : List Addr), DE true (X.blk s H scope (compEnvC scope cl C X.env) fp) (wish0 W) elt fe)
    (hs : ∀ x, foldedSetIterable iter X.env x = pure x) : DS X W (.Assign [.Name y py] (.ListComp elt [⟨tgt, iter, ifs, 0⟩] scope pos) spos) (dSet i (dLc vs fi tg ft fe)) ∧ DS X W (.Assign [.Name y py] (.ListComp elt [⟨tgt, iter, ifs, 0⟩] scope pos) spos) (dSetF i (dLc vs fi tg ft fe)) := by
  subst hvs
  exact ps_lc (g := gx X W) (ps_setLc hc hN hy hyl hsw hi ok hg ht he hs)
theorem ds_setLc (hc : X.calm = true) (hN : X.N.Nodup) (hy : X.N[i]? = some y) (hyl : X.env.scope.names.lookup y = some .local)
    (hsw : swapsWith (.ListComp elt [⟨tgt, iter, ifs, 0⟩] scope pos) (some (.Name y py)) spos.line X.env = pure true) (hi : DI X W tgt iter fi) (ok : BlkOk X.N X.env.scope scope own) (hvs : own.map (·.2) = vs)
    (hg : ∀ (s : Shared) (H : Hp) (C : Addr) (cl : List (Str × Addr)) (fp : List Addr), PG (X.blk s H scope (compEnvC scope cl C X.env) fp) tgt (liftGp (gx X W) tg vs))
    (ht : ∀ (s : Shared) (H : Hp) (C : Addr) (cl : List (Str × Addr)) (fp : List Addr), PTs (X.blk s H scope (compEnvC scope cl C X.env) fp) ifs (liftT (gx X W) (wish0 W) ft))
    (he : ∀ (s : Shared) (H : Hp) (C : Addr) (cl : List (Str × Addr)) (fp : List Addr), DE true (X.blk s H scope (compEnvC scope cl C X.env) fp) (wish0 W) elt fe)
    (hs : ∀ x, foldedSetIterable iter X.env x = pure x := by intro _; rfl) : DS X W (.Assign [.Name y py] (.ListComp elt [⟨tgt, iter, ifs, 0⟩] scope pos) spos) (dSet i (dLc vs fi tg ft fe)) := (ds_lc0 hc hN hy hyl hsw hi ok hvs hg ht he hs).1
theorem ds_setLcF (hc : X.calm = true) (hN : X.N.Nodup) (hy : X.N[i]? = some y) (hyl : X.env.scope.names.lookup y = some .local)
    (hsw : swapsWith (.ListComp elt [⟨tgt, iter, ifs, 0⟩] scope pos) (some (.Name y py)) spos.line X.env = pure true) (hi : DI X W tgt iter fi) (ok : BlkOk X.N X.env.scope scope own) (hvs : own.map (·.2) = vs)
    (hg : ∀ (s : Shared) (H : Hp) (C : Addr) (cl : List (Str × Addr)) (fp : List Addr), PG (X.blk s H scope (compEnvC scope cl C X.env) fp) tgt (liftGp (gx X W) tg vs))
    (ht : ∀ (s : Shared) (H : Hp) (C : Addr) (cl : List (Str × Addr)) (fp : List Addr), PTs (X.blk s H scope (compEnvC scope cl C X.env) fp) ifs (liftT (gx X W) (wish0 W) ft))
    (he : ∀ (s : Shared) (H : Hp) (C : Addr) (cl : List (Str × Addr)) (fp : List Addr), DE true (X.blk s H scope (compEnvC scope cl C X.env) fp) (wish0 W) elt fe)
    (hs : ∀ x, foldedSetIterable iter X.env x = pure x := by intro _; rfl) : DS X W (.Assign [.Name y py] (.ListComp elt [⟨tgt, iter, ifs, 0⟩] scope pos) spos) (dSetF i (dLc vs fi tg ft fe)) := (ds_lc0 hc hN hy hyl hsw hi ok hvs hg ht he hs).2
end
end
end Dt

set_option Elab.async false
set_option linter.all false
set_option maxRecDepth 100000
set_option maxHeartbeats 2000000
/-! Dat: chains of comparisons, zip, enumerate, reversed, range of three, list(range ..), xs[::-1]. -/
namespace Dt
open PySem PySem.Spec PyProof.Rows L2
section
variable {X : Cx} {W : Wx} {gr g1 g2 g3 : Bool} {a b c e : Expr} {pos : Pos} {fa fb fc : Env → R D} {f f' : D → D → R D}
def R.cn (r : R D) (k : R D) : R D := match r with
  | .ok (.bl true) => k
  | .ok (.bl false) => .ok (.bl false)
  | _ => .bad
def dChain (g1 g2 g3 : Bool) (f f' : D → D → R D) (fa fb fc : Env → R D) : Env → R D := fun ρ => (fa ρ).bind fun x => (fb ρ).bind fun y => R.cn (f (x.op g1) (y.op g2)) ((fc ρ).bind fun w => f' (y.op g2) (w.op g3))
theorem lift_chain {r r' : R2} (ho : OpD (gx X W) g1 g2 r f) (ho' : OpD (gx X W) g2 g3 r' f') (nx' : ∀ x y w, f' x y ≠ .ex w) {σ : L2.St} {H : Hp} {Q : VK} (h : liftE true (gx X W) W (dChain g1 g2 g3 f f' fa fb fc) σ H Q) :
    tChain r r' (liftE g1 (gx X W) W fa) (liftE g2 (gx X W) W fb) (liftE g3 (gx X W) W fc) σ H Q := by
  obtain ⟨τ, B, F, ρ, E, q⟩ := h
  refine ⟨τ, B, F, ρ, E, ?_⟩
  unfold dChain at q
  cases hfa : fa ρ with
  | bad => rw [hfa] at q; exact q
  | ex x => rw [hfa] at q; exact q
  | ok x =>
    rw [hfa] at q
    intro vx H1 F1 s1 rx
    obtain ⟨F2, s2, ox⟩ := rx.op s1
    refine ⟨τ, B, F2, ρ, E.stepP s2, ?_⟩
    rw [R.bind_ok] at q
    cases hfb : fb ρ with
    | bad => rw [hfb] at q; exact q
    | ex x => rw [hfb] at q; exact fun cls dd H' F' s3 rx => q cls dd H' F' (s2.trans s3) (rx.back s2.hh)
    | ok y =>
      rw [hfb, R.bind_ok] at q
      intro vy H3 F3 s3 ry
      obtain ⟨F4, s4, oy⟩ := ry.op s3
      have q := q.step (s2.trans s4)
      refine ho F4 H3 vx vy (x.op g1) (y.op g2) _ s4.fh (ox.step s4) oy ?_
      cases hz : f (x.op g1) (y.op g2) with
      | bad => rw [hz] at q; exact q.elim
      | ex w => rw [hz] at q; exact q.elim
      | ok z =>
        rw [hz] at q
        intro v5 H5 F5 s5 r5
        cases z with
        | bl k =>
          cases r5.rp s5
          refine ⟨k, rfl, ?_⟩
          cases k with
          | true =>
            refine iteT ⟨τ, B, F5, ρ, (E.stepP (s2.trans s4)).stepP s5, ?_⟩
            have q := outE.step s5 (show outE true (gx X W) W F4 H3 σ Q ((fc ρ).bind fun w => f' (y.op g2) (w.op g3)) from q)
            cases hfc : fc ρ with
            | bad => rw [hfc] at q; exact q
            | ex x => rw [hfc] at q; exact q
            | ok w =>
              rw [hfc, R.bind_ok] at q
              intro vw H6 F6 s6 rw6
              obtain ⟨F7, s7, ow⟩ := rw6.op s6
              exact ho'.out s7.fh ((oy.step s5).step s7) ow (nx' _ _) (q.step s7)
          | false => exact iteF (q (.bl false) H5 F5 s5 ⟨[], .frz rfl (.bl _), fun _ z => nomatch z⟩)
        | _ => exact q.elim
theorem de_chain {op op' : CmpOp} {r r' : R2} (h : OpR X (compareOp op) r) (h' : OpR X (compareOp op') r') (ho : OpD (gx X W) g1 g2 r f) (ho' : OpD (gx X W) g2 g3 r' f') (nx' : ∀ x y w, f' x y ≠ .ex w) (ha : DE g1 X W a fa) (hb : DE g2 X W b fb) (hc : DE g3 X W c fc)
    (hm : lastMarks [op, op'] [b, c] = false := by with_unfolding_all rfl) : DE true X W (.Compare a [op, op'] [b, c] pos) (dChain g1 g2 g3 f f' fa fb fc) := pe_imp (pe_chain h h' ha hb hc hm) fun _ _ _ q => lift_chain ho ho' nx' q
theorem dt_chain {op op' : CmpOp} {r r' : R2} (h : OpR X (compareOp op) r) (h' : OpR X (compareOp op') r') (ho : OpD (gx X W) g1 g2 r f) (ho' : OpD (gx X W) g2 g3 r' f') (nx' : ∀ x y w, f' x y ≠ .ex w) (ha : DE g1 X W a fa) (hb : DE g2 X W b fb) (hc : DE g3 X W c fc)
    (hm : lastMarks [op, op'] [b, c] = false := by with_unfolding_all rfl) : DT X W (.Compare a [op, op'] [b, c] pos) (dB (dChain g1 g2 g3 f f' fa fb fc)) := pt_imp (pt_chain h h' ha hb hc hm) fun σ H Q q => lift_chain ho ho' nx' (liftB (gr := true) q)
/-! ### zip, enumerate, reversed -/
def pairs (xs ys : List D) : List D := List.zipWith (fun x y => D.tup [x, y]) xs ys
theorem pairs_get {xs ys : List D} {i : Nat} {d : D} (h : (pairs xs ys)[i]? = some d) : ∃ x y, xs[i]? = some x ∧ ys[i]? = some y ∧ d = .tup [x, y] := by
  unfold pairs at h
  rw [List.getElem?_zipWith] at h
  cases hx : xs[i]? with
  | none => rw [hx] at h; cases h
  | some x =>
    cases hy : ys[i]? with
    | none => rw [hx, hy] at h; cases h
    | some y => rw [hx, hy] at h; cases h; exact ⟨x, y, rfl, rfl, rfl⟩
theorem pairs_length (xs ys : List D) : (pairs xs ys).length = min xs.length ys.length := by unfold pairs; rw [List.length_zipWith]
theorem src_zip {g : G} {p q : Addr} {xs ys : List D} : Src g (Itz g.K p q) (pairs xs ys) (fun F => ∃ vs ws, SqL g.K F p vs ∧ RpL g F vs xs ∧ SqL g.K F q ws ∧ RpL g F ws ys) where
  go := fun i F H hi ⟨vs, ws, h1, r1, h2, r2⟩ s => by
    rw [pairs_length] at hi
    obtain ⟨v, e1, _⟩ := r1.get (List.getElem?_eq_getElem (show i < xs.length by omega))
    obtain ⟨w, e2, _⟩ := r2.get (List.getElem?_eq_getElem (show i < ys.length by omega))
    exact ⟨vs, ws, v, w, s.seq h1, s.seq h2, e1, e2⟩
  stop := fun i F H hi ⟨vs, ws, h1, r1, h2, r2⟩ s => by
    rw [pairs_length] at hi
    have := r1.length
    have := r2.length
    exact ⟨vs, ws, s.seq h1, s.seq h2, by omega⟩
  yld := fun i d F H x H' ⟨vs, ws, h1, r1, h2, r2⟩ s e ⟨T, x1, y1, e1, nT, e2, f1, f2⟩ => by
    subst e1 e2
    obtain ⟨dx, dy, k1, k2, rfl⟩ := pairs_get e
    obtain ⟨v, e1, o1⟩ := r1.get k1
    obtain ⟨w, e2, o2⟩ := r2.get k2
    have e3 := f1 vs (s.seq h1)
    have e4 := f2 ws (s.seq h2)
    rw [e1] at e3
    rw [e2] at e4
    cases e3
    cases e4
    have st := step_tup (vs := [x1, y1]) s nT
    exact ⟨_, st, .tup (.inl upd_same) (RpL.mono st.ff (.cons o1 (.cons o2 .nil))), rfl⟩
  mono := fun F F' s ⟨vs, ws, h1, r1, h2, r2⟩ => ⟨vs, ws, s.seq h1, RpL.mono s r1, s.seq h2, RpL.mono s r2⟩
theorem src_zipT {g : G} {p q : Addr} {xs ys : List D} : Src g (RZ.ItzT g.K p q) (pairs xs ys) (fun F => ∃ vs ws, SqT g.K F p vs ∧ RpL g F vs xs ∧ SqT g.K F q ws ∧ RpL g F ws ys) where
  go := fun i F H hi ⟨vs, ws, h1, r1, h2, r2⟩ s => by
    rw [pairs_length] at hi
    obtain ⟨v, e1, _⟩ := r1.get (List.getElem?_eq_getElem (show i < xs.length by omega))
    obtain ⟨w, e2, _⟩ := r2.get (List.getElem?_eq_getElem (show i < ys.length by omega))
    exact ⟨vs, ws, v, w, same_sqT s h1, same_sqT s h2, e1, e2⟩
  stop := fun i F H hi ⟨vs, ws, h1, r1, h2, r2⟩ s => by
    rw [pairs_length] at hi
    have := r1.length
    have := r2.length
    exact ⟨vs, ws, same_sqT s h1, same_sqT s h2, by omega⟩
  yld := fun i d F H x H' ⟨vs, ws, h1, r1, h2, r2⟩ s e ⟨T, x1, y1, e1, nT, e2, f1, f2⟩ => by
    subst e1 e2
    obtain ⟨dx, dy, k1, k2, rfl⟩ := pairs_get e
    obtain ⟨v, e1, o1⟩ := r1.get k1
    obtain ⟨w, e2, o2⟩ := r2.get k2
    have e3 := f1 vs (same_sqT s h1)
    have e4 := f2 ws (same_sqT s h2)
    rw [e1] at e3
    rw [e2] at e4
    cases e3
    cases e4
    have st := step_tup (vs := [x1, y1]) s nT
    exact ⟨_, st, .tup (.inl upd_same) (RpL.mono st.ff (.cons o1 (.cons o2 .nil))), rfl⟩
  mono := fun F F' s ⟨vs, ws, h1, r1, h2, r2⟩ => ⟨vs, ws, same_sqT s h1, RpL.mono s r1, same_sqT s h2, RpL.mono s r2⟩
def nZip : List D → R (List D)
  | [.lst none xs, .lst none ys] => .ok (pairs xs ys)
  | [.tup xs, .tup ys] => .ok (pairs xs ys)
  | _ => .bad
/-- as di_args, the arguments frozen -/
theorem di_argsT {fs : Env → R (List D)} {n : List D → R (List D)} {K : List V → Hp → (It → Hp → Prop) → Prop}
    (k : ∀ vs ds H F σ Q, Same F H → RpL (gx X W) F vs ds → outI (gx X W) W F H σ Q (n ds) → K vs H Q) (σ : L2.St) (H : Hp) (Q : It → Hp → Prop) (h : liftI (gx X W) W (dArgs n fs) σ H Q) : liftA true (gx X W) W fs σ H fun vs H1 => K vs H1 Q := by
  obtain ⟨τ, B, F, ρ, E, q⟩ := h
  refine ⟨τ, B, F, ρ, E, ?_⟩
  have q : outI (gx X W) W F H σ Q ((fs ρ).bind n) := q
  cases hf : fs ρ with
  | bad => rw [hf] at q; exact q
  | ex x => rw [hf] at q; exact q
  | ok ds =>
    rw [hf, R.bind_ok] at q
    exact fun vs H' F' s r => k vs ds H' F' σ Q s.fh r (q.step s)
theorem di_zip {fs : Env → R (List D)} {p tpos : Pos} {elts : List Expr} {kk : Nat} (hg : Gl X "zip") (hm : X.mg "zip" = none) (ha : DA true X W [a, b] fs) (hs : starEach [a, b] X.env = (false, eval a X.env) :: starEach [b] X.env := by rfl) (hpl : (backTo pos (starEach [b] X.env)).any (·.1) = false := by rfl) :
    DI X W (.Tuple elts kk tpos) (.Call (.Name "zip" p) [a, b] [] pos) (dArgs nZip fs) :=
  pi_imp (RZ.pi_zipA hg hm ha hs hpl) (di_argsT (K := fun vs H1 R => ∃ a b xs ys, vs = [.ref a, .ref b] ∧ ((SqL X.K H1 a xs ∧ SqL X.K H1 b ys ∧ R (Itz X.K a b) H1) ∨ (SqT X.K H1 a xs ∧ SqT X.K H1 b ys ∧ R (RZ.ItzT X.K a b) H1))) fun vs ds H F σ Q s r q => by
  unfold nZip at q
  split at q
  · cases r with
    | cons r1 r2 => cases r2 with
      | cons r3 r4 => cases r4; cases r1 with
        | lst h1 k1 => cases r3 with
          | lst h2 k2 => exact ⟨_, _, _, _, rfl, .inl ⟨s.seq h1, s.seq h2, q _ _ H F (StepP.refl s) src_zip ⟨_, _, h1, k1, h2, k2⟩⟩⟩
  · cases r with
    | cons r1 r2 => cases r2 with
      | cons r3 r4 => cases r4; cases r1 with
        | tup h1 k1 => cases r3 with
          | tup h2 k2 => exact ⟨_, _, _, _, rfl, .inr ⟨same_sqT s h1.t, same_sqT s h2.t, q _ _ H F (StepP.refl s) src_zipT ⟨_, _, h1.t, k1, h2.t, k2⟩⟩⟩
  · exact q.elim)
def enumD : Nat → List D → List D
  | _, [] => []
  | n, d :: ds => .tup [.int n, d] :: enumD (n + 1) ds
theorem enum_length : ∀ (n : Nat) (ds : List D), (enumD n ds).length = ds.length
  | _, [] => rfl
  | n, d :: ds => by rw [enumD, List.length_cons, List.length_cons, enum_length]
theorem enum_get : ∀ (n : Nat) (ds : List D) (i : Nat) {d : D}, (enumD n ds)[i]? = some d → ∃ x, ds[i]? = some x ∧ d = .tup [.int ((n + i : Nat)), x]
  | _, [], i, d, h => by rw [enumD] at h; simp at h
  | n, x :: ds, 0, d, h => by rw [enumD] at h; simp at h; exact ⟨x, rfl, by rw [← h]; rfl⟩
  | n, x :: ds, i + 1, d, h => by
    rw [enumD, List.getElem?_cons_succ] at h
    obtain ⟨y, h1, h2⟩ := enum_get (n + 1) ds i h
    exact ⟨y, by rw [List.getElem?_cons_succ]; exact h1, by rw [h2, show n + 1 + i = n + (i + 1) by omega]⟩
theorem src_enum {g : G} {p : Addr} {xs : List D} : Src g (Ite g.K p) (enumD 0 xs) (fun F => ∃ vs, SqL g.K F p vs ∧ RpL g F vs xs) where
  go := fun i F H hi ⟨vs, h1, r1⟩ s => by
    rw [enum_length] at hi
    obtain ⟨v, e1, _⟩ := r1.get (List.getElem?_eq_getElem hi)
    exact ⟨vs, v, s.seq h1, e1⟩
  stop := fun i F H hi ⟨vs, h1, r1⟩ s => by
    rw [enum_length] at hi
    exact ⟨vs, s.seq h1, by rw [r1.length]; exact hi⟩
  yld := fun i d F H x H' ⟨vs, h1, r1⟩ s e ⟨T, x1, e1, nT, e2, f1⟩ => by
    subst e1 e2
    obtain ⟨dx, k1, rfl⟩ := enum_get 0 xs i e
    obtain ⟨v, e1, o1⟩ := r1.get k1
    have e3 := f1 vs (s.seq h1)
    rw [e1] at e3
    cases e3
    have st := step_tup (vs := [.int (i : Nat), x1]) s nT
    rw [Nat.zero_add]
    exact ⟨_, st, .tup (.inl upd_same) (RpL.mono st.ff (.cons (.int _) (.cons o1 .nil))), rfl⟩
  mono := fun F F' s ⟨vs, h1, r1⟩ => ⟨vs, s.seq h1, RpL.mono s r1⟩
def nEnum : List D → R (List D)
  | [.lst none xs] => .ok (enumD 0 xs)
  | _ => .bad
theorem di_enum {fs : Env → R (List D)} {p tpos : Pos} {elts : List Expr} {kk : Nat} (hg : Gl X "enumerate") (hm : X.mg "enumerate" = none) (ha : DA true X W [a] fs) (hs : starEach [a] X.env = [(false, eval a X.env)] := by rfl) :
    DI X W (.Tuple elts kk tpos) (.Call (.Name "enumerate" p) [a] [] pos) (dArgs nEnum fs) :=
  pi_imp (pi_enum hg hm ha hs) (di_argsT (K := fun vs H1 R => ∃ a xs, vs = [.ref a] ∧ SqL X.K H1 a xs ∧ R (Ite X.K a) H1) fun vs ds H F σ Q s r q => by
  unfold nEnum at q
  split at q
  · cases r with
    | cons r1 r2 => cases r2; cases r1 with
      | lst h1 k1 => exact ⟨_, _, rfl, s.seq h1, q _ _ H F (StepP.refl s) src_enum ⟨_, h1, k1⟩⟩
  · exact q.elim)
theorem rev_get {α : Type} {xs : List α} {i : Nat} (h : i < xs.length) : xs.reverse[i]? = xs[xs.length - 1 - i]? := List.getElem?_reverse h
theorem src_rev {g : G} {p : Addr} {xs : List D} (hr : allRf xs = true) : Src g (Itv g.K p xs.length) xs.reverse (fun F => ∃ vs, SqL g.K F p vs ∧ RpL g F vs xs) where
  go := fun i F H hi ⟨vs, h1, r1⟩ s => by
    rw [List.length_reverse] at hi
    obtain ⟨v, e1, _⟩ := r1.get (List.getElem?_eq_getElem (show xs.length - 1 - i < xs.length by omega))
    exact ⟨hi, vs, v, s.seq h1, e1⟩
  stop := fun i F H hi ⟨vs, h1, r1⟩ s => by
    rw [List.length_reverse] at hi
    exact hi
  yld := fun i d F H x H' ⟨vs, h1, r1⟩ s e ⟨e1, f1⟩ => by
    subst e1
    have hi := (List.getElem?_eq_some_iff.mp e).1
    rw [List.length_reverse] at hi
    have e' := e
    rw [rev_get hi] at e'
    obtain ⟨v, e1, o1⟩ := r1.get e'
    have e3 := f1 vs (s.seq h1)
    rw [e1] at e3
    cases e3
    exact ⟨F, StepP.refl s, o1, allRf_get hr e'⟩
  mono := fun F F' s ⟨vs, h1, r1⟩ => ⟨vs, s.seq h1, RpL.mono s r1⟩
theorem src_revT {g : G} {p : Addr} {xs : List D} (hr : allRf xs = true) : Src g (RT.ItvT g.K p xs.length) xs.reverse (fun F => ∃ vs, SqT g.K F p vs ∧ RpL g F vs xs) where
  go := fun i F H hi ⟨vs, h1, r1⟩ s => by
    rw [List.length_reverse] at hi
    obtain ⟨v, e1, _⟩ := r1.get (List.getElem?_eq_getElem (show xs.length - 1 - i < xs.length by omega))
    exact ⟨hi, vs, v, same_sqT s h1, e1⟩
  stop := fun i F H hi ⟨vs, h1, r1⟩ s => by
    rw [List.length_reverse] at hi
    exact hi
  yld := fun i d F H x H' ⟨vs, h1, r1⟩ s e ⟨e1, f1⟩ => by
    subst e1
    have hi := (List.getElem?_eq_some_iff.mp e).1
    rw [List.length_reverse] at hi
    have e' := e
    rw [rev_get hi] at e'
    obtain ⟨v, e1, o1⟩ := r1.get e'
    have e3 := f1 vs (same_sqT s h1)
    rw [e1] at e3
    cases e3
    exact ⟨F, StepP.refl s, o1, allRf_get hr e'⟩
  mono := fun F F' s ⟨vs, h1, r1⟩ => ⟨vs, same_sqT s h1, RpL.mono s r1⟩
def dRevI (fa : Env → R D) : Env → R (List D) := fun ρ => (fa ρ).bind fun x => match x.fr with
  | .lst _ xs => if allRf xs = true then .ok xs.reverse else .bad
  | .tup xs => if allRf xs = true then .ok xs.reverse else .bad
  | _ => .bad
theorem di_rev {t : Expr} {p : Pos} (hg : Gl X "reversed") (hm : X.mg "reversed" = none) (ha : DE true X W a fa) (hs : starEach [a] X.env = (false, eval a X.env) :: starEach [] X.env := by rfl) : DI X W t (.Call (.Name "reversed" p) [a] [] pos) (dRevI fa) :=
  pi_imp (RT.pi_revA hg hm ha hs) fun σ H Q => fun ⟨τ, B, F, ρ, RR, q⟩ => by
  refine ⟨τ, B, F, ρ, RR, ?_⟩
  unfold dRevI at q
  cases hf : fa ρ with
  | bad => rw [hf] at q; exact q
  | ex x => rw [hf] at q; exact q
  | ok x =>
    rw [hf, R.bind_ok] at q
    intro v H' F' s r
    obtain ⟨F2, s2, o⟩ := r.op s
    have q := q.step s2
    have o : Rp (gx X W) F2 v x.fr := o
    cases hx : x.fr with
    | lst oo xs =>
      rw [hx] at q o
      have q : outI (gx X W) W F2 H' σ Q (if allRf xs = true then .ok xs.reverse else .bad) := q
      split at q
      · rename_i hr
        cases o with
        | lst h1 k1 => exact ⟨_, _, rfl, .inl ⟨s2.fh.seq h1, by rw [k1.length]; exact q _ _ H' F2 (StepP.refl s2.fh) (src_rev hr) ⟨_, h1, k1⟩⟩⟩
      · exact q.elim
    | tup xs =>
      rw [hx] at q o
      have q : outI (gx X W) W F2 H' σ Q (if allRf xs = true then .ok xs.reverse else .bad) := q
      split at q
      · rename_i hr
        cases o with
        | tup h1 k1 => exact ⟨_, _, rfl, .inr ⟨same_sqT s2.fh h1.t, by rw [k1.length]; exact q _ _ H' F2 (StepP.refl s2.fh) (src_revT hr) ⟨_, h1.t, k1⟩⟩⟩
      · exact q.elim
    | _ => rw [hx] at q; exact q.elim
/-! ### range of three -/
def nRangeC : List D → R (List D)
  | [.int i, .int j, .int c] => if (c ≠ 0 ∧ c.natAbs < 1073741824) ∧ Builtin.Range.small i j c = true then .ok (rangeCD i c (Builtin.Range.rangeSize i j c).toNat) else .bad
  | _ => .bad
theorem di_rangeC {t : Expr} {p : Pos} {fs : Env → R (List D)} (hg : Gl X "range") (hm : X.mg "range" = none) (ha : DA true X W [a, b, c] fs)
    (hs : starEach [a, b, c] X.env = (false, eval a X.env) :: starEach [b, c] X.env := by rfl) (hpl : (backTo pos (starEach [b, c] X.env)).any (·.1) = false := by rfl) : DI X W t (.Call (.Name "range" p) [a, b, c] [] pos) (dArgs nRangeC fs) :=
  pi_imp (pi_range3 hg hm ha hs hpl) (di_argsT (K := fun vs H1 R => ∃ (i j c : Int) (n : Nat), vs = [.int i, .int j, .int c] ∧ RgC i j c n ∧ R (Itc i c n) H1) fun vs ds H F σ Q s r q => by
  unfold nRangeC at q
  split at q
  · split at q
    · rename_i cc
      cases r with
      | cons r1 r2 => cases r1; cases r2 with
        | cons r3 r4 => cases r3; cases r4 with
          | cons r5 r6 => cases r5; cases r6; exact ⟨_, _, _, _, rfl, ⟨cc.1.1, cc.1.2, cc.2, PyProof.Rows.rangeSize_toNat _ _ _⟩, q _ _ H F (StepP.refl s) src_rangeC trivial⟩
    · exact q.elim
  · exact q.elim)
/-! ### list(range(..)) -/
def outR (g : G) (W : Wx) (F H : Hp) (σ : L2.St) (Q : Int → Int → Hp → Prop) : R (Int × Int) → Prop
  | .ok p => ∀ H' F', StepP F H F' H' → Q p.1 p.2 H'
  | .ex x => ∀ cls dd H' F', StepP F H F' H' → ResX g H F' H' cls dd x → W.w cls dd σ H'
  | .bad => False
def liftR (g : G) (W : Wx) (f : Env → R (Int × Int)) : L2.St → Hp → (Int → Int → Hp → Prop) → Prop := fun σ H Q => ∃ τ B F ρ, EnvR g τ B F H σ ρ ∧ outR g W F H σ Q (f ρ)
abbrev DRg (X : Cx) (W : Wx) (e : Expr) (f : Env → R (Int × Int)) : Prop := PRg X e (liftR (gx X W) W f)
theorem prg_imp {e : Expr} {t t' : L2.St → Hp → (Int → Int → Hp → Prop) → Prop} (h : PRg X e t) (i : ∀ σ H Q, t' σ H Q → t σ H Q) : PRg X e t' := fun pins s σ H Q I q => h pins s σ H Q I (i σ H Q q)
theorem outR.step {g : G} {F F' H H' : Hp} {σ : L2.St} {Q : Int → Int → Hp → Prop} {r : R (Int × Int)} (s : StepP F H F' H') (h : outR g W F H σ Q r) : outR g W F' H' σ Q r := by
  cases r with
  | ok d => exact fun H2 F2 s2 => h H2 F2 (s.trans s2)
  | ex x => exact fun cls dd H2 F2 s2 q => h cls dd H2 F2 (s.trans s2) (q.back s.hh)
  | bad => exact h
def dRg1 (fa : Env → R D) : Env → R (Int × Int) := fun ρ => (fa ρ).bind fun x => match x with
  | .int n => .ok (0, n)
  | _ => .bad
def dRg2 (fa fb : Env → R D) : Env → R (Int × Int) := fun ρ => (fa ρ).bind fun x => (fb ρ).bind fun y => match x, y with
  | .int n, .int m => .ok (n, m)
  | _, _ => .bad
theorem drg_1 {p : Pos} (hg : Gl X "range") (hm : X.mg "range" = none) (ha : DE gr X W a fa) (hs : starEach [a] X.env = (false, eval a X.env) :: starEach [] X.env := by rfl) : DRg X W (.Call (.Name "range" p) [a] [] pos) (dRg1 fa) :=
  prg_imp (prg_1 hg hm ha hs) fun σ H Q => fun ⟨τ, B, F, ρ, RR, q⟩ => by
  refine ⟨τ, B, F, ρ, RR, ?_⟩
  unfold dRg1 at q
  cases hf : fa ρ with
  | bad => rw [hf] at q; exact q
  | ex x => rw [hf] at q; exact q
  | ok x =>
    rw [hf, R.bind_ok] at q
    intro v H' F' s r
    cases x with
    | int n => cases r.rp s; exact ⟨n, rfl, q H' F' s⟩
    | _ => exact q.elim
theorem drg_2 {p : Pos} (hg : Gl X "range") (hm : X.mg "range" = none) (ha : DE g1 X W a fa) (hb : DE g2 X W b fb) (na : starEach [a, b] X.env = (false, eval a X.env) :: starEach [b] X.env := by rfl)
    (nb : starEach [b] X.env = (false, eval b X.env) :: starEach [] X.env := by rfl) (hp : (backTo pos (starEach [b] X.env)).any (·.1) = false := by rfl) : DRg X W (.Call (.Name "range" p) [a, b] [] pos) (dRg2 fa fb) :=
  prg_imp (prg_2 hg hm ha hb na nb hp) fun σ H Q => fun ⟨τ, B, F, ρ, RR, q⟩ => by
  refine ⟨τ, B, F, ρ, RR, ?_⟩
  unfold dRg2 at q
  cases hf : fa ρ with
  | bad => rw [hf] at q; exact q
  | ex x => rw [hf] at q; exact q
  | ok x =>
    rw [hf, R.bind_ok] at q
    intro v H1 F1 s1 r1
    have q := q.step s1
    refine ⟨τ, B, F1, ρ, RR.stepP s1, ?_⟩
    cases hf2 : fb ρ with
    | bad => rw [hf2] at q; exact q
    | ex x => rw [hf2] at q; exact q
    | ok y =>
      rw [hf2, R.bind_ok] at q
      intro w H2 F2 s2 r2
      cases x with
      | int n =>
        cases y with
        | int m =>
          cases r1.rp s1
          cases r2.rp s2
          exact ⟨n, m, rfl, rfl, q H2 F2 s2⟩
        | _ => exact q.elim
      | _ => exact q.elim
def dLstRg (f : Env → R (Int × Int)) : Env → R D := fun ρ => (f ρ).bind fun p => if (-4611686018427387904 ≤ p.1 ∧ p.1 < 4611686018427387904 ∧ -4611686018427387904 ≤ p.2 ∧ p.2 < 4611686018427387904) ∧ (p.2 - p.1).toNat ≤ 16777216 then .ok (.lst (some 0) (rangeD p.1 (p.2 - p.1).toNat)) else .bad
theorem rp_rg {g : G} {F : Hp} (x : Int) : ∀ n : Nat, RpL g F ((List.range n).map fun i => V.int (x + (i : Nat))) (rangeD x n)
  | 0 => .nil
  | n + 1 => by
    unfold rangeD
    rw [List.range_succ, List.map_append, List.map_append]
    exact RpL.append (rp_rg x n) (.cons (.int _) .nil)
theorem allRf_rangeD (x : Int) (n : Nat) : allRf (rangeD x n) = true := by
  unfold allRf rangeD
  rw [List.all_map]
  exact List.all_eq_true.mpr fun _ _ => rfl
theorem de_listRg {p : Pos} {f : Env → R (Int × Int)} (hc : X.calm = true) (hg : Gl X "list") (hm : X.mg "list" = none) (he : DRg X W e f) (na : starEach [e] X.env = (false, eval e X.env) :: starEach [] X.env := by rfl) : DE true X W (.Call (.Name "list" p) [e] [] pos) (dLstRg f) :=
  pe_imp (pe_listRg hc hg hm he na) fun σ H Q => fun ⟨τ, B, F, ρ, RR, q⟩ => by
  refine ⟨τ, B, F, ρ, RR, ?_⟩
  unfold dLstRg at q
  cases hf : f ρ with
  | bad => rw [hf] at q; exact q
  | ex x => rw [hf] at q; exact q
  | ok x =>
    rw [hf, R.bind_ok] at q
    intro H' F' s
    have q := q.step s
    split at q
    · rename_i c
      exact ⟨⟨c.1.1, c.1.2.1, c.1.2.2.1, c.1.2.2.2, c.2⟩, fun l nl => out_lst s.fh nl (rp_rg _ _) (allRf_rangeD _ _) q⟩
    · exact q.elim
/-! ### xs[::-1] -/
def dRevL (fa : Env → R D) : Env → R D := fun ρ => (fa ρ).bind fun x => match x.fr with
  | .lst _ xs => if allRf xs = true then .ok (.lst (some 0) xs.reverse) else .bad
  | _ => .bad
theorem de_revL {k : Nat} {p1 p2 p3 : Pos} (ha : DE true X W a fa) : DE true X W (.Subscript a (.Slice none none (some (.UnaryOp .USub (.Constant (.int 1) k p1) p2)) p3) pos) (dRevL fa) :=
  pe_imp (pe_revL ha) fun σ H Q => fun ⟨τ, B, F, ρ, RR, q⟩ => by
  refine ⟨τ, B, F, ρ, RR, ?_⟩
  unfold dRevL at q
  cases hf : fa ρ with
  | bad => rw [hf] at q; exact q
  | ex x => rw [hf] at q; exact q
  | ok x =>
    rw [hf, R.bind_ok] at q
    intro v H' F' s r
    obtain ⟨F2, s2, o⟩ := r.op s
    have q := q.step s2
    have o : Rp (gx X W) F2 v x.fr := o
    cases hx : x.fr with
    | lst oo xs =>
      rw [hx] at q o
      have q : outE true (gx X W) W F2 H' σ Q (if allRf xs = true then .ok (.lst (some 0) xs.reverse) else .bad) := q
      split at q
      · rename_i hr
        cases o with
        | lst h1 k1 => exact ⟨_, _, rfl, s2.fh.seq h1, fun l nl => out_lst s2.fh nl k1.reverse (by
            unfold allRf at hr ⊢
            rw [List.all_reverse]
            exact hr) q⟩
      · exact q.elim
    | _ => rw [hx] at q; exact q.elim
end
end Dt

set_option Elab.async false
set_option linter.all false
set_option maxRecDepth 100000
set_option maxHeartbeats 2000000
/-! Dat: the top's constants. -/
namespace Dt
open PySem PySem.Spec PyProof.Rows L2
def optL : List (Option D) → Option (List D)
  | [] => some []
  | some d :: r => match optL r with
    | some ds => some (d :: ds)
    | none => none
  | none :: _ => none
/-- the data that a value of the written part stands for -/
def dOf (K : PySem.W.Frag) : Nat → Value → Option D
  | 0, _ => none
  | n + 1, v => match v with
    | .none => some .non
    | .bool b => some (.bl b)
    | .int i _ => some (.int i)
    | .str s _ => some (.str s)
    | .ref a => match K.lookup a with
      | some o => match o.cls with
        | .type c => if c = "tuple" then (match o.data with
          | .seq its _ => if its.size ≤ 16777216 then (match optL (its.toList.map (dOf K n)) with | some ds => some (.tup ds) | none => none) else none
          | _ => none) else none
        | _ => none
      | none => none
    | _ => none
theorem dOf_ok {K : PySem.W.Frag} {mg : Str → Option Value} : ∀ (n : Nat) (u : Value) (d : D), dOf K n u = some d → d.rf = true ∧ ∃ v, RelV v u ∧ ∀ ex F, Rp ⟨K, mg, ex⟩ F v d
  | 0, _, _, h => by cases h
  | n + 1, u, d, h => by
    have hL : ∀ (us : List Value) (ds : List D), optL (us.map (dOf K n)) = some ds → ∃ vs, Vals vs us ∧ ∀ ex F, RpL ⟨K, mg, ex⟩ F vs ds := fun us => by
      induction us with
      | nil => intro ds h; cases h; exact ⟨[], .nil, fun _ _ => .nil⟩
      | cons u us ih =>
        intro ds h
        rw [List.map_cons] at h
        cases hu : dOf K n u with
        | none => rw [hu] at h; cases h
        | some d0 =>
          rw [hu, optL] at h
          cases hr : optL (us.map (dOf K n)) with
          | none => rw [hr] at h; cases h
          | some ds0 =>
            rw [hr] at h
            cases h
            obtain ⟨vs, h1, h2⟩ := ih ds0 hr
            obtain ⟨_, v, h3, h4⟩ := dOf_ok (mg := mg) n u d0 hu
            exact ⟨v :: vs, .cons h3 h1, fun ex F => .cons (h4 ex F) (h2 ex F)⟩
    cases u with
    | none => cases h; exact ⟨rfl, .non, rfl, fun _ _ => .non⟩
    | bool b => cases h; exact ⟨rfl, .bl b, rfl, fun _ _ => .bl b⟩
    | int i t => cases h; exact ⟨rfl, .int i, ⟨t, rfl⟩, fun _ _ => .int i⟩
    | str s t => cases h; exact ⟨rfl, .str s, ⟨t, rfl⟩, fun _ _ => .str s⟩
    | ref a =>
      rw [dOf] at h
      split at h
      · rename_i o ho
        split at h
        · rename_i c hc
          split at h
          · rename_i hcc
            split at h
            · rename_i its m hd
              split at h
              · rename_i hz
                split at h
                · rename_i ds hds
                  cases h
                  obtain ⟨vs, h1, h2⟩ := hL _ _ hds
                  refine ⟨rfl, .ref a, rfl, fun ex F => .tup (.inr ⟨o, its, m, ho, by rw [hc, hcc], hd, by rw [sizeLine_eq]; exact hz, h1⟩) (h2 ex F)⟩
                · cases h
              · cases h
            · cases h
          · cases h
        · cases h
      · cases h
    | _ => cases h
theorem dts_one {X : Cx} {W : Wx} {s : Shared} {H : Hp} {scope : Scope} {ce : PySem.Env} {fp : List Addr} {c : Expr} {ft : Env → R Bool} (h : DT (X.blk s H scope ce fp) (wish0 W) c ft) : PTs (X.blk s H scope ce fp) [c] (liftT (gx X W) (wish0 W) ft) := pts_one h
/-- the top's name x stands for d -/
def KD (K : PySem.W.Frag) (mg : Str → Option Value) (x : Str) (d : D) : Prop := d.rf = true ∧ ∃ v u, mg x = some u ∧ RelV v u ∧ ∀ ex F, Rp ⟨K, mg, ex⟩ F v d
theorem kd_mk {K : PySem.W.Frag} {mg : Str → Option Value} {x : Str} {n : Nat} {u : Value} {d : D} (h1 : mg x = some u) (h2 : dOf K n u = some d) : KD K mg x d := by
  obtain ⟨h3, v, h4, h5⟩ := dOf_ok (mg := mg) n u d h2
  exact ⟨h3, v, u, h1, h4, h5⟩
theorem de_k {X : Cx} {W : Wx} {x : Str} {d : D} {pos : Pos} (h : KD X.K X.mg x d) (hg : Gl X x) (hdb : (x == ("__debug__" : Str)) = false := by decide) : DE true X W (.Name x pos) (dC d) := by
  obtain ⟨h1, v, u, h2, h3, h4⟩ := h
  exact de_glob (v := v) hg h2 h3 h1 (fun F => h4 _ F) hdb
end Dt

set_option Elab.async false
set_option linter.all false
set_option maxRecDepth 100000
set_option maxHeartbeats 2000000
/-! Dat: more plain rewriting rules. -/
namespace Dt
open PySem PySem.Spec PyProof.Rows L2
section
variable (ρ : Env) (t u : DTS) (fa fb : Env → R D) (n : Nat) (d : D) (ds xs : List D) (tg : Tg) (ts : Tgs) (o : Option Nat)
@[simp] theorem ev_setG : dSetG tg fa ρ = Out.of (fa ρ) ρ fun d => match tg d.fr ρ with | some ρ' => .nx ρ' | none => .bad := by
  unfold dSetG
  cases fa ρ with
  | ok d => simp only [Out.of_ok]; all_goals (cases tg d.fr ρ <;> rfl)
  | _ => rfl
@[simp] theorem tg_tup : tTup n ts (.tup ds) ρ = if ds.length = n then ts ds ρ else none := rfl
@[simp] theorem tg_lst' : tTup n ts (.lst o ds) ρ = if ds.length = n then ts ds ρ else none := rfl
@[simp] theorem tg_more : tMore tg ts (d :: ds) ρ = if d.rf = true then ((tg d ρ).bind fun ρ' => ts ds ρ') else none := by
  show (if d.rf = true then (match tg d ρ with | some ρ' => ts ds ρ' | none => none) else none) = _
  cases tg d ρ <;> rfl
@[simp] theorem tg_none : tNone [] ρ = some ρ := rfl
@[simp] theorem tg_name : tName n d ρ = some (ρ.set n (some d)) := rfl
@[simp] theorem tg_skip : tSkip n d ρ = some (ρ.set n none) := rfl
/-- a comprehension whose tests and items are told for each of the walked -/
theorem lc_eval {ft : Env → R Bool} {fe : Env → R D} {ρ : Env} {e1 : D → Env} {p : D → Bool} {f : D → D} : ∀ (ds acc : List D), (∀ d ∈ ds, tg d ρ = some (e1 d) ∧ ft (e1 d) = .ok (p d) ∧ (p d = true → fe (e1 d) = .ok (f d))) → acc.length + ds.length ≤ 16777216 →
    dLcL tg ft fe ρ ds acc = .ok (acc ++ (ds.filter p).map f)
  | [], acc, _, _ => by rw [dLcL]; simp
  | d :: ds, acc, h, hz => by
    obtain ⟨h1, h2, h3⟩ := h d List.mem_cons_self
    rw [List.length_cons] at hz
    rw [dLcL, h1]
    simp only
    rw [h2]
    cases hp : p d with
    | false =>
      simp only
      rw [lc_eval ds acc (fun x hx => h x (List.mem_cons_of_mem _ hx)) (by omega), List.filter_cons, hp]
      rfl
    | true =>
      simp only
      rw [h3 hp]
      simp only
      rw [if_pos (by omega), lc_eval ds (acc ++ [f d]) (fun x hx => h x (List.mem_cons_of_mem _ hx)) (by simp; omega), List.filter_cons, hp]
      simp
/-- a loop that always goes on: the state by a fold, Inv what holds of it -/
theorem for_fold {α : Type} (Inv : α → List D → Prop) (env : α → Env) (step : α → D → α) : ∀ (ds : List D) (a : α), Inv a ds → (∀ a d ds, Inv a (d :: ds) → Inv (step a d) ds ∧ ∃ ρ1, tg d (env a) = some ρ1 ∧ (t ρ1 = .nx (env (step a d)) ∨ t ρ1 = .ct (env (step a d)))) →
    dForL tg t ds (env a) = .nx (env (ds.foldl step a)) ∧ Inv (ds.foldl step a) []
  | [], a, i, _ => ⟨rfl, i⟩
  | d :: ds, a, i, h => by
    obtain ⟨i2, ρ1, h1, h2⟩ := h a d ds i
    have ih := for_fold Inv env step ds (step a d) i2 h
    refine ⟨?_, ih.2⟩
    rw [List.foldl_cons]
    rcases h2 with h2 | h2
    · rw [for_nx h1 h2, ih.1]
    · rw [for_ct h1 h2, ih.1]
end
@[simp] theorem ev_chain (g1 g2 g3 : Bool) (f f' : D → D → R D) (fa fb fc : Env → R D) (ρ : Env) : dChain g1 g2 g3 f f' fa fb fc ρ = (fa ρ).bind fun x => (fb ρ).bind fun y => R.cn (f (x.op g1) (y.op g2)) ((fc ρ).bind fun w => f' (y.op g2) (w.op g3)) := rfl
@[simp] theorem cn_bl (b c : Bool) : R.cn (.ok (.bl b)) (.ok (.bl c)) = .ok (.bl (b && c)) := by cases b <;> rfl
@[simp] theorem ite_ok_false (p : Prop) [Decidable p] (c : Bool) : (if p then R.ok c else R.ok false) = R.ok (decide p && c) := by
  by_cases h : p <;> simp [h]
@[simp] theorem ite_ok_true (p : Prop) [Decidable p] (c : Bool) : (if p then R.ok true else R.ok c) = R.ok (decide p || c) := by
  by_cases h : p <;> simp [h]
@[simp] theorem ite_bl_false (p : Prop) [Decidable p] (c : Bool) : (if p then R.ok (D.bl c) else R.ok (D.bl false)) = R.ok (D.bl (decide p && c)) := by
  by_cases h : p <;> simp [h]
@[simp] theorem ite_bl_true (p : Prop) [Decidable p] (c : Bool) : (if p then R.ok (D.bl true) else R.ok (D.bl c)) = R.ok (D.bl (decide p || c)) := by
  by_cases h : p <;> simp [h]
/-! ### == of plain data -/
def eqL (xs ys : List D) : Bool := PyData.eqvAll (D.pyL xs) (D.pyL ys)
section
variable (x y : D) (xs ys : List D) (o o2 : Option Nat) (i j : Int) (b c : Bool) (s r : Str) (n : Nat)
@[simp] theorem eqL_nil : eqL [] [] = true := by simp [eqL, D.pyL, PyData.eqvAll]
@[simp] theorem eqL_nil1 : eqL [] (y :: ys) = false := by simp [eqL, D.pyL, PyData.eqvAll]
@[simp] theorem eqL_nil2 : eqL (x :: xs) [] = false := by simp [eqL, D.pyL, PyData.eqvAll]
@[simp] theorem eqL_cons : eqL (x :: xs) (y :: ys) = (D.eqv x y && eqL xs ys) := by
  unfold eqL
  rw [D.pyL, D.pyL, PyData.eqvAll]
  rfl
@[simp] theorem eqL_ints (ns ms : List Int) : eqL (ns.map D.int) (ms.map D.int) = decide (ns = ms) := by
  unfold eqL
  rw [py_ints, py_ints, eqvL_ints]
@[simp] theorem eqv_tup : D.eqv (.tup xs) (.tup ys) = eqL xs ys := by
  unfold D.eqv eqL
  rw [D.py, D.py, PyData.eqv]
@[simp] theorem eqv_lst : D.eqv (.lst o xs) (.lst o2 ys) = eqL xs ys := by
  unfold D.eqv eqL
  rw [D.py, D.py, PyData.eqv]
@[simp] theorem eqv_int' : D.eqv (.int i) (.int j) = decide (i = j) := eqv_int i j
@[simp] theorem eqv_bl' : D.eqv (.bl b) (.bl c) = decide (b = c) := eqv_bl b c
@[simp] theorem eqv_str' : D.eqv (.str s) (.str r) = decide (s = r) := eqv_str s r
@[simp] theorem eqv_non : D.eqv .non .non = true := by simp [D.eqv, D.py, PyData.eqv]
@[simp] theorem shp_int : (D.int i).shp n = true := by simp [D.shp]
@[simp] theorem shp_bl : (D.bl b).shp n = true := by simp [D.shp]
@[simp] theorem shp_non : D.non.shp n = true := by simp [D.shp]
@[simp] theorem shp_str : (D.str s).shp n = PyData.strOk s := by simp [D.shp]
@[simp] theorem shp_tup : (D.tup xs).shp (n + 1) = D.shpL xs n := by simp [D.shp]
@[simp] theorem shp_lst : (D.lst o xs).shp (n + 1) = D.shpL xs n := by simp [D.shp]
@[simp] theorem shpL_nil : D.shpL [] n = true := by simp [D.shpL]
@[simp] theorem shpL_cons : D.shpL (x :: xs) n = (x.shp n && D.shpL xs n) := by simp [D.shpL]
@[simp] theorem shpL_ints (ns : List Int) : D.shpL (ns.map D.int) n = true := by
  rw [D.shpL_eq, List.all_map]
  exact List.all_eq_true.mpr fun _ _ => by simp
@[simp] theorem feq_tup : fEq (.tup xs) (.tup ys) = if (D.shpL xs 63 && D.shpL ys 63) = true then .ok (.bl (eqL xs ys)) else .bad := by
  unfold fEq
  rw [eqv_tup, show (64 : Nat) = 63 + 1 from rfl, shp_tup, shp_tup, show D.scal2 (.tup xs) (.tup ys) = false from rfl, Bool.false_or]
@[simp] theorem fne_tup : fNe (.tup xs) (.tup ys) = if (D.shpL xs 63 && D.shpL ys 63) = true then .ok (.bl (!eqL xs ys)) else .bad := by
  unfold fNe
  rw [eqv_tup, show (64 : Nat) = 63 + 1 from rfl, shp_tup, shp_tup, show D.scal2 (.tup xs) (.tup ys) = false from rfl, Bool.false_or]
theorem feq_lst : fEq (.lst o xs) (.lst o2 ys) = if (D.shpL xs 63 && D.shpL ys 63) = true then .ok (.bl (eqL xs ys)) else .bad := by
  unfold fEq
  rw [eqv_lst, show (64 : Nat) = 63 + 1 from rfl, shp_lst, shp_lst, show D.scal2 (.lst o xs) (.lst o2 ys) = false from rfl, Bool.false_or]
theorem fne_lst : fNe (.lst o xs) (.lst o2 ys) = if (D.shpL xs 63 && D.shpL ys 63) = true then .ok (.bl (!eqL xs ys)) else .bad := by
  unfold fNe
  rw [eqv_lst, show (64 : Nat) = 63 + 1 from rfl, shp_lst, shp_lst, show D.scal2 (.lst o xs) (.lst o2 ys) = false from rfl, Bool.false_or]
/-- [..] of numbers, told as such -/
theorem ints1 (a : Int) : [D.int a] = [a].map D.int := rfl
theorem feq_intsL (ds es : List D) (ns ms : List Int) (h1 : ds = ns.map D.int) (h2 : es = ms.map D.int) : fEq (.lst o ds) (.lst o2 es) = .ok (.bl (decide (ns = ms))) := by
  subst h1 h2
  exact eq_ints ns ms o o2
theorem fne_intsL (ds es : List D) (ns ms : List Int) (h1 : ds = ns.map D.int) (h2 : es = ms.map D.int) : fNe (.lst o ds) (.lst o2 es) = .ok (.bl (!decide (ns = ms))) := by
  subst h1 h2
  exact ne_ints ns ms o o2
end
/-! ### sequences -/
section
variable (xs ys : List D) (o o2 : Option Nat) (g1 g2 : Bool)
@[simp] theorem fadd_lst : fAdd g1 g2 (.lst o xs) (.lst o2 ys) = if (ck g1 xs && ck g2 ys) = true ∧ xs.length + ys.length ≤ 16777216 then .ok (.lst (some 0) (xs ++ ys)) else .bad := rfl
@[simp] theorem fadd_tup : fAdd g1 g2 (.tup xs) (.tup ys) = if xs.length + ys.length ≤ 16777216 then .ok (.tup (xs ++ ys)) else .bad := rfl
@[simp] theorem fsl_lst (l h : Option Int) : fSl g1 (.lst o xs) l h = if ck g1 (cutD xs l h) = true then .ok (.lst (some 0) (cutD xs l h)) else .bad := rfl
@[simp] theorem fsl_tup (l h : Option Int) : fSl g1 (.tup xs) l h = .ok (.tup (cutD xs l h)) := rfl
@[simp] theorem nlist_lst : nList g1 [.lst o xs] = if ck g1 xs = true then .ok (.lst (some 0) xs) else .bad := rfl
@[simp] theorem nlist_tup : nList g1 [.tup xs] = if ck g1 xs = true then .ok (.lst (some 0) xs) else .bad := rfl
@[simp] theorem ntup_lst : nTuple g1 [.lst o xs] = if ck g1 xs = true then .ok (.tup xs) else .bad := rfl
@[simp] theorem nabs_int (i : Int) : nAbs [.int i] = .ok (.int (if i < 0 then -i else i)) := rfl
/-- a store into a list that a name holds -/
theorem ev_store {ρ : Env} {fb fa : Env → R D} {n k m : Nat} {j : Int} {xs : List D} {z : D} (h : ρ[n]? = some (some (.lst (some k) xs))) (hf : fa ρ = .ok z) (hb : fb ρ = .ok (.int j)) (hi : ixN xs.length j = some m) : dStore (pName n) fb fa ρ = .nx (ρ.set n (some (.lst (some k) (xs.set m z)))) := by
  unfold dStore
  rw [hf, Out.of_ok, ev_name _ _ h, Out.ofP_ok]
  unfold onLst
  rw [getP_name _ _ h]
  show Out.of (fb ρ) ρ _ = _
  rw [hb, Out.of_ok]
  simp only [hi]
  rw [putP_name _ _ _ h]
theorem ixN_nat {n : Nat} {j : Int} (h0 : 0 ≤ j) (h1 : j < n) : ixN n j = some j.toNat := by
  unfold ixN
  rw [if_pos h0, if_pos h1]
end
/-! ### answers by computing -/
def isI (r : R D) (n : Int) : Bool := match r with
  | .ok (.int i) => decide (i = n)
  | _ => false
theorem isI_ok {r : R D} {n : Int} (h : isI r n = true) : r = .ok (.int n) := by
  unfold isI at h
  split at h
  · rw [of_decide_eq_true h]
  · cases h
end Dt

set_option Elab.async false
set_option linter.all false
set_option maxRecDepth 100000
set_option maxHeartbeats 2000000
/-! Dat: methods of texts; sorted, max, min of lists of numbers. -/
namespace Dt
open PySem PySem.Spec PyProof.Rows L2
section
variable {X : Cx} {W : Wx} {gr g1 g2 : Bool} {o e : Expr} {pos apos : Pos} {fo fe : Env → R D}
def dM1 (fn : Str → D → R D) (fo fe : Env → R D) : Env → R D := fun ρ => (fo ρ).bind fun x => match x with
  | .str a => (fe ρ).bind fun y => fn a y.fr
  | _ => .bad
def dM0 (fn : Str → R D) (fo : Env → R D) : Env → R D := fun ρ => (fo ρ).bind fun x => match x with
  | .str a => fn a
  | _ => .bad
def MD1 (g : G) (r : V → List V → Hp → VK → Prop) (fn : Str → D → R D) : Prop := ∀ (F H : Hp) (a : Str) (v : V) (y z : D) (Q : VK), Same F H → Rp g F v y → fn a y = .ok z →
  (∀ v H' F', StepP F H F' H' → ResG true g F H F' H' v z → Q v H') → r (.str a) [v] H Q
def MD0 (g : G) (r : V → List V → Hp → VK → Prop) (fn : Str → R D) : Prop := ∀ (F H : Hp) (a : Str) (z : D) (Q : VK), Same F H → fn a = .ok z →
  (∀ v H' F', StepP F H F' H' → ResG true g F H F' H' v z → Q v H') → r (.str a) [] H Q
theorem de_m1 {id : String} {name : Str} {r : V → List V → Hp → VK → Prop} {fn : Str → D → R D} (slot : Slot "str" name id) (ty : typeOf (.builtin id) = pure (.type "method_descriptor")) (rule : MtR X id r) (hd : MD1 (gx X W) r fn) (nx : ∀ a y w, fn a y ≠ .ex w) (ho : DE g1 X W o fo) (he : DE true X W e fe)
    (hs : starEach [e] X.env = [(false, eval e X.env)] := by rfl) (hbase : attributeBase o name X.env (eval o X.env) = eval o X.env := by rfl) (hline : (apos.endLine == pos.line) = true := by rfl) :
    DE true X W (.Call (.Attribute o name apos) [e] [] pos) (dM1 fn fo fe) := pe_imp (pe_m1 slot ty rule ho he hs hbase hline) fun σ H Q => fun ⟨τ, B, F, ρ, E, q⟩ => by
  refine ⟨τ, B, F, ρ, E, ?_⟩
  unfold dM1 at q
  cases hfa : fo ρ with
  | bad => rw [hfa] at q; exact q
  | ex x => rw [hfa] at q; exact q
  | ok x =>
    rw [hfa, R.bind_ok] at q
    intro vx H1 F1 s1 rx
    cases x with
    | str a =>
      cases rx.rp s1
      have q := outE.step s1 (show outE true (gx X W) W F H σ Q ((fe ρ).bind fun y => fn a y.fr) from q)
      refine ⟨⟨a, rfl⟩, τ, B, F1, ρ, E.stepP s1, ?_⟩
      cases hfb : fe ρ with
      | bad => rw [hfb] at q; exact q
      | ex x => rw [hfb] at q; exact q
      | ok y =>
        rw [hfb, R.bind_ok] at q
        intro vy H3 F3 s3 ry
        obtain ⟨F4, s4, oy⟩ := ry.op s3
        have q := q.step s4
        cases hz : fn a y.fr with
        | bad => rw [hz] at q; exact q.elim
        | ex w => exact absurd hz (nx _ _ _)
        | ok z =>
          rw [hz] at q
          exact hd F4 H3 a vy y.fr z Q s4.fh oy hz q
    | _ => exact q.elim
theorem de_m0 {id : String} {name : Str} {r : V → List V → Hp → VK → Prop} {fn : Str → R D} (slot : Slot "str" name id) (ty : typeOf (.builtin id) = pure (.type "method_descriptor")) (rule : MtR X id r) (hd : MD0 (gx X W) r fn) (nx : ∀ a w, fn a ≠ .ex w) (ho : DE g1 X W o fo)
    (hbase : attributeBase o name X.env (eval o X.env) = eval o X.env := by rfl) (hline : (apos.endLine == pos.line) = true := by rfl) :
    DE true X W (.Call (.Attribute o name apos) [] [] pos) (dM0 fn fo) := pe_imp (pe_m0 slot ty rule ho hbase hline) fun σ H Q => fun ⟨τ, B, F, ρ, E, q⟩ => by
  refine ⟨τ, B, F, ρ, E, ?_⟩
  unfold dM0 at q
  cases hfa : fo ρ with
  | bad => rw [hfa] at q; exact q
  | ex x => rw [hfa] at q; exact q
  | ok x =>
    rw [hfa, R.bind_ok] at q
    intro vx H1 F1 s1 rx
    cases x with
    | str a =>
      cases rx.rp s1
      have q := outE.step s1 (show outE true (gx X W) W F H σ Q (fn a) from q)
      refine ⟨⟨a, rfl⟩, ?_⟩
      cases hz : fn a with
      | bad => rw [hz] at q; exact q.elim
      | ex w => exact absurd hz (nx _ _)
      | ok z =>
        rw [hz] at q
        exact hd F1 H1 a z Q s1.fh hz q
    | _ => exact q.elim
def mFind (a : Str) : D → R D
  | .str b => .ok (.int (Txt.find a b))
  | _ => .bad
def mCount (a : Str) : D → R D
  | .str b => .ok (.int (Txt.count a b))
  | _ => .bad
def mStarts (a : Str) : D → R D
  | .str b => .ok (.bl (Txt.startswith a b))
  | _ => .bad
def mSplit (a : Str) : D → R D
  | .str b => if (b.length == 0) = false ∧ a.length + 2 ≤ 16777216 then .ok (.lst (some 0) ((Txt.split a b).map D.str)) else .bad
  | _ => .bad
def mPartition (a : Str) : D → R D
  | .str b => if (b.length == 0) = false ∧ a.length ≤ 16777216 then .ok (.tup [.str (Txt.partition a b).1, .str (Txt.partition a b).2.1, .str (Txt.partition a b).2.2]) else .bad
  | _ => .bad
def dStrs : List D → Option (List Str)
  | [] => some []
  | .str b :: r => (dStrs r).map (b :: ·)
  | _ => none
def mJoin (a : Str) : D → R D
  | .lst _ xs => match dStrs xs with
    | some ys => if (ys.map (·.length)).sum + ys.length * a.length ≤ 16777216 then .ok (.str (Txt.join a ys)) else .bad
    | none => .bad
  | .tup xs => match dStrs xs with
    | some ys => if (ys.map (·.length)).sum + ys.length * a.length ≤ 16777216 then .ok (.str (Txt.join a ys)) else .bad
    | none => .bad
  | _ => .bad
def mLower (a : Str) : R D := if a.length ≤ 5592405 then .ok (.str (Txt.lower a)) else .bad
def mWords (a : Str) : R D := if a.length + 2 ≤ 16777216 then .ok (.lst (some 0) ((Txt.words a).map D.str)) else .bad
def mStrip (a : Str) : R D := if a.length ≤ 16777216 then .ok (.str (Txt.strip a)) else .bad
theorem nx_find : ∀ a y w, mFind a y ≠ .ex w := by intro a y w e; unfold mFind at e; split at e <;> cases e
theorem nx_count : ∀ a y w, mCount a y ≠ .ex w := by intro a y w e; unfold mCount at e; split at e <;> cases e
theorem nx_starts : ∀ a y w, mStarts a y ≠ .ex w := by intro a y w e; unfold mStarts at e; split at e <;> cases e
theorem nx_split : ∀ a y w, mSplit a y ≠ .ex w := by
  intro a y w e; unfold mSplit at e; split at e
  · split at e <;> cases e
  · cases e
theorem nx_partition : ∀ a y w, mPartition a y ≠ .ex w := by
  intro a y w e; unfold mPartition at e; split at e
  · split at e <;> cases e
  · cases e
theorem nx_join : ∀ a y w, mJoin a y ≠ .ex w := by
  intro a y w e; unfold mJoin at e; split at e
  · split at e
    · split at e <;> cases e
    · cases e
  · split at e
    · split at e <;> cases e
    · cases e
  · cases e
theorem nx_lower : ∀ a w, mLower a ≠ .ex w := by intro a w e; unfold mLower at e; split at e <;> cases e
theorem nx_words : ∀ a w, mWords a ≠ .ex w := by intro a w e; unfold mWords at e; split at e <;> cases e
theorem nx_strip : ∀ a w, mStrip a ≠ .ex w := by intro a w e; unfold mStrip at e; split at e <;> cases e
theorem rp_strs {g : G} {F : Hp} : ∀ ys : List Str, RpL g F (ys.map V.str) (ys.map D.str)
  | [] => .nil
  | y :: ys => .cons (.str y) (rp_strs ys)
theorem dStrs_rp {g : G} {F : Hp} : ∀ {vs : List V} {xs : List D} {bs : List Str}, RpL g F vs xs → dStrs xs = some bs → vs = bs.map V.str
  | _, _, _, .nil, h => by cases h; rfl
  | _, _, _, .cons (d := d) r t, h => by
    cases d with
    | str b =>
      rw [dStrs] at h
      obtain ⟨bs, h1, rfl⟩ := Option.map_eq_some_iff.mp h
      cases r
      rw [dStrs_rp t h1]
      rfl
    | _ => cases h
theorem de_find (ho : DE g1 X W o fo) (he : DE true X W e fe) (hs : starEach [e] X.env = [(false, eval e X.env)] := by rfl) (hbase : attributeBase o "find" X.env (eval o X.env) = eval o X.env := by rfl) (hline : (apos.endLine == pos.line) = true := by rfl) :
    DE true X W (.Call (.Attribute o "find" apos) [e] [] pos) (dM1 mFind fo fe) := de_m1 F.slot_str_find F.type_str_find mt_find (fun F H a v y z Q s r e q => by
  unfold mFind at e
  split at e
  · cases e; cases r; exact ⟨_, _, rfl, rfl, out_sc s (.int _) rfl q⟩
  · cases e) nx_find ho he hs hbase hline
theorem de_starts (ho : DE g1 X W o fo) (he : DE true X W e fe) (hs : starEach [e] X.env = [(false, eval e X.env)] := by rfl) (hbase : attributeBase o "startswith" X.env (eval o X.env) = eval o X.env := by rfl) (hline : (apos.endLine == pos.line) = true := by rfl) :
    DE true X W (.Call (.Attribute o "startswith" apos) [e] [] pos) (dM1 mStarts fo fe) := de_m1 F.slot_str_startswith F.type_str_startswith mt_startswith (fun F H a v y z Q s r e q => by
  unfold mStarts at e
  split at e
  · cases e; cases r; exact ⟨_, _, rfl, rfl, out_sc s (.bl _) rfl q⟩
  · cases e) nx_starts ho he hs hbase hline
theorem de_split (ho : DE g1 X W o fo) (he : DE true X W e fe) (hs : starEach [e] X.env = [(false, eval e X.env)] := by rfl) (hbase : attributeBase o "split" X.env (eval o X.env) = eval o X.env := by rfl) (hline : (apos.endLine == pos.line) = true := by rfl) :
    DE true X W (.Call (.Attribute o "split" apos) [e] [] pos) (dM1 mSplit fo fe) := de_m1 F.slot_str_split F.type_str_split mt_split (fun F H a v y z Q s r e q => by
  unfold mSplit at e
  split at e
  · obtain ⟨c, rfl⟩ := if_ok_inv e
    cases r
    exact ⟨_, _, rfl, rfl, c.1, by rw [sizeLine_eq]; exact c.2, fun p n => out_lst s n (rp_strs _) (allRf_strs _) q⟩
  · cases e) nx_split ho he hs hbase hline
theorem de_partition (ho : DE g1 X W o fo) (he : DE true X W e fe) (hs : starEach [e] X.env = [(false, eval e X.env)] := by rfl) (hbase : attributeBase o "partition" X.env (eval o X.env) = eval o X.env := by rfl) (hline : (apos.endLine == pos.line) = true := by rfl) :
    DE true X W (.Call (.Attribute o "partition" apos) [e] [] pos) (dM1 mPartition fo fe) := de_m1 F.slot_str_partition F.type_str_partition mt_partition (fun F H a v y z Q s r e q => by
  unfold mPartition at e
  split at e
  · obtain ⟨c, rfl⟩ := if_ok_inv e
    cases r
    exact ⟨_, _, rfl, rfl, c.1, by rw [sizeLine_eq]; exact c.2, fun p n => out_tup s n (.cons (.str _) (.cons (.str _) (.cons (.str _) .nil))) q⟩
  · cases e) nx_partition ho he hs hbase hline
theorem de_join (ho : DE g1 X W o fo) (he : DE true X W e fe) (hs : starEach [e] X.env = [(false, eval e X.env)] := by rfl) (hbase : attributeBase o "join" X.env (eval o X.env) = eval o X.env := by rfl) (hline : (apos.endLine == pos.line) = true := by rfl) :
    DE true X W (.Call (.Attribute o "join" apos) [e] [] pos) (dM1 mJoin fo fe) := de_m1 F.slot_str_join F.type_str_join mt_join (fun F H a v y z Q s r e q => by
  unfold mJoin at e
  split at e
  · split at e
    · rename_i ys hys
      obtain ⟨c, rfl⟩ := if_ok_inv e
      cases r with
      | lst hs r =>
        have e1 := dStrs_rp r hys
        subst e1
        exact ⟨_, _, ys, rfl, rfl, .inl (s.seq hs), c, out_sc s (.str _) rfl q⟩
    · cases e
  · split at e
    · rename_i ys hys
      obtain ⟨c, rfl⟩ := if_ok_inv e
      cases r with
      | tup hs0 r =>
        have hs := hs0.t
        have e1 := dStrs_rp r hys
        subst e1
        exact ⟨_, _, ys, rfl, rfl, .inr (same_sqT s hs), c, out_sc s (.str _) rfl q⟩
    · cases e
  · cases e) nx_join ho he hs hbase hline
theorem de_lower (ho : DE g1 X W o fo) (hbase : attributeBase o "lower" X.env (eval o X.env) = eval o X.env := by rfl) (hline : (apos.endLine == pos.line) = true := by rfl) :
    DE true X W (.Call (.Attribute o "lower" apos) [] [] pos) (dM0 mLower fo) := de_m0 F.slot_str_lower F.type_str_lower mt_lower (fun F H a z Q s e q => by
  obtain ⟨c, rfl⟩ := if_ok_inv e
  exact ⟨_, rfl, rfl, c, out_sc s (.str _) rfl q⟩) nx_lower ho hbase hline
theorem de_words (ho : DE g1 X W o fo) (hbase : attributeBase o "split" X.env (eval o X.env) = eval o X.env := by rfl) (hline : (apos.endLine == pos.line) = true := by rfl) :
    DE true X W (.Call (.Attribute o "split" apos) [] [] pos) (dM0 mWords fo) := de_m0 F.slot_str_split F.type_str_split mt_words (fun F H a z Q s e q => by
  obtain ⟨c, rfl⟩ := if_ok_inv e
  exact ⟨_, rfl, rfl, by rw [sizeLine_eq]; exact c, fun p n => out_lst s n (rp_strs _) (allRf_strs _) q⟩) nx_words ho hbase hline
end
/-! ### sorted, max, min -/
theorem sorted_uniq : ∀ {xs ys : List Int}, xs.Perm ys → xs.Pairwise (· ≤ ·) → ys.Pairwise (· ≤ ·) → xs = ys
  | [], ys, h, _, _ => h.nil_eq
  | x :: xs, [], h, _, _ => (h.symm.nil_eq).symm
  | x :: xs, y :: ys, h, hx, hy => by
    obtain ⟨hx1, hx2⟩ := List.pairwise_cons.mp hx
    obtain ⟨hy1, hy2⟩ := List.pairwise_cons.mp hy
    have e : x = y := by
      have m1 : x ∈ y :: ys := h.mem_iff.mp List.mem_cons_self
      have m2 : y ∈ x :: xs := h.mem_iff.mpr List.mem_cons_self
      rcases List.mem_cons.mp m1 with z | z
      · exact z
      · rcases List.mem_cons.mp m2 with w | w
        · exact w.symm
        · have := hx1 y w
          have := hy1 x z
          omega
    subst e
    rw [sorted_uniq ((List.perm_cons x).mp h) hx2 hy2]
def srt (ns : List Int) : List Int := ns.mergeSort fun a b => decide (a ≤ b)
theorem srt_perm (ns : List Int) : (srt ns).Perm ns := List.mergeSort_perm _ _
theorem srt_pair (ns : List Int) : (srt ns).Pairwise (· ≤ ·) := by
  have := List.pairwise_mergeSort (le := fun a b : Int => decide (a ≤ b)) (fun a b c h1 h2 => by
    have := of_decide_eq_true h1
    have := of_decide_eq_true h2
    exact decide_eq_true (by omega)) (fun a b => by
    by_cases h : a ≤ b
    · simp [h]
    · simp [h]; omega) ns
  exact this.imp fun h => of_decide_eq_true h
def nSorted : List D → R D
  | [.lst _ xs] => match dInts xs with
    | some ns => .ok (.lst (some 0) ((srt ns).map D.int))
    | none => .bad
  | _ => .bad
theorem nx_sorted : ∀ ds w, nSorted ds ≠ .ex w := by
  intro ds w e; unfold nSorted at e; split at e
  · split at e <;> cases e
  · cases e
theorem rp_ints {g : G} {F : Hp} : ∀ ns : List Int, RpL g F (ns.map V.int) (ns.map D.int)
  | [] => .nil
  | n :: ns => .cons (.int n) (rp_ints ns)
section
variable {g : G} {gr : Bool}
theorem cd_sorted : CallD true gr g (rSortedI g.K) nSorted := fun F H vs ds z Q s ha e q => by
  unfold nSorted at e
  split at e
  · split at e
    · rename_i ns hns
      cases e
      obtain ⟨v, rfl, o⟩ := ha.one
      obtain ⟨a, us, rfl, h1, h2, r, _⟩ := o.lst s
      have e1 := dInts_rp r hns
      subst e1
      refine ⟨a, ns, rfl, h1, fun ns' p hp hs hn => ?_⟩
      have : ns' = srt ns := sorted_uniq (hp.trans (srt_perm ns).symm) hs (srt_pair ns)
      rw [this]
      exact out_lst s hn (rp_ints _) (allRf_ints _) q
    · cases e
  · cases e
def maxL : List Int → Int
  | [] => 0
  | [x] => x
  | x :: y :: r => if x ≤ maxL (y :: r) then maxL (y :: r) else x
def minL : List Int → Int
  | [] => 0
  | [x] => x
  | x :: y :: r => if minL (y :: r) ≤ x then minL (y :: r) else x
theorem maxL_ge : ∀ {ns : List Int} {y : Int}, y ∈ ns → y ≤ maxL ns
  | [x], y, h => by rw [List.mem_singleton.mp h]; exact Int.le_refl _
  | x :: z :: r, y, h => by
    rw [maxL]
    rcases List.mem_cons.mp h with rfl | h
    · split <;> omega
    · have := maxL_ge h
      split <;> omega
theorem maxL_mem : ∀ {ns : List Int}, ns ≠ [] → maxL ns ∈ ns
  | [x], _ => List.mem_singleton.mpr rfl
  | x :: z :: r, _ => by
    rw [maxL]
    split
    · exact List.mem_cons_of_mem _ (maxL_mem (by simp))
    · exact List.mem_cons_self
theorem minL_le : ∀ {ns : List Int} {y : Int}, y ∈ ns → minL ns ≤ y
  | [x], y, h => by rw [List.mem_singleton.mp h]; exact Int.le_refl _
  | x :: z :: r, y, h => by
    rw [minL]
    rcases List.mem_cons.mp h with rfl | h
    · split <;> omega
    · have := minL_le h
      split <;> omega
theorem minL_mem : ∀ {ns : List Int}, ns ≠ [] → minL ns ∈ ns
  | [x], _ => List.mem_singleton.mpr rfl
  | x :: z :: r, _ => by
    rw [minL]
    split
    · exact List.mem_cons_of_mem _ (minL_mem (by simp))
    · exact List.mem_cons_self
def nMaxL : List D → R D
  | [.lst _ xs] => match dInts xs with
    | some (n :: ns) => .ok (.int (maxL (n :: ns)))
    | _ => .bad
  | _ => .bad
def nMinL : List D → R D
  | [.lst _ xs] => match dInts xs with
    | some (n :: ns) => .ok (.int (minL (n :: ns)))
    | _ => .bad
  | _ => .bad
theorem nx_maxL : ∀ ds w, nMaxL ds ≠ .ex w := by
  intro ds w e; unfold nMaxL at e; split at e
  · split at e <;> cases e
  · cases e
theorem nx_minL : ∀ ds w, nMinL ds ≠ .ex w := by
  intro ds w e; unfold nMinL at e; split at e
  · split at e <;> cases e
  · cases e
theorem cd_maxL : CallD true gr g (rMax g.K) nMaxL := fun F H vs ds z Q s ha e q => by
  unfold nMaxL at e
  split at e
  · split at e
    · rename_i n ns hns
      cases e
      obtain ⟨v, rfl, o⟩ := ha.one
      obtain ⟨a, us, rfl, h1, h2, r, _⟩ := o.lst s
      have e1 := dInts_rp r hns
      subst e1
      refine ⟨a, n :: ns, rfl, h1, by simp, fun m hm hy => ?_⟩
      have : m = maxL (n :: ns) := by
        have := maxL_ge hm
        have := hy _ (maxL_mem (ns := n :: ns) (by simp))
        omega
      rw [this]
      exact out_sc s (.int _) rfl q
    · cases e
  · cases e
theorem cd_minL : CallD true gr g (rMin g.K) nMinL := fun F H vs ds z Q s ha e q => by
  unfold nMinL at e
  split at e
  · split at e
    · rename_i n ns hns
      cases e
      obtain ⟨v, rfl, o⟩ := ha.one
      obtain ⟨a, us, rfl, h1, h2, r, _⟩ := o.lst s
      have e1 := dInts_rp r hns
      subst e1
      refine ⟨a, n :: ns, rfl, h1, by simp, fun m hm hy => ?_⟩
      have : m = minL (n :: ns) := by
        have := minL_le hm
        have := hy _ (minL_mem (ns := n :: ns) (by simp))
        omega
      rw [this]
      exact out_sc s (.int _) rfl q
    · cases e
  · cases e
end
end Dt

set_option Elab.async false
set_option linter.all false
set_option maxRecDepth 100000
set_option maxHeartbeats 2000000
/-! Dat: calls of no argument; lists of pairs as values. -/
namespace Dt
open PySem PySem.Spec PyProof.Rows L2
section
variable {X : Cx} {W : Wx} {pos : Pos}
/-- f(): a def of one's own that raises nothing -/
def dCall0 (fn : List D → R D) : Env → R D := fun _ => match fn [] with
  | .ok z => .ok z
  | _ => .bad
theorem de_call0D {k : Nat} {fn : List D → R D} {x : Str} {p : Pos} (F : Def0 X.prog X.w X.K X.mg x k [] fn) (hr : Room k X.A) (hx : W.ex = none) (hg : Gl X x) (hdb : (x == ("__debug__" : Str)) = false := by decide) : DE true X W (.Call (.Name x p) [] [] pos) (dCall0 fn) := by
  obtain ⟨f, fd, hm, hk, hb, Fn⟩ := F
  have hB : Binds X.K fd [] [] := fun s us _ hl => by
    rw [List.append_nil] at hl ⊢
    exact hb s us hl
  refine pe_imp (pe_call0 (Fn X.base) hr hg hm hk hB .nil passLN hdb) fun σ H Q => fun ⟨τ, B, F, ρ, RR, q⟩ => ?_
  have eg : gx X W = ⟨X.K, X.mg, none⟩ := by show (⟨X.K, X.mg, W.ex⟩ : G) = _; rw [hx]
  unfold dCall0 at q
  cases hz : fn [] with
  | ok z =>
    rw [hz] at q
    rw [eg] at q
    refine ⟨rfl, F, [], RR.fh, .nil, rfl, ?_⟩
    rw [hz]
    exact q
  | ex w => rw [hz] at q; exact q.elim
  | bad => rw [hz] at q; exact q.elim
end
end Dt

set_option Elab.async false
set_option linter.all false
set_option maxRecDepth 100000
set_option maxHeartbeats 2000000
/-! Dat: defs called within an except suite. -/
namespace Dt
open PySem PySem.Spec PyProof.Rows L2
/-- arguments that say nothing of the exception -/
def fnX (fn : List D → R D) (ds : List D) : R D := if D.noExL ds = true then fn ds else .bad
theorem hotc_suite {X : Cx} {a : Addr} {oe : Obj} {cls : Value} {d : Option Addr} {pn : List (Addr × Obj)} (hz : L2N.Zn cls d oe) (hf : ∃ vs, oe.data = .fields vs) : L2H.HotC (X.suite a ((a, oe) :: pn)) := by
  obtain ⟨vs, e⟩ := hf
  exact ⟨(a, oe), ⟨rfl, vs, e, hz.2.2 vs e⟩, List.mem_cons_self⟩
theorem roomH_suite {X : Cx} {k : Nat} {a : Addr} {pn : List (Addr × Obj)} (hr : Room k X.A) : L2H.RoomH k (X.suite a pn).A := ⟨hr.dp, hr.un⟩
theorem ResX.conv {g g' : G} (hK : g.K = g'.K) (hm : g.mg = g'.mg) (he : g.ex = none) {H F' H' : Hp} {cls : Value} {dd : Option Addr} {x : XD} (h : ResX g H F' H' cls dd x) : ResX g' H F' H' cls dd x := by
  obtain ⟨ca, h1, h2, h3⟩ := h
  refine ⟨ca, by rw [← hm]; exact h1, h2, ?_⟩
  cases hx : x.fs with
  | none => rw [hx] at h3; exact h3
  | some p =>
    rw [hx] at h3
    obtain ⟨d, fs, k1, k2, k3, k4⟩ := h3
    exact ⟨d, fs, k1, k2, k3, RpL.conv hK hm k4 (.inl he)⟩
section
variable {P : Program} {w : World} {K : PySem.W.Frag} {mg : Str → Option Value} {base : Heap}
theorem fun0H {x qual : Str} {st : Stmt} {f : Addr} {fd : FuncData} {N ps : List Str} {k : Nat} {t : DTS} (F : Fun K x qual st f fd) (S : FnScope N ps (defScope st))
    (hbody : ∀ (cdv : Value) (A : Around) (outer : List PySem.Env) (s : Shared) (H : Hp) (E : XK) (p : Addr × Obj), L2H.Hot1 A p → L2H.RoomH k (A.deeper (envOfC qual (defScope st) s.heap.objs.size f cdv)) →
      DSs (L2H.cxH (L2N.CX P w) P w K mg base N qual (defScope st) f cdv A outer s H E p) ⟨fun cls dd _ H => E cls dd H, none⟩ (defBody st) t) :
    L2H.FnH P w K mg base (L2N.CX P w) (k + 1) f fd ps (toSp0 ⟨K, mg, none⟩ ps.length (runF N.length t)) := by
  obtain ⟨oc, od, kV, doc, pm, an, cdv, ct, osl, rfl, lk, hcd⟩ := F.ex
  refine L2H.fn_ofH lk hcd S (fun vs H Q E h => h.1) fun A outer s H vs Q E p hot hr h => ⟨_, hbody cdv A outer s H E p hot hr, ?_⟩
  obtain ⟨hl, F, ds, sF, r, f, q⟩ := h
  have hlen : vs.length = ds.length := r.length
  refine ⟨[], H, F, ds.map some ++ List.replicate (N.length - ds.length) none, ⟨Same.refl H, sF, [], ?_, fun _ z => nomatch z⟩, ?_⟩
  · unfold L2.start
    rw [hlen]
    exact OwnE.args r f _
  · unfold runF at q
    cases ht : t (ds.map some ++ List.replicate (N.length - ds.length) none) with
    | nx ρ =>
      rw [ht] at q
      exact fun σ H' F' s R => q .non H' F' ⟨s.ff, s.fh, s.bh, s.new⟩ ⟨[], .frz rfl .non, fun _ z => nomatch z⟩
    | rt d ρ =>
      rw [ht] at q
      exact fun v σ H' F' s R => by
        obtain ⟨s', r'⟩ := R.left s
        exact q v H' F' s' r'
    | xc x ρ =>
      rw [ht] at q
      exact fun cls dd σ H1 H' F' s R rx => q cls dd H' F' ⟨s.ff, s.fh, s.bh, s.new⟩ rx
    | _ => rw [ht] at q; exact q.elim
end
/-- as Def0, for calls within a suite -/
def Def0H (P : Program) (w : World) (K : PySem.W.Frag) (mg : Str → Option Value) (x : Str) (k : Nat) (ps : List Str) (fn : List D → R D) : Prop :=
  ∃ f fd, mg x = some (.ref f) ∧ PySem.W.keepIn K (.ref f) = true ∧ (∀ (s : Shared) (us : List Value), us.length = ps.length → BindsTo s fd ⟨us, []⟩ (ps.zip us)) ∧
    ∀ base : Heap, L2H.FnH P w K mg base (L2N.CX P w) k f fd ps (toSp0 ⟨K, mg, none⟩ ps.length fn)
section
variable {X : Cx} {W : Wx} {e : Expr} {pos : Pos} {es : List Expr} {fs : Env → R (List D)}
theorem hu65H {k : Nat} {A : Around} (hr : L2H.RoomH k A) : A.units + 65 < cLine := by have := hr.un; omega
theorem de_callH {k : Nat} {ps : List Str} {fn : List D → R D} {x : Str} {p : Pos} (F : Def0H X.prog X.w X.K X.mg x k ps fn) (hr : L2H.RoomH k X.A) (hc : L2H.HotC X) (hg : Gl X x) (tk : L2N.Takes X W.w) (ha : DA true X W (e :: es) fs) (hrf : RfA fs) (hda : ∀ ρ ds, fs ρ = .ok ds → ds.length = (e :: es).length) (hn : (e :: es).length = ps.length) (hdb : (x == ("__debug__" : Str)) = false := by decide)
    (he : starEach (e :: es) X.env = (false, eval e X.env) :: starEach es X.env := by rfl) (hpl : (backTo pos (starEach es X.env)).any (·.1) = false := by rfl) : DE true X W (.Call (.Name x p) (e :: es) [] pos) (dCall (fnX fn) fs) := by
  obtain ⟨f, fd, hm, hk, hb, Fn⟩ := F
  refine pe_imp (L2H.pe_callH (Fn X.base) hr hc hg hm hk (fun s us _ hl => by
    rw [List.append_nil] at hl ⊢
    exact hb s us hl) (fun σ => L2N.passAt tk σ) ha hdb he hpl) fun σ H Q => fun ⟨τ, B, F, ρ, RR, q⟩ => ?_
  refine ⟨τ, B, F, ρ, RR, ?_⟩
  unfold dCall at q
  cases hf : fs ρ with
  | bad => rw [hf] at q; exact q
  | ex x => rw [hf] at q; exact q
  | ok ds =>
    rw [hf, R.bind_ok] at q
    intro vs H1 F1 s1 r
    have q' := q.step s1
    have r : RpL (gx X W) F1 vs ds := r
    unfold fnX at q'
    split at q'
    · rename_i hx
      have r' : RpL ⟨X.K, X.mg, none⟩ F1 vs ds := RpL.conv (g := gx X W) (g' := ⟨X.K, X.mg, none⟩) rfl rfl r (.inr hx)
      refine ⟨by rw [r.length, hda ρ ds hf, hn], F1, ds, s1.fh, r', hrf ρ ds hf, ?_⟩
      cases hz : fn ds with
      | ok z =>
        rw [hz] at q'
        exact fun v H' F' s ⟨A, o, nA⟩ => q' v H' F' s ⟨A, Own.conv (g := ⟨X.K, X.mg, none⟩) (g' := gx X W) rfl rfl o (.inl rfl), nA⟩
      | ex w =>
        rw [hz] at q'
        exact fun cls dd H' F' s rx => q' cls dd H' F' s (ResX.conv (g := ⟨X.K, X.mg, none⟩) (g' := gx X W) rfl rfl rfl rx)
      | bad => rw [hz] at q'; exact q'.elim
    · exact q'.elim
end
/-! ### for over a range, in a hot def -/
abbrev DIH (X : Cx) (W : Wx) (tg e : Expr) (f : Env → R (List D)) : Prop := L2H.PIH X tg e (liftI (gx X W) W f)
theorem pih_imp {X : Cx} {tg e : Expr} {t t' : TI} (h : L2H.PIH X tg e t) (i : ∀ σ H R, t' σ H R → t σ H R) : L2H.PIH X tg e t' := ⟨fun pins s σ H R I q => h.run pins s σ H R I (i σ H R q)⟩
section
variable {X : Cx} {W : Wx} {gr : Bool} {a : Expr} {pos : Pos} {tg : Tg}
theorem di_range1H {t : Expr} {p : Pos} {fs : Env → R (List D)} (hg : Gl X "range") (hm : X.mg "range" = none) (ha : DA gr X W [a] fs) (hs : starEach [a] X.env = [(false, eval a X.env)] := by rfl) : DIH X W t (.Call (.Name "range" p) [a] [] pos) (dArgs nRange1 fs) :=
  pih_imp (L2H.pi_range1H hg hm ha hs) (di_args (K := fun vs H1 Q => ∃ j : Int, vs = [.int j] ∧ -(2 ^ 62) ≤ j ∧ j < 2 ^ 62 ∧ Q (Itr 0 j.toNat) H1) fun vs ds H F σ Q s r q => by
  have r := ResA.rp s r
  unfold nRange1 at q
  split at q
  · split at q
    · rename_i c
      cases r with
      | cons r1 r2 => cases r1; cases r2; exact ⟨_, rfl, c.1, c.2, q _ _ H F (StepP.refl s) src_range trivial⟩
    · exact q.elim
  · exact q.elim)
theorem ds_forH {target iter : Expr} {ss : List Stmt} {fi : Env → R (List D)} {t : DTS} (hp : PassesOwn (model X.prog X.w) X.A X.env X.xe) (hc : L2H.HotC X) (hi : DIH X W target iter fi) (hg : DG X W target tg) (ht : DSs X W ss t) (hs : ∀ x, foldedSetIterable iter X.env x = pure x := by exact fun _ => rfl) :
    DS X W (.For target iter ss [] pos) (dFor fi tg t) := ps_imp (L2H.ps_forH hp hc hi hg ht hs) fun E σ H => fun ⟨τ, B, F, ρ, R, q⟩ => by
  refine ⟨τ, B, F, ρ, R, ?_⟩
  unfold dFor at q
  cases hf : fi ρ with
  | bad => rw [hf] at q; exact q
  | ex x => rw [hf] at q; exact fun cls dd H' F' s r => q cls dd σ H H' F' (s.toI R.bh) (R.stepP s) r
  | ok ds =>
    rw [hf] at q
    intro J C H1 F1 s1 S c1
    refine ⟨fun i m σ H => m = ds.length - i ∧ i ≤ ds.length ∧ ∃ τ B F ρ, EnvR (gx X W) τ B F H σ ρ ∧ C F ∧ outS (gx X W) W τ B F E (dForL tg t (ds.drop i) ρ),
      ⟨ds.length, rfl, Nat.zero_le _, τ, B, F1, ρ, R.stepP s1, c1, outS.step (s1.toI R.bh) q⟩, fun i m σ H hw => ?_⟩
    obtain ⟨rfl, hi, τ, B, F, ρ, R, c, q⟩ := hw
    by_cases hl : i < ds.length
    · have hd : ds.drop i = ds[i] :: ds.drop (i + 1) := List.drop_eq_getElem_cons hl
      rw [hd] at q
      refine .inr ⟨S.go i F H hl c R.fh, fun σ' H' => i + 1 ≤ ds.length ∧ ∃ τ B F ρ, EnvR (gx X W) τ B F H' σ' ρ ∧ C F ∧ outS (gx X W) W τ B F E (dForL tg t (ds.drop (i + 1)) ρ), fun σ' H' w => ⟨_, by omega, rfl, w⟩, fun x H' y => ?_⟩
      obtain ⟨F2, s2, r, f⟩ := S.yld i ds[i] F H x H' c R.fh (List.getElem?_eq_getElem hl) y
      refine ⟨τ, B, F2, ρ, ds[i], R.stepP s2, r, f, ?_⟩
      have q := outS.step (s2.toI R.bh) q
      unfold dForL at q
      cases htg : tg ds[i] ρ with
      | none => rw [htg] at q; exact q.elim
      | some ρ1 =>
        rw [htg] at q
        have c2 := S.mono F F2 s2.ff c
        intro σ2 H2 F3 s3 R2
        refine ⟨τ, B, F3, ρ1, R2, ?_⟩
        have q := outS.step s3 q
        have c3 := S.mono F2 F3 s3.ff c2
        simp only at q
        cases ht : t ρ1 with
        | nx ρ2 => rw [ht] at q; exact fun σ4 H4 F4 s4 e => ⟨hl, τ, B, F4, ρ2, e, S.mono _ _ s4.ff c3, outS.step s4 q⟩
        | ct ρ2 => rw [ht] at q; exact fun σ4 H4 F4 s4 e => ⟨hl, τ, B, F4, ρ2, e, S.mono _ _ s4.ff c3, outS.step s4 q⟩
        | bk ρ2 => rw [ht] at q; exact q
        | rt d ρ2 => rw [ht] at q; exact q
        | xc x ρ2 => rw [ht] at q; exact q
        | bad => rw [ht] at q; exact q
    · have e : i = ds.length := by omega
      subst e
      rw [List.drop_length] at q
      exact .inl ⟨S.stop _ F H (Nat.le_refl _) c R.fh, q σ H F (StepI.refl R.fh R.bh) R⟩
end
section
variable {X : Cx} {W : Wx} {e : Expr} {pos : Pos} {es : List Expr} {fs : Env → R (List D)}
/-- the call of a def, its arguments free of exceptions -/
theorem de_callDX {k : Nat} {ps : List Str} {fn : List D → R D} {x : Str} {p : Pos} (F : Def0 X.prog X.w X.K X.mg x k ps fn) (hr : Room k X.A) (hx : W.ex = none) (hg : Gl X x) (tk : L2N.Takes X W.w) (ha : DA true X W (e :: es) fs) (hrf : RfA fs) (hda : ∀ ρ ds, fs ρ = .ok ds → ds.length = (e :: es).length) (hn : (e :: es).length = ps.length) (hdb : (x == ("__debug__" : Str)) = false := by decide)
    (he : starEach (e :: es) X.env = (false, eval e X.env) :: starEach es X.env := by rfl) (hpl : (backTo pos (starEach es X.env)).any (·.1) = false := by rfl) : DE true X W (.Call (.Name x p) (e :: es) [] pos) (dCall (fnX fn) fs) :=
  pe_imp (de_callD F hr hx hg tk ha hrf hda hn hdb he hpl) fun σ H Q => fun ⟨τ, B, F, ρ, RR, q⟩ => ⟨τ, B, F, ρ, RR, by
    unfold dCall at q ⊢
    cases hf : fs ρ with
    | bad => rw [hf] at q; exact q
    | ex x => rw [hf] at q; exact q
    | ok ds =>
      rw [hf, R.bind_ok] at q
      rw [R.bind_ok]
      unfold fnX at q
      split at q
      · exact q
      · exact q.elim⟩
end
end Dt

set_option Elab.async false
set_option linter.all false
set_option maxRecDepth 100000
set_option maxHeartbeats 2000000
/-! Dat: loops as plain folds: enc s e is the frame of the state s with idle slots e. -/
namespace Dt
open PySem PySem.Spec PyProof.Rows L2
section
variable {S E α : Type} {tg : Tg} {t : DTS} {fc : Env → R Bool}
/-- what a turn comes to -/
inductive Tn (S : Type) where
  | nx (s : S) | bk (s : S) | rt (d : D) | xc (x : XD)
def forT (f : S → α → Tn S) : List α → S → Tn S
  | [], s => .nx s
  | a :: as, s => match f s a with
    | .nx s' => forT f as s'
    | .bk s' => .nx s'
    | .rt d => .rt d
    | .xc x => .xc x
/-- the frame's end stands for the turn's -/
def Tn.says (enc : S → E → Env) (r : Tn S) (o : Out) : Prop := match r with
  | .nx s => ∃ e, o = .nx (enc s e) ∨ o = .ct (enc s e)
  | .bk s => ∃ e, o = .bk (enc s e)
  | .rt d => ∃ ρ, o = .rt d ρ
  | .xc x => ∃ ρ, o = .xc x ρ
/-- the loop's end -/
def Tn.ends (enc : S → E → Env) (r : Tn S) (o : Out) : Prop := match r with
  | .nx s => ∃ e, o = .nx (enc s e)
  | .bk s => False
  | .rt d => ∃ ρ, o = .rt d ρ
  | .xc x => ∃ ρ, o = .xc x ρ
theorem forT_ends (Inv : List α → S → Prop) (enc : S → E → Env) (mk : α → D) (f : S → α → Tn S) : ∀ (as : List α) (s : S) (e : E), Inv as s →
    (∀ a as s e, Inv (a :: as) s → ∃ ρ1, tg (mk a) (enc s e) = some ρ1 ∧ (f s a).says enc (t ρ1) ∧ ∀ s', f s a = .nx s' → Inv as s') → (forT f as s).ends enc (dForL tg t (as.map mk) (enc s e))
  | [], s, e, _, _ => ⟨e, rfl⟩
  | a :: as, s, e, i, h => by
    obtain ⟨ρ1, h1, h2, h3⟩ := h a as s e i
    unfold forT
    cases hf : f s a with
    | nx s' =>
      rw [hf] at h2
      obtain ⟨e', h2⟩ := h2
      have ih := forT_ends Inv enc mk f as s' e' (h3 s' hf) h
      rcases h2 with h2 | h2
      · rw [List.map_cons, for_nx h1 h2]; exact ih
      · rw [List.map_cons, for_ct h1 h2]; exact ih
    | bk s' =>
      rw [hf] at h2
      obtain ⟨e', h2⟩ := h2
      exact ⟨e', by rw [List.map_cons, for_bk h1 h2]⟩
    | rt d =>
      rw [hf] at h2
      obtain ⟨ρ', h2⟩ := h2
      exact ⟨ρ', by rw [List.map_cons, for_rt h1 h2]⟩
    | xc x =>
      rw [hf] at h2
      obtain ⟨ρ', h2⟩ := h2
      exact ⟨ρ', by rw [List.map_cons, for_xc h1 h2]⟩
/-- a loop that always goes on -/
theorem for_ends (Inv : List α → S → Prop) (enc : S → E → Env) (mk : α → D) (f : S → α → S) : ∀ (as : List α) (s : S) (e : E), Inv as s →
    (∀ a as s e, Inv (a :: as) s → Inv as (f s a) ∧ ∃ ρ1 e', tg (mk a) (enc s e) = some ρ1 ∧ (t ρ1 = .nx (enc (f s a) e') ∨ t ρ1 = .ct (enc (f s a) e'))) → ∃ e', dForL tg t (as.map mk) (enc s e) = .nx (enc (as.foldl f s) e') ∧ Inv [] (as.foldl f s)
  | [], s, e, i, _ => ⟨e, rfl, i⟩
  | a :: as, s, e, i, h => by
    obtain ⟨i2, ρ1, e1, h1, h2⟩ := h a as s e i
    obtain ⟨e', ih, ii⟩ := for_ends Inv enc mk f as (f s a) e1 i2 h
    refine ⟨e', ?_, ii⟩
    rw [List.foldl_cons]
    rcases h2 with h2 | h2
    · rw [List.map_cons, for_nx h1 h2, ih]
    · rw [List.map_cons, for_ct h1 h2, ih]
/-- a while with an invariant and a measure -/
theorem while_ends (Inv : S → Prop) (enc : S → E → Env) (c : S → Bool) (f : S → S) (μ : S → Nat) (h : ∀ s e, Inv s → fc (enc s e) = .ok (c s) ∧ (c s = true → Inv (f s) ∧ μ (f s) < μ s ∧ ∃ e', t (enc s e) = .nx (enc (f s) e'))) :
    ∀ (n : Nat) (s : S) (e : E), μ s ≤ n → Inv s → ∃ s' e', dWhile fc t (enc s e) = .nx (enc s' e') ∧ Inv s' ∧ c s' = false
  | n, s, e, hn, i => by
    obtain ⟨h1, h2⟩ := h s e i
    cases hc : c s with
    | false =>
      rw [hc] at h1
      exact ⟨s, e, dWhile_false h1, i, hc⟩
    | true =>
      rw [hc] at h1
      obtain ⟨i2, m, e', h3⟩ := h2 hc
      cases n with
      | zero => omega
      | succ n =>
        rw [dWhile_true h1 h3]
        exact while_ends Inv enc c f μ h n (f s) e' (by omega) i2
/-- a while, turn by turn: what it comes to -/
def whileT (c : S → Bool) (f : S → Tn S) : Nat → S → Tn S
  | 0, s => .nx s
  | n + 1, s => if c s then match f s with
    | .nx s' => whileT c f n s'
    | .bk s' => .nx s'
    | .rt d => .rt d
    | .xc x => .xc x
    else .nx s
theorem dWhile_ct {ρ ρ' : Env} (h1 : fc ρ = .ok true) (h2 : t ρ = .ct ρ') : dWhile fc t ρ = dWhile fc t ρ' := by
  by_cases ne : dWhile fc t ρ' = .bad
  · rw [ne]
    refine Classical.byContradiction fun c => ?_
    obtain ⟨n, hn⟩ := dWhile_ex c
    cases n with
    | zero => exact c hn.symm
    | succ n =>
      unfold dWhN at hn
      rw [h1] at hn
      simp only [h2] at hn
      by_cases e : dWhN fc t n ρ' = .bad
      · rw [e] at hn; exact c hn.symm
      · exact e ((dWhile_of rfl e).symm.trans ne)
  · obtain ⟨n, hn⟩ := dWhile_ex ne
    refine dWhile_of (n := n + 1) ?_ ne
    show (match fc ρ with | .ok true => _ | .ok false => _ | .ex x => _ | .bad => _) = _
    rw [h1]
    simp only [h2]
    exact hn
theorem whileT_ends (Inv : S → Prop) (enc : S → E → Env) (c : S → Bool) (f : S → Tn S) (μ : S → Nat) (h : ∀ s e, Inv s → fc (enc s e) = .ok (c s) ∧ (c s = true → (f s).says enc (t (enc s e)) ∧ ∀ s', f s = .nx s' → Inv s' ∧ μ s' < μ s)) :
    ∀ (n : Nat) (s : S) (e : E), μ s < n → Inv s → (whileT c f n s).ends enc (dWhile fc t (enc s e))
  | 0, s, e, hn, _ => by omega
  | n + 1, s, e, hn, i => by
    obtain ⟨h1, h2⟩ := h s e i
    unfold whileT
    cases hc : c s with
    | false =>
      rw [hc] at h1
      exact ⟨e, dWhile_false h1⟩
    | true =>
      rw [hc] at h1
      obtain ⟨h3, h4⟩ := h2 hc
      rw [if_pos rfl]
      cases hf : f s with
      | nx s' =>
        rw [hf] at h3
        obtain ⟨e', h3⟩ := h3
        obtain ⟨i2, m⟩ := h4 s' hf
        have ih := whileT_ends Inv enc c f μ h n s' e' (by omega) i2
        rcases h3 with h3 | h3
        · rw [dWhile_true h1 h3]; exact ih
        · rw [dWhile_ct h1 h3]; exact ih
      | bk s' =>
        rw [hf] at h3
        obtain ⟨e', h3⟩ := h3
        exact ⟨e', dWhile_break h1 h3⟩
      | rt d =>
        rw [hf] at h3
        obtain ⟨ρ', h3⟩ := h3
        refine ⟨ρ', dWhile_out h1 h3 rfl (fun _ => by simp) (fun _ => by simp) (by simp)⟩
      | xc x =>
        rw [hf] at h3
        obtain ⟨ρ', h3⟩ := h3
        refine ⟨ρ', dWhile_out h1 h3 rfl (fun _ => by simp) (fun _ => by simp) (by simp)⟩
end
theorem forT_guard {S α : Type} (p : α → Bool) (g : S → α → S) (o : Tn S) (ho : ∀ s, o ≠ .nx s) (hb : ∀ s, o ≠ .bk s) : ∀ (as : List α) (s : S), forT (fun s a => if p a = true then .nx (g s a) else o) as s = if as.all p = true then .nx (as.foldl g s) else o
  | [], s => rfl
  | a :: as, s => by
    unfold forT
    rw [List.all_cons, List.foldl_cons]
    cases hp : p a with
    | true => simp only [if_true, Bool.true_and]; exact forT_guard p g o ho hb as _
    | false =>
      simp only [Bool.false_and, Bool.false_eq_true, if_false]
      cases ho2 : o with
      | nx s => exact absurd ho2 (ho s)
      | bk s => exact absurd ho2 (hb s)
      | rt d => rfl
      | xc x => rfl
/-! ### texts of signs -/
abbrev ch (c : Nat) : Str := ⟨#[c]⟩
def tx (ks : List Nat) : Str := ⟨ks.toArray⟩
@[simp] theorem tx_list (ks : List Nat) : (tx ks).cps.toList = ks := rfl
@[simp] theorem tx_len (ks : List Nat) : (tx ks).length = ks.length := rfl
theorem app_tx (a : Nat) (ks : List Nat) : ch a ++ tx ks = tx (a :: ks) := by
  show (⟨#[a] ++ ks.toArray⟩ : Str) = ⟨(a :: ks).toArray⟩
  simp
theorem tx_app (js ks : List Nat) : tx js ++ tx ks = tx (js ++ ks) := by
  show (⟨js.toArray ++ ks.toArray⟩ : Str) = ⟨(js ++ ks).toArray⟩
  simp
theorem str_tx (s : Str) : s = tx s.cps.toList := by cases s; rfl
theorem tx_inj {js ks : List Nat} (h : tx js = tx ks) : js = ks := by
  have := congrArg (fun s => s.cps.toList) h
  simpa using this
theorem join_txs : ∀ ls : List (List Nat), Txt.join (Str.ofString "") (ls.map tx) = tx ls.flatten := by
  intro ls
  show Builtin.Str.glued (Str.ofString "") (ls.map tx) = _
  rw [StrLaws.glued_eq_join]
  induction ls with
  | nil => rfl
  | cons a r ih =>
    cases r with
    | nil => simp [Str.join]
    | cons b r =>
      have this : tx a ++ Str.ofString "" = tx a := by
        rw [show Str.ofString "" = tx [] from rfl, tx_app, List.append_nil]
      show tx a ++ Str.ofString "" ++ Str.join (Str.ofString "") ((b :: r).map tx) = _
      rw [ih, this, tx_app]
      simp
theorem dStrs_map : ∀ ss : List Str, dStrs (ss.map D.str) = some ss
  | [] => rfl
  | s :: ss => by rw [List.map_cons, dStrs, dStrs_map ss]; rfl
theorem mJoin_txs {o : Option Nat} (ls : List (List Nat)) (h : (ls.map List.length).sum ≤ 16777216) : mJoin (Str.ofString "") (.lst o (ls.map fun l => D.str (tx l))) = .ok (.str (tx ls.flatten)) := by
  have e : (ls.map fun l => D.str (tx l)) = (ls.map tx).map D.str := by simp
  rw [e]
  unfold mJoin
  simp only [dStrs_map]
  have e2 : ((ls.map tx).map fun x => x.length) = ls.map List.length := by simp [List.map_map, Function.comp_def]
  have e3 : (Str.ofString "").length = 0 := rfl
  simp only [e2, e3]
  rw [if_pos (by omega), join_txs]
theorem mJoin_chs {o : Option Nat} (ks : List Nat) (h : ks.length ≤ 16777216) : mJoin (Str.ofString "") (.lst o (ks.map fun c => D.str (ch c))) = .ok (.str (tx ks)) := by
  have e : (ks.map fun c => D.str (ch c)) = (ks.map fun c => [c]).map fun l => D.str (tx l) := by simp [tx]
  have e2 : ((ks.map fun c => [c]).map List.length).sum = ks.length := by
    clear e
    induction ks with
    | nil => rfl
    | cons a r ih => simp only [List.map_cons, List.sum_cons, List.length_cons, List.length_nil] at ih ⊢; rw [ih (by simp at h; omega)]; omega
  rw [e, mJoin_txs _ (by omega)]
  have e3 : (ks.map fun c => [c]).flatten = ks := by
    clear h e e2
    induction ks with
    | nil => rfl
    | cons a r ih => rw [List.map_cons, List.flatten_cons, ih]; rfl
  rw [e3]
/-! ### cuts of any lists -/
def cutL {α : Type} (xs : List α) (lo hi : Option Int) : List α := (xs.drop (HT.sIx xs.length 0 lo)).take (HT.sIx xs.length xs.length hi - HT.sIx xs.length 0 lo)
@[simp] theorem cutD_map {α : Type} (f : α → D) (xs : List α) (lo hi : Option Int) : Dt.cutD (xs.map f) lo hi = (cutL xs lo hi).map f := by
  unfold Dt.cutD cutL
  rw [List.length_map, List.map_take, List.map_drop]
theorem cutL_le {α : Type} (xs : List α) (lo hi : Option Int) : (cutL xs lo hi).length ≤ xs.length := by
  unfold cutL
  rw [List.length_take, List.length_drop]
  omega
theorem cutL_mem {α : Type} {xs : List α} {lo hi : Option Int} {z : α} (h : z ∈ cutL xs lo hi) : z ∈ xs := List.mem_of_mem_drop (List.mem_of_mem_take h)
theorem sIx_some {n d : Nat} {k : Int} (h : 0 ≤ k) : HT.sIx n d (some k) = min k.toNat n := by
  show (if k < 0 then (k + n).toNat else min k.toNat n) = _
  rw [if_neg (by omega)]
theorem sIx_none (n d : Nat) : HT.sIx n d none = d := rfl
theorem cutL_take {α : Type} (xs : List α) {k : Int} (h : 0 ≤ k) : cutL xs none (some k) = xs.take k.toNat := by
  unfold cutL
  rw [sIx_some h, sIx_none, List.drop_zero, Nat.sub_zero]
  rcases Nat.le_total k.toNat xs.length with h | h
  · rw [Nat.min_eq_left h]
  · rw [Nat.min_eq_right h, List.take_length, List.take_of_length_le h]
theorem cutL_drop {α : Type} (xs : List α) {k : Int} (h : 0 ≤ k) : cutL xs (some k) none = xs.drop k.toNat := by
  unfold cutL
  rw [sIx_some h, sIx_none]
  rcases Nat.le_total k.toNat xs.length with h | h
  · rw [Nat.min_eq_left h, List.take_of_length_le (by rw [List.length_drop]; omega)]
  · rw [Nat.min_eq_right h, List.drop_eq_nil_of_le h, List.drop_length]; simp
theorem cutL_mid {α : Type} (xs : List α) {i k : Int} (h : 0 ≤ i) (hk : i ≤ k) : cutL xs (some i) (some k) = (xs.drop i.toNat).take (k.toNat - i.toNat) := by
  unfold cutL
  rw [sIx_some h, sIx_some (by omega)]
  rcases Nat.le_total i.toNat xs.length with h1 | h1
  · rw [Nat.min_eq_left h1]
    rcases Nat.le_total k.toNat xs.length with h2 | h2
    · rw [Nat.min_eq_left h2]
    · rw [Nat.min_eq_right h2, List.take_of_length_le (by rw [List.length_drop]; omega), List.take_of_length_le (by rw [List.length_drop]; omega)]
  · rw [Nat.min_eq_right h1, List.drop_eq_nil_of_le h1, List.drop_length]; simp
/-- a loop that always goes on, by an invariant alone -/
theorem for_ex {S E α : Type} {tg : Tg} {t : DTS} (Inv : List α → S → Prop) (enc : S → E → Env) (mk : α → D) (h : ∀ a as s e, Inv (a :: as) s → ∃ ρ1 s' e', tg (mk a) (enc s e) = some ρ1 ∧ (t ρ1 = .nx (enc s' e') ∨ t ρ1 = .ct (enc s' e')) ∧ Inv as s') :
    ∀ (as : List α) (s : S) (e : E), Inv as s → ∃ s' e', dForL tg t (as.map mk) (enc s e) = .nx (enc s' e') ∧ Inv [] s'
  | [], s, e, i => ⟨s, e, rfl, i⟩
  | a :: as, s, e, i => by
    obtain ⟨ρ1, s1, e1, h1, h2, h3⟩ := h a as s e i
    obtain ⟨s2, e2, h4, h5⟩ := for_ex Inv enc mk h as s1 e1 h3
    refine ⟨s2, e2, ?_, h5⟩
    rcases h2 with h2 | h2
    · rw [List.map_cons, for_nx h1 h2, h4]
    · rw [List.map_cons, for_ct h1 h2, h4]
@[simp] theorem noExL_ints (ns : List Int) : D.noExL (ns.map D.int) = true := by
  rw [D.noExL_eq, List.all_map]
  exact List.all_eq_true.mpr fun _ _ => rfl
@[simp] theorem noExL_strs (ns : List Str) : D.noExL (ns.map D.str) = true := by
  rw [D.noExL_eq, List.all_map]
  exact List.all_eq_true.mpr fun _ _ => rfl
end Dt

set_option Elab.async false
set_option linter.all false
set_option maxRecDepth 100000
set_option maxHeartbeats 2000000
/-! Dat: o[i] op= e; o[i] as a target; what is stored frozen. -/
namespace Dt
open PySem PySem.Spec PyProof.Rows L2
section
variable {X : Cx} {W : Wx} {gr g1 g2 g3 : Bool} {a b e : Expr} {pos : Pos} {fa fb fe : Env → R D} {fp : Env → R Pl}
/-- frozen as soon as it is there -/
def dFrzE (fa : Env → R D) : Env → R D := fun ρ => (fa ρ).bind fun d => .ok d.fr
@[simp] theorem ev_frzE (ρ : Env) : dFrzE fa ρ = (fa ρ).bind fun d => .ok d.fr := rfl
theorem de_frzE (h : DE true X W e fa) : DE true X W e (dFrzE fa) := pe_imp h fun σ H Q => fun ⟨τ, B, F, ρ, E, q⟩ => by
  refine ⟨τ, B, F, ρ, E, ?_⟩
  unfold dFrzE at q
  cases hf : fa ρ with
  | bad => rw [hf] at q; exact q
  | ex x => rw [hf] at q; exact q
  | ok d =>
    rw [hf, R.bind_ok] at q
    intro v H' F' s r
    obtain ⟨F2, s2, r2⟩ := r.frz s
    exact q v H' F2 s2 r2
theorem get_list : PGet X (rIxL X.K) := by
  intro pins s σ H x y v u Q I rx ry h
  obtain ⟨p, xs, i, z, rfl, rfl, hq, he, q⟩ := h
  cases rx
  obtain ⟨t, rfl⟩ := ry
  obtain ⟨its, r, pl, hz⟩ := I.list hq
  obtain ⟨j, h1, h2, h3, h4, h5⟩ := atI_get he
  obtain ⟨w, ew, rw'⟩ := r.get h2
  have hl := r.length
  have hn := line63
  have fin : EP X pins σ Q w s := ⟨z, H, I, rw', q⟩
  by_cases h0 : 0 ≤ i
  · have hj : i.toNat = j := by
      rw [seqIndex_of h0 h5] at h1
      exact Option.some.inj h1
    exact wpAny_getItem_list pl.isList h0 (by omega) (by rw [hj]; simpa using ew) fin
  · have hj : (i + (its.toArray.size : Int)).toNat = j := by
      rw [seqIndex_neg (by omega) h4] at h1
      rw [List.size_toArray, ← hl]
      exact Option.some.inj h1
    exact wpAny_getItem_list_neg (Q := fun r s' => EP X pins σ Q r s') pl.isList (by omega) (by rw [List.size_toArray] <;> omega) (by omega) (by rw [hj]; simpa using ew) fin
theorem OwnL.getRf {g : G} {F H : Hp} {vs : List V} {ds : List D} {A : List Addr} (h : OwnL g F H vs ds A) {n : Nat} {d : D} (e : ds[n]? = some d) (r : d.rf = true) : ∃ w, vs[n]? = some w ∧ Rp g F w d := by
  obtain ⟨w, Ak, h1, h2⟩ := h.get e
  exact ⟨w, h1, (h2.rf_nil r).1⟩
/-- o[i] op= e: a frozen item told anew -/
def dAugS (g3 : Bool) (f2 : D → D → R D) (fp : Env → R Pl) (fb fe : Env → R D) : DTS := fun ρ => Out.ofP (fp ρ) ρ fun p => onLst ρ p fun t xs => Out.of (fb ρ) ρ fun j => match j with
  | .int k => match ixN xs.length k with
    | some n => match xs[n]? with
      | some d => if d.rf = true then Out.of (fe ρ) ρ fun y => Out.of (f2 d (y.op g3)) ρ fun z => .nx (putP ρ p (.lst (some t) (xs.set n z))) else .bad
      | none => .bad
    | none => .bad
  | _ => .bad
theorem ds_augS {op : Operator} {tpos : Pos} {r : R2} {f2 : D → D → R D} (hop : OpR X (inplaceOp op) r) (ho : OpD (gx X W) true g3 r f2) (nx : ∀ x y w, f2 x y ≠ .ex w) (hp : DPl X W a fp) (hb : DE g2 X W b fb) (he : DE g3 X W e fe)
    (ha : ∀ ov iv new, augStore b ov iv new = (do holding [new, ov, iv] (setItem ov iv new); release [new, ov, iv] []; pure .next) := by intros; rfl) : DS X W (.AugAssign (.Subscript a b tpos) op e pos) (dAugS g3 f2 fp fb fe) :=
  ps_imp (ps_augS hp hb get_list he hop set_list ha) fun E σ H => fun ⟨τ, B, F, ρ, R, q⟩ => by
  unfold dAugS at q
  refine ⟨τ, B, F, ρ, R, ?_⟩
  cases hf : fp ρ with
  | bad => rw [hf] at q; exact q
  | ex x => rw [hf] at q; exact fun cls dd H' F' s r => q cls dd σ H H' F' (s.toI R.bh) (R.stepP s) r
  | ok p =>
    rw [hf, Out.ofP_ok] at q
    obtain ⟨t, xs, hg, q⟩ := onLst_ok q
    intro u H1 F1 s1 l1
    have R1 := R.stepP s1
    have q := outS.step (s1.toI R.bh) q
    refine lift_of R1 q fun j w H2 F2 hj s2 r2 o => ?_
    have R2 := R1.stepP s2
    cases j with
    | int k =>
      have o : outS (gx X W) W τ B F2 E (match ixN xs.length k with
        | some n => match xs[n]? with
          | some d => if d.rf = true then Out.of (fe ρ) ρ fun y => Out.of (f2 d (y.op g3)) ρ fun z => .nx (putP ρ p (.lst (some t) (xs.set n z))) else .bad
          | none => .bad
        | none => .bad) := o
      have r2' := r2.rp s2
      cases r2'
      cases hn : ixN xs.length k with
      | none => rw [hn] at o; exact o.elim
      | some n =>
        rw [hn] at o
        simp only at o
        cases hd : xs[n]? with
        | none => rw [hd] at o; exact o.elim
        | some d =>
          rw [hd] at o
          simp only at o
          cases hr : d.rf with
          | false => rw [hr] at o; exact o.elim
          | true =>
            rw [hr, if_pos rfl] at o
            have l0 := R.locBack s1.hh l1
            obtain ⟨l, vs, A0, rfl, k1, k2, k3, k4, up⟩ := R.mutL l0 hg
            have s12 := s1.trans s2
            have k2' := k2.stepP s12
            obtain ⟨v, hv, rv⟩ := k2'.getRf hd hr
            have hlen := k2.length
            refine ⟨l, vs, k, v, rfl, rfl, .inl (.inl (s12.hh _ _ k1)), ?_, ?_⟩
            · have e1 : seqIndex? k vs.length = some n := by
                have := ixN_seq hn
                rw [hlen]; exact this.1
              unfold atI
              rw [hlen, hn]
              exact hv
            have o0 := o
            refine lift_of R2 o fun y vy H3 F3 hy s3 r3 _ => ?_
            obtain ⟨F4, s4, oy⟩ := ResG.op s3 r3
            have o := outS.step (s4.toI R2.bh) o0
            rw [hy, Out.of_ok] at o
            refine ho F4 H3 v vy d (y.op g3) _ s4.fh (Rp.mono s4.ff rv) oy ?_
            cases hz : f2 d (y.op g3) with
            | bad => rw [hz] at o; exact o
            | ex x => exact absurd hz (nx _ _ _)
            | ok z =>
              rw [hz, Out.of_ok] at o
              intro v5 H5 F5 s5 r5
              obtain ⟨Ay, oy, fy⟩ := r5
              have s15 := (s12.trans s4).trans s5
              have s14 := s12.trans s4
              obtain ⟨A', o1, h1⟩ := (k2.stepP s15).set (n := n) oy fun x hx hy => by
                obtain ⟨_, z, hz⟩ := (k2.stepP s14).mem x hx
                rw [fy x hy] at hz; cases hz
              obtain ⟨R5, s6⟩ := up F5 H5 (vs.set n v5) (xs.set n z) A' s15 o1 (fun z => by
                rcases h1 l z with y | y
                · exact k3 y
                · have := fy l y
                  rw [s14.hh _ _ k1] at this; cases this) fun x hx => (h1 x hx).imp id fun y => s14.hh.free (fy x y)
              exact ⟨l, vs, k, n, rfl, rfl, s15.hh _ _ k1, by rw [hlen]; exact hn, outS.step (s5.toI (R2.stepP s4).bh) o σ _ F5 ⟨Same.refl F5, R5.fh, R5.bh, fun _ _ _ => rfl⟩ R5⟩
    | _ => exact o.elim
/-- o[i] as a target of something frozen -/
def tSub (fp : Env → R Pl) (fb : Env → R D) : Tg := fun d ρ => match fp ρ with
  | .ok p => match getP ρ p with
    | some (.lst (some t) xs) => match fb ρ with
      | .ok (.int k) => match ixN xs.length k with
        | some n => some (putP ρ p (.lst (some t) (xs.set n d)))
        | none => none
      | _ => none
    | _ => none
  | _ => none
theorem dg_sub (hp : DPl X W a fp) (hb : DE g2 X W b fb)
    (ha : ∀ u, assign (.Subscript a b pos) X.env u = (do
      let ov ← holding [u] (eval a X.env)
      let iv ← holding [u, ov] (eval b X.env)
      standAt pos
      holding [u, ov, iv] (setItem ov iv u)
      release [u, ov, iv] []) := by exact fun _ => rfl) : DG X W (.Subscript a b pos) (tSub fp fb) := pg_imp (pg_sub hp hb set_list ha) fun v σ H Q => fun ⟨τ, B, F, ρ, d, R, rd, fd, q⟩ => by
  refine ⟨τ, B, F, ρ, R, ?_⟩
  unfold tSub at q
  cases hf : fp ρ with
  | bad => rw [hf] at q; exact q.elim
  | ex x => rw [hf] at q; exact q.elim
  | ok p =>
    rw [hf] at q
    simp only at q
    intro u H1 F1 s1 l1
    have R1 := R.stepP s1
    cases hg : getP ρ p with
    | none => rw [hg] at q; exact q.elim
    | some dl =>
      rw [hg] at q
      cases dl with
      | lst o xs =>
        cases o with
        | none => exact q.elim
        | some t =>
          simp only at q
          refine ⟨τ, B, F1, ρ, R1, ?_⟩
          cases hb : fb ρ with
          | bad => rw [hb] at q; exact q.elim
          | ex x => rw [hb] at q; exact q.elim
          | ok j =>
            rw [hb] at q
            cases j with
            | int k =>
              simp only at q
              intro w H2 F2 s2 r2
              have r2' := r2.rp s2
              cases r2'
              cases hn : ixN xs.length k with
              | none => rw [hn] at q; exact q.elim
              | some n =>
                rw [hn] at q
                have l0 := R.locBack s1.hh l1
                obtain ⟨l, vs, A0, rfl, k1, k2, k3, k4, up⟩ := R.mutL l0 hg
                have s12 := s1.trans s2
                obtain ⟨A', o1, h1⟩ := (k2.stepP s12).set (n := n) (A1 := []) (.frz fd (Rp.mono s12.ff rd)) fun _ _ z => nomatch z
                obtain ⟨R5, s6⟩ := up F2 H2 (vs.set n v) (xs.set n d) A' s12 o1 (fun z => by
                  rcases h1 l z with y | y
                  · exact k3 y
                  · cases y) fun x hx => .inl ((h1 x hx).elim id fun y => nomatch y)
                exact ⟨l, vs, k, n, rfl, rfl, s12.hh _ _ k1, by rw [k2.length]; exact hn, q σ _ F2 s6 R5⟩
            | _ => exact q.elim
      | _ => exact q.elim
end
def fAddI : D → D → R D
  | .int i, .int j => .ok (.int (i + j))
  | _, _ => .bad
@[simp] theorem fAddI_int (i j : Int) : fAddI (.int i) (.int j) = .ok (.int (i + j)) := rfl
theorem nx_addI : ∀ x y w, fAddI x y ≠ .ex w := by intro x y w; unfold fAddI; split <;> exact fun e => nomatch e
theorem opd_addI {g : G} {g1 g2 : Bool} : OpD g g1 g2 (rI0 fun i j => .int (i + j)) fAddI := opd_int0 (t := fun i j => .int (i + j)) (fun _ _ _ => .int _) (fun _ _ => rfl) fun x y z h => by
  unfold fAddI at h
  split at h
  · exact ⟨_, _, rfl, rfl, (R.ok.inj h).symm⟩
  · cases h
end Dt

set_option Elab.async false
set_option linter.all false
set_option maxRecDepth 100000
set_option maxHeartbeats 2000000
/-! Dat: instances: their fields. -/
namespace Dt
open PySem PySem.Spec PyProof.Rows L2
theorem nmS_inj {s t : String} (h : nmS s = nmS t) : s = t := by
  unfold nmS at h
  rw [Str.ofString_eq_toList, Str.ofString_eq_toList] at h
  have h1 := congrArg (fun x => x.cps.toList) h
  simp only at h1
  have inj : ∀ (a b : List Char), a.map Char.toNat = b.map Char.toNat → a = b := by
    intro a
    induction a with
    | nil => intro b hb; cases b with | nil => rfl | cons c r => cases hb
    | cons c r ih =>
      intro b hb
      cases b with
      | nil => cases hb
      | cons c2 r2 =>
        rw [List.map_cons, List.map_cons] at hb
        injection hb with e1 e2
        rw [ih r2 e2]
        have : c = c2 := Char.ext (UInt32.toNat_inj.mp e1)
        rw [this]
  have h2 := inj _ _ h1
  have : String.ofList s.toList = String.ofList t.toList := by rw [h2]
  simpa using this
/-- the place of a name -/
def fIdx : List String → String → Option Nat
  | [], _ => none
  | n :: ns, f => if n = f then some 0 else (fIdx ns f).map (· + 1)
section
variable {ns : List String} {f : String} {n : Nat} {fs : List (Str × V)} {y : V}
theorem fIdx_lt : ∀ {ns : List String} {n : Nat}, fIdx ns f = some n → n < ns.length
  | [], n, h => by cases h
  | a :: ns, n, h => by
    unfold fIdx at h
    split at h
    · cases h; simp
    · cases hr : fIdx ns f with
      | none => rw [hr] at h; cases h
      | some m => rw [hr] at h; cases h; have := fIdx_lt hr; simpa using this
theorem lookup_idx : ∀ {ns : List String} {fs : List (Str × V)} {n : Nat}, fs.map (·.1) = ns.map nmS → fIdx ns f = some n → ∃ v, (fs.map (·.2))[n]? = some v ∧ fs.lookup (nmS f) = some v
  | [], fs, n, _, h => by cases h
  | a :: ns, [], n, e, h => by cases e
  | a :: ns, (k, v) :: fs, n, e, h => by
    rw [List.map_cons, List.map_cons] at e
    injection e with e1 e2
    simp only at e1
    unfold fIdx at h
    split at h
    · rename_i haf
      cases h
      subst haf
      exact ⟨v, rfl, by rw [List.lookup_cons, e1, beq_self_eq_true]⟩
    · rename_i haf
      cases hr : fIdx ns f with
      | none => rw [hr] at h; cases h
      | some m =>
        rw [hr] at h
        cases h
        obtain ⟨w, h1, h2⟩ := lookup_idx e2 hr
        refine ⟨w, by simpa using h1, ?_⟩
        rw [List.lookup_cons, e1, show (nmS f == nmS a) = false from beq_eq_false_iff_ne.mpr fun z => haf (nmS_inj z).symm]
        exact h2
theorem lookup_no : ∀ {ns : List String} {fs : List (Str × V)}, fs.map (·.1) = ns.map nmS → fIdx ns f = none → fs.lookup (nmS f) = none
  | [], fs, e, h => by cases fs with | nil => rfl | cons a b => cases e
  | a :: ns, [], e, h => by cases e
  | a :: ns, (k, v) :: fs, e, h => by
    rw [List.map_cons, List.map_cons] at e
    injection e with e1 e2
    simp only at e1
    unfold fIdx at h
    split at h
    · cases h
    · rename_i haf
      cases hr : fIdx ns f with
      | some m => rw [hr] at h; cases h
      | none =>
        rw [List.lookup_cons, e1, show (nmS f == nmS a) = false from beq_eq_false_iff_ne.mpr fun z => haf (nmS_inj z).symm]
        exact lookup_no e2 hr
theorem putF_idx : ∀ {ns : List String} {fs : List (Str × V)} {n : Nat}, fs.map (·.1) = ns.map nmS → fIdx ns f = some n → (putF (nmS f) y fs).map (·.1) = ns.map nmS ∧ (putF (nmS f) y fs).map (·.2) = (fs.map (·.2)).set n y
  | [], fs, n, _, h => by cases h
  | a :: ns, [], n, e, h => by cases e
  | a :: ns, (k, v) :: fs, n, e, h => by
    have e0 := e
    rw [List.map_cons, List.map_cons] at e
    injection e with e1 e2
    simp only at e1
    unfold fIdx at h
    split at h
    · rename_i haf
      cases h
      subst haf
      have : putF (nmS a) y ((k, v) :: fs) = (k, y) :: fs := by
        unfold putF
        rw [if_pos e1]
      rw [this]
      exact ⟨e0, rfl⟩
    · rename_i haf
      cases hr : fIdx ns f with
      | none => rw [hr] at h; cases h
      | some m =>
        rw [hr] at h
        cases h
        obtain ⟨h1, h2⟩ := putF_idx e2 hr
        have : putF (nmS f) y ((k, v) :: fs) = (k, v) :: putF (nmS f) y fs := by
          rw [putF, if_neg fun z => haf (nmS_inj (e1.symm.trans z))]
        rw [this]
        exact ⟨by rw [List.map_cons, h1, List.map_cons, e1], by rw [List.map_cons, h2, List.map_cons, List.set_cons_succ]⟩
theorem putF_new : ∀ {ns : List String} {fs : List (Str × V)}, fs.map (·.1) = ns.map nmS → fIdx ns f = none → (putF (nmS f) y fs).map (·.1) = (ns ++ [f]).map nmS ∧ (putF (nmS f) y fs).map (·.2) = fs.map (·.2) ++ [y]
  | [], fs, e, h => by cases fs with | nil => exact ⟨rfl, rfl⟩ | cons a b => cases e
  | a :: ns, [], e, h => by cases e
  | a :: ns, (k, v) :: fs, e, h => by
    rw [List.map_cons, List.map_cons] at e
    injection e with e1 e2
    simp only at e1
    unfold fIdx at h
    split at h
    · cases h
    · rename_i haf
      cases hr : fIdx ns f with
      | some m => rw [hr] at h; cases h
      | none =>
        obtain ⟨h1, h2⟩ := putF_new e2 hr
        have : putF (nmS f) y ((k, v) :: fs) = (k, v) :: putF (nmS f) y fs := by
          rw [putF, if_neg fun z => haf (nmS_inj (e1.symm.trans z))]
        rw [this]
        exact ⟨by rw [List.map_cons, h1, List.cons_append, List.map_cons, e1], by rw [List.map_cons, h2, List.map_cons, List.cons_append]⟩
end
/-! ### what is known of the classes -/
structure ClsT (K : PySem.W.Frag) (mg : Str → Option Value) (C : String) (fs : List String) : Prop where
  at_ : ∃ ca, mg (nmS C) = some (.ref ca) ∧ Cls K ca ∧ ∀ f, fs.contains f = true → NoAttr K ca (nmS f)
abbrev Obs := List (String × List String)
def obOk (L : Obs) (C f : String) : Bool := match L.lookup C with
  | some fs => fs.contains f
  | none => false
structure ObT (K : PySem.W.Frag) (mg : Str → Option Value) (L : Obs) : Prop where
  c : ∀ C fs, L.lookup C = some fs → ClsT K mg C fs
theorem ObT.get {K : PySem.W.Frag} {mg : Str → Option Value} {L : Obs} (T : ObT K mg L) {C f : String} (h : obOk L C f = true) : ∃ ca, mg (nmS C) = some (.ref ca) ∧ Cls K ca ∧ NoAttr K ca (nmS f) := by
  unfold obOk at h
  cases hl : L.lookup C with
  | none => rw [hl] at h; cases h
  | some fs =>
    rw [hl] at h
    obtain ⟨ca, h1, h2, h3⟩ := (T.c C fs hl).at_
    exact ⟨ca, h1, h2, h3 f h⟩
section
variable {g : G} {gr : Bool} {F F' H H' : Hp}
theorem Op.obj {v : V} {o : Option Nat} {C : String} {ns : List String} {ds : List D} (s : Same F H) (h : Op gr g F H v (.obj o C ns ds)) : ∃ a ca dx fs, v = .ref a ∧ H a = some (.ins ca dx fs) ∧ g.mg (nmS C) = some (.ref ca) ∧ fs.map (·.1) = ns.map nmS ∧ (RpL g F (fs.map (·.2)) ds ∨ (gr = false ∧ o.isSome = true ∧ SwL g F H (fs.map (·.2)) ds)) := by
  cases gr with
  | true =>
    cases (show Rp g F v (.obj o C ns ds) from h) with
    | obj h1 h2 h3 h4 r => exact ⟨_, _, _, _, rfl, s _ _ h1, h3, h4, .inl r⟩
  | false =>
    cases (show Sw g F H v (.obj o C ns ds) from h) with
    | frz r q =>
      cases q with
      | obj h1 h2 h3 h4 r => exact ⟨_, _, _, _, rfl, s _ _ h1, h3, h4, .inl r⟩
    | obj h1 h2 h3 h4 r => exact ⟨_, _, _, _, rfl, h1, h3, h4, .inr ⟨rfl, rfl, r⟩⟩
end
/-- a field that may be kept -/
def fldD (L : Obs) (f : String) : D → R D
  | .obj _ C ns vs => if obOk L C f = true then (match fIdx ns f with
    | some n => match vs[n]? with
      | some d => if d.rf = true then .ok d else .bad
      | none => .bad
    | none => .bad) else .bad
  | _ => .bad
/-- a field that is only read -/
def fldB (L : Obs) (f : String) : D → R D
  | .obj o C ns vs => if obOk L C f = true then (match fIdx ns f with
    | some n => match vs[n]? with
      | some d => if o.isSome = true ∨ d.rf = true then .ok d else .bad
      | none => .bad
    | none => .bad) else .bad
  | _ => .bad
def dFld (L : Obs) (gr : Bool) (f : String) (fa : Env → R D) : Env → R D := fun ρ => (fa ρ).bind fun x => fldD L f (x.op gr)
def dFldB (L : Obs) (f : String) (fa : Env → R D) : Env → R D := fun ρ => (fa ρ).bind fun x => fldB L f x
@[simp] theorem ev_fld (L : Obs) (gr : Bool) (f : String) (fa : Env → R D) (ρ : Env) : dFld L gr f fa ρ = (fa ρ).bind fun x => fldD L f (x.op gr) := rfl
@[simp] theorem ev_fldB (L : Obs) (f : String) (fa : Env → R D) (ρ : Env) : dFldB L f fa ρ = (fa ρ).bind fun x => fldB L f x := rfl
theorem fldD_ok {L : Obs} {f : String} {x d : D} (h : fldD L f x = .ok d) : ∃ o C ns vs n, x = .obj o C ns vs ∧ obOk L C f = true ∧ fIdx ns f = some n ∧ vs[n]? = some d ∧ d.rf = true := by
  unfold fldD at h
  split at h
  · split at h
    · rename_i hob
      split at h
      · rename_i n hn
        split at h
        · rename_i d' hd
          split at h
          · rename_i hr
            cases h
            exact ⟨_, _, _, _, n, rfl, hob, hn, hd, hr⟩
          · cases h
        · cases h
      · cases h
    · cases h
  · cases h
theorem fldB_ok {L : Obs} {f : String} {x d : D} (h : fldB L f x = .ok d) : ∃ o C ns vs n, x = .obj o C ns vs ∧ obOk L C f = true ∧ fIdx ns f = some n ∧ vs[n]? = some d ∧ (o.isSome = true ∨ d.rf = true) := by
  unfold fldB at h
  split at h
  · split at h
    · rename_i hob
      split at h
      · rename_i n hn
        split at h
        · rename_i d' hd
          split at h
          · rename_i hr
            cases h
            exact ⟨_, _, _, _, n, rfl, hob, hn, hd, hr⟩
          · cases h
        · cases h
      · cases h
    · cases h
  · cases h
theorem nx_fldD {L : Obs} {f : String} : ∀ x w, fldD L f x ≠ .ex w := by
  intro x w h
  unfold fldD at h
  split at h
  · split at h
    · split at h
      · split at h
        · split at h <;> cases h
        · cases h
      · cases h
    · cases h
  · cases h
theorem nx_fldB {L : Obs} {f : String} : ∀ x w, fldB L f x ≠ .ex w := by
  intro x w h
  unfold fldB at h
  split at h
  · split at h
    · split at h
      · split at h
        · split at h <;> cases h
        · cases h
      · cases h
    · cases h
  · cases h
section
variable {X : Cx} {W : Wx} {gr g1 g2 : Bool} {a b e : Expr} {pos : Pos} {fa fb fe : Env → R D} {fp : Env → R Pl} {L : Obs} {f : String} {nm : Str}
theorem de_fld (T : ObT X.K X.mg L) (hf : nmS f = nm) (ha : DE gr X W a fa) (hb : attributeBase a nm X.env (eval a X.env) = eval a X.env := by rfl) : DE true X W (.Attribute a nm pos) (dFld L gr f fa) := by
  subst hf
  refine pe_imp (pe_fld ha hb) fun σ H Q => fun ⟨τ, B, F, ρ, E, q⟩ => ⟨τ, B, F, ρ, E, ?_⟩
  unfold dFld at q
  cases hf : fa ρ with
  | bad => rw [hf] at q; exact q
  | ex x => rw [hf] at q; exact q
  | ok x =>
    rw [hf, R.bind_ok] at q
    intro v H1 F1 s1 r1
    obtain ⟨F2, s2, ox⟩ := r1.op s1
    cases hd : fldD L f (x.op gr) with
    | bad => rw [hd] at q; exact q.elim
    | ex w => exact absurd hd (nx_fldD _ _)
    | ok d =>
      rw [hd] at q
      obtain ⟨o, C, ns, vs, n, hx, hob, hn, hv, hr⟩ := fldD_ok hd
      rw [hx] at ox
      obtain ⟨p, ca, dx, fs, rfl, h1, h2, h3, h4⟩ := Op.obj s2.fh ox
      obtain ⟨ca', t1, t2, t3⟩ := T.get hob
      have : ca' = ca := by
        have := t1.symm.trans h2
        cases this; rfl
      subst this
      obtain ⟨w, k1, k2⟩ := lookup_idx h3 hn
      have rw' : Rp (gx X W) F2 w d := by
        rcases h4 with h4 | ⟨_, _, h4⟩
        · obtain ⟨w', e1, e2⟩ := h4.get hv
          rw [k1] at e1; cases e1
          exact e2
        · obtain ⟨w', e1, e2⟩ := h4.get hv
          rw [k1] at e1; cases e1
          exact e2.rf hr
      exact ⟨p, ca', dx, fs, w, rfl, h1, t2, t3, k2, q w H1 F2 s2 ⟨[], .frz hr rw', fun _ z => nomatch z⟩⟩
theorem de_fldB (T : ObT X.K X.mg L) (hf : nmS f = nm) (ha : DE false X W a fa) (hb : attributeBase a nm X.env (eval a X.env) = eval a X.env := by rfl) : DE false X W (.Attribute a nm pos) (dFldB L f fa) := by
  subst hf
  refine pe_imp (pe_fld ha hb) fun σ H Q => fun ⟨τ, B, F, ρ, E, q⟩ => ⟨τ, B, F, ρ, E, ?_⟩
  unfold dFldB at q
  cases hf : fa ρ with
  | bad => rw [hf] at q; exact q
  | ex x => rw [hf] at q; exact q
  | ok x =>
    rw [hf, R.bind_ok] at q
    intro v H1 F1 s1 r1
    cases hd : fldB L f x with
    | bad => rw [hd] at q; exact q.elim
    | ex w => exact absurd hd (nx_fldB _ _)
    | ok d =>
      rw [hd] at q
      obtain ⟨o, C, ns, vs, n, hx, hob, hn, hv, hr⟩ := fldB_ok hd
      subst hx
      obtain ⟨p, ca, dx, fs, rfl, h1, h2, h3, h4⟩ := Op.obj (gr := false) s1.fh r1
      obtain ⟨ca', t1, t2, t3⟩ := T.get hob
      have : ca' = ca := by
        have := t1.symm.trans h2
        cases this; rfl
      subst this
      obtain ⟨w, k1, k2⟩ := lookup_idx h3 hn
      have rw' : Sw (gx X W) F1 H1 w d := by
        rcases h4 with h4 | ⟨_, _, h4⟩
        · obtain ⟨w', e1, e2⟩ := h4.get hv
          rw [k1] at e1; cases e1
          rcases hr with hr | hr
          · cases o with
            | none => cases hr
            | some t =>
              cases (show Sw (gx X W) F1 H1 (.ref p) (.obj (some t) C ns vs) from r1) with
              | frz r _ => cases r
              | obj a1 a2 a3 a4 a5 =>
                rw [h1] at a1; cases a1
                obtain ⟨w', e1, e2⟩ := a5.get hv
                rw [k1] at e1; cases e1
                exact e2
          · exact .frz hr e2
        · obtain ⟨w', e1, e2⟩ := h4.get hv
          rw [k1] at e1; cases e1
          exact e2
      exact ⟨p, ca', dx, fs, w, rfl, h1, t2, t3, k2, q w H1 F1 s1 rw'⟩
/-! ### fields as places -/
def stepFld (L : Obs) (f : String) (ρ : Env) (p : Pl) : R Pl := match getP ρ p with
  | some (.obj (some _) C ns vs) => if obOk L C f = true then (match fIdx ns f with
    | some n => if n < vs.length then .ok (p.1, p.2 ++ [n]) else .bad
    | none => .bad) else .bad
  | _ => .bad
def pFld (L : Obs) (f : String) (fp : Env → R Pl) : Env → R Pl := fun ρ => (fp ρ).bind fun p => stepFld L f ρ p
theorem dp_fld (T : ObT X.K X.mg L) (hf : nmS f = nm) (ha : DPl X W a fp) (hb : attributeBase a nm X.env (eval a X.env) = eval a X.env := by rfl) : DPl X W (.Attribute a nm pos) (pFld L f fp) := by
  subst hf
  refine pe_imp (pe_fld ha hb) fun σ H Q => fun ⟨τ, B, F, ρ, E, q⟩ => ⟨τ, B, F, ρ, E, ?_⟩
  unfold pFld at q
  cases hf : fp ρ with
  | bad => rw [hf] at q; exact q
  | ex x => rw [hf] at q; exact q
  | ok p =>
    rw [hf, R.bind_ok] at q
    intro v H1 F1 s1 l1
    have E1 := E.stepP s1
    unfold stepFld at q
    split at q
    · rename_i t C ns vs hg
      split at q
      · rename_i hob
        split at q
        · rename_i n hn
          split at q
          · rename_i hlt
            obtain ⟨A1, o⟩ := E1.there l1 hg
            obtain ⟨d, v0, h1, h2, h3, h4⟩ := getP_of l1 hg
            cases (show Own (gx X W) F1 H1 v (.obj (some 0) C ns vs) A1 from o) with
            | frz r _ => cases r
            | @obj a ca dx _ fs _ _ A0 k1 k2 k3 k4 k5 k6 k7 k8 k9 k10 =>
              obtain ⟨ca', t1, t2, t3⟩ := T.get hob
              have : ca' = ca := by
                have := t1.symm.trans k5
                cases this; rfl
              subst this
              obtain ⟨w, z1, z2⟩ := lookup_idx k6 hn
              exact ⟨a, ca', dx, fs, w, rfl, k1, t2, t3, z2, q w H1 F1 s1 ⟨d, vs[n], v0, h1, h2, at_snoc h3 rfl (List.getElem?_eq_getElem hlt), loc_snoc h4 h3 (.inr (.inl ⟨_, _, _, k1, rfl⟩)) z1 (List.getElem?_eq_getElem hlt)⟩⟩
          · exact q.elim
        · exact q.elim
      · exact q.elim
    · exact q.elim
end
section
variable {g : G} {τ : List V} {B F H : Hp} {σ : L2.St} {ρ : Env}
/-- an instance of one's own is changed -/
theorem EnvR.mutO (E : EnvR g τ B F H σ ρ) {p : Pl} {u : V} {t : Nat} {C : String} {ns : List String} {xs : List D} (h : Loc H σ ρ p u) (e1 : getP ρ p = some (.obj (some t) C ns xs)) :
    ∃ a ca dx fs A0, u = .ref a ∧ H a = some (.ins ca dx fs) ∧ g.mg (nmS C) = some (.ref ca) ∧ fs.map (·.1) = ns.map nmS ∧ OwnL g F H (fs.map (·.2)) xs A0 ∧ a ∉ A0 ∧ F a = none ∧
      ∀ F' H' fs' ns' ds A1, StepP F H F' H' → fs'.map (·.1) = ns'.map nmS → OwnL g F' H' (fs'.map (·.2)) ds A1 → (∀ q, q ∈ A1 → q ∈ A0 ∨ H q = none) →
      EnvR g τ B F' (L2.upd H' a (.ins ca dx fs')) σ (putP ρ p (.obj (some t) C ns' ds)) ∧ StepI B F F' (L2.upd H' a (.ins ca dx fs')) := by
  obtain ⟨d, v0, h1, h2, h3, h4⟩ := getP_of h e1
  obtain ⟨A1, o1, hb, up⟩ := E.upd h1 h2 h3 h4
  cases (show Own g F H u (.obj (some 0) C ns xs) A1 from o1) with
  | frz r _ => cases r
  | @obj a ca dx _ fs _ _ A0 k1 k2 k3 k4 k5 k6 k7 k8 k9 k10 =>
    refine ⟨a, ca, dx, fs, A0, rfl, k1, k5, k6, k7, k8, k3, fun F' H' fs' ns' ds A2 s en o new => ?_⟩
    have fa : F' a = none := (s.new a _ k1).trans k3
    have fd : F' dx = none := (s.new dx _ k2).trans k4
    have na : a ∉ A2 := fun z => (new a z).elim k8 fun y => by rw [k1] at y; cases y
    have nd : dx ∉ A2 := fun z => (new dx z).elim k9 fun y => by rw [k2] at y; cases y
    rw [putP_of h1]
    refine up F' _ (.obj (some t) C ns' ds) (a :: dx :: A2) s.ff (fun q x hx => ?_) (.obj upd_same ((upd_ne k10).trans (s.hh _ _ k2)) fa fd k5 en (o.mono' fun q hq => upd_ne fun z => na (by rw [← z]; exact hq)) na nd k10) rfl (fun q x hx hq => ⟨?_, s.new q x hx⟩) fun q hq => ?_
    · rw [upd_ne fun z => by rw [z, fa] at hx; cases hx]; exact s.fh q x hx
    · rw [upd_ne fun z => hq (by rw [z]; exact List.mem_cons_self)]; exact s.hh q x hx
    · rcases List.mem_cons.mp hq with z | z
      · exact .inl (by rw [z]; exact List.mem_cons_self)
      · rcases List.mem_cons.mp z with z | z
        · exact .inl (by rw [z]; exact List.mem_cons_of_mem _ List.mem_cons_self)
        · exact (new q z).imp (fun y => List.mem_cons_of_mem _ (List.mem_cons_of_mem _ y)) id
end
section
variable {X : Cx} {W : Wx} {gr g1 g2 g3 : Bool} {a b e : Expr} {pos : Pos} {fa fb fe : Env → R D} {fp : Env → R Pl} {L : Obs} {f : String} {nm : Str}
/-- o.f = e -/
def putO (L : Obs) (f : String) (ρ : Env) (p : Pl) (d : D) : Out := match getP ρ p with
  | some (.obj (some t) C ns vs) => if obOk L C f = true ∧ ns.length < 900 ∧ vs.length = ns.length then (match fIdx ns f with
    | some n => .nx (putP ρ p (.obj (some t) C ns (vs.set n d)))
    | none => .nx (putP ρ p (.obj (some t) C (ns ++ [f]) (vs ++ [d])))) else .bad
  | _ => .bad
def dFldSet (L : Obs) (f : String) (fp : Env → R Pl) (fe : Env → R D) : DTS := fun ρ => Out.of (fe ρ) ρ fun d => Out.ofP (fp ρ) ρ fun p => putO L f ρ p d
theorem RpL.len {g : G} {F : Hp} {fs : List (Str × V)} {ns : List String} (h : fs.map (·.1) = ns.map nmS) : fs.length = ns.length := by
  have := congrArg List.length h
  simpa using this
theorem ds_fldSet {pos' : Pos} (T : ObT X.K X.mg L) (hf : nmS f = nm) (hp : DPl X W a fp) (he : DE true X W e fe) (hs : swapsWith e (some (.Attribute a nm pos')) pos.line X.env = pure false := by rfl) : DS X W (.Assign [.Attribute a nm pos'] e pos) (dFldSet L f fp fe) := by
  subst hf
  refine ps_imp (ps_fld hp he hs) fun E σ H => fun ⟨τ, B, F, ρ, R, q⟩ => ?_
  unfold dFldSet at q
  refine lift_of R q fun d v H1 F1 hd s1 r1 q => ?_
  have R1 := R.stepP s1
  refine ⟨τ, B, F1, ρ, R1, ?_⟩
  cases hf : fp ρ with
  | bad => rw [hf] at q; exact q
  | ex x => rw [hf] at q; exact fun cls dd H' F' s r => q cls dd σ H1 H' F' (s.toI R1.bh) (R1.stepP s) r
  | ok p =>
    rw [hf, Out.ofP_ok] at q
    intro u H2 F2 s2 l2
    have R2 := R1.stepP s2
    have q := outS.step (s2.toI R1.bh) q
    unfold putO at q
    split at q
    · rename_i t C ns vs hg
      split at q
      · rename_i hc
        obtain ⟨hob, hsz, hvl⟩ := hc
        have l0 := R.locBack (s1.hh.trans s2.hh) l2
        obtain ⟨l, ca, dx, fs, A0, rfl, k1, k2, k3, k4, k5, k6, up⟩ := R.mutO l0 hg
        obtain ⟨ca', t1, t2, t3⟩ := T.get hob
        have : ca' = ca := by
          have := t1.symm.trans k2
          cases this; rfl
        subst this
        obtain ⟨Ay, oy, fy⟩ := r1
        have s12 := s1.trans s2
        have len : fs.length < 1000 := by
          have := RpL.len (g := gx X W) (F := F) k3
          omega
        have disj : ∀ x, x ∈ A0 → x ∉ Ay := fun x hx hy => by
          obtain ⟨_, z, hz⟩ := k4.mem x hx
          rw [fy x hy] at hz; cases hz
        split at q
        · rename_i n hn
          obtain ⟨e1, e2⟩ := putF_idx (y := v) k3 hn
          obtain ⟨A', o1, h1⟩ := (k4.stepP s12).set (n := n) (oy.stepP s2) disj
          obtain ⟨R3, s3⟩ := up F2 H2 (putF (nmS f) v fs) ns (vs.set n d) A' s12 e1 (by rw [e2]; exact o1) fun x hx => (h1 x hx).imp id (fy x)
          exact ⟨l, ca', dx, fs, rfl, s12.hh _ _ k1, t2, t3, len, q σ _ F2 ⟨Same.refl F2, R3.fh, R3.bh, fun _ _ _ => rfl⟩ R3⟩
        · rename_i hn
          obtain ⟨e1, e2⟩ := putF_new (y := v) k3 hn
          obtain ⟨A', o1, h1⟩ := (k4.stepP s12).snoc (oy.stepP s2) disj
          obtain ⟨R3, s3⟩ := up F2 H2 (putF (nmS f) v fs) (ns ++ [f]) (vs ++ [d]) A' s12 e1 (by rw [e2]; exact o1) fun x hx => (h1 x hx).imp id (fy x)
          exact ⟨l, ca', dx, fs, rfl, s12.hh _ _ k1, t2, t3, len, q σ _ F2 ⟨Same.refl F2, R3.fh, R3.bh, fun _ _ _ => rfl⟩ R3⟩
      · exact q.elim
    · exact q.elim
/-- o.f op= e: a frozen field told anew -/
def dFldAug (L : Obs) (f : String) (g3 : Bool) (f2 : D → D → R D) (fp : Env → R Pl) (fe : Env → R D) : DTS := fun ρ => Out.ofP (fp ρ) ρ fun p => match getP ρ p with
  | some (.obj (some t) C ns vs) => if obOk L C f = true ∧ ns.length < 900 then (match fIdx ns f with
    | some n => match vs[n]? with
      | some d => if d.rf = true then Out.of (fe ρ) ρ fun y => Out.of (f2 d (y.op g3)) ρ fun z => .nx (putP ρ p (.obj (some t) C ns (vs.set n z))) else .bad
      | none => .bad
    | none => .bad) else .bad
  | _ => .bad
theorem ds_fldAug {op : Operator} {tpos : Pos} {r : R2} {f2 : D → D → R D} (hop : OpR X (inplaceOp op) r) (ho : OpD (gx X W) true g3 r f2) (nx : ∀ x y w, f2 x y ≠ .ex w) (T : ObT X.K X.mg L) (hf : nmS f = nm) (hp : DPl X W a fp) (he : DE g3 X W e fe) :
    DS X W (.AugAssign (.Attribute a nm tpos) op e pos) (dFldAug L f g3 f2 fp fe) := by
  subst hf
  refine ps_imp (ps_fldaug hp he hop) fun E σ H => fun ⟨τ, B, F, ρ, R, q⟩ => ?_
  unfold dFldAug at q
  refine ⟨τ, B, F, ρ, R, ?_⟩
  cases hf : fp ρ with
  | bad => rw [hf] at q; exact q
  | ex x => rw [hf] at q; exact fun cls dd H' F' s r => q cls dd σ H H' F' (s.toI R.bh) (R.stepP s) r
  | ok p =>
    rw [hf, Out.ofP_ok] at q
    intro u H1 F1 s1 l1
    have R1 := R.stepP s1
    have q := outS.step (s1.toI R.bh) q
    split at q
    · rename_i t C ns vs hg
      split at q
      · rename_i hc
        obtain ⟨hob, hsz⟩ := hc
        split at q
        · rename_i n hn
          split at q
          · rename_i d hd
            split at q
            · rename_i hr
              have l0 := R.locBack s1.hh l1
              obtain ⟨l, ca, dx, fs, A0, rfl, k1, k2, k3, k4, k5, k6, up⟩ := R.mutO l0 hg
              obtain ⟨ca', t1, t2, t3⟩ := T.get hob
              have : ca' = ca := by
                have := t1.symm.trans k2
                cases this; rfl
              subst this
              have len : fs.length < 1000 := by
                have := RpL.len (g := gx X W) (F := F) k3
                omega
              obtain ⟨v, hv, rv⟩ := (k4.stepP s1).getRf hd hr
              obtain ⟨w, z1, z2⟩ := lookup_idx k3 hn
              rw [hv] at z1
              cases z1
              refine ⟨l, ca', dx, fs, v, rfl, s1.hh _ _ k1, t2, t3, z2, ?_⟩
              have o0 := q
              refine lift_of R1 q fun y vy H3 F3 hy s3 r3 _ => ?_
              obtain ⟨F4, s4, oy⟩ := ResG.op s3 r3
              have o := outS.step (s4.toI R1.bh) o0
              rw [hy, Out.of_ok] at o
              refine ho F4 H3 v vy d (y.op g3) _ s4.fh (Rp.mono s4.ff rv) oy ?_
              cases hz : f2 d (y.op g3) with
              | bad => rw [hz] at o; exact o
              | ex x => exact absurd hz (nx _ _ _)
              | ok z =>
                rw [hz, Out.of_ok] at o
                intro v5 H5 F5 s5 r5
                obtain ⟨Ay, oy, fy⟩ := r5
                have s14 := s1.trans s4
                have s15 := s14.trans s5
                obtain ⟨e1, e2⟩ := putF_idx (y := v5) k3 hn
                obtain ⟨A', o1, h1⟩ := (k4.stepP s15).set (n := n) oy fun x hx hy => by
                  obtain ⟨_, z, hz⟩ := (k4.stepP s14).mem x hx
                  rw [fy x hy] at hz; cases hz
                obtain ⟨R5, s6⟩ := up F5 H5 (putF (nmS f) v5 fs) ns (vs.set n z) A' s15 e1 (by rw [e2]; exact o1) fun x hx => (h1 x hx).imp id fun y => s14.hh.free (fy x y)
                exact ⟨dx, fs, s15.hh _ _ k1, len, outS.step (s5.toI (R1.stepP s4).bh) o σ _ F5 ⟨Same.refl F5, R5.fh, R5.bh, fun _ _ _ => rfl⟩ R5⟩
            · exact q.elim
          · exact q.elim
        · exact q.elim
      · exact q.elim
    · exact q.elim
end
end Dt

set_option Elab.async false
set_option linter.all false
set_option maxRecDepth 100000
set_option maxHeartbeats 2000000
/-! Dat: expressions that change what is one's own; methods. -/
namespace Dt
open PySem PySem.Spec PyProof.Rows L2
/-- as StepP, but for what stands at A -/
structure StepM (A : List Addr) (F H F' H' : Hp) : Prop where
  ff : Same F F'
  fh : Same F' H'
  hh : ∀ q o, H q = some o → q ∉ A → H' q = some o
  new : ∀ q o, H q = some o → q ∉ A → F' q = F q
section
variable {g : G} {τ : List V} {B F F' H H' : Hp} {σ : L2.St} {ρ : Env}
/-- a slot taken out -/
theorem OwnE.take {A : List Addr} (o : OwnE g τ F H σ ρ A) : ∀ {i : Nat} {d : D} {v : V}, ρ[i]? = some (some d) → σ[i]? = some (some v) → ∃ A1 A2, Own g F H v d.un A1 ∧ OwnE g τ F H σ (ρ.set i Option.none) A2 ∧ (∀ p, p ∈ A1 → p ∉ A2) ∧ (∀ p, p ∈ A1 → p ∈ A) ∧ (∀ p, p ∈ A2 → p ∈ A) ∧ ∀ k, d.tg = k + 1 → τ[k]? = some v := by
  induction o with
  | nil => intro i d v e _; simp at e
  | @skip x σ ρ A hr ih =>
    intro i d v e1 e2
    cases i with
    | zero => simp at e1
    | succ i =>
      obtain ⟨A1, A2, k1, k2, k3, k4, k5, k6⟩ := ih (i := i) (by simpa using e1) (by simpa using e2)
      exact ⟨A1, A2, k1, .skip k2, k3, k4, k5, k6⟩
  | @cons w e0 σ ρ A B ho ht2 hr hdj ih =>
    intro i d v e1 e2
    cases i with
    | zero =>
      simp at e1 e2
      subst e1 e2
      exact ⟨A, B, ho, .skip hr, hdj, fun p hp => List.mem_append_left _ hp, fun p hp => List.mem_append_right _ hp, ht2⟩
    | succ i =>
      obtain ⟨A1, A2, k1, k2, k3, k4, k5, k6⟩ := ih (i := i) (by simpa using e1) (by simpa using e2)
      refine ⟨A1, A ++ A2, k1, .cons ho ht2 k2 fun p hp hb => hdj p hp (k5 p hb), fun p hp hb => ?_, fun p hp => List.mem_append_right _ (k4 p hp), fun p hp => ?_, k6⟩
      · rcases List.mem_append.mp hb with z | z
        · exact hdj p z (k4 p hp)
        · exact k3 p hp z
      · rcases List.mem_append.mp hp with z | z
        · exact List.mem_append_left _ z
        · exact List.mem_append_right _ (k5 p z)
theorem tag_tg {d : D} (h : d.rf = false) (t : Nat) : (d.tag t).tg = t ∧ (d.tag t).un = d.un ∧ (d.tag t).rf = false := by
  cases d with
  | lst o xs => cases o with
    | none => cases h
    | some k => exact ⟨rfl, rfl, rfl⟩
  | obj o C ns vs => cases o with
    | none => cases h
    | some k => exact ⟨rfl, rfl, rfl⟩
  | dic o ks vs => cases o with
    | none => cases h
    | some k => exact ⟨rfl, rfl, rfl⟩
  | dct o ks vs => cases o with
    | none => cases h
    | some k => exact ⟨rfl, rfl, rfl⟩
  | _ => cases h
/-- what stands at a place is changed by a callee -/
theorem EnvR.callM (E : EnvR g τ B F H σ ρ) {p : Pl} {u : V} {e : D} (h : Loc H σ ρ p u) (e1 : getP ρ p = some e) :
    ∃ A1, Own g F H u e.un A1 ∧ (∀ q, q ∈ A1 → B q = none) ∧
      (∀ (v : V) (H' F' : Hp) (A' Av : List Addr) (r e' : D), StepM A1 F H F' H' → Own g F' H' u e'.un A' → e'.rf = false → (∀ q, q ∈ A' → q ∈ A1 ∨ H q = none) → Own g F' H' v r Av → (∀ q, q ∈ Av → (q ∈ A1 ∨ H q = none) ∧ q ∉ A') →
        ∃ H'', StepI B F F' H' ∧ EnvR g τ B F' H'' σ (putP ρ p (e'.tag e.tg)) ∧ StepP F' H'' F' H' ∧ ResG true g F' H'' F' H' v r) ∧
      ∀ H' F', StepM A1 F H F' H' → StepI B F F' H' ∧ EnvR g τ B F' H' σ (ρ.set p.1 none) := by
  obtain ⟨d, v0, h1, h2, h3, h4⟩ := getP_of h e1
  obtain ⟨A, o, b⟩ := E.own
  obtain ⟨Ai, A2, k1, k2, k3, k4, k5, k6⟩ := o.take h1 h2
  obtain ⟨A1, o1, sub, up⟩ := k1.upd p.2 h3 h4
  have b1 : ∀ q, q ∈ A1 → B q = none := fun q hq => b q (k4 q (sub q hq))
  have stI : ∀ F' H', StepM A1 F H F' H' → StepI B F F' H' := fun F' H' s => ⟨s.ff, s.fh, fun q x hx => s.hh q x (E.bh q x hx) fun z => (by rw [b1 q z] at hx; cases hx), fun q x hx => s.new q x (E.bh q x hx) fun z => (by rw [b1 q z] at hx; cases hx)⟩
  have rest : ∀ F' H', StepM A1 F H F' H' → OwnE g τ F' H' σ (ρ.set p.1 none) A2 := fun F' H' s => k2.keep s.ff fun q hq => by
    obtain ⟨f, x, hx⟩ := k2.mem q hq
    have nq : q ∉ A1 := fun z => k3 q (sub q z) hq
    exact ⟨(s.new q x hx nq).trans f, (s.hh q x hx nq).trans hx.symm⟩
  refine ⟨A1, o1, b1, fun v H' F' A' Av r e' s oe er na ov nv => ?_, fun H' F' s => ⟨stI F' H' s, (stI F' H' s).bh, s.fh, A2, rest F' H' s, fun q hq => b q (k5 q hq)⟩⟩
  obtain ⟨t1, t2, t3⟩ := tag_tg er e.tg
  obtain ⟨A'', p1, p2, p3⟩ := up F' H' (e'.tag e.tg) A' s.ff (by rw [t2]; exact oe) t1 (fun q hq nq => by
    obtain ⟨f, x, hx⟩ := k1.mem q hq
    exact ⟨(s.hh q x hx nq).trans hx.symm, (s.new q x hx nq).trans f⟩) fun q hq => (na q hq).imp id fun y z => by
      obtain ⟨_, x, hx⟩ := k1.mem q z
      rw [y] at hx; cases hx
  have dj : ∀ q, q ∈ A'' → q ∉ A2 := fun q hq hb => by
    obtain ⟨_, x, hx⟩ := k2.mem q hb
    rcases p3 q hq with z | z
    · rcases na q z with y | y
      · exact k3 q (sub q y) hb
      · rw [y] at hx; cases hx
    · exact k3 q z.1 hb
  obtain ⟨A3, q1, q2⟩ := (rest F' H' s).put (i := p.1) (v := v0) p1 (fun k hk => k6 k (by rw [← p2]; exact hk)) dj
  have es : σ.set p.1 (some v0) = σ := by
    obtain ⟨hl, hv⟩ := List.getElem?_eq_some_iff.mp h2
    rw [← hv, List.set_getElem_self]
  rw [es, List.set_set] at q1
  have djv : ∀ q, q ∈ Av → q ∉ A3 := fun q hq hb => by
    obtain ⟨n1, n2⟩ := nv q hq
    rcases q2 q hb with z | z
    · rcases p3 q z with y | y
      · exact n2 y
      · rcases n1 with n1 | n1
        · exact y.2 n1
        · obtain ⟨_, x, hx⟩ := k1.mem q y.1
          rw [n1] at hx; cases hx
    · obtain ⟨_, x, hx⟩ := k2.mem q z
      rcases n1 with n1 | n1
      · exact k3 q (sub q n1) z
      · rw [n1] at hx; cases hx
  have bv : ∀ q, q ∈ Av → B q = none := fun q hq => ((nv q hq).1).elim (b1 q) fun y => E.bh.free y
  have fv : ∀ q, q ∈ Av → F' q = none := fun q hq => (ov.mem q hq).1
  have bA3 : ∀ q, q ∈ A3 → B q = none := fun q hq => by
    rcases q2 q hq with z | z
    · rcases p3 q z with y | y
      · exact (na q y).elim (b1 q) fun y => E.bh.free y
      · exact b q (k4 q y.1)
    · exact b q (k5 q z)
  have I := stI F' H' s
  refine ⟨fun q => if q ∈ Av then none else H' q, I, ⟨fun q x hx => ?_, fun q x hx => ?_, A3, ?_, bA3⟩, ⟨Same.refl _, s.fh, fun q x hx => ?_, fun q o _ => rfl⟩, Av, ov, fun q hq => if_pos hq⟩
  · show (if q ∈ Av then none else H' q) = some x
    rw [if_neg fun z => by rw [bv q z] at hx; cases hx]
    exact I.bh q x hx
  · show (if q ∈ Av then none else H' q) = some x
    rw [if_neg fun z => by rw [fv q z] at hx; cases hx]
    exact s.fh q x hx
  · rw [putP_of h1]
    exact q1.keep (Same.refl _) fun q hq => ⟨(q1.mem q hq).1, if_neg fun z => djv q z hq⟩
  · have hx : (if q ∈ Av then none else H' q) = some x := hx
    split at hx
    · cases hx
    · exact hx
end
/-! ### expressions that change what is one's own -/
inductive RM where
  | ok (d : D) (ρ : Env) | ex (x : XD) (ρ : Env) | bad
def outM (g : G) (W : Wx) (τ : List V) (B F : Hp) (σ : L2.St) (Q : VK) : RM → Prop
  | .ok d ρ => ∀ v H' F' H'', StepI B F F' H' → EnvR g τ B F' H'' σ ρ → StepP F' H'' F' H' → ResG true g F' H'' F' H' v d → Q v H'
  | .ex x ρ => ∀ cls dd H1 H' F', StepI B F F' H' → EnvR g τ B F' H' σ ρ → ResX g H1 F' H' cls dd x → W.w cls dd σ H'
  | .bad => False
abbrev DTM := Env → RM
def liftM (g : G) (W : Wx) (f : DTM) : TE := fun σ H Q => ∃ τ B F ρ, EnvR g τ B F H σ ρ ∧ outM g W τ B F σ Q (f ρ)
abbrev DM (X : Cx) (W : Wx) (e : Expr) (f : DTM) : Prop := PE X e (liftM (gx X W) W f)
theorem outM.step {g : G} {W : Wx} {τ : List V} {B F F' H' : Hp} {σ : L2.St} {Q : VK} {r : RM} (s : StepI B F F' H') (h : outM g W τ B F σ Q r) : outM g W τ B F' σ Q r := by
  cases r with
  | ok d ρ => exact fun v H2 F2 H3 s2 => h v H2 F2 H3 (s.trans s2)
  | ex x ρ => exact fun cls dd H1 H2 F2 s2 => h cls dd H1 H2 F2 (s.trans s2)
  | bad => exact h
def Out.ofM (r : RM) (k : D → Env → Out) : Out := match r with
  | .ok d ρ => k d ρ
  | .ex x ρ => .xc x ρ
  | .bad => .bad
@[simp] theorem ofM_ok (d : D) (ρ : Env) (k : D → Env → Out) : Out.ofM (.ok d ρ) k = k d ρ := rfl
@[simp] theorem ofM_ex (x : XD) (ρ : Env) (k : D → Env → Out) : Out.ofM (.ex x ρ) k = .xc x ρ := rfl
@[simp] theorem ofM_bad (k : D → Env → Out) : Out.ofM .bad k = .bad := rfl
section
variable {X : Cx} {W : Wx} {gr g1 g2 g3 : Bool} {a b e : Expr} {es : List Expr} {pos : Pos} {fa fb fe : Env → R D} {fp : Env → R Pl} {fs : Env → R (List D)} {L : Obs} {f : String} {nm : Str} {fm : DTM} {st : Stmt}
theorem liftM_of {g : G} {k : D → Env → Out} {ρ : Env} {τ : List V} {B F H : Hp} {σ : L2.St} {E : Ends} {Q : VK} (R : EnvR g τ B F H σ ρ) (q : outS g W τ B F E (Out.ofM (fm ρ) k))
    (go : ∀ d ρ' v H' F' H'', fm ρ = .ok d ρ' → StepI B F F' H' → EnvR g τ B F' H'' σ ρ' → StepP F' H'' F' H' → ResG true g F' H'' F' H' v d → outS g W τ B F' E (k d ρ') → Q v H') : liftM g W fm σ H Q := by
  refine ⟨τ, B, F, ρ, R, ?_⟩
  cases hf : fm ρ with
  | ok d ρ' =>
    rw [hf] at q
    exact fun v H' F' H'' s E' sp r => go d ρ' v H' F' H'' hf s E' sp r (outS.step s q)
  | ex x ρ' =>
    rw [hf] at q
    exact fun cls dd H1 H' F' s E' r => q cls dd σ H1 H' F' s E' r
  | bad => rw [hf] at q; exact q
def dDoM (fm : DTM) : DTS := fun ρ => Out.ofM (fm ρ) fun _ ρ' => .nx ρ'
theorem dsm_do (ha : DM X W a fm) (hs : swapsWith a none pos.line X.env = pure false := by rfl) : DS X W (.Expr a pos) (dDoM fm) := ps_imp (ps_expr ha hs) fun E σ H => fun ⟨τ, B, F, ρ, R, q⟩ =>
  liftM_of R q fun d ρ' v H' F' H'' _ s E' sp r o => o σ H' F' ⟨Same.refl F', sp.fh, s.bh, fun _ _ _ => rfl⟩ (E'.stepP sp)
def dSetM (i : Nat) (fm : DTM) : DTS := fun ρ => Out.ofM (fm ρ) fun d ρ' => .nx (ρ'.set i (some d))
theorem dsm_set {i : Nat} (h : ∀ te, PE X a te → PS X st (tAsg te (gName i))) (ha : DM X W a fm) : DS X W st (dSetM i fm) := ps_imp (h _ ha) fun E σ H => fun ⟨τ, B, F, ρ, R, q⟩ =>
  liftM_of R q fun d ρ' v H' F' H'' _ s E' sp r o => o _ H' F' ⟨Same.refl F', sp.fh, s.bh, fun _ _ _ => rfl⟩ (E'.setRes sp r i)
def dSetMF (i : Nat) (fm : DTM) : DTS := fun ρ => Out.ofM (fm ρ) fun d ρ' => .nx (ρ'.set i (some d.fr))
theorem dsm_setF {i : Nat} (h : ∀ te, PE X a te → PS X st (tAsg te (gName i))) (ha : DM X W a fm) : DS X W st (dSetMF i fm) := ps_imp (h _ ha) fun E σ H => fun ⟨τ, B, F, ρ, R, q⟩ =>
  liftM_of R q fun d ρ' v H' F' H'' _ s E' sp r o => by
    obtain ⟨F2, s2, r2⟩ := r.frz sp
    exact o _ H' F2 (s2.toI E'.bh) (E'.setRes s2 r2 i)
def dRetM (fm : DTM) : DTS := fun ρ => Out.ofM (fm ρ) fun d ρ' => .rt d ρ'
theorem dsm_ret (ha : DM X W a fm) : DS X W (.Return (some a) pos) (dRetM fm) := ps_imp (ps_ret ha) fun E σ H => fun ⟨τ, B, F, ρ, R, q⟩ =>
  liftM_of R q fun d ρ' v H' F' H'' _ s E' sp r o => o v σ H' F' ⟨Same.refl F', sp.fh, s.bh, fun _ _ _ => rfl⟩ (E'.consRes sp r)
def dSetGM (tg : Tg) (fm : DTM) : DTS := fun ρ => Out.ofM (fm ρ) fun d ρ' => match tg d.fr ρ' with
  | some ρ2 => .nx ρ2
  | none => .bad
theorem dsm_setG {tg : Tg} (hg : DG X W e tg) (ha : DM X W a fm) (hs : swapsWithSole [e] a pos.line X.env = pure false := by rfl) (hw : swappedStores [e] a X.env = pure none := by rfl)
    (h1 : (assignEach [e] X.env).map (·.2) = [assign e X.env] := by rfl) : DS X W (.Assign [e] a pos) (dSetGM tg fm) := ps_imp (ps_asg ha hg hs hw h1) fun E σ H => fun ⟨τ, B, F, ρ, R, q⟩ =>
  liftM_of R q fun d ρ' v H' F' H'' _ s E' sp r o => by
    obtain ⟨F2, s2, r2⟩ := r.frz sp
    obtain ⟨A, ow, _⟩ := r2
    obtain ⟨rp, _⟩ := ow.rf_nil (D.rf_fr d)
    have E2 := E'.stepP s2
    refine ⟨τ, B, F2, ρ', d.fr, E2, rp, D.rf_fr d, ?_⟩
    have o : outS (gx X W) W τ B F' E (match tg d.fr ρ' with | some ρ2 => .nx ρ2 | none => .bad) := o
    cases ht : tg d.fr ρ' with
    | none => rw [ht] at o; exact o.elim
    | some ρ2 =>
      rw [ht] at o
      exact fun σ2 H2 F3 s3 e3 => o σ2 H2 F3 ((s2.toI E'.bh).trans s3) e3
/-- a pure expression as one that changes nothing -/
def dPure (fa : Env → R D) : DTM := fun ρ => match fa ρ with
  | .ok d => .ok d ρ
  | .ex x => .ex x ρ
  | .bad => .bad
theorem dm_pure (h : DE true X W a fa) : DM X W a (dPure fa) := pe_imp h fun σ H Q => fun ⟨τ, B, F, ρ, E, q⟩ => by
  refine ⟨τ, B, F, ρ, E, ?_⟩
  unfold dPure at q
  cases hf : fa ρ with
  | bad => rw [hf] at q; exact q
  | ex x => rw [hf] at q; exact fun cls dd H' F' s r => q cls dd H H' F' (s.toI E.bh) (E.stepP s) r
  | ok d =>
    rw [hf] at q
    intro v H' F' s r
    obtain ⟨A, o, f⟩ := r
    refine q v H' F' (fun p => if p ∈ A then none else H' p) (s.toI E.bh) ?_ ⟨Same.refl _, s.fh, fun p x hx => ?_, fun _ _ _ => rfl⟩ ⟨A, o, fun p hp => if_pos hp⟩
    · obtain ⟨A0, o0, b0⟩ := E.own
      have o1 := o0.stepP s
      have fA : ∀ p, p ∈ A → F' p = none := fun p hp => (o.mem p hp).1
      refine ⟨fun p x hx => ?_, fun p x hx => ?_, A0, o1.keep (Same.refl _) fun p hp => ⟨(o1.mem p hp).1, if_neg fun z => ?_⟩, b0⟩
      · show (if p ∈ A then none else H' p) = some x
        rw [if_neg fun z => by rw [E.bh.free (f p z)] at hx; cases hx]
        exact s.hh _ _ (E.bh p x hx)
      · show (if p ∈ A then none else H' p) = some x
        rw [if_neg fun z => by rw [fA p z] at hx; cases hx]
        exact s.fh p x hx
      · obtain ⟨_, x, hx⟩ := o0.mem p hp
        rw [f p z] at hx; cases hx
    · have hx : (if p ∈ A then none else H' p) = some x := hx
      split at hx
      · cases hx
      · exact hx
end
end Dt

set_option Elab.async false
set_option linter.all false
set_option maxRecDepth 100000
set_option maxHeartbeats 2000000
/-! Dat: methods, properties, making of instances. -/
namespace Dt
open PySem PySem.Spec PyProof.Rows L2
/-- a result and the object behind the call -/
def retM (r : D) (ρ : Env) : R (D × D) := match ρ[0]? with
  | some (some d) => if d.tg = 1 ∧ r.tg = 0 then .ok (r, d.un) else .bad
  | _ => .bad
/-- a method that may change its object -/
def runM (N : Nat) (t : DTS) : List D → R (D × D)
  | [] => .bad
  | d :: ds => if d.rf = true then .bad else match t (some (d.tag 1) :: (ds.map some ++ List.replicate (N - (ds.length + 1)) none)) with
    | .rt r ρ => retM r ρ
    | .nx ρ => retM .non ρ
    | .xc x _ => .ex x
    | _ => .bad
def finM (o : Out) : R (D × D) := match o with
  | .rt r ρ => retM r ρ
  | .nx ρ => retM .non ρ
  | .xc x _ => .ex x
  | _ => .bad
theorem runM_eq {N : Nat} {t : DTS} {d : D} {ds : List D} (h : d.rf = false) : runM N t (d :: ds) = finM (t (some (d.tag 1) :: (ds.map some ++ List.replicate (N - (ds.length + 1)) none))) := by
  unfold runM
  simp only [h]
  rfl
def toSpM (g : G) (n : Nat) (f : List D → R (D × D)) : Sp := fun vs H Q E => vs.length = n ∧ ∃ F a ws d ds A, vs = .ref a :: ws ∧ Same F H ∧ d.rf = false ∧ Own g F H (.ref a) d.un A ∧ RpL g F ws ds ∧ allRf ds = true ∧ match f (d :: ds) with
  | .ok p => ∀ (v : V) (H' F' : Hp) (A' Av : List Addr), StepM A F H F' H' → Own g F' H' (.ref a) p.2.un A' → p.2.rf = false → (∀ q, q ∈ A' → q ∈ A ∨ H q = none) → Own g F' H' v p.1 Av → (∀ q, q ∈ Av → (q ∈ A ∨ H q = none) ∧ q ∉ A') → Q v H'
  | .ex x => ∀ cls dd H1 H' F', StepM A F H F' H' → ResX g H1 F' H' cls dd x → E cls dd H'
  | .bad => False
theorem un_un (d : D) : d.un.un = d.un := by
  cases d with
  | lst o xs => cases o <;> rfl
  | obj o C ns vs => cases o <;> rfl
  | dic o ks vs => cases o <;> rfl
  | dct o ks vs => cases o <;> rfl
  | _ => rfl
theorem rf_tg {d : D} {k : Nat} (h : d.tg = k + 1) : d.rf = false := by
  cases d with
  | lst o xs => cases o with
    | none => cases h
    | some k => rfl
  | obj o C ns vs => cases o with
    | none => cases h
    | some k => rfl
  | dic o ks vs => cases o with
    | none => cases h
    | some k => rfl
  | dct o ks vs => cases o with
    | none => cases h
    | some k => rfl
  | _ => cases h
theorem OwnE.argsT {g : G} {τ : List V} {F H : Hp} {vs : List V} {ds : List D} (r : RpL g F vs ds) (f : allRf ds = true) (k : Nat) : OwnE g τ F H (vs.map some ++ List.replicate k Option.none) (ds.map some ++ List.replicate k Option.none) [] := by
  induction ds generalizing vs with
  | nil =>
    cases r
    induction k with
    | zero => exact .nil
    | succ k ih => exact .skip ih
  | cons d ds ih =>
    cases r with
    | @cons v _ vs _ r1 r2 =>
      have s' := Bool.and_eq_true_iff.mp (show (_ && _) = true from f)
      exact .cons (A := []) (B := []) (by rw [D.un, tag_rf s'.1]; exact .frz s'.1 r1) (fun k hk => by
        have : d.tg = 0 := by rw [← tag_rf s'.1 0]; exact D.tg_un d
        rw [this] at hk; cases hk) (ih r2 s'.2) fun _ z => nomatch z
section
variable {P : Program} {w : World} {K : PySem.W.Frag} {mg : Str → Option Value} {base : Heap}
theorem funM {x qual : Str} {st : Stmt} {f : Addr} {fd : FuncData} {N ps : List Str} {k : Nat} {t : DTS} (F : Fun K x qual st f fd) (S : FnScope N ps (defScope st))
    (hbody : ∀ (cdv : Value) (A : Around) (outer : List PySem.Env) (s : Shared) (H : Hp) (E : XK), Room k (A.deeper (envOfC qual (defScope st) s.heap.objs.size f cdv)) →
      DSs (cxOf (L2N.CX P w) P w K mg base N qual (defScope st) f cdv A outer s H E) ⟨fun cls dd _ H => E cls dd H, none⟩ (defBody st) t) :
    FnOk P w K mg base (L2N.CX P w) (k + 1) f fd ps (toSpM ⟨K, mg, none⟩ ps.length (runM N.length t)) := by
  refine okXN F S (fun vs H Q E h => h.1) fun cdv A outer s H vs Q E hr h => ⟨_, hbody cdv A outer s H E hr, ?_⟩
  obtain ⟨hl, F, a, ws, d, ds, A0, rfl, sF, hd, own, r, f, q⟩ := h
  obtain ⟨t1, t2, t3⟩ := tag_tg hd 1
  have hlen : ws.length = ds.length := r.length
  rw [runM_eq hd] at q
  have bB : ∀ q, q ∈ A0 → (fun q => if q ∈ A0 then none else H q : Hp) q = none := fun q hq => if_pos hq
  refine ⟨[.ref a], fun q => if q ∈ A0 then none else H q, F, some (d.tag 1) :: (ds.map some ++ List.replicate (N.length - (ds.length + 1)) none), ⟨fun q x hx => ?_, sF, A0 ++ [], ?_, fun p hp => bB p (by simpa using hp)⟩, ?_⟩
  · have hx : (if q ∈ A0 then none else H q) = some x := hx
    split at hx
    · cases hx
    · exact hx
  · unfold L2.start
    rw [List.length_cons, hlen, List.map_cons, List.cons_append]
    exact .cons (by rw [t2]; exact own) (fun k hk => by
      rw [t1] at hk
      have : k = 0 := by omega
      rw [this]; rfl) (OwnE.argsT r f _) fun _ _ z => nomatch z
  · have stM : ∀ {F' H' : Hp}, StepI (fun q => if q ∈ A0 then none else H q) F F' H' → StepM A0 F H F' H' := fun {F' H'} s =>
      ⟨s.ff, s.fh, fun q x hx hq => s.bh q x (by show (if q ∈ A0 then none else H q) = some x; rw [if_neg hq]; exact hx), fun q x hx hq => s.new q x (by show (if q ∈ A0 then none else H q) = some x; rw [if_neg hq]; exact hx)⟩
    have bN : ∀ q, (fun q => if q ∈ A0 then none else H q : Hp) q = none → q ∈ A0 ∨ H q = none := fun q hq => by
      by_cases z : q ∈ A0
      · exact .inl z
      · have hq : (if q ∈ A0 then none else H q) = none := hq
        rw [if_neg z] at hq
        exact .inr hq
    have fin : ∀ (res : D) (ρ : Env) (vr : V) (σ : L2.St) (F' H' : Hp), (match retM res ρ with
        | .ok p => ∀ (v : V) (H' F' : Hp) (A' Av : List Addr), StepM A0 F H F' H' → Own ⟨K, mg, none⟩ F' H' (.ref a) p.2.un A' → p.2.rf = false → (∀ q, q ∈ A' → q ∈ A0 ∨ H q = none) → Own ⟨K, mg, none⟩ F' H' v p.1 Av → (∀ q, q ∈ Av → (q ∈ A0 ∨ H q = none) ∧ q ∉ A') → Q v H'
        | .ex x => ∀ cls dd H1 H' F', StepM A0 F H F' H' → ResX ⟨K, mg, none⟩ H1 F' H' cls dd x → E cls dd H'
        | .bad => False) → StepI (fun q => if q ∈ A0 then none else H q) F F' H' → EnvR ⟨K, mg, none⟩ [.ref a] (fun q => if q ∈ A0 then none else H q) F' H' (some vr :: σ) (some res :: ρ) → Q vr H' := by
      intro res ρ vr σ F' H' q s R
      unfold retM at q
      split at q
      · rename_i p hp
        cases hd0 : ρ[0]? with
        | none => rw [hd0] at hp; cases hp
        | some od =>
          rw [hd0] at hp
          cases od with
          | none => cases hp
          | some d' =>
            simp only at hp
            split at hp
            · rename_i hc
              cases hp
              obtain ⟨A2, o, b⟩ := R.own
              cases o with
              | @cons _ _ _ _ A1 A3 o1 tt o2 dj =>
                obtain ⟨v0, A', z1, z2, z3, z4⟩ := o2.get hd0
                have : v0 = .ref a := by
                  have := z4 0 hc.1
                  simpa using this.symm
                subst this
                refine q vr H' F' A' A1 (stM s) (by rw [un_un]; exact z2) (by
                  have := rf_tg hc.1
                  exact (tag_tg this 0).2.2) (fun q hq => bN q (b q (List.mem_append_right _ (z3 q hq)))) (by rw [un_tg0 hc.2] at o1; exact o1) fun q hq => ⟨bN q (b q (List.mem_append_left _ hq)), fun z => dj q hq (z3 q z)⟩
            · cases hp
      · rename_i x hx
        split at hx
        · split at hx <;> cases hx
        · cases hx
      · exact q.elim
    cases ht : t (some (d.tag 1) :: (ds.map some ++ List.replicate (N.length - (ds.length + 1)) none)) with
    | nx ρ =>
      rw [ht] at q
      simp only [finM] at q
      intro σ H' F' s R
      exact fin .non ρ .non σ F' H' q s (R.consRes (StepP.refl R.fh) ⟨[], .frz rfl .non, fun _ z => nomatch z⟩)
    | rt d ρ =>
      rw [ht] at q
      simp only [finM] at q
      intro v σ H' F' s R
      exact fin d ρ v σ F' H' q s R
    | xc x ρ =>
      rw [ht] at q
      exact fun cls dd σ H1 H' F' s R rx => q cls dd H1 H' F' (stM s) rx
    | _ => rw [ht] at q; exact q.elim
end
/-! ### what is known of methods -/
/-- class C has the method m, which does fn -/
def DefM (P : Program) (w : World) (K : PySem.W.Frag) (mg : Str → Option Value) (C m : String) (k : Nat) (ps : List Str) (fn : List D → R (D × D)) : Prop :=
  ∃ ca f fd, mg (nmS C) = some (.ref ca) ∧ Cls K ca ∧ Meth K ca (nmS m) f ∧ (∀ (s : Shared) (us : List Value), us.length = ps.length → BindsTo s fd ⟨us, []⟩ (ps.zip us)) ∧
    ∀ base : Heap, FnOk P w K mg base (L2N.CX P w) k f fd ps (toSpM ⟨K, mg, none⟩ ps.length fn)
/-- .. which changes nothing -/
def DefP (P : Program) (w : World) (K : PySem.W.Frag) (mg : Str → Option Value) (C m : String) (k : Nat) (ps : List Str) (fn : List D → R D) : Prop :=
  ∃ ca f fd, mg (nmS C) = some (.ref ca) ∧ Cls K ca ∧ Meth K ca (nmS m) f ∧ (∀ (s : Shared) (us : List Value), us.length = ps.length → BindsTo s fd ⟨us, []⟩ (ps.zip us)) ∧
    ∀ base : Heap, FnOk P w K mg base (L2N.CX P w) k f fd ps (toSp0 ⟨K, mg, none⟩ ps.length fn)
/-- C's __init__ does fn -/
def DefI (P : Program) (w : World) (K : PySem.W.Frag) (mg : Str → Option Value) (C : String) (k : Nat) (ps : List Str) (fn : List D → R (D × D)) : Prop :=
  ∃ ca f fd, mg (nmS C) = some (.ref ca) ∧ Mk K ca f ∧ (∀ (s : Shared) (us : List Value), us.length = ps.length → BindsTo s fd ⟨us, []⟩ (ps.zip us)) ∧
    ∀ base : Heap, FnOk P w K mg base (L2N.CX P w) k f fd ps (toSpM ⟨K, mg, none⟩ ps.length fn)
/-- the property f of C reads fn -/
def DefPr (P : Program) (w : World) (K : PySem.W.Frag) (mg : Str → Option Value) (C f : String) (k : Nat) (fn : List D → R D) : Prop :=
  ∃ ca p g fd, mg (nmS C) = some (.ref ca) ∧ Cls K ca ∧ PropOf K ca (nmS f) p g ∧ (∀ (s : Shared) (us : List Value), us.length = 1 → BindsTo s fd ⟨us, []⟩ ((["self"] : List Str).zip us)) ∧
    ∀ base : Heap, FnOk P w K mg base (L2N.CX P w) k g fd ["self"] (toSp0 ⟨K, mg, none⟩ 1 fn)
section
variable {X : Cx} {CX : CXT} {k : Nat} {f C : Addr} {fd : FuncData} {ps : List Str} {sp : Sp} {E : L2.St → XK} {x m : Str} {p pos apos : Pos} {e o : Expr} {es : List Expr} {ta : TE} {t : TA}
def tMethX (C : Addr) (m : Str) (sp : Sp) (E : L2.St → XK) (ta : TE) (t : TA) : TE := fun σ H Q => ta σ H fun x H1 => ∃ a dx fs, x = .ref a ∧ H1 a = some (.ins C dx fs) ∧ fs.lookup m = none ∧ t σ H1 fun vs H2 => sp (x :: vs) H2 Q (E σ)
theorem pe_methX {pl : Sem Bool} (he : PE X o ta) (c : Cls X.K C) (hm : Meth X.K C m f) (F : FnOk X.prog X.w X.K X.mg X.base CX k f fd ps sp) (hr : Room k X.A) (hb : Binds X.K fd ps []) (hx : ∀ σ, PassesAt CX X σ (E σ)) (ha : PA X (e :: es) t)
    (hst : starEach (e :: es) X.env = (false, eval e X.env) :: starEach es X.env := by rfl) (hpl : (backTo pos (starEach es X.env)).any (·.1) = false := by rfl)
    (ht : eval (.Call (.Attribute o m apos) (e :: es) [] pos) X.env = (do
      let ov ← eval o X.env
      standAt apos.atName
      let (f, first) ← holding [ov] (getMethod ov m pl)
      callWith pos f first (backTo pos (starEach (e :: es) X.env)) (backToKw pos (keywordEach [] X.env))) := by rfl) :
    PE X (.Call (.Attribute o m apos) (e :: es) [] pos) (tMethX C m sp E ta t) := by
  refine ⟨fun pins s σ H Q I h => ?_⟩
  refine PySem.W.methodCall_KW (pl := pl) (thn (he.run pins s σ H _ I h) fun u s1 ⟨x, H1, I1, rx, a, dx, fs, ex, ea, l, q⟩ => ?_) ht
  subst ex
  obtain rfl : u = Value.ref a := rx
  refine getmeth_ok I1 ea c hm l ?_
  refine PySem.W.callWith_K (first := [.ref a]) (h₀ := X.base) I.ok.mod.kin hm.kp (thn (ha.run pos pins s1 σ H1 _ I1 q) fun us s2 ⟨vs, H2, I2, r, q2⟩ => ⟨I2.kIn, ?_⟩) hst hpl
  exact run_fnS (us := .ref a :: us) (vs := .ref a :: vs) F hr hb (hx σ) I2 (.cons rfl r) q2
theorem pe_methX0 {pl : Sem Bool} (he : PE X o ta) (c : Cls X.K C) (hm : Meth X.K C m f) (F : FnOk X.prog X.w X.K X.mg X.base CX k f fd ps sp) (hr : Room k X.A) (hb : Binds X.K fd ps []) (hx : ∀ σ, PassesAt CX X σ (E σ))
    (ht : eval (.Call (.Attribute o m apos) [] [] pos) X.env = (do
      let ov ← eval o X.env
      standAt apos.atName
      let (f, first) ← holding [ov] (getMethod ov m pl)
      callWith pos f first (backTo pos (starEach [] X.env)) (backToKw pos (keywordEach [] X.env))) := by rfl) :
    PE X (.Call (.Attribute o m apos) [] [] pos) (tMethX C m sp E ta tNil) := by
  refine ⟨fun pins s σ H Q I h => ?_⟩
  refine PySem.W.methodCall_KW (pl := pl) (thn (he.run pins s σ H _ I h) fun u s1 ⟨x, H1, I1, rx, a, dx, fs, ex, ea, l, q⟩ => ?_) ht
  subst ex
  obtain rfl : u = Value.ref a := rx
  refine getmeth_ok I1 ea c hm l ?_
  exact PySem.W.callWith_K0 (first := [.ref a]) I1.kIn hm.kp (run_fnS (us := [.ref a]) (vs := [.ref a]) F hr hb (hx σ) I1 (.cons rfl .nil) q)
def tMakeX (C : Addr) (sp : Sp) (E : L2.St → XK) (t : TA) : TE := fun σ H Q => t σ H fun vs H1 => ∀ x dx, H1 x = none → H1 dx = none → dx ≠ x →
  sp (.ref x :: vs) (L2.upd (L2.upd H1 dx (.own x)) x (.ins C dx [])) (fun v H2 => v = .non ∧ Q (.ref x) H2) (E σ)
theorem run_makeX {pins : List (Addr × Obj)} {σ : L2.St} {H : Hp} {s : Shared} {Q : VK} {us : List Value} {vs : List V} (M : Mk X.K C f) (F : FnOk X.prog X.w X.K X.mg X.base CX k f fd ps sp) (hr : Room (k + 1) X.A) (hb : Binds X.K fd ps [])
    (hx : PassesAt CX X σ (E σ)) (I : Inv X pins σ H s) (r : Vals vs us)
    (h : ∀ x dx, H x = none → H dx = none → dx ≠ x → sp (.ref x :: vs) (L2.upd (L2.upd H dx (.own x)) x (.ins C dx [])) (fun v H2 => v = .non ∧ Q (.ref x) H2) (E σ)) :
    wpAny (model X.prog X.w) X.A (call (.ref C) us) (EP X pins σ Q) X.xe s := by
  have hq := h (s.heap.objs.size + 1) s.heap.objs.size (I.hok.fresh (Nat.le_succ _)) (I.hok.fresh (Nat.le_refl _)) (Nat.ne_of_lt (Nat.lt_succ_self _))
  have I2 := Inv.made (C := C) I
  have r2 : Vals (V.ref (s.heap.objs.size + 1) :: vs) (Value.ref (s.heap.objs.size + 1) :: us) := .cons rfl r
  have hl : (Value.ref (s.heap.objs.size + 1) :: us).length = ps.length := by
    have e := r2.length
    rw [F.len _ _ _ _ hq] at e
    exact e.symm
  have b := hb _ (Value.ref (s.heap.objs.size + 1) :: us) I2.kIn (by rw [List.append_nil]; exact hl)
  rw [List.append_nil] at b
  refine wpAny_call (make_map (f := f) I.kIn M.makes M.init (beq_iff_eq.mp M.fn) (codeAny_mono (F.run _ X.stack _ _ ⟨Value.ref (s.heap.objs.size + 1) :: us, []⟩ (Value.ref (s.heap.objs.size + 1) :: us) _ _ (E σ) (hr.make C us [])
    (I2.env0.make C us []) b r2 hq) fun r s' hq' => ?_))
  cases r with
  | error e => exact hx pins _ _ e s' I2 hq'
  | ok fl =>
    cases fl with
    | ret u =>
      obtain ⟨v, H', I3, rv, ev, q3⟩ := I2.after hq'
      subst ev
      exact ⟨rv, ⟨V.ref (s.heap.objs.size + 1), H', I3, rfl, q3⟩⟩
    | next => exact False.elim hq'
    | brk => exact False.elim hq'
    | cont => exact False.elim hq'
theorem pe_makeX (M : Mk X.K C f) (F : FnOk X.prog X.w X.K X.mg X.base CX k f fd ps sp) (hr : Room (k + 1) X.A) (hg : Gl X x) (hm : X.mg x = some (.ref C)) (hb : Binds X.K fd ps []) (hx : ∀ σ, PassesAt CX X σ (E σ))
    (ha : PA X (e :: es) t) (hdb : (x == ("__debug__" : Str)) = false := by decide) (he : starEach (e :: es) X.env = (false, eval e X.env) :: starEach es X.env := by rfl) (hpl : (backTo pos (starEach es X.env)).any (·.1) = false := by rfl) :
    PE X (.Call (.Name x p) (e :: es) [] pos) (tMakeX C sp E t) := by
  refine ⟨fun pins s σ H Q I h => ?_⟩
  refine wpAny_Call_Name_kw (ld_glob I hg hm ?_ hdb)
  refine PySem.W.callWith_K (h₀ := X.base) I.ok.mod.kin M.kp (thn (ha.run pos pins s σ H _ I h) fun us s1 ⟨vs, H1, I1, r, q⟩ => ⟨I1.kIn, ?_⟩) he hpl
  exact run_makeX M F hr hb (hx σ) I1 r q
theorem pe_makeX0 (M : Mk X.K C f) (F : FnOk X.prog X.w X.K X.mg X.base CX k f fd ps sp) (hr : Room (k + 1) X.A) (hg : Gl X x) (hm : X.mg x = some (.ref C)) (hb : Binds X.K fd ps []) (hx : ∀ σ, PassesAt CX X σ (E σ))
    (hdb : (x == ("__debug__" : Str)) = false := by decide) : PE X (.Call (.Name x p) [] [] pos) (tMakeX C sp E tNil) := by
  refine ⟨fun pins s σ H Q I h => ?_⟩
  refine wpAny_Call_Name_kw (ld_glob I hg hm ?_ hdb)
  exact PySem.W.callWith_K0 I.kIn M.kp (run_makeX (us := []) M F hr hb (hx σ) I .nil h)
end
section
variable {X : Cx} {W : Wx} {gr g1 g2 g3 : Bool} {a b e o : Expr} {es : List Expr} {pos apos : Pos} {fa fb fe : Env → R D} {fp : Env → R Pl} {fs : Env → R (List D)} {C m : String} {nm : Str} {k : Nat} {ps : List Str}
theorem binds_of {K : PySem.W.Frag} {fd : FuncData} {ps : List Str} (h : ∀ (s : Shared) (us : List Value), us.length = ps.length → BindsTo s fd ⟨us, []⟩ (ps.zip us)) : Binds K fd ps [] := fun s us _ hl => by
  rw [List.append_nil] at hl ⊢
  exact h s us hl
/-- o.m(..), which may change what stands at o -/
def dMeth (C m : String) (fn : List D → R (D × D)) (fp : Env → R Pl) (fs : Env → R (List D)) : DTM := fun ρ => match fp ρ with
  | .ok p => (match getP ρ p with
    | some (.obj (some t) C' ns vs) => if C' = C ∧ fIdx ns m = none then (match fs ρ with
      | .ok ds => (match fn (.obj (some 0) C' ns vs :: ds) with
        | .ok q => if q.2.rf = true then .bad else .ok q.1 (putP ρ p (q.2.tag t))
        | .ex x => .ex x (ρ.set p.1 none)
        | .bad => .bad)
      | .ex x => .ex x ρ
      | .bad => .bad) else .bad
    | _ => .bad)
  | .ex x => .ex x ρ
  | .bad => .bad
theorem dm_call {ca : Addr} {fn : List D → R (D × D)} {sp : Sp} (hsp : sp = toSpM ⟨X.K, X.mg, none⟩ ps.length fn) (hx : W.ex = none) (hm : X.mg (nmS C) = some (.ref ca)) (hrf : RfA fs) (hda : ∀ ρ ds, fs ρ = .ok ds → ds.length + 1 = ps.length) {σ : L2.St} {H : Hp} {Q : VK}
    (h : liftM (gx X W) W (dMeth C m fn fp fs) σ H Q) : tMethX ca (nmS m) sp (WE W.w) (liftP (gx X W) W fp) (liftA true (gx X W) W fs) σ H Q := by
  subst hsp
  have eg : gx X W = ⟨X.K, X.mg, none⟩ := by show (⟨X.K, X.mg, W.ex⟩ : G) = _; rw [hx]
  obtain ⟨τ, B, F, ρ, R, q⟩ := h
  refine ⟨τ, B, F, ρ, R, ?_⟩
  unfold dMeth at q
  cases hf : fp ρ with
  | bad => rw [hf] at q; exact q
  | ex x => rw [hf] at q; exact fun cls dd H' F' s r => q cls dd H H' F' (s.toI R.bh) (R.stepP s) r
  | ok p =>
    rw [hf] at q
    simp only at q
    intro u H1 F1 s1 l1
    have R1 := R.stepP s1
    split at q
    · rename_i t C' ns vs hg
      split at q
      · rename_i hc
        obtain ⟨rfl, hno⟩ := hc
        obtain ⟨A0, o0⟩ := R1.there l1 hg
        cases (show Own (gx X W) F1 H1 u (.obj (some 0) C' ns vs) A0 from o0) with
        | frz r _ => cases r
        | @obj a ca' dx _ fs' _ _ A1 k1 k2 k3 k4 k5 k6 k7 k8 k9 k10 =>
          have : ca' = ca := by
            have := k5.symm.trans hm
            cases this; rfl
          subst this
          refine ⟨a, dx, fs', rfl, k1, lookup_no k6 hno, τ, B, F1, ρ, R1, ?_⟩
          have q := q.step (s1.toI R.bh)
          cases hfs : fs ρ with
          | bad => rw [hfs] at q; exact q
          | ex x => rw [hfs] at q; exact fun cls dd H' F' s r => q cls dd H1 H' F' (s.toI R1.bh) (R1.stepP s) r
          | ok ds =>
            rw [hfs] at q
            simp only at q
            intro ws H2 F2 s2 r2
            have R2 := R1.stepP s2
            have q := q.step (s2.toI R1.bh)
            obtain ⟨A2, o2, b2, up, dn⟩ := R2.callM (l1.mono s2.hh) hg
            have r2 : RpL (gx X W) F2 ws ds := r2
            rw [eg] at r2 o2 up dn q
            refine ⟨by rw [List.length_cons, r2.length, hda ρ ds hfs], F2, a, ws, .obj (some 0) C' ns vs, ds, A2, rfl, s2.fh, rfl, o2, r2, hrf ρ ds hfs, ?_⟩
            cases hz : fn (.obj (some 0) C' ns vs :: ds) with
            | bad => rw [hz] at q; exact q.elim
            | ex x =>
              rw [hz] at q
              intro cls dd H3 H' F' sm rx
              obtain ⟨si, E'⟩ := dn H' F' sm
              exact q cls dd H3 H' F' si E' rx
            | ok z =>
              rw [hz] at q
              simp only at q
              split at q
              · exact q.elim
              · rename_i hr
                intro v H' F' A' Av sm oe er na ov nv
                obtain ⟨H'', si, E', sp, rg⟩ := up v H' F' A' Av z.1 z.2 sm oe er na ov nv
                exact q v H' F' H'' si E' sp rg
      · exact q.elim
    · exact q.elim
theorem dm_meth {fn : List D → R (D × D)} {pl : Sem Bool} (Fn : DefM X.prog X.w X.K X.mg C m k ps fn) (hnm : nmS m = nm) (hr : Room k X.A) (hx : W.ex = none) (tk : L2N.Takes X W.w) (hp : DPl X W o fp) (ha : DA true X W (e :: es) fs) (hrf : RfA fs) (hda : ∀ ρ ds, fs ρ = .ok ds → ds.length = (e :: es).length) (hn : (e :: es).length + 1 = ps.length)
    (hst : starEach (e :: es) X.env = (false, eval e X.env) :: starEach es X.env := by rfl) (hpl : (backTo pos (starEach es X.env)).any (·.1) = false := by rfl)
    (ht : eval (.Call (.Attribute o nm apos) (e :: es) [] pos) X.env = (do
      let ov ← eval o X.env
      standAt apos.atName
      let (f, first) ← holding [ov] (getMethod ov nm pl)
      callWith pos f first (backTo pos (starEach (e :: es) X.env)) (backToKw pos (keywordEach [] X.env))) := by rfl) : DM X W (.Call (.Attribute o nm apos) (e :: es) [] pos) (dMeth C m fn fp fs) := by
  subst hnm
  obtain ⟨ca, f, fd, h1, h2, h3, h4, h5⟩ := Fn
  exact pe_imp (pe_methX (pl := pl) hp h2 h3 (h5 X.base) hr (binds_of h4) (fun σ => L2N.passAt tk σ) ha hst hpl ht) fun σ H Q h => dm_call rfl hx h1 hrf (fun ρ ds q => by rw [hda ρ ds q]; exact hn) h
theorem dm_meth0 {fn : List D → R (D × D)} {pl : Sem Bool} (Fn : DefM X.prog X.w X.K X.mg C m k ps fn) (hnm : nmS m = nm) (hr : Room k X.A) (hx : W.ex = none) (tk : L2N.Takes X W.w) (hp : DPl X W o fp) (hn : 1 = ps.length)
    (ht : eval (.Call (.Attribute o nm apos) [] [] pos) X.env = (do
      let ov ← eval o X.env
      standAt apos.atName
      let (f, first) ← holding [ov] (getMethod ov nm pl)
      callWith pos f first (backTo pos (starEach [] X.env)) (backToKw pos (keywordEach [] X.env))) := by rfl) : DM X W (.Call (.Attribute o nm apos) [] [] pos) (dMeth C m fn fp dNil) := by
  subst hnm
  obtain ⟨ca, f, fd, h1, h2, h3, h4, h5⟩ := Fn
  refine pe_imp (pe_methX0 (pl := pl) hp h2 h3 (h5 X.base) hr (binds_of h4) (fun σ => L2N.passAt tk σ) ht) fun σ H Q h => ?_
  have z := dm_call (fs := dNil) rfl hx h1 rf_nil (fun ρ ds q => by cases q; exact hn) h
  obtain ⟨τ, B, F, ρ, R, z⟩ := z
  refine ⟨τ, B, F, ρ, R, ?_⟩
  cases hf : fp ρ with
  | bad => rw [hf] at z; exact z
  | ex x => rw [hf] at z; exact z
  | ok p =>
    rw [hf] at z
    intro u H1 F1 s1 l1
    obtain ⟨a, dx, fs', e1, e2, e3, τ', B', F', ρ', R', z⟩ := z u H1 F1 s1 l1
    exact ⟨a, dx, fs', e1, e2, e3, z [] H1 F' (StepP.refl R'.fh) .nil⟩
/-! ### C(..) -/
def fnMake (C : String) (fi : List D → R (D × D)) : List D → R D := fun ds => (fi (.obj (some 0) C [] [] :: ds)).bind fun p => match p.1 with
  | .non => .ok p.2.un
  | _ => .bad
theorem make_imp {ca : Addr} {fn : List D → R (D × D)} (hx : W.ex = none) (hm : X.mg (nmS C) = some (.ref ca)) (hrf : RfA fs) (hda : ∀ ρ ds, fs ρ = .ok ds → ds.length + 1 = ps.length) {σ : L2.St} {H : Hp} {Q : VK}
    (h : liftE true (gx X W) W (dCall (fnMake C fn) fs) σ H Q) : tMakeX ca (toSpM ⟨X.K, X.mg, none⟩ ps.length fn) (WE W.w) (liftA true (gx X W) W fs) σ H Q := by
  have eg : gx X W = ⟨X.K, X.mg, none⟩ := by show (⟨X.K, X.mg, W.ex⟩ : G) = _; rw [hx]
  obtain ⟨τ, B, F, ρ, RR, q⟩ := h
  refine ⟨τ, B, F, ρ, RR, ?_⟩
  unfold dCall at q
  cases hf : fs ρ with
  | bad => rw [hf] at q; exact q
  | ex x => rw [hf] at q; exact q
  | ok ds =>
    rw [hf, R.bind_ok] at q
    intro vs H1 F1 s1 r x dx nx ndx ne
    have q := q.step s1
    have r : RpL (gx X W) F1 vs ds := r
    rw [eg] at r q
    have hne : ∀ q o, H1 q = some o → L2.upd (L2.upd H1 dx (.own x)) x (.ins ca dx []) q = some o := fun q o hq => by
      rw [upd_ne (ne_of_none hq nx), upd_ne (ne_of_none hq ndx)]; exact hq
    refine ⟨by rw [List.length_cons, r.length, hda ρ ds hf], F1, x, vs, .obj (some 0) C [] [], ds, x :: dx :: [], rfl, fun q o hq => hne q o (s1.fh q o hq), rfl, .obj upd_same (by rw [upd_ne ne, upd_same]) (s1.fh.free nx) (s1.fh.free ndx) hm rfl .nil (fun z => nomatch z) (fun z => nomatch z) ne, r, hrf ρ ds hf, ?_⟩
    have toP : ∀ {F' H' : Hp}, StepM (x :: dx :: []) F1 (L2.upd (L2.upd H1 dx (.own x)) x (.ins ca dx [])) F' H' → StepP F1 H1 F' H' := fun {F' H'} s => by
      have out : ∀ q o, H1 q = some o → q ∉ x :: dx :: [] := fun q o hq z => by
        rcases List.mem_cons.mp z with z | z
        · rw [z, nx] at hq; cases hq
        · rw [List.mem_singleton.mp z, ndx] at hq; cases hq
      exact ⟨s.ff, s.fh, fun q o hq => s.hh q o (hne q o hq) (out q o hq), fun q o hq => s.new q o (hne q o hq) (out q o hq)⟩
    unfold fnMake at q
    cases hz : fn (.obj (some 0) C [] [] :: ds) with
    | bad => rw [hz] at q; exact q.elim
    | ex w =>
      rw [hz] at q
      exact fun cls dd H3 H' F' s rx => q cls dd H' F' (toP s) rx
    | ok z =>
      rw [hz, R.bind_ok] at q
      intro v H' F' A' Av s oe er na ov nv
      split at q
      · rename_i hnon
        rw [hnon] at ov
        have : v = .non := by
          obtain ⟨rp, _⟩ := ov.rf_nil rfl
          cases rp; rfl
        refine ⟨this, q (.ref x) H' F' (toP s) ⟨A', oe, fun p hp => ?_⟩⟩
        rcases na p hp with z | z
        · rcases List.mem_cons.mp z with z | z
          · rw [z]; exact nx
          · rw [List.mem_singleton.mp z]; exact ndx
        · cases hh : H1 p with
          | none => rfl
          | some o => rw [hne p o hh] at z; cases z
      · exact q.elim
theorem de_make {fn : List D → R (D × D)} {x : Str} {p : Pos} (Fn : DefI X.prog X.w X.K X.mg C k ps fn) (hxn : nmS C = x) (hr : Room (k + 1) X.A) (hx : W.ex = none) (tk : L2N.Takes X W.w) (hg : Gl X x) (ha : DA true X W (e :: es) fs) (hrf : RfA fs) (hda : ∀ ρ ds, fs ρ = .ok ds → ds.length = (e :: es).length) (hn : (e :: es).length + 1 = ps.length)
    (hdb : (x == ("__debug__" : Str)) = false := by decide) (he : starEach (e :: es) X.env = (false, eval e X.env) :: starEach es X.env := by rfl) (hpl : (backTo pos (starEach es X.env)).any (·.1) = false := by rfl) :
    DE true X W (.Call (.Name x p) (e :: es) [] pos) (dCall (fnMake C fn) fs) := by
  subst hxn
  obtain ⟨ca, f, fd, h1, h2, h3, h4⟩ := Fn
  exact pe_imp (pe_makeX h2 (h4 X.base) hr hg h1 (binds_of h3) (fun σ => L2N.passAt tk σ) ha hdb he hpl) fun σ H Q h => make_imp hx h1 hrf (fun ρ ds q => by rw [hda ρ ds q]; exact hn) h
theorem de_make0 {fn : List D → R (D × D)} {x : Str} {p : Pos} (Fn : DefI X.prog X.w X.K X.mg C k ps fn) (hxn : nmS C = x) (hr : Room (k + 1) X.A) (hx : W.ex = none) (tk : L2N.Takes X W.w) (hg : Gl X x) (hn : 1 = ps.length)
    (hdb : (x == ("__debug__" : Str)) = false := by decide) : DE true X W (.Call (.Name x p) [] [] pos) (dCall (fnMake C fn) dNil) := by
  subst hxn
  obtain ⟨ca, f, fd, h1, h2, h3, h4⟩ := Fn
  refine pe_imp (pe_makeX0 h2 (h4 X.base) hr hg h1 (binds_of h3) (fun σ => L2N.passAt tk σ) hdb) fun σ H Q h => ?_
  obtain ⟨τ, B, F, ρ, R, z⟩ := make_imp hx h1 rf_nil (fun ρ ds q => by cases q; exact hn) h
  exact z [] H F (StepP.refl R.fh) .nil
/-! ### methods that change nothing -/
/-- what may be handed back of an object of one's own: scalars, new lists of such -/
def D.flat : D → Bool
  | .lst (some _) xs => allSc xs
  | d => d.sc
/-- o.m(..) of a frozen object (gr), or of one's own: then the answer is flat -/
def fnMethP (C m : String) (gr : Bool) (fn : List D → R D) (x : D) (ds : List D) : R D := match x with
  | .obj _ C' ns _ => if C' = C ∧ fIdx ns m = none then (match fn (x.fr :: ds) with
    | .ok r => if gr = true ∨ r.flat = true then .ok r else .bad
    | .ex e => if gr = true ∨ e.fs = none then .ex e else .bad
    | .bad => .bad) else .bad
  | _ => .bad
def okObj (C m : String) : D → Bool
  | .obj _ C' ns _ => decide (C' = C) && (fIdx ns m).isNone
  | _ => false
theorem okObj_obj {x : D} (h : okObj C m x = true) : ∃ o ns vs, x = .obj o C ns vs ∧ fIdx ns m = none := by
  unfold okObj at h
  split at h
  · obtain ⟨h1, h2⟩ := Bool.and_eq_true_iff.mp h
    have := of_decide_eq_true h1
    subst this
    exact ⟨_, _, _, rfl, by simpa using h2⟩
  · cases h
def dMethP (C m : String) (gr : Bool) (fn : List D → R D) (fa : Env → R D) (fs : Env → R (List D)) : Env → R D := fun ρ => (fa ρ).bind fun x => if okObj C m (x.op gr) = true then (fs ρ).bind fun ds => fnMethP C m gr fn (x.op gr) ds else .bad
@[simp] theorem ev_methP (gr : Bool) (fn : List D → R D) (ρ : Env) : dMethP C m gr fn fa fs ρ = (fa ρ).bind fun x => if okObj C m (x.op gr) = true then (fs ρ).bind fun ds => fnMethP C m gr fn (x.op gr) ds else .bad := rfl
theorem nx_methP_obj {gr : Bool} {fn : List D → R D} {x : D} {ds : List D} (h : fnMethP C m gr fn x ds ≠ .bad) : ∃ o ns vs, x = .obj o C ns vs ∧ fIdx ns m = none := by
  unfold fnMethP at h
  split at h
  · split at h
    · rename_i hc
      obtain ⟨rfl, hn⟩ := hc
      exact ⟨_, _, _, rfl, hn⟩
    · exact absurd rfl h
  · exact absurd rfl h
theorem Own.flat {g : G} {F F' H : Hp} {v : V} {d : D} {A : List Addr} (h : Own g F H v d A) (f : d.flat = true) (k : ∀ p, p ∈ A → F' p = none) : Own g F' H v d A := by
  cases h with
  | frz r q =>
    have sc : d.sc = true := by
      cases d with
      | lst o xs => cases o with
        | none => cases f
        | some t => cases r
      | _ => exact f
    exact .frz r (q.sc sc F')
  | @lst p vs ds A0 h1 h2 h3 h4 =>
    have f : allSc ds = true := f
    refine .lst h1 (k _ List.mem_cons_self) ?_ h4
    have go : ∀ {vs : List V} {ds : List D} {A : List Addr}, OwnL g F H vs ds A → allSc ds = true → (∀ p, p ∈ A → F' p = none) → OwnL g F' H vs ds A := by
      intro vs ds A o
      induction ds generalizing vs A with
      | nil => intro _ _; cases o; exact .nil
      | cons d ds ih =>
        intro sc kk
        cases o with
        | cons a b c =>
          have s' := Bool.and_eq_true_iff.mp (show (_ && _) = true from sc)
          obtain ⟨ra, e0⟩ := a.rf_nil (D.rf_of_sc s'.1)
          subst e0
          exact .cons (.frz (D.rf_of_sc s'.1) (ra.sc s'.1 F')) (ih b s'.2 fun p hp => kk p (List.mem_append_right _ hp)) c
    exact go h3 f fun p hp => k p (List.mem_cons_of_mem _ hp)
  | obj => cases f
  | dic => cases f
  | dct => cases f
theorem RpL.toH {g : G} {F H : Hp} (s : Same F H) {vs : List V} {ds : List D} (h : RpL g F vs ds) : RpL g H vs ds := RpL.mono s h
theorem methP_call {g : G} {F H : Hp} {gr : Bool} {v : V} {x : D} {ws : List V} {ds : List D} {fn : List D → R D} {n : Nat} {σ : L2.St} {Q : VK} {W : Wx} (sF : Same F H) (ox : Op gr g F H v x) (r : RpL g F ws ds) (f : allRf ds = true) (hn : ds.length + 1 = n)
    (hq : outE true g W F H σ Q (fnMethP C m gr fn x ds)) : toSp0 g n fn (v :: ws) H Q (fun cls d H => W.w cls d σ H) := by
  obtain ⟨o, ns, vs, hx, hno⟩ := nx_methP_obj (C := C) (m := m) (gr := gr) (fn := fn) (x := x) (ds := ds) fun z => by rw [z] at hq; exact hq
  have rv : Rp g H v x := Op.rp sF ox
  cases gr with
  | true =>
    have rx : Rp g F v x := ox
    refine ⟨by rw [List.length_cons, r.length]; exact hn, F, x.fr :: ds, sF, .cons rx.fr r, by rw [allRf_cons, D.rf_fr, f]; rfl, ?_⟩
    subst hx
    unfold fnMethP at hq
    simp only [hno, and_self, if_true] at hq
    cases hz : fn ((D.obj o C ns vs).fr :: ds) with
    | bad => rw [hz] at hq; exact hq
    | ex e => rw [hz] at hq; simp only [true_or, if_true] at hq; exact hq
    | ok z => rw [hz] at hq; simp only [true_or, if_true] at hq; exact hq
  | false =>
    refine ⟨by rw [List.length_cons, r.length]; exact hn, H, x.fr :: ds, Same.refl H, .cons rv.fr (r.toH sF), by rw [allRf_cons, D.rf_fr, f]; rfl, ?_⟩
    subst hx
    unfold fnMethP at hq
    simp only [hno, and_self, if_true] at hq
    have toF : ∀ {F' H' : Hp}, StepP H H F' H' → StepP F H (fun q => match H q with | some _ => F q | none => F' q) H' := fun {F' H'} s => by
      refine ⟨fun q o hq => ?_, fun q o hq => ?_, s.hh, fun q o hq => ?_⟩
      · show (match H q with | some _ => F q | none => F' q) = some o
        rw [sF q o hq]; exact hq
      · have hq : (match H q with | some _ => F q | none => F' q) = some o := hq
        cases hh : H q with
        | none => rw [hh] at hq; exact s.fh q o hq
        | some y => rw [hh] at hq; exact s.hh q o (sF q o hq)
      · show (match H q with | some _ => F q | none => F' q) = F q
        rw [hq]
    cases hz : fn ((D.obj o C ns vs).fr :: ds) with
    | bad => rw [hz] at hq; exact hq
    | ex e =>
      rw [hz] at hq
      simp only [Bool.false_eq_true, false_or] at hq
      split at hq
      · rename_i he
        intro cls dd H' F' s rx
        refine hq cls dd H' _ (toF s) ?_
        obtain ⟨ca, z1, z2, z3⟩ := rx
        rw [he] at z3
        exact ⟨ca, z1, z2, by rw [he]; exact z3⟩
      · exact hq.elim
    | ok z =>
      rw [hz] at hq
      simp only [Bool.false_eq_true, false_or] at hq
      split at hq
      · rename_i hf
        intro v' H' F' s rr
        obtain ⟨A, ow, fr⟩ := rr
        exact hq v' H' _ (toF s) ⟨A, ow.flat hf fun p hp => by
          show (match H p with | some _ => F p | none => F' p) = none
          rw [fr p hp]
          exact (ow.mem p hp).1, fr⟩
      · exact hq.elim
theorem de_methP {fn : List D → R D} {pl : Sem Bool} (Fn : DefP X.prog X.w X.K X.mg C m k ps fn) (hnm : nmS m = nm) (hr : Room k X.A) (hx : W.ex = none) (tk : L2N.Takes X W.w) (ho : DE gr X W o fa) (ha : DA true X W (e :: es) fs) (hrf : RfA fs) (hda : ∀ ρ ds, fs ρ = .ok ds → ds.length = (e :: es).length) (hn : (e :: es).length + 1 = ps.length)
    (hst : starEach (e :: es) X.env = (false, eval e X.env) :: starEach es X.env := by rfl) (hpl : (backTo pos (starEach es X.env)).any (·.1) = false := by rfl)
    (ht : eval (.Call (.Attribute o nm apos) (e :: es) [] pos) X.env = (do
      let ov ← eval o X.env
      standAt apos.atName
      let (f, first) ← holding [ov] (getMethod ov nm pl)
      callWith pos f first (backTo pos (starEach (e :: es) X.env)) (backToKw pos (keywordEach [] X.env))) := by rfl) : DE true X W (.Call (.Attribute o nm apos) (e :: es) [] pos) (dMethP C m gr fn fa fs) := by
  subst hnm
  have eg : gx X W = ⟨X.K, X.mg, none⟩ := by show (⟨X.K, X.mg, W.ex⟩ : G) = _; rw [hx]
  obtain ⟨ca, f, fd, h1, h2, h3, h4, h5⟩ := Fn
  refine pe_imp (pe_methX (pl := pl) ho h2 h3 (h5 X.base) hr (binds_of h4) (fun σ => L2N.passAt tk σ) ha hst hpl ht) fun σ H Q => fun ⟨τ, B, F, ρ, RR, q⟩ => ?_
  refine ⟨τ, B, F, ρ, RR, ?_⟩
  unfold dMethP at q
  cases hf : fa ρ with
  | bad => rw [hf] at q; exact q
  | ex x => rw [hf] at q; exact q
  | ok x =>
    rw [hf, R.bind_ok] at q
    intro v H1 F1 s1 r1
    obtain ⟨F2, s2, ox⟩ := ResG.op s1 r1
    have q := q.step s2
    have R2 := RR.stepP s2
    split at q
    · rename_i hok
      obtain ⟨o', ns, vs, hx', hno⟩ := okObj_obj hok
      have ox' := ox
      rw [hx'] at ox'
      obtain ⟨a, ca', dx, fs', rfl, k1, k2, k3, _⟩ := Op.obj s2.fh ox'
      have : ca' = ca := by
        have := k2.symm.trans h1
        cases this; rfl
      subst this
      refine ⟨a, dx, fs', rfl, k1, lookup_no k3 hno, τ, B, F2, ρ, R2, ?_⟩
      cases hfs : fs ρ with
      | bad => rw [hfs] at q; exact q.elim
      | ex w => rw [hfs] at q; exact q
      | ok ds =>
        rw [hfs, R.bind_ok] at q
        intro ws H3 F3 s3 r3
        have q := q.step s3
        rw [eg] at q ox r3
        exact methP_call s3.fh (ox.step s3) r3 (hrf ρ ds hfs) (by rw [hda ρ ds hfs]; exact hn) q
    · exact q.elim
theorem de_methP0 {fn : List D → R D} {pl : Sem Bool} (Fn : DefP X.prog X.w X.K X.mg C m k ps fn) (hnm : nmS m = nm) (hr : Room k X.A) (hx : W.ex = none) (tk : L2N.Takes X W.w) (ho : DE gr X W o fa) (hn : 1 = ps.length)
    (ht : eval (.Call (.Attribute o nm apos) [] [] pos) X.env = (do
      let ov ← eval o X.env
      standAt apos.atName
      let (f, first) ← holding [ov] (getMethod ov nm pl)
      callWith pos f first (backTo pos (starEach [] X.env)) (backToKw pos (keywordEach [] X.env))) := by rfl) : DE true X W (.Call (.Attribute o nm apos) [] [] pos) (dMethP C m gr fn fa dNil) := by
  subst hnm
  have eg : gx X W = ⟨X.K, X.mg, none⟩ := by show (⟨X.K, X.mg, W.ex⟩ : G) = _; rw [hx]
  obtain ⟨ca, f, fd, h1, h2, h3, h4, h5⟩ := Fn
  refine pe_imp (pe_methX0 (pl := pl) ho h2 h3 (h5 X.base) hr (binds_of h4) (fun σ => L2N.passAt tk σ) ht) fun σ H Q => fun ⟨τ, B, F, ρ, RR, q⟩ => ?_
  refine ⟨τ, B, F, ρ, RR, ?_⟩
  unfold dMethP at q
  cases hf : fa ρ with
  | bad => rw [hf] at q; exact q
  | ex x => rw [hf] at q; exact q
  | ok x =>
    rw [hf, R.bind_ok] at q
    intro v H1 F1 s1 r1
    obtain ⟨F2, s2, ox⟩ := ResG.op s1 r1
    have q := q.step s2
    split at q
    · rename_i hok
      obtain ⟨o', ns, vs, hx', hno⟩ := okObj_obj hok
      have ox' := ox
      rw [hx'] at ox'
      obtain ⟨a, ca', dx, fs', rfl, k1, k2, k3, _⟩ := Op.obj s2.fh ox'
      have : ca' = ca := by
        have := k2.symm.trans h1
        cases this; rfl
      subst this
      refine ⟨a, dx, fs', rfl, k1, lookup_no k3 hno, ?_⟩
      rw [eg] at q ox
      exact methP_call (ds := []) s2.fh ox .nil rfl hn q
    · exact q.elim
/-- o.f, a property -/
def dProp (C f : String) (gr : Bool) (fn : List D → R D) (fa : Env → R D) : Env → R D := fun ρ => (fa ρ).bind fun x => match fnMethP C f gr fn (x.op gr) [] with
  | .ok r => .ok r
  | _ => .bad
@[simp] theorem ev_prop (gr : Bool) (fn : List D → R D) (ρ : Env) : dProp C m gr fn fa ρ = (fa ρ).bind fun x => match fnMethP C m gr fn (x.op gr) [] with | .ok r => .ok r | _ => .bad := rfl
theorem de_prop {fn : List D → R D} (Fn : DefPr X.prog X.w X.K X.mg C m k fn) (hnm : nmS m = nm) (hr : Room (k + 1) X.A) (hx : W.ex = none) (ho : DE gr X W o fa) (hab : attributeBase o nm X.env (eval o X.env) = eval o X.env := by rfl) : DE true X W (.Attribute o nm pos) (dProp C m gr fn fa) := by
  subst hnm
  have eg : gx X W = ⟨X.K, X.mg, none⟩ := by show (⟨X.K, X.mg, W.ex⟩ : G) = _; rw [hx]
  obtain ⟨ca, p, g, fd, h1, h2, h3, h4, h5⟩ := Fn
  refine pe_imp (pe_prop ho h2 h3 (h5 X.base) hr (binds_of (ps := ["self"]) h4) .nil (passLN (X := X.nox)) hab) fun σ H Q => fun ⟨τ, B, F, ρ, RR, q⟩ => ?_
  refine ⟨τ, B, F, ρ, RR, ?_⟩
  unfold dProp at q
  cases hf : fa ρ with
  | bad => rw [hf] at q; exact q
  | ex x => rw [hf] at q; exact q
  | ok x =>
    rw [hf, R.bind_ok] at q
    intro v H1 F1 s1 r1
    obtain ⟨F2, s2, ox⟩ := ResG.op s1 r1
    have q := q.step s2
    cases hz : fnMethP C m gr fn (x.op gr) [] with
    | bad => rw [hz] at q; exact q.elim
    | ex w => rw [hz] at q; exact q.elim
    | ok z =>
      rw [hz] at q
      obtain ⟨o', ns, vs, hx', hno⟩ := nx_methP_obj (C := C) (m := m) (gr := gr) (fn := fn) (x := x.op gr) (ds := []) (by rw [hz]; exact fun e => nomatch e)
      have ox' := ox
      rw [hx'] at ox'
      obtain ⟨a, ca', dx, fs', rfl, k1, k2, k3, _⟩ := Op.obj s2.fh ox'
      have : ca' = ca := by
        have := k2.symm.trans h1
        cases this; rfl
      subst this
      refine ⟨a, dx, fs', rfl, k1, ?_⟩
      rw [eg] at q ox
      exact methP_call (W := ⟨fun _ _ _ _ => False, none⟩) (σ := σ) (ds := []) s2.fh ox .nil rfl rfl (by rw [hz]; exact q)
end
end Dt

set_option Elab.async false
set_option linter.all false
set_option maxRecDepth 100000
set_option maxHeartbeats 2000000
/-! Dat: the classes' facts, told one by one; o.f += a list; pop. -/
namespace Dt
open PySem PySem.Spec PyProof.Rows L2
theorem ObT.of {K : PySem.W.Frag} {mg : Str → Option Value} {L : Obs} (T : List (String × List String × Addr)) (hL : L = T.map fun p => (p.1, p.2.1))
    (h : AllP (fun p => mg (nmS p.1) = some (.ref p.2.2) ∧ Cls K p.2.2 ∧ AllP (fun f => PySem.W.findIn K (.ref p.2.2) (nmS f) = some none) p.2.1) T) : ObT K mg L := by
  refine ⟨fun C fs hl => ?_⟩
  subst hL
  have key : ∀ (T : List (String × List String × Addr)), AllP (fun p => mg (nmS p.1) = some (.ref p.2.2) ∧ Cls K p.2.2 ∧ AllP (fun f => PySem.W.findIn K (.ref p.2.2) (nmS f) = some none) p.2.1) T → (T.map fun p => (p.1, p.2.1)).lookup C = some fs → ClsT K mg C fs := by
    intro T
    induction T with
    | nil => intro _ hl; cases hl
    | cons p T ih =>
      intro h hl
      rw [List.map_cons, List.lookup_cons] at hl
      by_cases e : C = p.1
      · subst e
        rw [beq_self_eq_true] at hl
        cases hl
        exact ⟨p.2.2, h.1.1, h.1.2.1, fun f hf => AllP.get h.1.2.2 f (by simpa using hf)⟩
      · rw [show (C == p.1) = false from beq_eq_false_iff_ne.mpr e] at hl
        exact ih h.2 hl
  exact key T h hl
theorem putF_same {f : Str} {v : V} : ∀ {fs : List (Str × V)}, fs.lookup f = some v → putF f v fs = fs
  | [], h => by cases h
  | (k, w) :: fs, h => by
    rw [List.lookup_cons] at h
    unfold putF
    by_cases e : k = f
    · subst e
      rw [beq_self_eq_true] at h
      cases h
      rw [if_pos rfl]
    · rw [show (f == k) = false from beq_eq_false_iff_ne.mpr fun z => e z.symm] at h
      rw [if_neg e, putF_same h]
theorem upd_id {H : Hp} {a : Addr} {o : HO} (h : H a = some o) : L2.upd H a o = H := by
  funext q
  by_cases e : q = a
  · rw [e, upd_same, h]
  · rw [upd_ne e]
section
variable {X : Cx} {W : Wx} {gr g1 g2 g3 : Bool} {a b e o : Expr} {es : List Expr} {pos apos : Pos} {fa fb fe : Env → R D} {fp : Env → R Pl} {fs : Env → R (List D)} {L : Obs} {f : String} {nm : Str}
/-- o.f += e: the field's list grows -/
def dFldExt (L : Obs) (f : String) (g3 : Bool) (fp : Env → R Pl) (fe : Env → R D) : DTS := fun ρ => Out.ofP (fp ρ) ρ fun p => match getP ρ p with
  | some (.obj (some _) C ns vs) => if obOk L C f = true ∧ ns.length < 900 then (match fIdx ns f with
    | some n => match vs[n]? with
      | some (.lst (some t) xs) => Out.of (fe ρ) ρ fun y => (match y.op g3 with
        | .lst _ ys => if ck g3 ys = true ∧ xs.length + ys.length ≤ 16777216 then .nx (putP ρ (p.1, p.2 ++ [n]) (.lst (some t) (xs ++ ys))) else .bad
        | _ => .bad)
      | _ => .bad
    | none => .bad) else .bad
  | _ => .bad
theorem D.at_snoc2 : ∀ {π : List Nat} {d e k : D} {n : Nat}, d.at π = some e → e.rf = false → e.kids[n]? = some k → d.at (π ++ [n]) = some k := at_snoc
theorem ds_fldExt {tpos : Pos} (T : ObT X.K X.mg L) (hf : nmS f = nm) (hp : DPl X W a fp) (he : DE g3 X W e fe) : DS X W (.AugAssign (.Attribute a nm tpos) .Add e pos) (dFldExt L f g3 fp fe) := by
  subst hf
  refine ps_imp (ps_fldaug hp he iop_extS) fun E σ H => fun ⟨τ, B, F, ρ, R, q⟩ => ?_
  unfold dFldExt at q
  refine ⟨τ, B, F, ρ, R, ?_⟩
  cases hf : fp ρ with
  | bad => rw [hf] at q; exact q
  | ex x => rw [hf] at q; exact fun cls dd H' F' s r => q cls dd σ H H' F' (s.toI R.bh) (R.stepP s) r
  | ok p =>
    rw [hf, Out.ofP_ok] at q
    intro u H1 F1 s1 l1
    have R1 := R.stepP s1
    have q := outS.step (s1.toI R.bh) q
    split at q
    · rename_i t0 C ns vs hg
      split at q
      · rename_i hc
        obtain ⟨hob, hsz⟩ := hc
        split at q
        · rename_i n hn
          split at q
          · rename_i t xs hd
            obtain ⟨A1, ow⟩ := R1.there l1 hg
            obtain ⟨d, v0, h1, h2, h3, h4⟩ := getP_of l1 hg
            cases (show Own (gx X W) F1 H1 u (.obj (some 0) C ns vs) A1 from ow) with
            | frz r _ => cases r
            | @obj a ca dx _ fs _ _ A0 k1 k2 k3 k4 k5 k6 k7 k8 k9 k10 =>
              obtain ⟨ca', t1, t2, t3⟩ := T.get hob
              have : ca' = ca := by
                have := t1.symm.trans k5
                cases this; rfl
              subst this
              obtain ⟨w, z1, z2⟩ := lookup_idx k6 hn
              have len : fs.length < 1000 := by
                have := RpL.len (g := gx X W) (F := F) k6
                omega
              have l2 : Loc H1 σ ρ (p.1, p.2 ++ [n]) w := ⟨d, .lst (some t) xs, v0, h1, h2, at_snoc h3 rfl hd, loc_snoc h4 h3 (.inr (.inl ⟨_, _, _, k1, rfl⟩)) z1 hd⟩
              have g2 : getP ρ (p.1, p.2 ++ [n]) = some (.lst (some t) xs) := by
                unfold getP
                rw [h1]
                exact at_snoc h3 rfl hd
              obtain ⟨l, ws, A2, rfl, m1, m2, m3, m4, up⟩ := R1.mutL l2 g2
              refine ⟨a, ca', dx, fs, .ref l, rfl, k1, t2, t3, z2, τ, B, F1, ρ, R1, ?_⟩
              cases hfe : fe ρ with
              | bad => rw [hfe] at q; exact q
              | ex w => rw [hfe] at q; exact fun cls dd H' F' s r => q cls dd σ H1 H' F' (s.toI R1.bh) (R1.stepP s) r
              | ok y =>
                rw [hfe, Out.of_ok] at q
                intro w H2 F2 s2 r2
                obtain ⟨F3, s3, oy⟩ := ResG.op s2 r2
                have q := outS.step (s3.toI R1.bh) q
                cases hy : y.op g3 with
                | lst o ys =>
                  rw [hy] at q oy
                  simp only at q
                  split at q
                  · rename_i c
                    obtain ⟨b, vs2, rfl, hs, hl, _, kk⟩ := oy.lst s3.fh
                    obtain ⟨rr, ff⟩ := kk c.1
                    obtain ⟨A', o1, h3'⟩ := (m2.stepP s3).append (rr.own (H := H2) ff) fun _ _ z => nomatch z
                    have hA : ∀ z, z ∈ A' → z ∈ A2 := fun z hz => (h3' z hz).elim id fun y => nomatch y
                    obtain ⟨R3, s4⟩ := up F3 H2 (ws ++ vs2) (xs ++ ys) A' s3 o1 (fun z => m3 (hA l z)) fun z hz => .inl (hA z hz)
                    refine ⟨l, b, ws, vs2, rfl, rfl, s3.hh _ _ m1, hs, by rw [m2.length, hl, sizeLine_eq]; exact c.2, dx, fs, ?_, len, ?_⟩
                    · rw [upd_ne fun z => by rw [z, m1] at k1; cases k1]
                      exact s3.hh _ _ k1
                    · rw [putF_same z2, upd_id (by
                        rw [upd_ne fun z => by rw [z, m1] at k1; cases k1]
                        exact s3.hh _ _ k1)]
                      exact q σ _ F3 ⟨Same.refl F3, R3.fh, R3.bh, fun _ _ _ => rfl⟩ R3
                  · exact q.elim
                | _ => rw [hy] at q; exact q.elim
          · exact q.elim
        · exact q.elim
      · exact q.elim
    · exact q.elim
/-! ### xs.pop() -/
theorem OwnL.last {g : G} {F H : Hp} : ∀ {ds : List D} {vs : List V} {A : List Addr} {d : D}, OwnL g F H vs ds A → ds[ds.length - 1]? = some d → ∃ v A' Ak, vs[vs.length - 1]? = some v ∧ OwnL g F H vs.dropLast ds.dropLast A' ∧ Own g F H v d Ak ∧ (∀ q, q ∈ Ak → q ∉ A') ∧ (∀ q, q ∈ A' → q ∈ A) ∧ ∀ q, q ∈ Ak → q ∈ A
  | [], vs, A, d, h, e => by simp at e
  | [x], vs, A, d, h, e => by
    simp at e
    subst e
    cases h with
    | @cons v _ ws _ A1 B1 a b c =>
      cases b
      exact ⟨v, [], A1, rfl, .nil, a, (fun _ _ z => (nomatch z)), (fun _ z => (nomatch z)), fun q hq => List.mem_append_left _ hq⟩
  | x :: y :: ds, vs, A, d, h, e => by
    cases h with
    | @cons v _ ws _ A1 B1 a b c =>
      obtain ⟨w, A', Ak, h1, h2, h3, h4, h5, h6⟩ := OwnL.last b (d := d) (by simpa using e)
      have hl := b.length
      cases ws with
      | nil => cases hl
      | cons w0 ws =>
        refine ⟨w, A1 ++ A', Ak, by simpa using h1, .cons a h2 fun q hq hb => c q hq (h5 q hb), h3, fun q hq hb => ?_, fun q hq => ?_, fun q hq => List.mem_append_right _ (h6 q hq)⟩
        · rcases List.mem_append.mp hb with z | z
          · exact c q z (h6 q hq)
          · exact h4 q hq z
        · rcases List.mem_append.mp hq with z | z
          · exact List.mem_append_left _ z
          · exact List.mem_append_right _ (h5 q z)
def dPop (fp : Env → R Pl) : DTM := fun ρ => match fp ρ with
  | .ok p => (match getP ρ p with
    | some (.lst (some t) xs) => (match xs[xs.length - 1]? with
      | some d => .ok d (putP ρ p (.lst (some t) xs.dropLast))
      | none => .bad)
    | _ => .bad)
  | .ex x => .ex x ρ
  | .bad => .bad
theorem dm_pop (hp : DPl X W o fp) (hbase : attributeBase o "pop" X.env (eval o X.env) = eval o X.env := by rfl) (hline : (apos.endLine == pos.line) = true := by rfl) : DM X W (.Call (.Attribute o "pop" apos) [] [] pos) (dPop fp) :=
  pe_imp (pe_bm0 PySem.F.plainAttrs_list PySem.F.slot_list_pop PySem.F.type_list_pop mt_pop hp hbase hline) fun σ H Q => fun ⟨τ, B, F, ρ, R, q⟩ => by
  refine ⟨τ, B, F, ρ, R, ?_⟩
  unfold dPop at q
  cases hf : fp ρ with
  | bad => rw [hf] at q; exact q
  | ex x => rw [hf] at q; exact fun cls dd H' F' s r => q cls dd H H' F' (s.toI R.bh) (R.stepP s) r
  | ok p =>
    rw [hf] at q
    simp only at q
    intro u H1 F1 s1 l1
    have R1 := R.stepP s1
    have q := outM.step (s1.toI R.bh) q
    split at q
    · rename_i t xs hg
      split at q
      · rename_i d hd
        obtain ⟨A1, o1, b1, up, _⟩ := R1.callM l1 hg
        cases (show Own (gx X W) F1 H1 u (.lst (some 0) xs) A1 from o1) with
        | frz r _ => cases r
        | @lst l vs _ A0 k1 k2 k3 k4 =>
          obtain ⟨v, A', Ak, h1, h2, h3, h4, h5, h6⟩ := k3.last hd
          refine ⟨.inl ⟨rfl, _, SqL.of k1⟩, l, vs, v, rfl, rfl, k1, h1, ?_⟩
          have na : l ∉ A' := fun z => k4 (h5 l z)
          have nk : l ∉ Ak := fun z => k4 (h6 l z)
          have sm : StepM (l :: A0) F1 H1 F1 (L2.upd H1 l (.lst vs.dropLast)) := ⟨Same.refl F1, fun q x hx => by
            rw [upd_ne fun z => by rw [z, k2] at hx; cases hx]
            exact s1.fh q x hx, fun q x hx hq => by
            rw [upd_ne fun z => hq (by rw [z]; exact List.mem_cons_self)]
            exact hx, fun _ _ _ _ => rfl⟩
          obtain ⟨H'', si, E', sp, rg⟩ := up v _ F1 (l :: A') Ak d (.lst (some 0) xs.dropLast) sm (.lst upd_same k2 (h2.mono' fun q hq => upd_ne fun z => na (by rw [← z]; exact hq)) na) rfl (fun q hq => .inl (by
            rcases List.mem_cons.mp hq with z | z
            · rw [z]; exact List.mem_cons_self
            · exact List.mem_cons_of_mem _ (h5 q z))) (h3.keep (Same.refl F1) fun q hq => ⟨(h3.mem q hq).1, upd_ne fun z => nk (by rw [← z]; exact hq)⟩) fun q hq => ⟨.inl (List.mem_cons_of_mem _ (h6 q hq)), fun z => by
              rcases List.mem_cons.mp z with y | y
              · exact nk (by rw [← y]; exact hq)
              · exact h4 q hq y⟩
          exact q v _ F1 H'' si E' sp rg
      · exact q.elim
    · exact q.elim
end
end Dt

set_option Elab.async false
set_option linter.all false
set_option maxRecDepth 100000
set_option maxHeartbeats 2000000
/-! Dat: plain rewriting rules for instances, places, methods. -/
namespace Dt
open PySem PySem.Spec PyProof.Rows L2
section
variable {ρ : Env} {n t : Nat} {d e : D} {xs vs : List D} {o : Option Nat} {C f m : String} {ns : List String} {L : Obs} {fa fe : Env → R D} {fp : Env → R Pl} {fs : Env → R (List D)} {gr g3 : Bool}
@[simp] theorem fIdx_nil : fIdx [] f = none := rfl
@[simp] theorem fIdx_cons (a : String) : fIdx (a :: ns) f = if a = f then some 0 else (fIdx ns f).map (· + 1) := rfl
@[simp] theorem fldD_obj : fldD L f (.obj o C ns vs) = if obOk L C f = true then (match fIdx ns f with
    | some n => match vs[n]? with
      | some d => if d.rf = true then .ok d else .bad
      | none => .bad
    | none => .bad) else .bad := rfl
@[simp] theorem fldB_obj : fldB L f (.obj o C ns vs) = if obOk L C f = true then (match fIdx ns f with
    | some n => match vs[n]? with
      | some d => if o.isSome = true ∨ d.rf = true then .ok d else .bad
      | none => .bad
    | none => .bad) else .bad := rfl
@[simp] theorem rf_obj : (D.obj none C ns vs).rf = true := rfl
@[simp] theorem rf_obj2 : (D.obj (some t) C ns vs).rf = false := rfl
@[simp] theorem tg_obj : (D.obj (some t) C ns vs).tg = t := rfl
@[simp] theorem tag_obj (k : Nat) : (D.obj (some t) C ns vs).tag k = .obj (some k) C ns vs := rfl
@[simp] theorem un_obj : (D.obj (some t) C ns vs).un = .obj (some 0) C ns vs := rfl
@[simp] theorem tag_lst2 (k : Nat) : (D.lst (some t) vs).tag k = .lst (some k) vs := rfl
@[simp] theorem fr_obj : (D.obj none C ns vs).fr = .obj none C ns vs := rfl
@[simp] theorem fr_obj2 : (D.obj (some t) C ns vs).fr = .obj none C ns (D.frzL vs) := rfl
@[simp] theorem frz_obj : (D.obj o C ns vs).frz = .obj none C ns (D.frzL vs) := rfl
@[simp] theorem flat_int (i : Int) : (D.int i).flat = true := rfl
@[simp] theorem flat_bl (i : Bool) : (D.bl i).flat = true := rfl
@[simp] theorem flat_non : D.non.flat = true := rfl
@[simp] theorem flat_str (i : Str) : (D.str i).flat = true := rfl
@[simp] theorem flat_lst : (D.lst (some t) vs).flat = allSc vs := rfl
@[simp] theorem ev_pname : pName n ρ = match ρ[n]? with | some (some _) => .ok (n, []) | _ => .bad := rfl
@[simp] theorem getP_mk (π : List Nat) : getP ρ (n, π) = match ρ[n]? with | some (some d) => d.at π | _ => none := rfl
@[simp] theorem putP_mk (π : List Nat) : putP ρ (n, π) e = match ρ[n]? with | some (some d) => ρ.set n (some (d.put e π)) | _ => ρ := rfl
@[simp] theorem at_nil : d.at [] = some d := rfl
@[simp] theorem at_obj (k : Nat) (π : List Nat) : (D.obj (some t) C ns vs).at (k :: π) = match vs[k]? with | some x => x.at π | none => none := rfl
@[simp] theorem at_lst (k : Nat) (π : List Nat) : (D.lst (some t) vs).at (k :: π) = match vs[k]? with | some x => x.at π | none => none := rfl
@[simp] theorem put_nil : d.put e [] = e := rfl
@[simp] theorem put_obj (k : Nat) (π : List Nat) : (D.obj o C ns vs).put e (k :: π) = match vs[k]? with | some x => .obj o C ns (vs.set k (x.put e π)) | none => .obj o C ns vs := by
  show (match vs[k]? with | some x => _ | none => _) = _
  cases vs[k]? <;> rfl
@[simp] theorem put_lst (k : Nat) (π : List Nat) : (D.lst o vs).put e (k :: π) = match vs[k]? with | some x => .lst o (vs.set k (x.put e π)) | none => .lst o vs := by
  show (match vs[k]? with | some x => _ | none => _) = _
  cases vs[k]? <;> rfl
@[simp] theorem ev_pfld : pFld L f fp ρ = (fp ρ).bind fun p => stepFld L f ρ p := rfl
theorem stepFld_def (p : Pl) : stepFld L f ρ p = match getP ρ p with
  | some (.obj (some _) C ns vs) => if obOk L C f = true then (match fIdx ns f with
    | some n => if n < vs.length then .ok (p.1, p.2 ++ [n]) else .bad
    | none => .bad) else .bad
  | _ => .bad := rfl
@[simp] theorem stepFld_mk (π : List Nat) : stepFld L f ρ (n, π) = match getP ρ (n, π) with
  | some (.obj (some _) C ns vs) => if obOk L C f = true then (match fIdx ns f with
    | some k => if k < vs.length then .ok (n, π ++ [k]) else .bad
    | none => .bad) else .bad
  | _ => .bad := rfl
@[simp] theorem ofP_ex (x : XD) (k : Pl → Out) : Out.ofP (.ex x) ρ k = .xc x ρ := rfl
@[simp] theorem ofP_bad (k : Pl → Out) : Out.ofP .bad ρ k = .bad := rfl
@[simp] theorem ev_appFld : dAppend (pFld L f fp) fa ρ = Out.ofP (pFld L f fp ρ) ρ fun p => onLst ρ p fun t xs => Out.of (fa ρ) ρ fun d => if xs.length < 16777216 then .nx (putP ρ p (.lst (some t) (xs ++ [d]))) else .bad := rfl
@[simp] theorem onLst_mk (π : List Nat) (k : Nat → List D → Out) : onLst ρ (n, π) k = match getP ρ (n, π) with | some (.lst (some t) xs) => k t xs | _ => .bad := rfl
@[simp] theorem ev_fldSet : dFldSet L f fp fe ρ = Out.of (fe ρ) ρ fun d => Out.ofP (fp ρ) ρ fun p => putO L f ρ p d := rfl
@[simp] theorem putO_mk (π : List Nat) : putO L f ρ (n, π) d = match getP ρ (n, π) with
  | some (.obj (some t) C ns vs) => if obOk L C f = true ∧ ns.length < 900 ∧ vs.length = ns.length then (match fIdx ns f with
    | some k => .nx (putP ρ (n, π) (.obj (some t) C ns (vs.set k d)))
    | none => .nx (putP ρ (n, π) (.obj (some t) C (ns ++ [f]) (vs ++ [d])))) else .bad
  | _ => .bad := rfl
@[simp] theorem ev_fldAug (f2 : D → D → R D) : dFldAug L f g3 f2 fp fe ρ = Out.ofP (fp ρ) ρ fun p => match getP ρ p with
  | some (.obj (some t) C ns vs) => if obOk L C f = true ∧ ns.length < 900 then (match fIdx ns f with
    | some n => match vs[n]? with
      | some d => if d.rf = true then Out.of (fe ρ) ρ fun y => Out.of (f2 d (y.op g3)) ρ fun z => .nx (putP ρ p (.obj (some t) C ns (vs.set n z))) else .bad
      | none => .bad
    | none => .bad) else .bad
  | _ => .bad := rfl
@[simp] theorem ev_fldExt : dFldExt L f g3 fp fe ρ = Out.ofP (fp ρ) ρ fun p => match getP ρ p with
  | some (.obj (some _) C ns vs) => if obOk L C f = true ∧ ns.length < 900 then (match fIdx ns f with
    | some n => match vs[n]? with
      | some (.lst (some t) xs) => Out.of (fe ρ) ρ fun y => (match y.op g3 with
        | .lst _ ys => if ck g3 ys = true ∧ xs.length + ys.length ≤ 16777216 then .nx (putP ρ (p.1, p.2 ++ [n]) (.lst (some t) (xs ++ ys))) else .bad
        | _ => .bad)
      | _ => .bad
    | none => .bad) else .bad
  | _ => .bad := rfl
@[simp] theorem ev_runM (N : Nat) (t : DTS) (ds : List D) : runM N t (d :: ds) = if d.rf = true then .bad else finM (t (some (d.tag 1) :: (ds.map some ++ List.replicate (N - (ds.length + 1)) none))) := by
  cases h : d.rf with
  | true => show (if d.rf = true then _ else _) = _; rw [h]; rfl
  | false => rw [runM_eq h]; simp
@[simp] theorem finM_rt (r : D) : finM (.rt r ρ) = retM r ρ := rfl
@[simp] theorem finM_nx : finM (.nx ρ) = retM .non ρ := rfl
@[simp] theorem finM_xc (x : XD) : finM (.xc x ρ) = .ex x := rfl
@[simp] theorem retM_mk (r x : D) (ρ : Env) : retM r (some x :: ρ) = if x.tg = 1 ∧ r.tg = 0 then .ok (r, x.un) else .bad := rfl
@[simp] theorem tg_non : D.non.tg = 0 := rfl
@[simp] theorem tg_bl (b : Bool) : (D.bl b).tg = 0 := rfl
@[simp] theorem tg_str (b : Str) : (D.str b).tg = 0 := rfl
@[simp] theorem tg_tupD : (D.tup vs).tg = 0 := rfl
@[simp] theorem fnMake_def (fi : List D → R (D × D)) (ds : List D) : fnMake C fi ds = (fi (.obj (some 0) C [] [] :: ds)).bind fun p => match p.1 with | .non => .ok p.2.un | _ => .bad := rfl
@[simp] theorem fnMethP_obj {C' : String} (fn : List D → R D) (ds : List D) : fnMethP C m gr fn (.obj o C' ns vs) ds = if C' = C ∧ fIdx ns m = none then (match fn ((D.obj o C' ns vs).fr :: ds) with
    | .ok r => if gr = true ∨ r.flat = true then .ok r else .bad
    | .ex e => if gr = true ∨ e.fs = none then .ex e else .bad
    | .bad => .bad) else .bad := rfl
@[simp] theorem okObj_mk {C' : String} : okObj C m (.obj o C' ns vs) = (decide (C' = C) && (fIdx ns m).isNone) := rfl
@[simp] theorem ev_doM (fm : DTM) : dDoM fm ρ = Out.ofM (fm ρ) fun _ ρ' => .nx ρ' := rfl
@[simp] theorem ev_setM (fm : DTM) : dSetM n fm ρ = Out.ofM (fm ρ) fun d ρ' => .nx (ρ'.set n (some d)) := rfl
@[simp] theorem ev_setMF (fm : DTM) : dSetMF n fm ρ = Out.ofM (fm ρ) fun d ρ' => .nx (ρ'.set n (some d.fr)) := rfl
@[simp] theorem ev_retM (fm : DTM) : dRetM fm ρ = Out.ofM (fm ρ) fun d ρ' => .rt d ρ' := rfl
@[simp] theorem ev_setGM (tg : Tg) (fm : DTM) : dSetGM tg fm ρ = Out.ofM (fm ρ) fun d ρ' => match tg d.fr ρ' with | some ρ2 => .nx ρ2 | none => .bad := rfl
@[simp] theorem ev_meth (fn : List D → R (D × D)) : dMeth C m fn fp fs ρ = match fp ρ with
  | .ok p => (match getP ρ p with
    | some (.obj (some t) C' ns vs) => if C' = C ∧ fIdx ns m = none then (match fs ρ with
      | .ok ds => (match fn (.obj (some 0) C' ns vs :: ds) with
        | .ok q => if q.2.rf = true then .bad else .ok q.1 (putP ρ p (q.2.tag t))
        | .ex x => .ex x (ρ.set p.1 none)
        | .bad => .bad)
      | .ex x => .ex x ρ
      | .bad => .bad) else .bad
    | _ => .bad)
  | .ex x => .ex x ρ
  | .bad => .bad := rfl
@[simp] theorem ev_pop : dPop fp ρ = match fp ρ with
  | .ok p => (match getP ρ p with
    | some (.lst (some t) xs) => (match xs[xs.length - 1]? with
      | some d => .ok d (putP ρ p (.lst (some t) xs.dropLast))
      | none => .bad)
    | _ => .bad)
  | .ex x => .ex x ρ
  | .bad => .bad := rfl
end
/-! ### comprehensions, all, any, sum -/
theorem lc_map {α : Type} {tg : Tg} {fe : Env → R D} {ρ : Env} (mk f : α → D) (as : List α) (h : ∀ a ∈ as, ∃ ρ1, tg (mk a) ρ = some ρ1 ∧ fe ρ1 = .ok (f a)) (hl : as.length ≤ 16777216) : dLcL tg dYes fe ρ (as.map mk) [] = .ok (as.map f) := by
  have go : ∀ (as : List α) (acc : List D), (∀ a ∈ as, ∃ ρ1, tg (mk a) ρ = some ρ1 ∧ fe ρ1 = .ok (f a)) → acc.length + as.length ≤ 16777216 → dLcL tg dYes fe ρ (as.map mk) acc = .ok (acc ++ as.map f) := by
    intro as
    induction as with
    | nil => intro acc _ _; simp [dLcL]
    | cons a as ih =>
      intro acc h hl
      obtain ⟨ρ1, h1, h2⟩ := h a List.mem_cons_self
      rw [List.length_cons] at hl
      rw [List.map_cons, dLcL, h1]
      simp only [dYes, h2]
      rw [if_pos (by omega), ih _ (fun x hx => h x (List.mem_cons_of_mem _ hx)) (by simp; omega)]
      simp
  have := go as [] h (by simpa using hl)
  simpa using this
theorem lc_filter {α : Type} {tg : Tg} {ft : Env → R Bool} {fe : Env → R D} {ρ : Env} (mk f : α → D) (p : α → Bool) (as : List α) (h : ∀ a ∈ as, ∃ ρ1, tg (mk a) ρ = some ρ1 ∧ ft ρ1 = .ok (p a) ∧ (p a = true → fe ρ1 = .ok (f a))) (hl : as.length ≤ 16777216) : dLcL tg ft fe ρ (as.map mk) [] = .ok ((as.filter p).map f) := by
  have go : ∀ (as : List α) (acc : List D), (∀ a ∈ as, ∃ ρ1, tg (mk a) ρ = some ρ1 ∧ ft ρ1 = .ok (p a) ∧ (p a = true → fe ρ1 = .ok (f a))) → acc.length + as.length ≤ 16777216 → dLcL tg ft fe ρ (as.map mk) acc = .ok (acc ++ (as.filter p).map f) := by
    intro as
    induction as with
    | nil => intro acc _ _; simp [dLcL]
    | cons a as ih =>
      intro acc h hl
      obtain ⟨ρ1, h1, h2, h3⟩ := h a List.mem_cons_self
      rw [List.length_cons] at hl
      rw [List.map_cons, dLcL, h1]
      simp only [h2]
      cases hp : p a with
      | true =>
        simp only [h3 hp]
        rw [if_pos (by omega), ih _ (fun x hx => h x (List.mem_cons_of_mem _ hx)) (by simp; omega)]
        simp [hp]
      | false =>
        simp only
        rw [ih _ (fun x hx => h x (List.mem_cons_of_mem _ hx)) (by omega)]
        simp [hp]
  have := go as [] h (by simpa using hl)
  simpa using this
@[simp] theorem dBools_map {α : Type} (p : α → Bool) : ∀ as : List α, dBools (as.map fun a => D.bl (p a)) = some (as.map p)
  | [] => rfl
  | a :: as => by rw [List.map_cons, dBools, dBools_map p as]; rfl
@[simp] theorem dInts_map : ∀ ns : List Int, dInts (ns.map D.int) = some ns
  | [] => rfl
  | a :: as => by rw [List.map_cons, dInts, dInts_map as]; rfl
theorem nAll_map {α : Type} (o : Option Nat) (p : α → Bool) (as : List α) : nAll [.lst o (as.map fun a => D.bl (p a))] = .ok (.bl (as.all p)) := by
  unfold nAll
  simp only [dBools_map]
  congr 2
  induction as with
  | nil => rfl
  | cons a as ih => simp only [List.map_cons, List.all_cons, id]; rw [← ih]
theorem nAny_map {α : Type} (o : Option Nat) (p : α → Bool) (as : List α) : nAny [.lst o (as.map fun a => D.bl (p a))] = .ok (.bl (as.any p)) := by
  unfold nAny
  simp only [dBools_map]
  congr 2
  induction as with
  | nil => rfl
  | cons a as ih => simp only [List.map_cons, List.any_cons, id]; rw [← ih]
theorem nSum_ints (o : Option Nat) (ns : List Int) : nSum [.lst o (ns.map D.int)] = .ok (.int ns.sum) := by
  unfold nSum
  simp only [dInts_map]
@[simp] theorem frzL_bls {α : Type} (p : α → Bool) (as : List α) : D.frzL (as.map fun a => D.bl (p a)) = as.map fun a => D.bl (p a) := by
  rw [D.frzL_eq, List.map_map]; rfl
/-! ### range -/
theorem rg0 (n : Nat) : rangeD 0 n = (List.range n).map fun (j : Nat) => D.int ((j : Nat) : Int) := by
  unfold rangeD
  simp
theorem nr1 (n : Nat) (h : n ≤ 100000000) : nRange1 [.int (n : Int)] = .ok ((List.range n).map fun (j : Nat) => D.int ((j : Nat) : Int)) := by
  unfold nRange1
  simp only
  rw [if_pos (by omega)]
  rw [show ((n : Int)).toNat = n by omega, rg0]
theorem rgI (lo : Int) (n : Nat) : rangeD lo n = ((List.range n).map fun (j : Nat) => lo + (j : Int)).map D.int := by
  unfold rangeD
  rw [List.map_map]
  rfl
theorem nr2 (i j : Int) (hi : -100000000 ≤ i ∧ i ≤ 100000000) (hj : -100000000 ≤ j ∧ j ≤ 100000000) : nRange2 [.int i, .int j] = .ok (((List.range (j - i).toNat).map fun (k : Nat) => i + (k : Int)).map D.int) := by
  unfold nRange2
  simp only
  rw [if_pos (by omega), rgI]
@[simp] theorem ev_storeFld {L : Obs} {f : String} {fp : Env → R Pl} {fb fa : Env → R D} {ρ : Env} : dStore (pFld L f fp) fb fa ρ = Out.of (fa ρ) ρ fun d => Out.ofP (pFld L f fp ρ) ρ fun p => onLst ρ p fun t xs => Out.of (fb ρ) ρ fun j => match j with
  | .int k => match ixN xs.length k with
    | some n => .nx (putP ρ p (.lst (some t) (xs.set n d)))
    | none => .bad
  | _ => .bad := rfl
end Dt

set_option Elab.async false
set_option linter.all false
set_option maxRecDepth 100000
set_option maxHeartbeats 2000000
/-! Dat: calls of functions that change the list they are handed first. -/
namespace Dt
open PySem PySem.Spec PyProof.Rows L2
/-- the text has the function x, which does fn and may change its first argument -/
def DefC (P : Program) (w : World) (K : PySem.W.Frag) (mg : Str → Option Value) (x : Str) (k : Nat) (ps : List Str) (fn : List D → R (D × D)) : Prop :=
  ∃ f fd, mg x = some (.ref f) ∧ PySem.W.keepIn K (.ref f) = true ∧ (∀ (s : Shared) (us : List Value), us.length = ps.length → BindsTo s fd ⟨us, []⟩ (ps.zip us)) ∧
    ∀ base : Heap, FnOk P w K mg base (L2N.CX P w) k f fd ps (toSpM ⟨K, mg, none⟩ ps.length fn)
section
variable {X : Cx} {W : Wx} {gr g1 g2 g3 : Bool} {e : Expr} {es : List Expr} {pos p : Pos} {fp : Env → R Pl} {fs : Env → R (List D)} {x : Str} {k : Nat} {ps : List Str}
/-- f(xs, ..), which may change the list xs -/
def dCallC (fn : List D → R (D × D)) (fp : Env → R Pl) (fs : Env → R (List D)) : DTM := fun ρ => match fp ρ with
  | .ok p => (match getP ρ p with
    | some (.lst (some t) xs) => (match fs ρ with
      | .ok ds => (match fn (.lst (some 0) xs :: ds) with
        | .ok q => if q.2.rf = true then .bad else .ok q.1 (putP ρ p (q.2.tag t))
        | .ex x => .ex x (ρ.set p.1 none)
        | .bad => .bad)
      | .ex x => .ex x ρ
      | .bad => .bad)
    | _ => .bad)
  | .ex x => .ex x ρ
  | .bad => .bad
theorem dc_call {fn : List D → R (D × D)} {sp : Sp} (hsp : sp = toSpM ⟨X.K, X.mg, none⟩ ps.length fn) (hx : W.ex = none) (hrf : RfA fs) (hda : ∀ ρ ds, fs ρ = .ok ds → ds.length + 1 = ps.length) {σ : L2.St} {H : Hp} {Q : VK}
    (h : liftM (gx X W) W (dCallC fn fp fs) σ H Q) : tCallS sp (WE W.w) (tCons (liftP (gx X W) W fp) (liftA true (gx X W) W fs)) σ H Q := by
  subst hsp
  have eg : gx X W = ⟨X.K, X.mg, none⟩ := by show (⟨X.K, X.mg, W.ex⟩ : G) = _; rw [hx]
  obtain ⟨τ, B, F, ρ, R, q⟩ := h
  refine ⟨τ, B, F, ρ, R, ?_⟩
  unfold dCallC at q
  cases hf : fp ρ with
  | bad => rw [hf] at q; exact q
  | ex x => rw [hf] at q; exact fun cls dd H' F' s r => q cls dd H H' F' (s.toI R.bh) (R.stepP s) r
  | ok p =>
    rw [hf] at q
    simp only at q
    intro u H1 F1 s1 l1
    have R1 := R.stepP s1
    split at q
    · rename_i t xs hg
      have q := q.step (s1.toI R.bh)
      refine ⟨τ, B, F1, ρ, R1, ?_⟩
      cases hfs : fs ρ with
      | bad => rw [hfs] at q; exact q
      | ex x => rw [hfs] at q; exact fun cls dd H' F' s r => q cls dd H1 H' F' (s.toI R1.bh) (R1.stepP s) r
      | ok ds =>
        rw [hfs] at q
        simp only at q
        intro ws H2 F2 s2 r2
        have R2 := R1.stepP s2
        have q := q.step (s2.toI R1.bh)
        obtain ⟨A2, o2, b2, up, dn⟩ := R2.callM (l1.mono s2.hh) hg
        have r2 : RpL (gx X W) F2 ws ds := r2
        have : ∃ a, u = .ref a := by
          cases (show Own (gx X W) F2 H2 u (.lst (some 0) xs) A2 from o2) with
          | frz r _ => cases r
          | lst => exact ⟨_, rfl⟩
        obtain ⟨a, rfl⟩ := this
        rw [eg] at r2 o2 up dn q
        refine ⟨by rw [List.length_cons, r2.length, hda ρ ds hfs], F2, a, ws, .lst (some 0) xs, ds, A2, rfl, s2.fh, rfl, o2, r2, hrf ρ ds hfs, ?_⟩
        cases hz : fn (.lst (some 0) xs :: ds) with
        | bad => rw [hz] at q; exact q.elim
        | ex x =>
          rw [hz] at q
          intro cls dd H3 H' F' sm rx
          obtain ⟨si, E'⟩ := dn H' F' sm
          exact q cls dd H3 H' F' si E' rx
        | ok z =>
          rw [hz] at q
          simp only at q
          split at q
          · exact q.elim
          · rename_i hr
            intro v H' F' A' Av sm oe er na ov nv
            obtain ⟨H'', si, E', sp, rg⟩ := up v H' F' A' Av z.1 z.2 sm oe er na ov nv
            exact q v H' F' H'' si E' sp rg
    · exact q.elim
theorem dm_callC {fn : List D → R (D × D)} (F : DefC X.prog X.w X.K X.mg x k ps fn) (hr : Room k X.A) (hx : W.ex = none) (hg : Gl X x) (tk : L2N.Takes X W.w) (hp : DPl X W e fp) (ha : DA true X W es fs) (hrf : RfA fs) (hda : ∀ ρ ds, fs ρ = .ok ds → ds.length = es.length) (hn : es.length + 1 = ps.length) (hdb : (x == ("__debug__" : Str)) = false := by decide)
    (he : starEach (e :: es) X.env = (false, eval e X.env) :: starEach es X.env := by rfl) (hpl : (backTo pos (starEach es X.env)).any (·.1) = false := by rfl) : DM X W (.Call (.Name x p) (e :: es) [] pos) (dCallC fn fp fs) := by
  obtain ⟨f, fd, hm, hk, hb, Fn⟩ := F
  exact pe_imp (pe_callS (Fn X.base) hr hg hm hk (fun s us _ hl => by
    rw [List.append_nil] at hl ⊢
    exact hb s us hl) (fun σ => L2N.passAt tk σ) (pa_cons hp ha he) hdb he hpl) fun σ H Q h => dc_call rfl hx hrf (fun ρ ds q => by rw [hda ρ ds q]; exact hn) h
end
end Dt

set_option Elab.async false
set_option linter.all false
set_option maxRecDepth 100000
set_option maxHeartbeats 2000000
/-! Dat: if on a comparison whose left side changes what is one's own. -/
namespace Dt
open PySem PySem.Spec PyProof.Rows L2
section
variable {X : Cx} {W : Wx} {gr g1 g2 g3 : Bool} {a b e : Expr} {pos pos2 : Pos} {fa fb fe : Env → R D} {fm : DTM} {ss us : List Stmt} {t u : DTS} {f2 : D → D → R D}
def ifC (g2 : Bool) (f2 : D → D → R D) (fb : Env → R D) (t u : DTS) (d : D) : DTS := fun ρ => match (fb ρ).bind fun y => f2 (d.op true) (y.op g2) with
  | .ok (.bl b) => if b then t ρ else u ρ
  | .ex x => .xc x ρ
  | _ => .bad
/-- if a op b, a changing what is one's own -/
def dIfC (g2 : Bool) (f2 : D → D → R D) (fm : DTM) (fb : Env → R D) (t u : DTS) : DTS := fun ρ => Out.ofM (fm ρ) fun d ρ' => ifC g2 f2 fb t u d ρ'
theorem ds_ifC {op : CmpOp} {r : R2} (h : OpR X (compareOp op) r) (ho : OpD (gx X W) true g2 r f2) (nx : ∀ x y w, f2 x y ≠ .ex w) (ha : DM X W a fm) (hb : DE g2 X W b fb) (hm : behindInMarks op b = false) (ht : DSs X W ss t) (hu : DSs X W us u) :
    DS X W (.If (.Compare a [op] [b] pos) ss us pos2) (dIfC g2 f2 fm fb t u) := ps_imp (ps_if (pt_cmpR h ha hb hm) ht hu) fun E σ H => fun ⟨τ, B, F, ρ, R, q⟩ => by
  refine liftM_of R q fun d ρ' v H' F' H'' _ s E' sp rd o => ?_
  obtain ⟨F2, s2, ox⟩ := rd.op sp
  have E2 := E'.stepP s2
  refine ⟨τ, B, F2, ρ', E2, ?_⟩
  have o := outS.step (s2.toI E'.bh) o
  unfold ifC at o
  cases hfb : fb ρ' with
  | bad => rw [hfb] at o; exact o
  | ex x => rw [hfb] at o; exact fun cls dd H3 F3 s3 rx => o cls dd σ H' H3 F3 (s3.toI E2.bh) (E2.stepP s3) rx
  | ok y =>
    rw [hfb, Dt.R.bind_ok] at o
    intro vy H3 F3 s3 ry
    obtain ⟨F4, s4, oy⟩ := ry.op s3
    refine ho F4 H3 v vy (d.op true) (y.op g2) _ s4.fh (ox.step s4) oy ?_
    have E4 := E2.stepP s4
    have o := outS.step (s4.toI E2.bh) o
    cases hz : f2 (d.op true) (y.op g2) with
    | bad => rw [hz] at o; exact o
    | ex w => exact absurd hz (nx _ _ w)
    | ok z =>
      rw [hz] at o
      cases z with
      | bl c =>
        intro v5 H5 F5 s5 r5
        have r' : Rp (gx X W) H5 v5 (.bl c) := by
          obtain ⟨A, oo, _⟩ := r5; exact oo.rp s5.fh
        cases r'
        refine ⟨c, rfl, ?_⟩
        have o := outS.step (s5.toI E4.bh) o
        cases c with
        | true => exact iteT ⟨τ, B, F5, ρ', E4.stepP s5, o⟩
        | false => exact iteF ⟨τ, B, F5, ρ', E4.stepP s5, o⟩
      | _ => exact o.elim
theorem ds_ifC_ne (hu0 : X.A.units + 65 < cLine) (ha : DM X W a fm) (hb : DE g2 X W b fb) (ht : DSs X W ss t) (hu : DSs X W us u) : DS X W (.If (.Compare a [.NotEq] [b] pos) ss us pos2) (dIfC g2 fNe fm fb t u) := ds_ifC (op_neA hu0) opd_ne nx_ne ha hb (nomark _) ht hu
theorem ds_ifC_eq (hu0 : X.A.units + 65 < cLine) (ha : DM X W a fm) (hb : DE g2 X W b fb) (ht : DSs X W ss t) (hu : DSs X W us u) : DS X W (.If (.Compare a [.Eq] [b] pos) ss us pos2) (dIfC g2 fEq fm fb t u) := ds_ifC (op_eqA hu0) opd_eq nx_eq ha hb (nomark _) ht hu
end
end Dt

set_option Elab.async false
set_option linter.all false
set_option maxRecDepth 100000
set_option maxHeartbeats 2000000
/-! Dat: text.index(sign) where it is found. -/
namespace Dt
open PySem PySem.Spec PyProof.Rows L2
def mIndex (a : Str) : D → R D
  | .str b => match Builtin.Str.occurrences a b 0 a.length 1 with
    | i :: _ => .ok (.int (i : Nat))
    | [] => .bad
  | _ => .bad
/-- a comprehension's block whose own names are all it has: whatever stands around it -/
theorem blkOk_in {N : List Str} {sc scope : Scope} {own : List (Str × Nat)} (h : blkC N { scope with names := [] } scope own = true) (f : scope.names.all (fun y => decide (y.2 ≠ .free)) = true) : BlkOk N sc scope own := by
  have B := blkOk_by h
  refine ⟨B.kind, B.uniq, B.ix, fun y hy e => ?_, B.own⟩
  have := List.all_eq_true.mp f y hy
  exact absurd e (of_decide_eq_true this)
theorem nx_index : ∀ a y w, mIndex a y ≠ .ex w := by
  intro a y w e; unfold mIndex at e; split at e
  · split at e <;> cases e
  · cases e
section
variable {X : Cx} {W : Wx} {gr g1 g2 g3 : Bool} {o e : Expr} {pos apos : Pos} {fo fe : Env → R D}
theorem de_index (ho : DE g1 X W o fo) (he : DE true X W e fe) (hs : starEach [e] X.env = [(false, eval e X.env)] := by rfl) (hbase : attributeBase o "index" X.env (eval o X.env) = eval o X.env := by rfl) (hline : (apos.endLine == pos.line) = true := by rfl) :
    DE true X W (.Call (.Attribute o "index" apos) [e] [] pos) (dM1 mIndex fo fe) := de_m1 F.slot_str_index F.type_str_index mt_sindex (fun F H a v y z Q s r e q => by
  unfold mIndex at e
  split at e
  · split at e
    · rename_i i rest hi
      cases e; cases r; exact ⟨_, _, i, rest, rfl, rfl, hi, out_sc s (.int _) rfl q⟩
    · cases e
  · cases e) nx_index ho he hs hbase hline
end
end Dt

set_option Elab.async false
set_option linter.all false
set_option maxRecDepth 100000
set_option maxHeartbeats 2000000
/-! Dat: a text, n times. -/
namespace Dt
open PySem PySem.Spec PyProof.Rows L2
def repT (s : Str) (n : Nat) : Str := ⟨(List.replicate n s.cps.toList).flatten.toArray⟩
theorem fold_rep (c : Array Nat) : ∀ (n : Nat) (acc : Array Nat), (List.replicate n c).foldl (· ++ ·) acc = acc ++ (List.replicate n c.toList).flatten.toArray
  | 0, acc => by simp
  | n + 1, acc => by
    rw [List.replicate_succ, List.foldl_cons, fold_rep c n, List.replicate_succ, List.flatten_cons]
    apply Array.toList_inj.mp
    simp
def rMulT : R2 := fun x y H Q => ∃ s k, x = .str s ∧ y = .int k ∧ 0 ≤ k ∧ k ≤ 1000000 ∧ s.length * k.toNat ≤ 1000000 ∧ Q (.str (repT s k.toNat)) H
theorem op_mulT {X : Cx} : OpR X (binaryOp .Mult) rMulT := by
  intro pins s σ H x y v u Q I rx ry h
  obtain ⟨z, k, rfl, rfl, h1, h2, hz, q⟩ := h
  obtain ⟨t, rfl⟩ := rx
  obtain ⟨t2, rfl⟩ := ry
  have c0 : (decide (k < -(2 ^ 63)) || decide (k ≥ 2 ^ 63)) = false := by
    rw [decide_eq_false (by omega), decide_eq_false (by omega)] <;> rfl
  have fin : ∀ tk, Q (.str (repT z k.toNat)) H → EP X pins σ Q (.str (repT z k.toNat) tk) { s with toks := s.toks + 1 } := fun tk q => ⟨.str _, H, I.tok _, ⟨_, rfl⟩, q⟩
  refine P.mul_str c0 ?_ ?_ ?_
  · intro hk hne
    have hz1 : (z.length : Int) * k ≤ 1000000 := by
      have : ((z.length * k.toNat : Nat) : Int) ≤ 1000000 := by omega
      rw [Int.natCast_mul, Int.toNat_of_nonneg h1] at this
      exact this
    intro hgt
    have h3 : (2 ^ 63 - 1) / k * k ≤ (z.length : Int) * k := Int.mul_le_mul_of_nonneg_right (by omega) h1
    have h4 := Int.mul_ediv_add_emod (2 ^ 63 - 1) k
    have h5 := Int.emod_lt_of_pos (2 ^ 63 - 1) (show 0 < k by omega)
    rw [Int.mul_comm] at h4
    omega
  · intro hk hne
    unfold Builtin.Str.tooLong
    rw [sizeLine_eq]
    exact decide_eq_false (by omega)
  · have el : (repT z k.toNat).length = z.length * k.toNat := by
      show (List.replicate k.toNat z.cps.toList).flatten.toArray.size = _
      rw [List.size_toArray, PyProof.Rows.lm_len_rep_flat, Nat.mul_comm]
      rfl
    by_cases h3 : k < 1
    · rw [if_pos h3]
      have e : Str.empty = repT z k.toNat := by
        rw [show k.toNat = 0 by omega]
        rfl
      rw [e]
      exact ⟨by rw [el, sizeLine_eq]; omega, fin _ q⟩
    · rw [if_neg h3]
      by_cases h4 : (k == 1 || z.length == 0) = true
      · rw [if_pos h4]
        have e : repT z k.toNat = z := by
          rcases Bool.or_eq_true_iff.mp h4 with y | y
          · have := eq_of_beq y
            subst this
            unfold repT
            cases z
            simp
          · have y := eq_of_beq y
            obtain ⟨⟨l⟩⟩ := z
            have y : l.length = 0 := y
            have := List.eq_nil_of_length_eq_zero y
            subst this
            unfold repT
            have : (List.replicate k.toNat ([] : List Nat)).flatten = [] := by
              rw [List.flatten_eq_nil_iff]
              exact fun x hx => (List.mem_replicate.mp hx).2
            show (⟨(List.replicate k.toNat ([] : List Nat)).flatten.toArray⟩ : Str) = _
            rw [this]
        rw [e] at q
        exact ⟨.str z, H, I, ⟨_, rfl⟩, q⟩
      · rw [if_neg h4]
        have e : (⟨List.foldl (fun x1 x2 => x1 ++ x2) #[] (List.replicate k.toNat z.cps)⟩ : Str) = repT z k.toNat := by
          unfold repT
          rw [fold_rep]
          simp
        rw [e]
        exact ⟨by rw [el, sizeLine_eq]; omega, fin _ q⟩
/-- a text times a number -/
def fMulT : D → D → R D
  | .str s, .int k => if 0 ≤ k ∧ k ≤ 1000000 ∧ s.length * k.toNat ≤ 1000000 then .ok (.str (repT s k.toNat)) else .bad
  | _, _ => .bad
theorem nx_mulT : ∀ x y w, fMulT x y ≠ .ex w := by
  intro x y w e; unfold fMulT at e; split at e
  · split at e <;> cases e
  · cases e
section
variable {X : Cx} {W : Wx} {g : G} {gr g1 g2 g3 : Bool} {a b e : Expr} {pos apos : Pos} {fa fb : Env → R D}
theorem opd_mulT : OpD g g1 g2 rMulT fMulT := opd_of fun F H vx vy x y z Q s hx hy e q => by
  unfold fMulT at e
  split at e
  · split at e
    · rename_i c
      cases e
      exact ⟨_, _, hx.str, hy.int, c.1, c.2.1, c.2.2, out_sc s (.str _) rfl q⟩
    · cases e
  · cases e
theorem de_mulT (ha : DE g1 X W a fa) (hb : DE g2 X W b fb) : DE true X W (.BinOp a .Mult b pos) (dOp g1 g2 fMulT fa fb) := de_op op_mulT opd_mulT nx_mulT ha hb
end
end Dt

set_option Elab.async false
set_option linter.all false
set_option maxRecDepth 100000
set_option maxHeartbeats 2000000
/-! Dat: xs[lo:hi:k] of a list, k a number that is written. -/
namespace Dt
open PySem PySem.Spec PyProof.Rows L2
def pickL {α : Type} (xs : List α) (lo hi : Option Int) (k : Int) : List α :=
  (sliceRange (sliceBounds lo hi (some k) xs.length).1 (sliceBounds lo hi (some k) xs.length).2.1 (sliceBounds lo hi (some k) xs.length).2.2).filterMap (xs[·]?)
theorem pickL_pick (its : List Value) (lo hi : Option Int) (k : Int) : slicePick its.toArray lo hi (some k) = (pickL its lo hi k).toArray := by
  unfold slicePick pickL
  rw [List.size_toArray]
  congr 2
  funext i
  exact List.getElem?_toArray ..
theorem pickL_map {α β : Type} (f : α → β) (xs : List α) (lo hi : Option Int) (k : Int) : pickL (xs.map f) lo hi k = (pickL xs lo hi k).map f := by
  unfold pickL
  rw [List.length_map, List.map_filterMap]
  congr 1
  funext i
  exact List.getElem?_map ..
section
variable {g : G} {F H : Hp}
theorem vals_get {xs : List V} {its : List Value} (r : Vals xs its) (i : Nat) : (xs[i]? = none ∧ its[i]? = none) ∨ ∃ x u, xs[i]? = some x ∧ its[i]? = some u ∧ RelV x u := by
  induction r generalizing i with
  | nil => exact .inl ⟨rfl, rfl⟩
  | cons h t ih =>
    cases i with
    | zero => exact .inr ⟨_, _, rfl, rfl, h⟩
    | succ i => exact ih i
theorem vals_fm {xs : List V} {its : List Value} (r : Vals xs its) : ∀ is : List Nat, Vals (is.filterMap (xs[·]?)) (is.filterMap (its[·]?))
  | [] => .nil
  | i :: is => by
    rcases vals_get r i with ⟨h1, h2⟩ | ⟨x, u, h1, h2, h3⟩
    · rw [List.filterMap_cons_none h1, List.filterMap_cons_none h2]
      exact vals_fm r is
    · rw [List.filterMap_cons_some h1, List.filterMap_cons_some h2]
      exact .cons h3 (vals_fm r is)
theorem rpl_get : ∀ {vs : List V} {ds : List D}, RpL g F vs ds → ∀ i : Nat, (vs[i]? = none ∧ ds[i]? = none) ∨ ∃ v d, vs[i]? = some v ∧ ds[i]? = some d ∧ Rp g F v d
  | _, _, .nil, i => .inl ⟨rfl, rfl⟩
  | _, _, .cons h t, 0 => .inr ⟨_, _, rfl, rfl, h⟩
  | _, _, .cons h t, i + 1 => rpl_get t i
theorem rpl_fm {vs : List V} {ds : List D} (r : RpL g F vs ds) : ∀ is : List Nat, RpL g F (is.filterMap (vs[·]?)) (is.filterMap (ds[·]?))
  | [] => .nil
  | i :: is => by
    rcases rpl_get r i with ⟨h1, h2⟩ | ⟨x, u, h1, h2, h3⟩
    · rw [List.filterMap_cons_none h1, List.filterMap_cons_none h2]
      exact rpl_fm r is
    · rw [List.filterMap_cons_some h1, List.filterMap_cons_some h2]
      exact .cons h3 (rpl_fm r is)
theorem swl_get : ∀ {vs : List V} {ds : List D}, SwL g F H vs ds → ∀ i : Nat, (vs[i]? = none ∧ ds[i]? = none) ∨ ∃ v d, vs[i]? = some v ∧ ds[i]? = some d ∧ Sw g F H v d
  | _, _, .nil, i => .inl ⟨rfl, rfl⟩
  | _, _, .cons h t, 0 => .inr ⟨_, _, rfl, rfl, h⟩
  | _, _, .cons h t, i + 1 => swl_get t i
theorem swl_fm {vs : List V} {ds : List D} (r : SwL g F H vs ds) : ∀ is : List Nat, SwL g F H (is.filterMap (vs[·]?)) (is.filterMap (ds[·]?))
  | [] => .nil
  | i :: is => by
    rcases swl_get r i with ⟨h1, h2⟩ | ⟨x, u, h1, h2, h3⟩
    · rw [List.filterMap_cons_none h1, List.filterMap_cons_none h2]
      exact swl_fm r is
    · rw [List.filterMap_cons_some h1, List.filterMap_cons_some h2]
      exact .cons h3 (swl_fm r is)
end
def rSl3 (K : PySem.W.Frag) (k : Int) : V → Option Int → Option Int → Hp → VK → Prop := fun x lo hi H Q => ∃ a xs, x = .ref a ∧ SqL K H a xs ∧ ∀ p, H p = none → Q (.ref p) (upd H p (.lst (pickL xs lo hi k)))
section
variable {X : Cx} {W : Wx} {gr g1 g2 : Bool} {e st a : Expr} {lo hi : Option Expr} {p2 pos : Pos} {te : TE} {tl th ts : TO} {k : Int} {fa : Env → R D} {fl fh : Env → R (Option Int)}
theorem pe_slice3 (hk : k ≠ 0) (he : PE X e te) (hl : PO X lo tl) (hu : PO X hi th) (hs : PO X (some st) ts) (hc : ∀ σ H (Q : Option Int → Hp → Prop), Q (some k) H → ts σ H Q) :
    PE X (.Subscript e (.Slice lo hi (some st) p2) pos) (tSl (rSl3 X.K k) te tl th) := by
  refine ⟨fun pins s σ H Q I h => ?_⟩
  refine Subscript_ (thn (he.run pins s σ H _ I h) fun v s1 ⟨x, H1, I1, r1, q1⟩ => ?_)
  refine wpAny_Slice (thn (hl.run pins s1 σ H1 _ I1 q1) fun vl s2 ⟨l, H2, I2, pl, q2⟩ => thn (hu.run pins s2 σ H2 _ I2 q2) fun vu s3 ⟨u, H3, I3, pu, q3⟩ => ?_)
  refine thn (hs.run pins s3 σ H3 (fun o H4 => o = some k ∧ H4 = H3) I3 (hc _ _ _ ⟨rfl, rfl⟩)) fun vs s4 ⟨o, H4, I4, ps, eo, e4⟩ => ?_
  subst eo e4
  obtain ⟨b, xs, ex, hx, q⟩ := q3
  subst ex
  cases r1
  have I5 : Inv X pins σ H4 { s4 with heap := s4.heap.push { cls := .type "slice", data := .fields #[vl, vu, vs] } } := I4.kept (t' := s4.toks) fun b ob q => Heap.get?_push_of_some _ q
  obtain ⟨its, r, ht, hz⟩ := I5.list hx
  have hlen := r.length
  show wpAny (model X.prog X.w) X.A (subscriptTail e (.Slice lo hi (some st) p2) (.ref b) (.ref s4.heap.objs.size)) (EP X pins σ Q) X.xe { s4 with heap := s4.heap.push { cls := .type "slice", data := .fields #[vl, vu, vs] } }
  refine tail_any (ops := [.ref b, .ref s4.heap.objs.size]) ht.isList.typeIs (PySem.slot_list_getitem.lookup) ?_ (by with_unfolding_all rfl)
  refine wpAny_getItem_list_slice ht.isList (Heap.IsSliceOf.new _ vl vu vs) pl pu ps (fun z => hk (Option.some.inj z)) ?_ (by rw [List.size_toArray]; omega)
  have hsz := slicePick_size_le its.toArray l u (some k)
  rw [pickL_pick] at hsz ⊢
  refine ⟨.ref _, _, I5.laid (t' := s4.toks) (o := .lst (pickL xs l u k)) (fun b ob q => Heap.get?_push_of_some _ q) (Nat.le_refl _) ?_, rfl, q _ (I5.hok.fresh (Nat.le_refl _))⟩
  have rr : Vals (pickL xs l u k) (pickL its l u k) := by
    unfold pickL
    rw [hlen]
    exact vals_fm r _
  have l2 := rr.length
  refine ⟨?_, _, 0, rr, Heap.get?_push_size _ rfl⟩
  rw [l2]
  rw [List.size_toArray, List.size_toArray] at hsz
  omega
def fSl3 (gr : Bool) (k : Int) (x : D) (lo hi : Option Int) : R D := match x with
  | .lst _ xs => if ck gr (pickL xs lo hi k) = true then .ok (.lst (some 0) (pickL xs lo hi k)) else .bad
  | _ => .bad
theorem fSl3_nx {x : D} {lo hi : Option Int} {w : XD} : fSl3 gr k x lo hi ≠ .ex w := by
  intro e; unfold fSl3 at e; split at e
  · split at e <;> cases e
  · cases e
def dSl3 (gr : Bool) (k : Int) (fa : Env → R D) (fl fh : Env → R (Option Int)) : Env → R D := fun ρ => (fa ρ).bind fun x => (fl ρ).bind fun l => (fh ρ).bind fun h => fSl3 gr k (x.op gr) l h
theorem sl3_out {g : G} {F H : Hp} {vx : V} {x z : D} {lo hi : Option Int} {Q : VK} (s : Same F H) (hx : Op gr g F H vx x) (e : fSl3 gr k x lo hi = .ok z) (q : ∀ v H' F', StepP F H F' H' → ResG true g F H F' H' v z → Q v H') : rSl3 g.K k vx lo hi H Q := by
  unfold fSl3 at e
  split at e
  · obtain ⟨c, rfl⟩ := if_ok_inv e
    obtain ⟨a, vs, g', rfl, hs, r⟩ := hx.lst' s
    refine ⟨a, vs, rfl, hs, fun p n => ?_⟩
    cases g' with
    | true => exact out_lst s n (by
        have l := RpL.length r
        unfold pickL
        rw [l]
        exact rpl_fm r _) c q
    | false => exact out_lst s n (SwL.items (by
        have l := SwL.length r
        unfold pickL
        rw [l]
        exact swl_fm r _) c) c q
  · cases e
theorem de_slice3 (hk : k ≠ 0) (hs : PO X (some st) ts) (hc : ∀ σ H (Q : Option Int → Hp → Prop), Q (some k) H → ts σ H Q) (ha : DE gr X W a fa) (hl : DO X W lo fl) (hh : DO X W hi fh) : DE true X W (.Subscript a (.Slice lo hi (some st) p2) pos) (dSl3 gr k fa fl fh) :=
  pe_imp (pe_slice3 hk ha hl hh hs hc) fun σ H Q => fun ⟨τ, B, F, ρ, E, q⟩ => by
  refine ⟨τ, B, F, ρ, E, ?_⟩
  unfold dSl3 at q
  cases hf : fa ρ with
  | bad => rw [hf] at q; exact q
  | ex x => rw [hf] at q; exact q
  | ok x =>
    rw [hf, Dt.R.bind_ok] at q
    intro vx H1 F1 s1 rx
    obtain ⟨F2, s2, ox⟩ := rx.op s1
    refine ⟨τ, B, F2, ρ, E.stepP s2, ?_⟩
    cases hl : fl ρ with
    | bad => rw [hl] at q; exact q
    | ex w => rw [hl] at q; exact fun cls dd H' F' s3 rx => q cls dd H' F' (s2.trans s3) (rx.back s2.hh)
    | ok l =>
      rw [hl, Dt.R.bind_ok] at q
      intro H3 F3 s3
      refine ⟨τ, B, F3, ρ, (E.stepP s2).stepP s3, ?_⟩
      cases hh : fh ρ with
      | bad => rw [hh] at q; exact q
      | ex w => rw [hh] at q; exact fun cls dd H' F' s4 rx => q cls dd H' F' ((s2.trans s3).trans s4) ((rx.back s3.hh).back s2.hh)
      | ok h =>
        rw [hh, Dt.R.bind_ok] at q
        intro H4 F4 s4
        cases hz : fSl3 gr k (x.op gr) l h with
        | bad => rw [hz] at q; exact q.elim
        | ex w => exact absurd hz fSl3_nx
        | ok z =>
          have q' := q.step ((s2.trans s3).trans s4)
          rw [hz] at q'
          exact sl3_out s4.fh ((ox.step s3).step s4) hz q'
/-- k as a number, -k as a sign and a number -/
theorem po_lit {i : Int} {j : Nat} {p1 : Pos} : ∀ σ H (Q : Option Int → Hp → Prop), Q (some i) H → tPart (tC (.int i)) σ H Q := fun σ H Q q => ⟨i, rfl, q⟩
theorem po_neg {i : Int} : ∀ σ H (Q : Option Int → Hp → Prop), Q (some (-i)) H → tPart (tUn (rU fun i => .int (-i)) (tC (.int i))) σ H Q := fun σ H Q q => ⟨i, rfl, -i, rfl, q⟩
theorem de_sl3 {i : Int} {j : Nat} {p1 : Pos} (hk : i ≠ 0) (ha : DE gr X W a fa) (hl : DO X W lo fl) (hh : DO X W hi fh) : DE true X W (.Subscript a (.Slice lo hi (some (.Constant (.int i) j p1)) p2) pos) (dSl3 gr i fa fl fh) :=
  de_slice3 hk (po_some pe_int) (fun σ H Q q => ⟨i, rfl, q⟩) ha hl hh
theorem de_sl3n {i : Int} {j : Nat} {p1 p3 : Pos} (hk : -i ≠ 0) (ha : DE gr X W a fa) (hl : DO X W lo fl) (hh : DO X W hi fh) : DE true X W (.Subscript a (.Slice lo hi (some (.UnaryOp .USub (.Constant (.int i) j p1) p3)) p2) pos) (dSl3 gr (-i) fa fl fh) :=
  de_slice3 hk (po_some (pe_un un_neg pe_int)) (fun σ H Q q => ⟨i, rfl, -i, rfl, q⟩) ha hl hh
end
end Dt

set_option Elab.async false
set_option linter.all false
set_option maxRecDepth 100000
set_option maxHeartbeats 2000000
/-! Dat: a comprehension within a comprehension that uses names of the outer one. -/
namespace Dt
open PySem PySem.Spec PyProof.Rows L2
theorem blkOk_in2 {N : List Str} {scope outer sc0 : Scope} {own : List (Str × Nat)} {cl : List (Str × Addr)} {C : Addr} {env : PySem.Env} (he : env.scope = sc0) (h : blkC N (relS outer sc0) scope own = true) : BlkOk N (compEnvC outer cl C env).scope scope own := by
  have e : (compEnvC outer cl C env).scope = relS outer env.scope := rfl
  rw [e, he]
  exact blkOk_by h
end Dt

set_option Elab.async false
set_option linter.all false
set_option maxRecDepth 100000
set_option maxHeartbeats 2000000
/-! Dat: xs.count(n), xs.index(n) of a list of whole numbers. -/
namespace L2
open PySem PySem.Spec PyProof.Rows
def rCountL (K : PySem.W.Frag) : R2 := fun x y H Q => ∃ (a : Addr) (ns : List Int) (k : Int), x = .ref a ∧ y = .int k ∧ SqL K H a (ns.map V.int) ∧ Q (.int (ns.count k : Nat)) H
def rIndexL (K : PySem.W.Frag) : R2 := fun x y H Q => ∃ (a : Addr) (ns : List Int) (k : Int), x = .ref a ∧ y = .int k ∧ SqL K H a (ns.map V.int) ∧ k ∈ ns ∧ ns.length ≤ 16777216 ∧ Q (.int (ns.idxOf k : Nat)) H
def LmR (X : Cx) (id : String) (r : R2) : Prop := ∀ (pins : List (Addr × Obj)) (s : Shared) (σ : St) (H : Hp) (x y : V) (v u : Value) (Q : VK), Inv X pins σ H s → RelV x v → RelV y u → r x y H Q →
    wpAny (model X.prog X.w) X.A (call (.builtin id) [v, u]) (EP X pins σ Q) X.xe s
theorem lm_count {X : Cx} : LmR X "list.count" (rCountL X.K) := by
  intro pins s σ H x y v u Q I rx ry h
  obtain ⟨a, ns, k, rfl, rfl, hs, q⟩ := h
  cases (show v = Value.ref a from rx)
  obtain ⟨t, rfl⟩ := (show ∃ t, u = Value.int k t from ry)
  obtain ⟨its, rv, hl, _⟩ := I.list hs
  exact count_list_ints hl.isList rv.ints ⟨.int _, H, I.tok _, ⟨_, rfl⟩, q⟩
theorem lm_index {X : Cx} : LmR X "list.index" (rIndexL X.K) := by
  intro pins s σ H x y v u Q I rx ry h
  obtain ⟨a, ns, k, rfl, rfl, hs, hk, hn, q⟩ := h
  cases (show v = Value.ref a from rx)
  obtain ⟨t, rfl⟩ := (show ∃ t, u = Value.int k t from ry)
  obtain ⟨its, rv, hl, _⟩ := I.list hs
  exact PySem.SeqAt.list_index_ints hl.isList rv.ints (by rw [sizeLine_eq]; exact hn) hk ⟨.int _, H, I.tok _, ⟨_, rfl⟩, q⟩
def tLM (K : PySem.W.Frag) (r : R2) (to te : TE) : TE := fun σ H Q => to σ H fun x H1 => tyV K "list" x H1 ∧ te σ H1 fun y H2 => r x y H2 Q
section
variable {X : Cx} {o e : Expr} {to te : TE} {apos cpos : Pos}
theorem pe_lm {id name : String} {r : R2} (slot : Slot "list" (PySem.Str.ofString name) id) (ty : typeOf (.builtin id) = pure (.type "method_descriptor")) (rule : LmR X id r) (ho : PE X o to) (he : PE X e te)
    (hs : starEach [e] X.env = [(false, eval e X.env)] := by rfl) (hbase : attributeBase o (PySem.Str.ofString name) X.env (eval o X.env) = eval o X.env := by rfl) (hline : (apos.endLine == cpos.line) = true := by rfl) :
    PE X (.Call (.Attribute o (PySem.Str.ofString name) apos) [e] [] cpos) (tLM X.K r to te) := by
  refine ⟨fun pins s σ H Q I h => ?_⟩
  refine PySem.Call_method1 hbase hs hline (thn (ho.run pins s σ H _ I h) fun v s1 ⟨x, H1, I1, r1, ty1, q1⟩ => ?_)
  obtain ⟨h1, h2⟩ := tyV_is I1 r1 ty1
  refine ⟨"list", _, PySem.F.plainAttrs_list, slot, ty, h1, h2, Calls.callWith_builtin rfl (Calls.evalArgs_plain (Calls.spliced_cons ?_))⟩
  exact thn (he.run pins s1 σ H1 _ I1 q1) fun u s2 ⟨y, H2, I2, r2, q2⟩ => Calls.spliced_nil (rule pins s2 σ H2 _ _ _ _ Q I2 r1 r2 q2)
end
end L2
namespace Dt
open PySem PySem.Spec PyProof.Rows L2
def fCount : D → D → R D
  | .lst _ xs, .int k => match dInts xs with
    | some ns => .ok (.int (ns.count k : Nat))
    | none => .bad
  | _, _ => .bad
def fIndexL : D → D → R D
  | .lst _ xs, .int k => match dInts xs with
    | some ns => if k ∈ ns ∧ ns.length ≤ 16777216 then .ok (.int (ns.idxOf k : Nat)) else .bad
    | none => .bad
  | _, _ => .bad
theorem nx_countL : ∀ x y w, fCount x y ≠ .ex w := by
  intro x y w e; unfold fCount at e; split at e
  · split at e <;> cases e
  · cases e
theorem nx_indexL : ∀ x y w, fIndexL x y ≠ .ex w := by
  intro x y w e; unfold fIndexL at e; split at e
  · split at e
    · split at e <;> cases e
    · cases e
  · cases e
section
variable {X : Cx} {W : Wx} {gr g1 g2 g3 : Bool} {o e : Expr} {pos apos : Pos} {fo fe : Env → R D}
theorem opd_count {g : G} : OpD g g1 g2 (rCountL g.K) fCount := opd_of fun F H vx vy x y z Q s hx hy e q => by
  unfold fCount at e
  split at e
  · split at e
    · rename_i ns hns
      cases e
      obtain ⟨a, vs, rfl, h1, l1, r, _⟩ := hx.lst s
      have e1 := dInts_rp r hns
      subst e1
      exact ⟨a, ns, _, rfl, hy.int, h1, out_sc s (.int _) rfl q⟩
    · cases e
  · cases e
theorem opd_index {g : G} : OpD g g1 g2 (rIndexL g.K) fIndexL := opd_of fun F H vx vy x y z Q s hx hy e q => by
  unfold fIndexL at e
  split at e
  · split at e
    · rename_i ns hns
      split at e
      · rename_i c
        cases e
        obtain ⟨a, vs, rfl, h1, l1, r, _⟩ := hx.lst s
        have e1 := dInts_rp r hns
        subst e1
        exact ⟨a, ns, _, rfl, hy.int, h1, c.1, c.2, out_sc s (.int _) rfl q⟩
      · cases e
    · cases e
  · cases e
def dLM (g1 : Bool) (f2 : D → D → R D) (fo fe : Env → R D) : Env → R D := fun ρ => (fo ρ).bind fun x => match x.op g1 with
  | .lst o xs => (fe ρ).bind fun y => f2 (.lst o xs) y.fr
  | _ => .bad
theorem lift2L {r : R2} {f2 : D → D → R D} (ho : OpD (gx X W) g1 true r f2) (nx : ∀ x y w, f2 x y ≠ .ex w) {σ : L2.St} {H : Hp} {Q : VK} (h : liftE true (gx X W) W (dLM g1 f2 fo fe) σ H Q) :
    tLM X.K r (liftE g1 (gx X W) W fo) (liftE true (gx X W) W fe) σ H Q := by
  obtain ⟨τ, B, F, ρ, E, q⟩ := h
  refine ⟨τ, B, F, ρ, E, ?_⟩
  unfold dLM at q
  cases hfa : fo ρ with
  | bad => rw [hfa] at q; exact q
  | ex x => rw [hfa] at q; exact q
  | ok x =>
    rw [hfa] at q
    intro vx H1 F1 s1 rx
    obtain ⟨F2, s2, ox⟩ := rx.op s1
    rw [R.bind_ok] at q
    cases hx : x.op g1 with
    | lst o xs =>
      rw [hx] at q ox
      refine ⟨?_, τ, B, F2, ρ, E.stepP s2, ?_⟩
      · obtain ⟨a, vs, rfl, h1, _⟩ := ox.lst s2.fh
        exact .inl ⟨rfl, vs, h1⟩
      · have q : outE true (gx X W) W F H σ Q ((fe ρ).bind fun y => f2 (.lst o xs) y.fr) := q
        cases hfb : fe ρ with
        | bad => rw [hfb] at q; exact q
        | ex x => rw [hfb] at q; exact fun cls dd H' F' s3 rx => q cls dd H' F' (s2.trans s3) (rx.back s2.hh)
        | ok y =>
          rw [hfb, R.bind_ok] at q
          intro vy H3 F3 s3 ry
          obtain ⟨F4, s4, oy⟩ := ry.op s3
          exact ho.out s4.fh (ox.step s4) oy (nx _ _) (q.step (s2.trans s4))
    | _ => rw [hx] at q; exact q.elim
theorem de_countL (ho : DE g1 X W o fo) (he : DE true X W e fe) (hs : starEach [e] X.env = [(false, eval e X.env)] := by rfl) (hbase : attributeBase o "count" X.env (eval o X.env) = eval o X.env := by rfl) (hline : (apos.endLine == pos.line) = true := by rfl) :
    DE true X W (.Call (.Attribute o "count" apos) [e] [] pos) (dLM g1 fCount fo fe) :=
  pe_imp (pe_lm (name := "count") PySem.F.slot_list_count PySem.F.type_list_count lm_count ho he hs hbase hline) fun _ _ _ q => lift2L opd_count nx_countL q
theorem de_indexL (ho : DE g1 X W o fo) (he : DE true X W e fe) (hs : starEach [e] X.env = [(false, eval e X.env)] := by rfl) (hbase : attributeBase o "index" X.env (eval o X.env) = eval o X.env := by rfl) (hline : (apos.endLine == pos.line) = true := by rfl) :
    DE true X W (.Call (.Attribute o "index" apos) [e] [] pos) (dLM g1 fIndexL fo fe) :=
  pe_imp (pe_lm (name := "index") PySem.F.slot_list_index PySem.F.type_list_index lm_index ho he hs hbase hline) fun _ _ _ q => lift2L opd_index nx_indexL q
@[simp] theorem ev_lm (f2 : D → D → R D) (ρ : Env) : dLM g1 f2 fo fe ρ = (fo ρ).bind fun x => match x.op g1 with
  | .lst o xs => (fe ρ).bind fun y => f2 (.lst o xs) y.fr
  | _ => .bad := rfl
end
end Dt

set_option Elab.async false
set_option linter.all false
set_option maxRecDepth 100000
set_option maxHeartbeats 2000000
/-! Dat: chains of three comparisons. -/
namespace L2
open PySem PySem.Spec PyProof.Rows
section
variable {X : Cx} {a b c d : Expr} {pos : Pos} {ta tb tc td : TE}
def tChain3 (r r' r'' : R2) (ta tb tc td : TE) : TE := fun σ H Q => ta σ H fun x H1 => tb σ H1 fun y H2 => r x y H2 fun z H3 => ∃ k, z = .bl k ∧
  (if k = true then tc σ H3 fun w H4 => r' y w H4 fun z' H5 => ∃ k', z' = .bl k' ∧ (if k' = true then td σ H5 fun u H6 => r'' w u H6 Q else Q (.bl false) H5) else Q (.bl false) H3)
theorem pe_chain3 {op op' op'' : CmpOp} {r r' r'' : R2} (ho : OpR X (compareOp op) r) (ho' : OpR X (compareOp op') r') (ho'' : OpR X (compareOp op'') r'') (ha : PE X a ta) (hb : PE X b tb) (hc : PE X c tc) (hd : PE X d td)
    (hm : lastMarks [op, op', op''] [b, c, d] = false := by with_unfolding_all rfl) : PE X (.Compare a [op, op', op''] [b, c, d] pos) (tChain3 r r' r'' ta tb tc td) := by
  refine ⟨fun pins s σ H Q I h => ?_⟩
  refine Compare_chain (thn (ha.run pins s σ H _ I h) fun v s1 ⟨x, H1, I1, r1, q1⟩ => chain_link (thn (hb.run pins s1 σ H1 _ I1 q1) fun u s2 ⟨y, H2, I2, r2, q2⟩ =>
    thn (ho pins s2 σ H2 x y v u _ I2 r1 r2 q2) fun d s3 ⟨z, H3, I3, r3, k, e, q3⟩ => ?_)) hm
  subst e
  cases r3
  refine wpAny_truthy_bool ?_
  cases k with
  | false => exact ite_ff ⟨.bl false, H3, I3, rfl, q3⟩
  | true =>
    refine ite_tt (chain_link (thn (hc.run pins s3 σ H3 _ I3 q3) fun w' s4 ⟨z', H4, I4, r4, q4⟩ =>
      thn (ho' pins s4 σ H4 y z' u w' _ I4 r2 r4 q4) fun d' s5 ⟨z2, H5, I5, r5, k', e', q5⟩ => ?_))
    subst e'
    cases r5
    refine wpAny_truthy_bool ?_
    cases k' with
    | false => exact ite_ff ⟨.bl false, H5, I5, rfl, q5⟩
    | true => exact ite_tt (chain_last (thn (hd.run pins s5 σ H5 _ I5 q5) fun w2 s6 ⟨z3, H6, I6, r6, q6⟩ => ho'' pins s6 σ H6 z' z3 w' w2 Q I6 r4 r6 q6))
theorem pt_chain3 {op op' op'' : CmpOp} {r r' r'' : R2} (ho : OpR X (compareOp op) r) (ho' : OpR X (compareOp op') r') (ho'' : OpR X (compareOp op'') r'') (ha : PE X a ta) (hb : PE X b tb) (hc : PE X c tc) (hd : PE X d td)
    (hm : lastMarks [op, op', op''] [b, c, d] = false := by with_unfolding_all rfl) : PT X (.Compare a [op, op', op''] [b, c, d] pos) (tTest (tChain3 r r' r'' ta tb tc td)) := by
  refine ⟨fun pins s σ H Q I h => ?_⟩
  refine isTrue_chain (thn (ha.run pins s σ H _ I h) fun v s1 ⟨x, H1, I1, r1, q1⟩ => test_link (thn (hb.run pins s1 σ H1 _ I1 q1) fun u s2 ⟨y, H2, I2, r2, q2⟩ =>
    thn (ho pins s2 σ H2 x y v u _ I2 r1 r2 q2) fun d s3 ⟨z, H3, I3, r3, k, e, q3⟩ => ?_)) hm
  subst e
  cases r3
  refine wpAny_truthy_bool ?_
  cases k with
  | false =>
    obtain ⟨k', e', q'⟩ := q3
    cases e'
    exact ite_ff ⟨H3, I3, q'⟩
  | true =>
    refine ite_tt (test_link (thn (hc.run pins s3 σ H3 _ I3 q3) fun w' s4 ⟨z', H4, I4, r4, q4⟩ =>
      thn (ho' pins s4 σ H4 y z' u w' _ I4 r2 r4 q4) fun d' s5 ⟨z2, H5, I5, r5, k', e', q5⟩ => ?_))
    subst e'
    cases r5
    refine wpAny_truthy_bool ?_
    cases k' with
    | false =>
      obtain ⟨k2, e2, q'⟩ := q5
      cases e2
      exact ite_ff ⟨H5, I5, q'⟩
    | true =>
      refine ite_tt (test_last (thn (hd.run pins s5 σ H5 _ I5 q5) fun w2 s6 ⟨z3, H6, I6, r6, q6⟩ => thn (ho'' pins s6 σ H6 z' z3 w' w2 _ I6 r4 r6 q6) fun d' s7 ⟨z4, H7, I7, r7, k2, e2, q7⟩ => ?_))
      subst e2
      cases r7
      exact wpAny_truthy_bool ⟨H7, I7, q7⟩
end
end L2
namespace Dt
open PySem PySem.Spec PyProof.Rows L2
section
variable {X : Cx} {W : Wx} {a b c d : Expr} {pos : Pos} {fa fb fc fd : Env → R D} {f f' f'' : D → D → R D}
def dChain3 (f f' f'' : D → D → R D) (fa fb fc fd : Env → R D) : Env → R D := fun ρ => (fa ρ).bind fun x => (fb ρ).bind fun y => R.cn (f (x.op true) (y.op true)) ((fc ρ).bind fun w =>
  R.cn (f' (y.op true) (w.op true)) ((fd ρ).bind fun u => f'' (w.op true) (u.op true)))
theorem lift_chain3 {r r' r'' : R2} (ho : OpD (gx X W) true true r f) (ho' : OpD (gx X W) true true r' f') (ho'' : OpD (gx X W) true true r'' f'') (nx'' : ∀ x y w, f'' x y ≠ .ex w) {σ : L2.St} {H : Hp} {Q : VK}
    (h : liftE true (gx X W) W (dChain3 f f' f'' fa fb fc fd) σ H Q) :
    tChain3 r r' r'' (liftE true (gx X W) W fa) (liftE true (gx X W) W fb) (liftE true (gx X W) W fc) (liftE true (gx X W) W fd) σ H Q := by
  obtain ⟨τ, B, F, ρ, E, q⟩ := h
  refine ⟨τ, B, F, ρ, E, ?_⟩
  unfold dChain3 at q
  cases hfa : fa ρ with
  | bad => rw [hfa] at q; exact q
  | ex x => rw [hfa] at q; exact q
  | ok x =>
    rw [hfa] at q
    intro vx H1 F1 s1 rx
    obtain ⟨F2, s2, ox⟩ := rx.op s1
    refine ⟨τ, B, F2, ρ, E.stepP s2, ?_⟩
    rw [R.bind_ok] at q
    cases hfb : fb ρ with
    | bad => rw [hfb] at q; exact q
    | ex x => rw [hfb] at q; exact fun cls dd H' F' s3 rx => q cls dd H' F' (s2.trans s3) (rx.back s2.hh)
    | ok y =>
      rw [hfb, R.bind_ok] at q
      intro vy H3 F3 s3 ry
      obtain ⟨F4, s4, oy⟩ := ry.op s3
      have q := q.step (s2.trans s4)
      refine ho F4 H3 vx vy (x.op true) (y.op true) _ s4.fh (ox.step s4) oy ?_
      cases hz : f (x.op true) (y.op true) with
      | bad => rw [hz] at q; exact q.elim
      | ex w => rw [hz] at q; exact q.elim
      | ok z =>
        rw [hz] at q
        intro v5 H5 F5 s5 r5
        cases z with
        | bl k =>
          cases r5.rp s5
          refine ⟨k, rfl, ?_⟩
          cases k with
          | true =>
            refine iteT ⟨τ, B, F5, ρ, (E.stepP (s2.trans s4)).stepP s5, ?_⟩
            have q := outE.step s5 (show outE true (gx X W) W F4 H3 σ Q ((fc ρ).bind fun w => R.cn (f' (y.op true) (w.op true)) ((fd ρ).bind fun u => f'' (w.op true) (u.op true))) from q)
            cases hfc : fc ρ with
            | bad => rw [hfc] at q; exact q
            | ex x => rw [hfc] at q; exact q
            | ok w =>
              rw [hfc, R.bind_ok] at q
              intro vw H6 F6 s6 rw6
              obtain ⟨F7, s7, ow⟩ := rw6.op s6
              have q := q.step s7
              refine ho' F7 H6 vy vw (y.op true) (w.op true) _ s7.fh ((oy.step s5).step s7) ow ?_
              cases hz' : f' (y.op true) (w.op true) with
              | bad => rw [hz'] at q; exact q.elim
              | ex w => rw [hz'] at q; exact q.elim
              | ok z' =>
                rw [hz'] at q
                intro v8 H8 F8 s8 r8
                cases z' with
                | bl k' =>
                  cases r8.rp s8
                  refine ⟨k', rfl, ?_⟩
                  cases k' with
                  | true =>
                    refine iteT ⟨τ, B, F8, ρ, (((E.stepP (s2.trans s4)).stepP s5).stepP s7).stepP s8, ?_⟩
                    have q := outE.step s8 (show outE true (gx X W) W F7 H6 σ Q ((fd ρ).bind fun u => f'' (w.op true) (u.op true)) from q)
                    cases hfd : fd ρ with
                    | bad => rw [hfd] at q; exact q
                    | ex x => rw [hfd] at q; exact q
                    | ok u =>
                      rw [hfd, R.bind_ok] at q
                      intro vu H9 F9 s9 ru9
                      obtain ⟨FA, sA, ou⟩ := ru9.op s9
                      exact ho''.out sA.fh ((ow.step s8).step sA) ou (nx'' _ _) (q.step sA)
                  | false => exact iteF (q (.bl false) H8 F8 s8 ⟨[], .frz rfl (.bl _), fun _ z => nomatch z⟩)
                | _ => exact q.elim
          | false => exact iteF (q (.bl false) H5 F5 s5 ⟨[], .frz rfl (.bl _), fun _ z => nomatch z⟩)
        | _ => exact q.elim
theorem de_chain3 {op op' op'' : CmpOp} {r r' r'' : R2} (h : OpR X (compareOp op) r) (h' : OpR X (compareOp op') r') (h'' : OpR X (compareOp op'') r'') (ho : OpD (gx X W) true true r f) (ho' : OpD (gx X W) true true r' f') (ho'' : OpD (gx X W) true true r'' f'') (nx'' : ∀ x y w, f'' x y ≠ .ex w)
    (ha : DE true X W a fa) (hb : DE true X W b fb) (hc : DE true X W c fc) (hd : DE true X W d fd)
    (hm : lastMarks [op, op', op''] [b, c, d] = false := by with_unfolding_all rfl) : DE true X W (.Compare a [op, op', op''] [b, c, d] pos) (dChain3 f f' f'' fa fb fc fd) := pe_imp (pe_chain3 h h' h'' ha hb hc hd hm) fun _ _ _ q => lift_chain3 ho ho' ho'' nx'' q
theorem dt_chain3 {op op' op'' : CmpOp} {r r' r'' : R2} (h : OpR X (compareOp op) r) (h' : OpR X (compareOp op') r') (h'' : OpR X (compareOp op'') r'') (ho : OpD (gx X W) true true r f) (ho' : OpD (gx X W) true true r' f') (ho'' : OpD (gx X W) true true r'' f'') (nx'' : ∀ x y w, f'' x y ≠ .ex w)
    (ha : DE true X W a fa) (hb : DE true X W b fb) (hc : DE true X W c fc) (hd : DE true X W d fd)
    (hm : lastMarks [op, op', op''] [b, c, d] = false := by with_unfolding_all rfl) : DT X W (.Compare a [op, op', op''] [b, c, d] pos) (dB (dChain3 f f' f'' fa fb fc fd)) := pt_imp (pt_chain3 h h' h'' ha hb hc hd hm) fun σ H Q q => lift_chain3 ho ho' ho'' nx'' (liftB (gr := true) q)
@[simp] theorem ev_chain3 (f f' f'' : D → D → R D) (fa fb fc fd : Env → R D) (ρ : Env) : dChain3 f f' f'' fa fb fc fd ρ = (fa ρ).bind fun x => (fb ρ).bind fun y => R.cn (f (x.op true) (y.op true)) ((fc ρ).bind fun w =>
  R.cn (f' (y.op true) (w.op true)) ((fd ρ).bind fun u => f'' (w.op true) (u.op true))) := rfl
end
end Dt

set_option Elab.async false
set_option linter.all false
set_option maxRecDepth 100000
set_option maxHeartbeats 2000000
/-! Dat: list(enumerate(xs)), list(zip(xs, ys)): iterators that yield new tuples, collected. -/
namespace FsL
open PySem PySem.Spec PyProof.Rows
/-- an iterator each of whose n items is a new tuple, while at S a list is being filled -/
structure FSrc (prog : Program) (w : World) (A : Around) (I S : Addr) (wr : List Addr) (n : Nat) (Rel : Nat → List Value → Prop) (St : Nat → Heap → Prop) : Prop where
  off : S ∉ wr
  frame : ∀ i h h', St i h → (∀ b o, b ≠ S → h.get? b = some o → h'.get? b = some o) → St i h'
  item : ∀ i (s : Shared) (Q : Option Value → Shared → Prop) (E : Value → Shared → Prop), i < n → St i s.heap → S < s.heap.objs.size →
    (∀ us h' tk, Rel i us → h'.get? s.heap.objs.size = some { cls := .type "tuple", data := .seq us.toArray } → St (i + 1) h' → (∀ b o, b ∉ wr → s.heap.get? b = some o → h'.get? b = some o) → Q (some (.ref s.heap.objs.size)) { s with heap := h', toks := tk }) → wpAny (model prog w) A (pyNext (.ref I)) Q E s
  done : ∀ (s : Shared) (Q : Option Value → Shared → Prop) (E : Value → Shared → Prop), St n s.heap →
    (∀ h' tk, (∀ b o, b ∉ wr → s.heap.get? b = some o → h'.get? b = some o) → Q none { s with heap := h', toks := tk }) → wpAny (model prog w) A (pyNext (.ref I)) Q E s
structure Md (Rel : Nat → List Value → Prop) (lo : Addr) (h : Heap) (as : List Addr) : Prop where
  rise : as.Pairwise (· < ·)
  above : ∀ a ∈ as, lo < a
  tups : ∀ (j : Nat) (a : Addr), as[j]? = some a → ∃ us, Rel j us ∧ h.get? a = some { cls := .type "tuple", data := .seq us.toArray }
theorem Md.there {Rel : Nat → List Value → Prop} {lo : Addr} {h : Heap} {as : List Addr} (g : Md Rel lo h as) {a : Addr} (ha : a ∈ as) : a < h.objs.size := by
  obtain ⟨j, hj⟩ := List.mem_iff_getElem?.mp ha
  obtain ⟨_, _, e⟩ := g.tups j a hj
  exact Heap.lt_size e
section
variable {prog : Program} {w : World} {A : Around} {s : Shared} {R : Result → Shared → Prop} {I S : Addr} {wr : List Addr} {n : Nat} {Rel : Nat → List Value → Prop} {St : Nat → Heap → Prop}
theorem fs_loop (D : FSrc prog w A.in1 I S wr n Rel St) (hwr : ∀ b ∈ wr, b < S) (hn : n ≤ sizeLine) (res : Value) {h₁ : Heap}
    (hR : ∀ h' tk acc c as, (∀ b o, b ≠ S → b ∉ wr → h₁.get? b = some o → h'.get? b = some o) → h'.get? S = some { cls := .type "list", dict := none, data := .seq acc c, slots := #[] } → as.length = n → Md Rel S h' as →
      acc.toList = as.map Value.ref → R (.ok (.ret res)) { s with heap := h', toks := tk }) :
    ∀ (k i : Nat) (h : Heap) (tk c : Nat) (acc : Array Value) (as : List Addr), n - i = k → i ≤ n → St i h → (∀ b o, b ≠ S → b ∉ wr → h₁.get? b = some o → h.get? b = some o) →
      h.get? S = some { cls := .type "list", dict := none, data := .seq acc c, slots := #[] } → acc.toList = as.map Value.ref → as.length = i → Md Rel S h as →
      codeAny (model prog w) A (.builtin "list.extend.loop" ⟨[.ref S, .ref I, res], []⟩) R { s with heap := h, toks := tk } := by
  have awr : ∀ {h : Heap} {as : List Addr}, Md Rel S h as → ∀ a ∈ as, a ∉ wr := fun g a ha hb => absurd (g.above a ha) (Nat.not_lt.mpr (Nat.le_of_lt (hwr a hb)))
  intro k
  induction k with
  | zero =>
    intro i h tk c acc as hk hi hst hkeep hS hacc hal hG
    have hin : i = n := by omega
    subst hin
    refine codeAny_builtin PySem.F.entry_extend_loop ?_
    rw [Around.under_plainId PySem.F.plain_extend_loop _]
    show wpAny _ A.in1 (pyNext (.ref I) >>= _) _ _ _
    refine wpAny_bind (D.done { s with heap := h, toks := tk } _ _ hst fun h' tk' he => ?_)
    refine wpAny_pure (hR h' tk' acc c as (fun b o h1 h2 e => he b o h2 (hkeep b o h1 h2 e)) (he S _ D.off hS) hal ⟨hG.rise, hG.above, fun j a hj => ?_⟩ hacc)
    obtain ⟨us, e1, e3⟩ := hG.tups j a hj
    exact ⟨us, e1, he a _ (awr hG a (List.mem_of_getElem? hj)) e3⟩
  | succ k ih =>
    intro i h tk c acc as hk hi hst hkeep hS hacc hal hG
    have hlt : i < n := by omega
    have hsz : acc.size = i := by rw [← Array.length_toList, hacc, List.length_map, hal]
    refine codeAny_builtin PySem.F.entry_extend_loop ?_
    rw [Around.under_plainId PySem.F.plain_extend_loop _]
    show wpAny _ A.in1 (pyNext (.ref I) >>= _) _ _ _
    have hSl : S < h.objs.size := Heap.lt_size hS
    refine wpAny_bind (D.item i { s with heap := h, toks := tk } _ _ hlt hst hSl fun us h' tk' hrel ht hst' hkp => ?_)
    dsimp only at ht hkp ⊢
    have hS' := hkp S _ D.off hS
    have up : ∀ b o, b ≠ S → h'.get? b = some o → (h'.update S (Obj.mapSeq (·.push (Value.ref h.objs.size)))).get? b = some o := fun b o hb e => (Heap.get?_update_other _ _ (Ne.symm hb)).trans e
    show wpAny _ A.in1 (updateSeq S (·.push (Value.ref h.objs.size)) >>= _) _ _ _
    refine wpAny_bind ?_
    refine wpAny_updateSeq hS' rfl (wpAny_pure ⟨plainId_quiet PySem.F.plain_extend_loop _, ih (i + 1) _ tk' _ (acc.push (Value.ref h.objs.size)) (as ++ [h.objs.size]) (by omega) hlt (D.frame _ _ _ hst' up)
      (fun b o h1 h2 e => up b o h1 (hkp b o h2 (hkeep b o h1 h2 e))) (Heap.get?_update_self _ hS' rfl) (by rw [Array.toList_push, hacc, List.map_append]; rfl) (by rw [List.length_append, hal]; rfl) ⟨?_, ?_, ?_⟩⟩) (by rw [hsz]; omega) (by show (acc.push (Value.ref h.objs.size)).size ≤ sizeLine + 1; rw [Array.size_push, hsz]; omega)
    · refine List.pairwise_append.mpr ⟨hG.rise, List.pairwise_singleton _ _, fun a ha b hb => ?_⟩
      rw [List.mem_singleton.mp hb]
      exact hG.there ha
    · intro a ha
      rcases List.mem_append.mp ha with ha | ha
      · exact hG.above a ha
      · rw [List.mem_singleton.mp ha]; exact hSl
    · intro j b hj
      rcases Nat.lt_trichotomy j as.length with h1 | h1 | h1
      · rw [List.getElem?_append_left h1] at hj
        obtain ⟨us', e1, e3⟩ := hG.tups j b hj
        have hbm := List.mem_of_getElem? hj
        have hb := hG.above b hbm
        exact ⟨us', e1, up b _ (Nat.ne_of_gt hb) (hkp b _ (awr hG b hbm) e3)⟩
      · subst h1
        have hb : h.objs.size = b := by simpa using hj
        subst hb
        exact ⟨us, by rw [hal]; exact hrel, up _ _ (Nat.ne_of_gt hSl) ht⟩
      · have hnone : (as ++ [h.objs.size])[j]? = none := List.getElem?_eq_none (by rw [List.length_append, List.length_singleton]; omega)
        rw [hnone] at hj; cases hj
end
section
variable {prog : Program} {w : World} {A : Around} {E : Value → Shared → Prop} {s : Shared} {I : Addr} {wr : List Addr} {n : Nat} {Rel : Nat → List Value → Prop} {T : String}
/-- what is known of the iterator, whatever list is filled -/
structure FIt (prog : Program) (w : World) (T : String) (I : Addr) (wr fp : List Addr) (n : Nat) (Rel : Nat → List Value → Prop) (St : Addr → Nat → Heap → Prop) : Prop where
  nolen : typeLookup (.type T) "__len__" = pure none
  nohint : typeLookup (.type T) "__length_hint__" = pure none
  nlist : (Value.type T == Value.type "list") = false
  ntup : (Value.type T == Value.type "tuple") = false
  mem : I ∈ fp
  sub : ∀ b ∈ wr, b ∈ fp
  src : ∀ (A : Around) (S : Addr), A.handled = none → S ∉ fp → FSrc prog w A I S wr n Rel (St S)
  type : ∀ S i (s : Shared), St S i s.heap → s.TypeIs (.ref I) T
  self : ∀ (A : Around) (S : Addr) (s : Shared) (Q : Value → Shared → Prop) (E : Value → Shared → Prop), St S 0 s.heap → Q (.ref I) s → wpAny (model prog w) A (pyIter (.ref I)) Q E s
variable {fp : List Addr} {St : Addr → Nat → Heap → Prop}
theorem fs_extend {R : Result → Shared → Prop} (hh : A.handled = none) (D : FIt prog w T I wr fp n Rel St) (S : Addr) (hSf : S ∉ fp) (hwr : ∀ b ∈ wr, b < S) (hst : St S 0 s.heap) (res : Value) (c₀ : Nat) (hS : s.heap.get? S = some { cls := .type "list", data := .seq #[] c₀ })
    (hR : ∀ h' tk acc c as, (∀ b o, b ≠ S → b ∉ wr → s.heap.get? b = some o → h'.get? b = some o) → h'.get? S = some { cls := .type "list", dict := none, data := .seq acc c, slots := #[] } → as.length = n → Md Rel S h' as →
      acc.toList = as.map Value.ref → R (.ok (.ret res)) { s with heap := h', toks := tk }) (hn : n ≤ sizeLine) :
    wpAny (model prog w) A.in1 (Builtin.List.listExtendWith (.ref S) (.ref I) res)
      (fun fin s' => match fin with | .done f => R (.ok f) s' | .again c' => c'.quiet = true ∧ codeAny (model prog w) A c' R s') (fun e s' => R (.error e) s') s := by
  have hSI : S ≠ I := fun e => hSf (e ▸ D.mem)
  unfold Builtin.List.listExtendWith
  refine wpAny_bind (wpAny_typeOf (D.type S 0 s hst) ?_)
  have h1 : Builtin.List.listSameRef (.ref S) (.ref I) = false := by simp [Builtin.List.listSameRef, hSI]
  simp only [h1, D.nlist, D.ntup, Bool.or_false, Bool.false_eq_true, if_false]
  refine wpAny_bind (D.self _ S _ _ _ hst ?_)
  refine wpAny_bind (wpAny_holding ?_)
  unfold Builtin.List.listLengthHint
  refine wpAny_bind (wpAny_specialOf (D.type S 0 s hst) D.nolen ?_)
  show wpAny _ A.in1 (specialOf (Value.ref I) (Str.ofString "__length_hint__") >>= _) _ _ _
  refine wpAny_bind (wpAny_specialOf (D.type S 0 s hst) D.nohint ?_)
  refine wpAny_pure ?_
  show wpAny _ A.in1 (rule "list.extend.makes-room" >>= fun _ => Builtin.List.listTouch (.ref S) >>= fun _ =>
    again (.builtin "list.extend.loop" ⟨[.ref S, .ref I, res], []⟩)) _ _ _
  refine wpAny_bind (wpAny_rule ?_)
  refine wpAny_bind ?_
  show wpAny _ A.in1 (updateSeq S (·.push .none) >>= fun _ => updateSeq S (·.pop)) _ _ _
  refine wpAny_bind (wpAny_updateSeq hS rfl ?_)
  have hS₂ := Heap.get?_update_self (Obj.mapSeq (·.push Value.none)) hS rfl
  refine wpAny_updateSeq (hz := by seq_fits) hS₂ rfl ?_
  have hS₃ := Heap.get?_update_self (Obj.mapSeq (·.pop)) hS₂ rfl
  have oth : ∀ b o, b ≠ S → s.heap.get? b = some o → ((s.heap.update S (Obj.mapSeq (·.push Value.none))).update S (Obj.mapSeq (·.pop))).get? b = some o :=
    fun b o hb e => (Heap.get?_update_other _ _ (Ne.symm hb)).trans ((Heap.get?_update_other _ _ (Ne.symm hb)).trans e)
  have DS := D.src A.in1 S hh hSf
  refine wpAny_pure ⟨plainId_quiet PySem.F.plain_extend_loop _, fs_loop (h₁ := s.heap) DS hwr hn res (fun h' tk acc c as hk hS' hl hG hacc => hR h' tk acc c as hk hS' hl hG hacc) n 0 _ s.toks _ #[] [] (Nat.sub_zero _) (Nat.zero_le _)
    (DS.frame _ _ _ hst oth) (fun b o h1 _ e => oth b o h1 e) hS₃ rfl rfl ⟨List.Pairwise.nil, (fun _ ha => nomatch ha), (fun j a hj => by simp at hj)⟩⟩
theorem Md.low {lo lo' : Addr} {h : Heap} {as : List Addr} (g : Md Rel lo h as) (hl : lo' ≤ lo) : Md Rel lo' h as := ⟨g.rise, fun a ha => Nat.lt_of_le_of_lt hl (g.above a ha), g.tups⟩
theorem fs_init {R : Result → Shared → Prop} (hh : A.handled = none) (D : FIt prog w T I wr fp n Rel St) (S : Addr) (hSf : S ∉ fp) (hwr : ∀ b ∈ wr, b < S) (hst : St S 0 s.heap) (hS : s.heap.get? S = some { cls := .type "list", data := .seq #[] })
    (hR : ∀ h' tk acc c as, (∀ b o, b ≠ S → b ∉ wr → s.heap.get? b = some o → h'.get? b = some o) → h'.get? S = some { cls := .type "list", dict := none, data := .seq acc c, slots := #[] } → as.length = n → Md Rel S h' as →
      acc.toList = as.map Value.ref → R (.ok (.ret .none)) { s with heap := h', toks := tk }) (hn : n ≤ sizeLine) :
    wpAny (model prog w) A.in1 (Builtin.«list.__init__» ⟨[.ref S, .ref I], []⟩)
      (fun fin s' => match fin with | .done f => R (.ok f) s' | .again c' => c'.quiet = true ∧ codeAny (model prog w) A c' R s') (fun e s' => R (.error e) s') s := by
  show wpAny _ _ (do let old ← Builtin.List.listItems (.ref S); Builtin.List.listUpdate (.ref S) (fun _ => #[]); letGo old.toList.reverse; Builtin.List.listExtendWith (.ref S) (.ref I) .none) _ _ s
  refine wpAny_bind ?_
  unfold Builtin.List.listItems
  refine wpAny_bind (wpAny_seqItems hS rfl (wpAny_pure ?_))
  show wpAny _ _ (updateSeq S (fun _ => #[]) >>= fun _ => letGo (#[] : Array Value).toList.reverse >>= fun _ => Builtin.List.listExtendWith (.ref S) (.ref I) .none) _ _ s
  refine wpAny_bind (wpAny_updateSeq hS rfl ?_)
  have hS₂ := Heap.get?_update_self (Obj.mapSeq (fun _ => (#[] : Array Value))) hS rfl
  have oth : ∀ b o, b ≠ S → s.heap.get? b = some o → (s.heap.update S (Obj.mapSeq (fun _ => (#[] : Array Value)))).get? b = some o :=
    fun b o hb e => (Heap.get?_update_other _ _ (Ne.symm hb)).trans e
  refine wpAny_bind (wpAny_letGo ?_)
  refine fs_extend hh D S hSf hwr ((D.src A S hh hSf).frame _ _ _ hst oth) .none _ hS₂ (fun h' tk acc c as hk hS' hl hG hacc => ?_) hn
  exact hR h' tk acc c as (fun b o hb hw e => hk b o hb hw (oth b o hb e)) hS' hl hG hacc
/-- list(I) -/
theorem fs_call {Q : Value → Shared → Prop} (hh : A.handled = none) (D : FIt prog w T I wr fp n Rel St) (hfp : ∀ b ∈ fp, b < s.heap.objs.size) (hst : ∀ S, s.heap.objs.size ≤ S → St S 0 s.heap) (hn : n ≤ sizeLine)
    (hQ : ∀ h' tk acc c as, (∀ b o, b ∉ wr → s.heap.get? b = some o → h'.get? b = some o) → h'.get? s.heap.objs.size = some { cls := .type "list", dict := none, data := .seq acc c, slots := #[] } → as.length = n → Md Rel s.heap.objs.size h' as →
      acc.toList = as.map Value.ref → Q (.ref s.heap.objs.size) { s with heap := h', toks := tk }) :
    wpAny (model prog w) A (call (.type "list") [.ref I]) Q E s := by
  refine callType_codes (Q₁ := fun obj s₁ => obj = .ref s.heap.objs.size ∧ s₁ = { s with heap := s.heap.push { cls := .type "list", data := .seq #[] } }) PySem.F.called_list (PySem.F.typeCall_list_1 _) PySem.F.entry_list_init
    (code_list_new _ ⟨rfl, rfl⟩) fun obj s₁ h₁ => ?_
  obtain ⟨rfl, rfl⟩ := h₁
  have hS : (s.heap.push { cls := .type "list", data := .seq #[] }).get? s.heap.objs.size = some { cls := .type "list", data := .seq #[] } := Heap.get?_push_size _ rfl
  have hSf : s.heap.objs.size ∉ fp := fun z => Nat.lt_irrefl _ (hfp _ z)
  refine ⟨⟨_, hS, rfl⟩, PySem.F.args_list_init_2 _ _, fs_init (A := A.in1) hh D _ hSf (fun b hb => hfp b (D.sub b hb)) ((D.src A _ hh hSf).frame _ _ _ (hst _ (Nat.le_refl _)) fun b o _ e => Heap.get?_push_of_some _ e) hS (fun h' tk acc c as hk hS' hl hG hacc => ?_) hn⟩
  exact ⟨rfl, hQ h' tk acc c as (fun b o hb e => hk b o (Nat.ne_of_lt (Heap.lt_size e)) hb (Heap.get?_push_of_some _ e)) hS' hl hG hacc⟩
end
/-! ### enumerate, zip -/
theorem nolen_en : typeLookup (.type "enumerate") "__len__" = pure none := by rw [typeLookup_type, builtinLookup_eq_fast]; kernel_rfl
theorem nohint_en : typeLookup (.type "enumerate") "__length_hint__" = pure none := by rw [typeLookup_type, builtinLookup_eq_fast]; kernel_rfl
theorem nolen_zp : typeLookup (.type "zip") "__len__" = pure none := by rw [typeLookup_type, builtinLookup_eq_fast]; kernel_rfl
theorem nohint_zp : typeLookup (.type "zip") "__length_hint__" = pure none := by rw [typeLookup_type, builtinLookup_eq_fast]; kernel_rfl
theorem fit_enum {prog : Program} {w : World} (e it l : Addr) (hei : e ≠ it) (hle : l ≠ e) (hli : l ≠ it) (items : Array Value) :
    FIt prog w "enumerate" e [e, it] [e, it, l] items.size (fun i us => ∃ t u, us = [.int i t, u] ∧ items[i]? = some u)
      (fun S i h => h.IsListIter it l i ∧ h.IsList l items ∧ ((∃ old, IsEnum h e it i old) ∨ ∃ old T f oT, IsEnumHeld h e it i old T f ∧ h.get? T = some oT ∧ T ≠ e ∧ T ≠ it ∧ T ≠ S)) where
  nolen := nolen_en
  nohint := nohint_en
  nlist := by decide
  ntup := by decide
  mem := by simp
  sub := fun b hb => by simp at hb ⊢; rcases hb with rfl | rfl <;> simp
  type := fun S i s st => by
    obtain ⟨_, _, ⟨old, he⟩ | ⟨old, T, f, oT, he, _⟩⟩ := st
    · exact ⟨_, he, rfl⟩
    · exact ⟨_, he, rfl⟩
  self := fun A S s Q E st h => by
    obtain ⟨_, _, ⟨old, he⟩ | ⟨old, T, f, oT, he, _⟩⟩ := st
    · exact wpAny_pyIter_enum he h
    · have hT : s.TypeIs (.ref e) "enumerate" := ⟨_, he, rfl⟩
      refine wpAny_pyIter_slot hT F.slot_enumerate_iter (wpAny_call_entry F.slot_enumerate_iter hT F.entry_enumerate_iter ?_ (F.args_enumerate_iter_1 _))
      show wpAny _ _ (ret (.ref e)) _ _ s
      exact wpAny_pure ⟨_, rfl, "enumerate", _, hT, F.slot_enumerate_next.lookup, h⟩
  src := fun A S hA hSf => by
    simp only [List.mem_cons, List.not_mem_nil, or_false, not_or] at hSf
    obtain ⟨de, dit, dl⟩ := hSf
    exact {
      off := fun hm => by
        simp only [List.mem_cons, List.not_mem_nil, or_false] at hm
        rcases hm with x | x
        · exact de x
        · exact dit x
      frame := fun i h₁ h₂ st hk => by
        obtain ⟨hit, hl, he⟩ := st
        refine ⟨hit.at fun o x => hk _ o (Ne.symm dit) x, hl.at fun o x => hk _ o (Ne.symm dl) x, ?_⟩
        rcases he with ⟨old, he⟩ | ⟨old, T, f, oT, he, hT, r1, r2, r3⟩
        · exact .inl ⟨old, hk _ _ (Ne.symm de) he⟩
        · exact .inr ⟨old, T, f, oT, hk _ _ (Ne.symm de) he, hk _ _ r3 hT, r1, r2, r3⟩
      item := fun i s₁ Q₁ E₁ hi st hds hQ => by
        obtain ⟨hit, hl, he⟩ := st
        have ex := Array.getElem?_eq_getElem hi
        have ec : ((i + 1 : Nat) : Int) = (i : Int) + 1 := by omega
        have nit : s₁.heap.objs.size ≠ it := let ⟨_, x, _⟩ := hit; Nat.ne_of_gt (Heap.lt_size x)
        rcases he with ⟨old, he⟩ | ⟨old, T, f, oT, he, hT, r1, r2, r3⟩
        · refine wpAny_pyNext_enum_item he hit hl ex hei fun h' ho hit' hT hsz hk => ?_
          exact hQ [.int i s₁.toks, items[i]] h' (s₁.toks + 1) ⟨_, _, rfl, ex⟩ hT
            ⟨hit', hl.at fun o x => hk l o hle hli x, .inr ⟨_, s₁.heap.objs.size, false, _, (by rw [ec]; exact ho), hT, Nat.ne_of_gt (Heap.lt_size he), nit, Nat.ne_of_gt hds⟩⟩
            fun b o hb x => hk b o (fun y => hb (by simp [y])) (fun y => hb (by simp [y])) x
        · refine wpAny_pyNext_enum_item_held he hT r1 r2 hit hl ex hei fun h' ho hit' hT' hsz hk => ?_
          exact hQ [.int i s₁.toks, items[i]] h' (s₁.toks + 1) ⟨_, _, rfl, ex⟩ hT'
            ⟨hit', hl.at fun o x => hk l o hle hli x, .inr ⟨old, T, true, oT, (by rw [ec]; exact ho), hk _ _ r1 r2 hT, r1, r2, r3⟩⟩
            fun b o hb x => hk b o (fun y => hb (by simp [y])) (fun y => hb (by simp [y])) x
      done := fun s₁ Q₁ E₁ st hQ => by
        obtain ⟨hit, hl, he⟩ := st
        have hx : items[items.size]? = none := Array.getElem?_eq_none (Nat.le_refl _)
        rcases he with ⟨old, he⟩ | ⟨old, T, f, oT, he, hT, r1, r2, r3⟩
        · exact wpAny_pyNext_enum_end hA he hit hl hx fun h' hk => hQ h' s₁.toks fun b o hb x => hk b o (fun y => hb (by simp [y])) x
        · exact wpAny_pyNext_enum_end_held hA he hit hl hx fun h' hk => hQ h' s₁.toks fun b o hb x => hk b o (fun y => hb (by simp [y])) x }
theorem fit_zip {prog : Program} {w : World} (z TI TO i1 i2 l1 l2 : Addr) (D : ZipApart z TI TO i1 i2 l1 l2) (xs ys : Array Value) :
    FIt prog w "zip" z [z, TO, i1, i2] [z, TI, TO, i1, i2, l1, l2] (min xs.size ys.size) (fun i us => ∃ k v, us = [k, v] ∧ xs[i]? = some k ∧ ys[i]? = some v)
      (fun S i h => IsPair h TI (.ref i1) (.ref i2) ∧ h.IsListIter i1 l1 i ∧ h.IsListIter i2 l2 i ∧ h.IsList l1 xs ∧ h.IsList l2 ys ∧
        ((IsZip h z TI TO .none ∧ ∃ a b, IsPair h TO a b) ∨ ∃ T f oT, IsZipHeld h z TI TO T f ∧ h.get? T = some oT ∧ T ≠ z ∧ T ≠ i1 ∧ T ≠ i2 ∧ T ≠ S)) where
  nolen := nolen_zp
  nohint := nohint_zp
  nlist := by decide
  ntup := by decide
  mem := by simp
  sub := fun b hb => by simp at hb ⊢; rcases hb with rfl | rfl | rfl | rfl <;> simp
  type := fun S i s st => by
    obtain ⟨_, _, _, _, _, ⟨hz, _⟩ | ⟨T, f, oT, hz, _⟩⟩ := st
    · exact ⟨_, hz, rfl⟩
    · exact ⟨_, hz, rfl⟩
  self := fun A S s Q E st h => by
    obtain ⟨_, _, _, _, _, ⟨hz, _⟩ | ⟨T, f, oT, hz, _⟩⟩ := st
    · exact wpAny_pyIter_zip hz h
    · have hT : s.TypeIs (.ref z) "zip" := ⟨_, hz, rfl⟩
      refine wpAny_pyIter_slot hT F.slot_zip_iter (wpAny_call_entry F.slot_zip_iter hT F.entry_zip_iter ?_ (F.args_zip_iter_1 _))
      show wpAny _ _ (ret (.ref z)) _ _ s
      exact wpAny_pure ⟨_, rfl, "zip", _, hT, F.slot_zip_next.lookup, h⟩
  src := fun A S hA hSf => by
    simp only [List.mem_cons, List.not_mem_nil, or_false, not_or] at hSf
    obtain ⟨dz, dTI, dTO, di1, di2, dl1, dl2⟩ := hSf
    exact {
      off := fun hm => by
        simp only [List.mem_cons, List.not_mem_nil, or_false] at hm
        rcases hm with e | e | e | e
        · exact dz e
        · exact dTO e
        · exact di1 e
        · exact di2 e
      frame := fun i h₁ h₂ st hk => by
        obtain ⟨hTI, h1, h2, hl1, hl2, hz⟩ := st
        refine ⟨hk _ _ (Ne.symm dTI) hTI, h1.at fun o e => hk _ o (Ne.symm di1) e, h2.at fun o e => hk _ o (Ne.symm di2) e, hl1.at fun o e => hk _ o (Ne.symm dl1) e, hl2.at fun o e => hk _ o (Ne.symm dl2) e, ?_⟩
        rcases hz with ⟨hz, a, b, hTO⟩ | ⟨T, f, oT, hz, hT, r1, r2, r3, r4⟩
        · exact .inl ⟨hk _ _ (Ne.symm dz) hz, a, b, hk _ _ (Ne.symm dTO) hTO⟩
        · exact .inr ⟨T, f, oT, hk _ _ (Ne.symm dz) hz, hk _ _ r4 hT, r1, r2, r3, r4⟩
      item := fun i s₁ Q₁ E₁ hi st hds hQ => by
        obtain ⟨hTI, h1, h2, hl1, hl2, hz⟩ := st
        have hix : i < xs.size := Nat.lt_of_lt_of_le hi (Nat.min_le_left ..)
        have hiy : i < ys.size := Nat.lt_of_lt_of_le hi (Nat.min_le_right ..)
        have ex := Array.getElem?_eq_getElem hix
        have ey := Array.getElem?_eq_getElem hiy
        have lt : ∀ {c o}, s₁.heap.get? c = some o → s₁.heap.objs.size ≠ c := fun e => Nat.ne_of_gt (Heap.lt_size e)
        have n1 : s₁.heap.objs.size ≠ i1 := let ⟨_, e, _⟩ := h1; lt e
        have n2 : s₁.heap.objs.size ≠ i2 := let ⟨_, e, _⟩ := h2; lt e
        rcases hz with ⟨hz, a, b, hTO⟩ | ⟨T, f, oT, hz, hT, r1, r2, r3, r4⟩
        · refine wpAny_pyNext_zip_item D hz hTI hTO h1 h2 hl1 hl2 ex ey fun h' a1 a2 a3 a4 a5 a6 hk => ?_
          exact hQ [xs[i], ys[i]] h' s₁.toks ⟨_, _, rfl, ex, ey⟩ a5
            ⟨hk _ _ D.TIz D.TITO D.TIi1 D.TIi2 hTI, a3, a4, hl1.at fun o e => hk _ o D.l1z D.l1TO D.l1i1 D.l1i2 e, hl2.at fun o e => hk _ o D.l2z D.l2TO D.l2i1 D.l2i2 e,
              .inr ⟨s₁.heap.objs.size, false, _, a1, a5, lt hz, n1, n2, Nat.ne_of_gt hds⟩⟩
            fun c o hc e => hk c o (fun x => hc (by simp [x])) (fun x => hc (by simp [x])) (fun x => hc (by simp [x])) (fun x => hc (by simp [x])) e
        · refine wpAny_pyNext_zip_item_held D hz hT hTI h1 h2 hl1 hl2 ex ey fun h' a1 a3 a4 a5 a6 hk => ?_
          exact hQ [xs[i], ys[i]] h' s₁.toks ⟨_, _, rfl, ex, ey⟩ a5
            ⟨hk _ _ D.TIz D.TIi1 D.TIi2 hTI, a3, a4, hl1.at fun o e => hk _ o D.l1z D.l1i1 D.l1i2 e, hl2.at fun o e => hk _ o D.l2z D.l2i1 D.l2i2 e,
              .inr ⟨T, true, oT, a1, hk _ _ r1 r2 r3 hT, r1, r2, r3, r4⟩⟩
            fun c o hc e => hk c o (fun x => hc (by simp [x])) (fun x => hc (by simp [x])) (fun x => hc (by simp [x])) e
      done := fun s₁ Q₁ E₁ st hQ => by
        obtain ⟨hTI, h1, h2, hl1, hl2, hz⟩ := st
        have hend : xs[min xs.size ys.size]? = none ∨ ys[min xs.size ys.size]? = none := by
          rcases Nat.le_total xs.size ys.size with h | h
          · exact .inl (Array.getElem?_eq_none (by rw [Nat.min_eq_left h]; exact Nat.le_refl _))
          · exact .inr (Array.getElem?_eq_none (by rw [Nat.min_eq_right h]; exact Nat.le_refl _))
        rcases hz with ⟨hz, a, b, hTO⟩ | ⟨T, f, oT, hz, hT, r1, r2, r3, r4⟩
        · exact wpAny_pyNext_zip_end hA D hz hTI hTO h1 h2 hl1 hl2 hend fun h' hk => hQ h' s₁.toks fun c o hc e => hk c o (fun x => hc (by simp [x])) (fun x => hc (by simp [x])) (fun x => hc (by simp [x])) (fun x => hc (by simp [x])) e
        · exact wpAny_pyNext_zip_end_held hA D hz hT hTI h1 h2 hl1 hl2 hend fun h' hk => hQ h' s₁.toks fun c o hc e => hk c o (fun x => hc (by simp [x])) (fun x => hc (by simp [x])) (fun x => hc (by simp [x])) e }
end FsL

set_option Elab.async false
set_option linter.all false
set_option maxRecDepth 100000
set_option maxHeartbeats 2000000
/-! Dat: list(enumerate(xs)), list(zip(xs, ys)) as values. -/
namespace FsL
open PySem PySem.Spec PyProof.Rows L2
def putU : Hp → List Addr → List (List V) → Hp
  | H, a :: as, us :: its => putU (upd H a (.tup us)) as its
  | H, _, _ => H
theorem putU_off {b : Addr} : ∀ (as : List Addr) (its : List (List V)) (H : Hp), b ∉ as → putU H as its b = H b
  | [], _, _, _ => rfl
  | _ :: _, [], _, _ => rfl
  | a :: as, us :: its, H, h => by
    show putU (upd H a (.tup us)) as its b = H b
    rw [putU_off as its _ (fun z => h (List.mem_cons_of_mem _ z)), upd_ne (fun z => h (by rw [z]; exact List.mem_cons_self))]
theorem putU_at : ∀ (as : List Addr) (its : List (List V)) (H : Hp), as.length = its.length → as.Nodup → Paired (fun (t : Addr) (us : List V) => putU H as its t = some (.tup us)) as its
  | [], [], _, _, _ => .nil
  | [], _ :: _, _, h, _ => by cases h
  | _ :: _, [], _, h, _ => by cases h
  | a :: as, us :: its, H, h, hn => by
    have hn' := List.nodup_cons.mp hn
    have ih := putU_at as its (upd H a (.tup us)) (Nat.succ.inj h) hn'.2
    refine .cons ?_ ih
    show putU (upd H a (.tup us)) as its a = some (.tup us)
    rw [putU_off as its _ hn'.1, upd_same]
/-- the list and its new tuples, laid and tracked -/
def rFr (its : List (List V)) (H : Hp) (Q : VK) : Prop := ∀ (H' : Hp) (p : Addr) (ts : List Addr), (∀ b o, H b = some o → H' b = some o) → H p = none → (∀ t ∈ ts, H t = none) → p ∉ ts → H' p = some (.lst (ts.map V.ref)) →
  Paired (fun (t : Addr) (us : List V) => H' t = some (.tup us)) ts its → Q (.ref p) H'
section
variable {X : Cx} {e e2 : Expr} {ta : TA} {p p2 pos pos2 : Pos}
theorem fresh_laid {pins : List (Addr × Obj)} {σ : L2.St} {H : Hp} {s : Shared} {h' : Heap} {tk : Nat} {Rel : Nat → List Value → Prop} {its : List (List V)} {acc : Array Value} {c : Nat} {S : Addr} {as : List Addr} (I : Inv X pins σ H s) (hz : its.length ≤ sizeLine) (hz2 : ∀ us ∈ its, us.length ≤ sizeLine)
    (hk : ∀ b o, s.heap.get? b = some o → h'.get? b = some o) (hSz : s.heap.objs.size ≤ S) (hS : h'.get? S = some { cls := .type "list", dict := none, data := .seq acc c, slots := #[] }) (hl : as.length = its.length) (hG : Md Rel S h' as)
    (hrel : ∀ j us, Rel j us → ∃ xs, its[j]? = some xs ∧ Vals xs us) (hacc : acc.toList = as.map Value.ref) :
    ∃ H' : Hp, (∀ b o, H b = some o → H' b = some o) ∧ H S = none ∧ (∀ t ∈ as, H t = none) ∧ S ∉ as ∧ H' S = some (.lst (as.map V.ref)) ∧ Paired (fun (t : Addr) (us : List V) => H' t = some (.tup us)) as its ∧ Inv X pins σ H' { s with heap := h', toks := tk } := by
  have hSn : S ∉ as := fun z => Nat.lt_irrefl _ (hG.above _ z)
  have nd : as.Nodup := List.Pairwise.imp (fun {a b} (h : a < b) => Nat.ne_of_lt h) hG.rise
  have new : ∀ t ∈ as, H t = none := fun t ht => I.hok.fresh (Nat.le_of_lt (Nat.lt_of_le_of_lt hSz (hG.above t ht)))
  have newS : H S = none := I.hok.fresh hSz
  have atP := putU_at as its (upd H S (.lst (as.map V.ref))) (by omega) nd
  have off : ∀ b, b ∉ as → b ≠ S → putU (upd H S (.lst (as.map V.ref))) as its b = H b := fun b h1 h2 => by rw [putU_off as its _ h1, upd_ne h2]
  have low : ∀ b o, s.heap.get? b = some o → b ∉ as ∧ b ≠ S := fun b o e => ⟨fun z => absurd (Heap.lt_size e) (Nat.not_lt.mpr (Nat.le_of_lt (Nat.lt_of_le_of_lt hSz (hG.above b z)))), Nat.ne_of_lt (Nat.lt_of_lt_of_le (Heap.lt_size e) hSz)⟩
  have kp : ∀ b u, H b = some u → (putU (upd H S (.lst (as.map V.ref))) as its) b = some u := fun b u e => by
    rw [off b (fun z => by rw [new b z] at e; cases e) (fun z => by rw [z, newS] at e; cases e)]
    exact e
  have eS : putU (upd H S (.lst (as.map V.ref))) as its S = some (.lst (as.map V.ref)) := by rw [putU_off as its _ hSn, upd_same]
  refine ⟨putU (upd H S (.lst (as.map V.ref))) as its, kp, newS, new, hSn, eS, atP, ?_⟩
  refine I.call' (ch := []) rfl ⟨fun b o q _ _ _ => hk b o q, fun b o q _ _ _ => ⟨o.slots, hk b o q⟩, fun b o q n _ => ?_, fun b o q _ => ⟨o, hk b o q⟩, fun b xs q => kp b _ q, fun b o u q => kp b _ q, fun b ps q => ⟨#[], by rw [kp b _ q]; simp⟩⟩ (fun b u q => ?_) I.bare fun b z => by simp at z
  · obtain ⟨z1, z2⟩ := low b o q
    rw [off b z1 z2]
    exact n
  · by_cases hb : b ∈ as
    · obtain ⟨j, us, e1, e2, e3⟩ := LiI.paired_ix atP hb
      rw [e3] at q
      cases q
      obtain ⟨uv, f1, f3⟩ := hG.tups j b e1
      obtain ⟨xs, g1, g2⟩ := hrel j uv f1
      rw [e2] at g1
      cases g1
      exact ⟨hz2 us (List.mem_of_getElem? e2), uv, g2, ⟨_, f3, rfl, _, rfl⟩⟩
    · by_cases hb2 : b = S
      · rw [hb2] at q ⊢
        rw [eS] at q
        cases q
        refine ⟨by rw [List.length_map]; omega, acc.toList, c, by rw [hacc]; exact LiI.vals_refs as, ?_⟩
        rw [Array.toArray_toList]
        exact hS
      · rw [off b hb hb2] at q
        exact (I.hok b u q).stay (fun d v _ y => hk d v y) (fun d y => kp d _ y) fun d xs y => kp d _ y
theorem am1 (d : Nat) : d + 1 < d + 2 := by omega
theorem am2 (d : Nat) : d < d + 2 := by omega
theorem am3 {a d : Nat} (h : a < d) : a < d + 2 := by omega
theorem am4 {a d : Nat} (k : Nat) (h : a < d) : a < d + 5 := by omega
theorem am5 (d : Nat) : d + 4 < d + 5 ∧ d + 2 < d + 5 ∧ d + 3 < d + 5 ∧ d < d + 5 ∧ d + 1 < d + 5 := by omega
theorem am6 {d k : Nat} (h : d + k < d) : False := by omega
theorem am7 (d k : Nat) : d ≤ d + k := by omega
def enV : Nat → List V → List (List V)
  | _, [] => []
  | k, x :: xs => [.int (k : Nat), x] :: enV (k + 1) xs
theorem enV_length : ∀ (k : Nat) (xs : List V), (enV k xs).length = xs.length
  | _, [] => rfl
  | k, x :: xs => by rw [enV, List.length_cons, List.length_cons, enV_length (k + 1) xs]
theorem enV_get : ∀ (k : Nat) (xs : List V) (i : Nat) {x : V}, xs[i]? = some x → (enV k xs)[i]? = some [.int ((k + i : Nat) : Int), x]
  | _, [], i, _, h => by simp at h
  | k, y :: xs, 0, x, h => by
    have e := Option.some.inj h
    subst e
    rfl
  | k, y :: xs, i + 1, x, h => by
    have := enV_get (k + 1) xs i (x := x) h
    rw [show k + 1 + i = k + (i + 1) by omega] at this
    exact this
theorem enV_mem : ∀ (k : Nat) (xs : List V), ∀ us ∈ enV k xs, us.length = 2
  | _, [], us, h => nomatch h
  | k, x :: xs, us, h => by
    rcases List.mem_cons.mp h with rfl | h
    · rfl
    · exact enV_mem (k + 1) xs us h
def rListEnum (K : PySem.W.Frag) : List V → Hp → VK → Prop := fun vs H Q => ∃ (a : Addr) (xs : List V), vs = [.ref a] ∧ SqL K H a xs ∧ rFr (enV 0 xs) H Q
def rListZip (K : PySem.W.Frag) : List V → Hp → VK → Prop := fun vs H Q => ∃ (a b : Addr) (xs ys : List V), vs = [.ref a, .ref b] ∧ SqL K H a xs ∧ SqL K H b ys ∧ rFr (List.zipWith (fun x y => [x, y]) xs ys) H Q
theorem pe_listEnum (hc : X.calm = true) (hg : Gl X "list") (hm : X.mg "list" = none) (hg2 : Gl X "enumerate") (hm2 : X.mg "enumerate" = none) (ha : PA X [e] ta) (hs2 : starEach [e] X.env = [(false, eval e X.env)] := by rfl)
    (na : starEach [.Call (.Name "enumerate" p2) [e] [] pos2] X.env = (false, eval (.Call (.Name "enumerate" p2) [e] [] pos2) X.env) :: starEach [] X.env := by rfl) :
    PE X (.Call (.Name "list" p) [.Call (.Name "enumerate" p2) [e] [] pos2] [] pos) (tCB (rListEnum X.K) ta) := by
  refine ⟨fun pins s σ H Q I h => ?_⟩
  refine Call_ (ld_blt I hg hm boot_list (PyProof.Rows.callWith_type1 (args_cons (Call_ (ld_blt I hg2 hm2 boot_enumerate (PyProof.Rows.callWith_type1 (thn (ha.run pos2 pins s σ H _ I h) fun us s1 ⟨vs, H1, I1, r1, q1⟩ => ?_) hs2 rfl))) na) na))
  obtain ⟨a, xs, ex, hq, q⟩ := q1
  subst ex
  cases r1 with
  | cons r rr =>
    cases rr
    cases r
    obtain ⟨its, rv, p', hz⟩ := I1.list hq
    have la : a < s1.heap.objs.size := p'.lt
    have len := rv.length
    have hi := I1.ok.hd hc
    refine call_enumerate_list p'.isList fun h' he hit hsz hk => args_nil ?_
    refine fs_call (s := { s1 with heap := h' }) hi (fit_enum (s1.heap.objs.size + 1) s1.heap.objs.size a (Nat.succ_ne_self _) (Nat.ne_of_lt (Nat.lt_succ_of_lt la)) (Nat.ne_of_lt la) its.toArray) (fun b hb => ?_)
      (fun S _ => ⟨hit, p'.isList.at fun o x => hk _ o x, .inl ⟨_, he⟩⟩) (by rw [List.size_toArray]; omega) fun h2 tk acc c as hk2 hS hl hG hacc => ?_
    · show b < h'.objs.size
      rw [hsz]
      simp only [List.mem_cons, List.not_mem_nil, or_false] at hb
      rcases hb with rfl | rfl | rfl
      · exact am1 _
      · exact am2 _
      · exact am3 la
    · obtain ⟨H', k1, k2, k3, k4, k5, k6, J⟩ := fresh_laid (tk := tk) (its := enV 0 xs) I1 (by rw [enV_length]; exact hz) (fun us hu => by rw [enV_mem 0 xs us hu, sizeLine_eq]; decide) (fun b o x => hk2 b o (fun hb => by
          have := Heap.lt_size x
          simp only [List.mem_cons, List.not_mem_nil, or_false] at hb
          rcases hb with rfl | rfl
          · exact am6 this
          · exact Nat.lt_irrefl _ this) (hk b o x)) (show s1.heap.objs.size ≤ h'.objs.size by rw [hsz]; exact am7 _ _) hS (by rw [hl, enV_length, List.size_toArray]; exact len.symm) hG (fun j us ⟨t, u, e1, e2⟩ => by
          subst e1
          have e2' : its[j]? = some u := by simpa using e2
          have hj : j < xs.length := by
            have := (List.getElem?_eq_some_iff.mp e2').1
            omega
          obtain ⟨u', g1, g2⟩ := rv.get (List.getElem?_eq_getElem hj)
          rw [e2'] at g1
          cases g1
          refine ⟨[.int (j : Int), xs[j]], ?_, .cons (show RelV (.int (j : Int)) (.int j t) from ⟨t, rfl⟩) (.cons g2 .nil)⟩
          have := enV_get 0 xs j (List.getElem?_eq_getElem hj)
          rw [Nat.zero_add] at this
          exact this) hacc
      exact ⟨.ref _, H', J, rfl, q H' _ as k1 k2 k3 k4 k5 k6⟩
theorem pe_listZip (hc : X.calm = true) (hg : Gl X "list") (hm : X.mg "list" = none) (hg2 : Gl X "zip") (hm2 : X.mg "zip" = none) (ha : PA X [e, e2] ta) (hs2 : starEach [e, e2] X.env = (false, eval e X.env) :: starEach [e2] X.env := by rfl) (hpl : (backTo pos2 (starEach [e2] X.env)).any (·.1) = false := by rfl)
    (na : starEach [.Call (.Name "zip" p2) [e, e2] [] pos2] X.env = (false, eval (.Call (.Name "zip" p2) [e, e2] [] pos2) X.env) :: starEach [] X.env := by rfl) :
    PE X (.Call (.Name "list" p) [.Call (.Name "zip" p2) [e, e2] [] pos2] [] pos) (tCB (rListZip X.K) ta) := by
  refine ⟨fun pins s σ H Q I h => ?_⟩
  refine Call_ (ld_blt I hg hm boot_list (PyProof.Rows.callWith_type1 (args_cons (Call_ (ld_blt I hg2 hm2 PyProof.Rows.boot_zip (PyProof.Rows.callWith_type1 (thn (ha.run pos2 pins s σ H _ I h) fun us s1 ⟨vs, H1, I1, r1, q1⟩ => ?_) hs2 hpl))) na) na))
  obtain ⟨a, b, xs, ys, ex, hqx, hqy, q⟩ := q1
  subst ex
  cases r1 with
  | cons r rr =>
    cases rr with
    | cons r' rr =>
      cases rr
      cases r
      cases r'
      obtain ⟨its, rv, p1, hz⟩ := I1.list hqx
      obtain ⟨its2, rv2, p2', hz2⟩ := I1.list hqy
      have la : a < s1.heap.objs.size := p1.lt
      have lb : b < s1.heap.objs.size := p2'.lt
      have l1 := rv.length
      have l2 := rv2.length
      have hi := I1.ok.hd hc
      refine call_zip_2 p1.isList p2'.isList fun h' hzp hTI hTO h1 h2 hsz hk => args_nil ?_
      refine fs_call (s := { s1 with heap := h' }) hi (fit_zip _ _ _ _ _ a b (PySem.W.ktu_apart s1.heap.objs.size a b la lb) its.toArray its2.toArray) (fun d hd => ?_)
        (fun S _ => ⟨hTI, h1, h2, p1.isList.at fun o x => hk _ o x, p2'.isList.at fun o x => hk _ o x, .inl ⟨hzp, _, _, hTO⟩⟩) (by rw [List.size_toArray, List.size_toArray]; omega) fun h3 tk acc c as hk2 hS hl hG hacc => ?_
      · show d < h'.objs.size
        rw [hsz]
        simp only [List.mem_cons, List.not_mem_nil, or_false] at hd
        obtain ⟨m1, m2, m3, m4, m5⟩ := am5 s1.heap.objs.size
        rcases hd with rfl | rfl | rfl | rfl | rfl | rfl | rfl
        · exact m1
        · exact m2
        · exact m3
        · exact m4
        · exact m5
        · exact am4 0 la
        · exact am4 0 lb
      · obtain ⟨H', k1, k2, k3, k4, k5, k6, J⟩ := fresh_laid (tk := tk) (its := List.zipWith (fun x y => [x, y]) xs ys) I1 (by rw [List.length_zipWith]; omega) (fun us hu => by
            obtain ⟨j, hj⟩ := List.mem_iff_getElem?.mp hu
            rw [List.getElem?_zipWith] at hj
            split at hj
            · cases hj
              show 2 ≤ sizeLine
              decide
            · cases hj) (fun d o x => hk2 d o (fun hd => by
            have := Heap.lt_size x
            simp only [List.mem_cons, List.not_mem_nil, or_false] at hd
            rcases hd with rfl | rfl | rfl | rfl
            · exact am6 this
            · exact am6 this
            · exact Nat.lt_irrefl _ this
            · exact am6 this) (hk d o x)) (show s1.heap.objs.size ≤ h'.objs.size by rw [hsz]; exact am7 _ _) hS (by rw [hl, List.length_zipWith, List.size_toArray, List.size_toArray]; omega) hG (fun j us ⟨k, v, e1, e2, e3⟩ => by
            subst e1
            have e2' : its[j]? = some k := by simpa using e2
            have e3' : its2[j]? = some v := by simpa using e3
            have hj : j < xs.length := by
              have := (List.getElem?_eq_some_iff.mp e2').1
              omega
            have hj2 : j < ys.length := by
              have := (List.getElem?_eq_some_iff.mp e3').1
              omega
            obtain ⟨u, g1, g2⟩ := rv.get (List.getElem?_eq_getElem hj)
            rw [e2'] at g1
            cases g1
            obtain ⟨u2, g3, g4⟩ := rv2.get (List.getElem?_eq_getElem hj2)
            rw [e3'] at g3
            cases g3
            refine ⟨[xs[j], ys[j]], ?_, .cons g2 (.cons g4 .nil)⟩
            rw [List.getElem?_zipWith, List.getElem?_eq_getElem hj, List.getElem?_eq_getElem hj2]) hacc
        exact ⟨.ref _, H', J, rfl, q H' _ as k1 k2 k3 k4 k5 k6⟩
end
end FsL
namespace Dt
open PySem PySem.Spec PyProof.Rows L2
section
variable {g : G} {F H H' : Hp}
/-- a list of new tuples: the tuples frozen, the list one's own -/
theorem out_fr {its : List (List V)} {ds : List D} {Q : VK} (s : Same F H) (c : allRf ds = true) (r : ∀ (F' : Hp) (ts : List Addr), Same F F' → Paired (fun (t : Addr) (us : List V) => F' t = some (.tup us)) ts its → RpL g F' (ts.map V.ref) ds)
    (q : ∀ v H' F', StepP F H F' H' → ResG true g F H F' H' v (.lst (some 0) ds) → Q v H') : FsL.rFr its H Q := by
  intro H' p ts k1 k2 k3 k4 k5 k6
  have nin : ∀ b u, H b = some u → b ∉ ts := fun b u e z => by rw [k3 b z] at e; cases e
  have st : StepP F H (fun b => if b ∈ ts then H' b else F b) H' := {
    ff := fun b u e => by
      show (if b ∈ ts then H' b else F b) = some u
      rw [if_neg (nin b u (s b u e))]
      exact e
    fh := fun b u e => by
      have e : (if b ∈ ts then H' b else F b) = some u := e
      split at e
      · exact e
      · exact k1 b u (s b u e)
    hh := k1
    new := fun b u e => if_neg (nin b u e) }
  have rr := r (fun b => if b ∈ ts then H' b else F b) ts st.ff (by
    have gen : ∀ {as : List Addr} {jts : List (List V)}, (∀ a ∈ as, a ∈ ts) → Paired (fun (t : Addr) (us : List V) => H' t = some (.tup us)) as jts → Paired (fun (t : Addr) (us : List V) => (if t ∈ ts then H' t else F t) = some (.tup us)) as jts := by
      intro as jts hm h
      induction h with
      | nil => exact .nil
      | cons h1 h2 ih =>
        refine .cons ?_ (ih fun a ha => hm a (List.mem_cons_of_mem _ ha))
        rw [if_pos (hm _ List.mem_cons_self)]
        exact h1
    exact gen (fun a ha => ha) k6)
  refine q (.ref p) H' _ st ⟨[p], .lst k5 ?_ (RpL.own rr c) (fun z => nomatch z), fun a ha => ?_⟩
  · show (if p ∈ ts then H' p else F p) = none
    rw [if_neg k4]
    exact s.free k2
  · rw [List.mem_singleton.mp ha]; exact k2
def nListEnum : List D → R D
  | [.lst none xs] => .ok (.lst (some 0) (enumD 0 xs))
  | _ => .bad
def nListZip : List D → R D
  | [.lst none xs, .lst none ys] => .ok (.lst (some 0) (pairs xs ys))
  | _ => .bad
theorem allRf_enum : ∀ (k : Nat) (xs : List D), allRf (enumD k xs) = true
  | _, [] => rfl
  | k, x :: xs => by
    show (true && allRf (enumD (k + 1) xs)) = true
    rw [allRf_enum (k + 1) xs]
    rfl
theorem allRf_pairs : ∀ (xs ys : List D), allRf (pairs xs ys) = true
  | [], _ => rfl
  | _ :: _, [] => rfl
  | x :: xs, y :: ys => by
    show (true && allRf (pairs xs ys)) = true
    rw [allRf_pairs xs ys]
    rfl
theorem rp_enum : ∀ {vs : List V} {xs : List D}, RpL g F vs xs → ∀ (k : Nat) (ts : List Addr), Paired (fun (t : Addr) (us : List V) => F t = some (.tup us)) ts (FsL.enV k vs) → RpL g F (ts.map V.ref) (enumD k xs)
  | _, _, .nil, k, ts, h => by cases h; exact .nil
  | _, _, .cons h1 h2, k, ts, h => by
    cases h with
    | cons e r => exact .cons (.tup (.inl e) (.cons (.int _) (.cons h1 .nil))) (rp_enum h2 (k + 1) _ r)
theorem rp_zip : ∀ {vs ws : List V} {xs ys : List D}, RpL g F vs xs → RpL g F ws ys → ∀ (ts : List Addr), Paired (fun (t : Addr) (us : List V) => F t = some (.tup us)) ts (List.zipWith (fun x y => [x, y]) vs ws) → RpL g F (ts.map V.ref) (pairs xs ys)
  | _, _, _, _, .nil, _, ts, h => by cases h; exact .nil
  | _, _, _, _, .cons h1 h2, .nil, ts, h => by cases h; exact .nil
  | _, _, _, _, .cons h1 h2, .cons h3 h4, ts, h => by
    cases h with
    | cons e r => exact .cons (.tup (.inl e) (.cons h1 (.cons h3 .nil))) (rp_zip h2 h4 _ r)
theorem cd_listEnum : CallD true true g (FsL.rListEnum g.K) nListEnum := fun F H vs ds z Q s ha e q => by
  unfold nListEnum at e
  split at e
  · cases e
    cases ha with
    | cons r rr =>
      cases rr
      cases r with
      | lst hs r => exact ⟨_, _, rfl, s.seq hs, out_fr s (allRf_enum 0 _) (fun F' ts ff h => rp_enum (RpL.mono ff r) 0 ts h) q⟩
  · cases e
theorem nx_listEnum : ∀ ds w, nListEnum ds ≠ .ex w := by intro ds w e; unfold nListEnum at e; split at e <;> cases e
theorem cd_listZip : CallD true true g (FsL.rListZip g.K) nListZip := fun F H vs ds z Q s ha e q => by
  unfold nListZip at e
  split at e
  · cases e
    cases ha with
    | cons r rr =>
      cases rr with
      | cons r2 rr =>
        cases rr
        cases r with
        | lst hs r =>
          cases r2 with
          | lst hs2 r2 => exact ⟨_, _, _, _, rfl, s.seq hs, s.seq hs2, out_fr s (allRf_pairs _ _) (fun F' ts ff h => rp_zip (RpL.mono ff r) (RpL.mono ff r2) ts h) q⟩
  · cases e
theorem nx_listZip : ∀ ds w, nListZip ds ≠ .ex w := by intro ds w e; unfold nListZip at e; split at e <;> cases e
end
section
variable {X : Cx} {W : Wx} {e e2 : Expr} {p p2 pos pos2 : Pos} {fs : Env → R (List D)}
theorem de_listEnum (hc : X.calm = true) (hg : Gl X "list") (hm : X.mg "list" = none) (hg2 : Gl X "enumerate") (hm2 : X.mg "enumerate" = none) (ha : DA true X W [e] fs) (hs2 : starEach [e] X.env = [(false, eval e X.env)] := by rfl)
    (na : starEach [.Call (.Name "enumerate" p2) [e] [] pos2] X.env = (false, eval (.Call (.Name "enumerate" p2) [e] [] pos2) X.env) :: starEach [] X.env := by rfl) :
    DE true X W (.Call (.Name "list" p) [.Call (.Name "enumerate" p2) [e] [] pos2] [] pos) (dCall nListEnum fs) :=
  pe_imp (FsL.pe_listEnum hc hg hm hg2 hm2 ha hs2 na) fun _ _ _ q => liftCall cd_listEnum nx_listEnum q
theorem de_listZip (hc : X.calm = true) (hg : Gl X "list") (hm : X.mg "list" = none) (hg2 : Gl X "zip") (hm2 : X.mg "zip" = none) (ha : DA true X W [e, e2] fs) (hs2 : starEach [e, e2] X.env = (false, eval e X.env) :: starEach [e2] X.env := by rfl) (hpl : (backTo pos2 (starEach [e2] X.env)).any (·.1) = false := by rfl)
    (na : starEach [.Call (.Name "zip" p2) [e, e2] [] pos2] X.env = (false, eval (.Call (.Name "zip" p2) [e, e2] [] pos2) X.env) :: starEach [] X.env := by rfl) :
    DE true X W (.Call (.Name "list" p) [.Call (.Name "zip" p2) [e, e2] [] pos2] [] pos) (dCall nListZip fs) :=
  pe_imp (FsL.pe_listZip hc hg hm hg2 hm2 ha hs2 hpl na) fun _ _ _ q => liftCall cd_listZip nx_listZip q
end
end Dt

set_option Elab.async false
set_option linter.all false
set_option maxRecDepth 100000
set_option maxHeartbeats 2000000
/-! Dat: zip of any number of lists. -/
namespace ZpN
open PySem PySem.Spec PyProof.Rows
/-- the n lists that are walked: their addresses, below B, and their items -/
structure Ls (h : Heap) (B : Nat) (n : Nat) (ls : Nat → Nat) (its : Nat → Array Value) : Prop where
  low : ∀ k, k < n → ls k < B
  at' : ∀ k, k < n → h.IsList (ls k) (its k)
def refs (B n : Nat) : List Value := (List.range n).map fun k => Value.ref (B + k : Nat)
/-- the objects of zip: iterators at B .., their tuple at B + n, the tuple in hand at B + n + 1, the zip at B + n + 2 -/
structure Zs (h : Heap) (B : Nat) (n : Nat) (ls : Nat → Nat) (j i : Nat) : Prop where
  ti : h.get? (B + n : Nat) = some { cls := .type "tuple", data := .seq (refs B n).toArray }
  done : ∀ k, k < n → k < j → h.IsListIter (B + k : Nat) (ls k) (i + 1)
  todo : ∀ k, k < n → j ≤ k → h.IsListIter (B + k : Nat) (ls k) i
def Tow (h : Heap) (B : Nat) (n : Nat) (vals : Array Value) : Prop := vals.size = n ∧ h.get? (B + n + 1 : Nat) = some { cls := .type "tuple", data := .seq vals }
abbrev zA (B : Nat) (n : Nat) : Nat := B + n + 2
abbrev IsZ (h : Heap) (B : Nat) (n : Nat) (f0 : Value) (f : Bool) : Prop :=
  h.get? (zA B n) = some { cls := .type "zip", dict := none, data := .fields #[f0, .bool f, .bool false, .ref (B + n : Nat), .ref (B + n + 1 : Nat)], slots := #[] }
/-- the tuple in hand may be used again: none has been handed out, or that one is gone -/
def Fre (h : Heap) (f0 : Value) : Prop := f0 = .none ∨ ∃ T : Nat, f0 = rawInt T ∧ h.get? T = none
/-- what may change: the iterators, the tuple in hand, the zip -/
def Kp (B n : Nat) (h h' : Heap) : Prop := ∀ (c : Nat) (o : Obj), ¬ (B ≤ c ∧ c < B + n) → c ≠ B + n + 1 → c ≠ zA B n → h.get? c = some o → h'.get? c = some o
theorem Kp.refl (B n : Nat) (h : Heap) : Kp B n h h := fun _ _ _ _ _ e => e
theorem refs_get (B n k : Nat) (h : k < n) : (refs B n)[k]? = some (.ref (B + k : Nat)) := by
  unfold refs
  rw [List.getElem?_map, List.getElem?_range h]
  rfl
theorem refs_len (B n : Nat) : (refs B n).length = n := by simp [refs]
theorem refs_ne {B n : Nat} (hn : 0 < n) : ((refs B n).toArray.isEmpty) = false := by
  have := refs_len B n
  cases hr : refs B n with
  | nil => rw [hr] at this; simp at this; omega
  | cons a b => rfl
theorem zx_drop (B n j : Nat) (h : j < n) : (refs B n).zipIdx.drop j = (.ref (B + j : Nat), j) :: (refs B n).zipIdx.drop (j + 1) := by
  have hl : j < (refs B n).zipIdx.length := by rw [List.length_zipIdx, refs_len]; exact h
  rw [List.drop_eq_getElem_cons hl]
  congr 1
  have e : (refs B n).zipIdx[j]? = some (.ref (B + j : Nat), j) := by
    rw [List.getElem?_zipIdx, refs_get B n j h]
    simp
  rw [List.getElem?_eq_getElem hl] at e
  exact Option.some.inj e
theorem zx_end (B n : Nat) : (refs B n).zipIdx.drop n = [] := List.drop_eq_nil_of_le (by rw [List.length_zipIdx, refs_len]; exact Nat.le_refl _)
theorem rf_drop (B n j : Nat) (h : j < n) : (refs B n).drop j = .ref (B + j : Nat) :: (refs B n).drop (j + 1) := by
  have hl : j < (refs B n).length := by rw [refs_len]; exact h
  rw [List.drop_eq_getElem_cons hl]
  congr 1
  have e := refs_get B n j h
  rw [List.getElem?_eq_getElem hl] at e
  exact Option.some.inj e
theorem rf_end (B n : Nat) : (refs B n).drop n = [] := List.drop_eq_nil_of_le (by rw [refs_len]; exact Nat.le_refl _)
section
variable {prog : Program} {w : World} {A : Around} {E : Value → Shared → Prop} {s : Shared}
theorem Ls.kp {h h' : Heap} {B n : Nat} {ls : Nat → Nat} {its : Nat → Array Value} (L : Ls h B n ls its) (k : Kp B n h h') : Ls h' B n ls its := ⟨L.low, fun j hj => (L.at' j hj).at fun o e => k _ o (by have := L.low j hj; omega) (by have := L.low j hj; omega) (by have := L.low j hj; unfold zA; omega) e⟩
/-- one iterator is drawn from -/
theorem Zs.draw {h h' : Heap} {B n : Nat} {ls : Nat → Nat} {j i : Nat} (Z : Zs h B n ls j i) (hj : j < n) (hs : Heap.SameBut (B + j : Nat) h h') (hit : h'.IsListIter (B + j : Nat) (ls j) (i + 1)) : Zs h' B n ls (j + 1) i where
  ti := hs.extBut (B + n : Nat) _ (by show (B + n : Nat) ≠ B + j; omega) Z.ti
  done := fun k hk hkj => by
    by_cases e : k = j
    · subst e
      exact hit
    · exact (Z.done k hk (by omega)).extBut hs.extBut (by show (B + k : Nat) ≠ B + j; omega)
  todo := fun k hk hkj => (Z.todo k hk (by omega)).extBut hs.extBut (by show (B + k : Nat) ≠ B + j; omega)
theorem Zs.kept {h h' : Heap} {B n : Nat} {ls : Nat → Nat} {j i : Nat} (Z : Zs h B n ls j i) (hk : ∀ (c : Nat) (o : Obj), c ≤ B + n → h.get? c = some o → h'.get? c = some o) : Zs h' B n ls j i where
  ti := hk _ _ (by omega) Z.ti
  done := fun k h1 h2 => (Z.done k h1 h2).at fun o e => hk _ o (by omega) e
  todo := fun k h1 h2 => (Z.todo k h1 h2).at fun o e => hk _ o (by omega) e
theorem Zs.turn {h : Heap} {B n : Nat} {ls : Nat → Nat} {i : Nat} (Z : Zs h B n ls n i) : Zs h B n ls 0 (i + 1) where
  ti := Z.ti
  done := fun k h1 h2 => by omega
  todo := fun k h1 h2 => Z.done k h1 h1
theorem gone {a : Nat} {Q : Option Obj → Shared → Prop} (ho : s.heap.get? a = none) (h : Q none s) : wpAny (model prog w) A (loadIfAlive a) Q E s := by
  have h' : Q (s.heap.get? a) s := by rw [ho]; exact h
  exact fun _ _ _ => h'
theorem free_of {B n : Nat} {f0 : Value} {f : Bool} {Q : Bool → Shared → Prop} (hz : IsZ s.heap B n f0 f) (hf : Fre s.heap f0) (h : Q true s) : wpAny (model prog w) A (Builtin.SmallTypes.ownedTupleIsFree (.ref (zA B n))) Q E s := by
  unfold Builtin.SmallTypes.ownedTupleIsFree
  rcases hf with rfl | ⟨T, rfl, hT⟩
  · exact wpAny_bind (wpAny_field hz rfl (x := .none) rfl (wpAny_pure h))
  · refine wpAny_bind (wpAny_field hz rfl (x := rawInt T) rfl ?_)
    show wpAny _ _ (loadIfAlive ((T : Int).toNat) >>= _) _ _ _
    rw [Int.toNat_natCast]
    refine wpAny_bind (gone hT ?_)
    exact wpAny_pure h
/-- one turn: the values of the i-th items are drawn; the tuple in hand is free -/
theorem next_item {f0 : Value} {f : Bool} {B : Nat} {n i : Nat} {ls : Nat → Nat} {its : Nat → Array Value} {vals : Array Value} {Q : Value → Shared → Prop} (hn : 0 < n) (hnz : n ≤ sizeLine) (hi : ∀ k, k < n → i < (its k).size)
    (L : Ls s.heap B n ls its) (Z : Zs s.heap B n ls 0 i) (hT : Tow s.heap B n vals) (hz : IsZ s.heap B n f0 f) (hf : Fre s.heap f0)
    (hQ : ∀ (h' : Heap) (us : List Value), us.length = n → (∀ k, k < n → us[k]? = (its k)[i]?) → IsZ h' B n (rawInt s.heap.objs.size) false → Tow h' B n us.toArray → Zs h' B n ls 0 (i + 1) → h'.get? s.heap.objs.size = some { cls := .type "tuple", data := .seq us.toArray } → h'.objs.size = s.heap.objs.size + 1 →
      Kp B n s.heap h' → Q (.ref s.heap.objs.size) { s with heap := h' }) :
    wpAny (model prog w) A (Builtin.«zip.__next__» ⟨[.ref (zA B n)], []⟩) (fun fin s' => ∃ v, fin = .done (.ret v) ∧ Q v s') E s := by
  show wpAny _ _ (field (.ref (zA B n)) 2 >>= _) _ _ _
  refine wpAny_bind (wpAny_field hz rfl (x := .bool false) rfl ?_)
  show wpAny _ _ (field (.ref (zA B n)) 3 >>= _) _ _ _
  refine wpAny_bind (wpAny_field hz rfl (x := .ref (B + n : Nat)) rfl ?_)
  refine wpAny_bind (wpAny_seqItems Z.ti rfl ?_)
  simp only [refs_ne hn, Bool.false_eq_true, if_false]
  refine wpAny_bind (free_of hz hf ?_)
  simp only [if_true]
  refine wpAny_bind (wpAny_rule ?_)
  refine wpAny_bind (wpAny_field hz rfl (x := .ref (B + n + 1 : Nat)) rfl ?_)
  refine wpAny_bind (wpAny_setField_rec hz (by simp) fun h₁ hz₁ hs₁ => ?_)
  replace hz₁ : IsZ h₁ B n .ellipsis f := hz₁
  refine wpAny_bind ?_
  refine wpAny_forIn_list _ (fun rest r s' => ∃ (j : Nat) (h' : Heap) (vs : Array Value), j ≤ n ∧ rest = (refs B n).zipIdx.drop j ∧ r.1 = none ∧ s' = { s with heap := h' } ∧ Zs h' B n ls j i ∧ IsZ h' B n .ellipsis f ∧ Tow h' B n vs ∧
    (∀ k, k < j → vs[k]? = (its k)[i]?) ∧ h'.objs.size = s.heap.objs.size ∧ Kp B n s.heap h') _ ?_ ?_ _ _ ⟨0, h₁, vals, Nat.zero_le _, by rw [List.drop_zero], rfl, rfl, Z.kept fun c o hc e => hs₁.extBut c o (by show c ≠ B + n + 2; omega) e, hz₁,
      ⟨hT.1, hs₁.extBut _ _ (by show (B + n + 1 : Nat) ≠ B + n + 2; omega) hT.2⟩, fun k hk => absurd hk (Nat.not_lt_zero _), hs₁.1, fun c o _ _ hc e => hs₁.extBut c o hc e⟩
  · rintro x rest r s' ⟨j, h', vs, hjn, hrest, hr, rfl, Zj, hzj, hTj, hv, hsz, hkp⟩
    have hj : j < n := by
      rcases Nat.lt_or_ge j n with h | h
      · exact h
      · rw [show j = n by omega, zx_end] at hrest
        cases hrest
    rw [zx_drop B n j hj] at hrest
    obtain ⟨rfl, hrest'⟩ := List.cons.inj hrest
    obtain ⟨x, ex⟩ : ∃ x, (its j)[i]? = some x := ⟨_, Array.getElem?_eq_getElem (hi j hj)⟩
    have hl : h'.IsList (ls j) (its j) := (L.kp hkp).at' j hj
    refine wpAny_bind (wpAny_onRaise ?_)
    show wpAny _ _ (Builtin.SmallTypes.nextOf (.ref (B + j : Nat)) >>= _) _ _ _
    refine wpAny_bind (wpAny_nextOf_list_item (s := { s with heap := h' }) (Zj.todo j hj (Nat.le_refl _)) hl ex fun h₂ hit₂ hs₂ => wpAny_pure ?_)
    replace hs₂ : Heap.SameBut (B + j : Nat) h' h₂ := hs₂
    have hT₂ : h₂.get? (B + n + 1 : Nat) = some { cls := .type "tuple", data := .seq vs } := hs₂.extBut _ _ (by show (B + n + 1 : Nat) ≠ B + j; omega) hTj.2
    refine wpAny_bind (wpAny_seqItems (s := { s with heap := h₂ }) hT₂ rfl ?_)
    refine wpAny_bind (wpAny_updateSeq (s := { s with heap := h₂ }) hT₂ rfl ?_ (hz := by rw [hTj.1]; exact hnz) (_hz' := by rw [Array.size_setIfInBounds, hTj.1]; omega))
    refine wpAny_bind (wpAny_letGo (wpAny_pure ?_))
    have g₃ : (h₂.update (B + n + 1 : Nat) (Obj.mapSeq (·.setIfInBounds j x))).get? (B + n + 1 : Nat) = some { cls := .type "tuple", data := .seq (vs.setIfInBounds j x) } := by
      rw [Heap.get?_update_self _ hT₂ rfl]
      simp [Obj.mapSeq]
    have hs₃ : Heap.SameBut (B + n + 1 : Nat) h₂ (h₂.update (B + n + 1 : Nat) (Obj.mapSeq (·.setIfInBounds j x))) := Heap.SameBut.update ..
    generalize h₂.update (B + n + 1 : Nat) (Obj.mapSeq (·.setIfInBounds j x)) = h₃ at g₃ hs₃
    refine ⟨j + 1, h₃, vs.setIfInBounds j x, hj, hrest', rfl, rfl, (Zj.draw hj hs₂ hit₂).kept fun c o hc e => hs₃.extBut c o (by show c ≠ B + n + 1; omega) e,
      hs₃.extBut _ _ (by show (B + n + 2 : Nat) ≠ B + n + 1; omega) (hs₂.extBut _ _ (by show (B + n + 2 : Nat) ≠ B + j; omega) hzj), ⟨by rw [Array.size_setIfInBounds]; exact hTj.1, g₃⟩, fun k hk => ?_, by rw [hs₃.1, hs₂.1]; exact hsz, fun c o h1 h2 h3 e => ?_⟩
    · by_cases e : k = j
      · subst e
        rw [Array.getElem?_setIfInBounds_self, if_pos (by rw [hTj.1]; exact hj), ex]
      · rw [Array.getElem?_setIfInBounds_ne (Ne.symm e)]
        exact hv k (by omega)
    · exact hs₃.extBut c o h2 (hs₂.extBut c o (by show c ≠ B + j; omega) (hkp c o h1 h2 h3 e))
  · rintro r s' ⟨j, h', vs, hjn, hrest, hr, rfl, Zj, hzj, hTj, hv, hsz, hkp⟩
    have hj : j = n := by
      rcases Nat.lt_or_ge j n with h | h
      · rw [zx_drop B n j h] at hrest
        cases hrest
      · omega
    subst hj
    obtain ⟨r1, r2⟩ := r
    subst hr
    show wpAny _ _ (seqItems? (.ref (B + j + 1 : Nat)) >>= _) _ _ _
    refine wpAny_bind (wpAny_seqItems (s := { s with heap := h' }) hTj.2 rfl ?_)
    refine wpAny_bind (wpAny_newTuple (s := { s with heap := h' }) ?_ (by rw [Array.length_toList, hTj.1]; exact hnz))
    show wpAny _ _ (Builtin.SmallTypes.ownedTupleHandOut (.ref (zA B j)) (.ref h'.objs.size) >>= _) _ _ _
    refine wpAny_bind ?_
    unfold Builtin.SmallTypes.ownedTupleHandOut
    have zlt : zA B j < h'.objs.size := Heap.lt_size hzj
    have hz₆ : IsZ (h'.push { cls := .type "tuple", data := .seq vs.toList.toArray }) B j .ellipsis f := Heap.get?_push_of_some _ hzj
    refine wpAny_bind (wpAny_setField_rec (s := { s with heap := h'.push { cls := .type "tuple", data := .seq vs.toList.toArray } }) hz₆ (by simp) fun h₇ hz₇ hs₇ => ?_)
    replace hz₇ : IsZ h₇ B j (rawInt h'.objs.size) f := hz₇
    refine wpAny_setField_rec (s := { s with heap := h₇ }) hz₇ (by simp) fun h₈ hz₈ hs₈ => ?_
    replace hz₈ : IsZ h₈ B j (rawInt h'.objs.size) false := hz₈
    have up : ∀ (c : Nat) (o : Obj), c ≠ zA B j → h'.get? c = some o → h₈.get? c = some o := fun c o c1 e => hs₈.extBut _ _ c1 (hs₇.extBut _ _ c1 (Heap.get?_push_of_some _ e))
    have hT₈ : h₈.get? h'.objs.size = some { cls := .type "tuple", data := .seq vs.toList.toArray } := hs₈.extBut _ _ (Nat.ne_of_gt zlt) (hs₇.extBut _ _ (Nat.ne_of_gt zlt) (Heap.get?_push_size _ rfl))
    have hz8 : h₈.objs.size = h'.objs.size + 1 := by rw [hs₈.1, hs₇.1, Heap.size_push]
    rw [hsz] at hz₈ hT₈ hz8
    refine wpAny_pure ⟨_, rfl, ?_⟩
    show Q (.ref h'.objs.size) _
    rw [hsz]
    exact hQ h₈ vs.toList (by rw [Array.length_toList]; exact hTj.1) (fun k hk => by rw [Array.getElem?_toList]; exact hv k hk) hz₈ ⟨by rw [Array.toArray_toList]; exact hTj.1, by rw [Array.toArray_toList]; exact up _ _ (by show (B + j + 1 : Nat) ≠ B + j + 2; omega) hTj.2⟩
      (Zj.turn.kept fun c o hc e => up c o (by show c ≠ B + j + 2; omega) e) hT₈ hz8 fun c o h1 h2 h3 e => up c o h3 (hkp c o h1 h2 h3 e)
theorem stop_raise {α : Type} {Q : α → Shared → Prop} (hh : A.handled = none) (h : ∀ h' e, (∀ c o, s.heap.get? c = some o → h'.get? c = some o) → (∃ o, h'.get? e = some o ∧ o.cls = .type "StopIteration") → E (.ref e) { s with heap := h' }) :
    wpAny (model prog w) A (Builtin.SmallTypes.stopIteration : Sem α) Q E s := by
  show wpAny _ _ (newExc (.type "StopIteration") [] >>= _) _ _ _
  refine wpAny_bind ?_
  simp only [newExc, newTuple]
  refine wpAny_bind (wpAny_newObj_type ?_ (by size_fits))
  refine wpAny_bind (m := firstArgMember _ _) (wpAny_of_eq (a := Value.none) (by first | rfl | (simp only [firstArgMember]; rfl)) ?_)
  refine wpAny_newObj_type ?_ (by size_fits)
  simp only [raiseNew]
  refine wpAny_bind (wpAny_handled ?_)
  rw [hh]
  refine wpAny_bind (wpAny_pure (wpAny_throw ?_))
  exact h _ _ (fun c o e => Heap.get?_push_of_some _ (Heap.get?_push_of_some _ e)) ⟨_, Heap.get?_push_size _ rfl, rfl⟩
/-- no iterables, or one of them at its end; the tuple in hand is free -/
theorem next_end {f0 : Value} {f : Bool} {B : Nat} {n i : Nat} {ls : Nat → Nat} {its : Nat → Array Value} {vals : Array Value} {Q : Fin → Shared → Prop} (hh : A.handled = none) (hnz : n ≤ sizeLine) (hend : n = 0 ∨ ∃ k, k < n ∧ (its k).size ≤ i)
    (L : Ls s.heap B n ls its) (Z : Zs s.heap B n ls 0 i) (hT : Tow s.heap B n vals) (hz : IsZ s.heap B n f0 f) (hf : Fre s.heap f0)
    (hE : ∀ h' e, Kp B n s.heap h' → (∃ o, h'.get? e = some o ∧ o.cls = .type "StopIteration") → E (.ref e) { s with heap := h' }) :
    wpAny (model prog w) A (Builtin.«zip.__next__» ⟨[.ref (zA B n)], []⟩) Q E s := by
  show wpAny _ _ (field (.ref (zA B n)) 2 >>= _) _ _ _
  refine wpAny_bind (wpAny_field hz rfl (x := .bool false) rfl ?_)
  show wpAny _ _ (field (.ref (zA B n)) 3 >>= _) _ _ _
  refine wpAny_bind (wpAny_field hz rfl (x := .ref (B + n : Nat)) rfl ?_)
  refine wpAny_bind (wpAny_seqItems Z.ti rfl ?_)
  rcases Nat.eq_zero_or_pos n with h0 | hn
  · subst h0
    have e0 : (refs B 0).toArray.isEmpty = true := rfl
    simp only [e0, if_true]
    refine wpAny_bind (wpAny_rule ?_)
    refine wpAny_bind ?_
    exact stop_raise hh fun h' e k x => hE h' e (fun c o _ _ _ y => k c o y) x
  have hend : ∃ k, k < n ∧ (its k).size ≤ i := by
    rcases hend with h | h
    · omega
    · exact h
  simp only [refs_ne hn, Bool.false_eq_true, if_false]
  refine wpAny_bind (free_of hz hf ?_)
  simp only [if_true]
  refine wpAny_bind (wpAny_rule ?_)
  refine wpAny_bind (wpAny_field hz rfl (x := .ref (B + n + 1 : Nat)) rfl ?_)
  refine wpAny_bind (wpAny_setField_rec hz (by simp) fun h₁ hz₁ hs₁ => ?_)
  replace hz₁ : IsZ h₁ B n .ellipsis f := hz₁
  refine wpAny_bind ?_
  refine wpAny_forIn_list _ (fun rest r s' => ∃ (j : Nat) (h' : Heap) (vs : Array Value), j ≤ n ∧ rest = (refs B n).zipIdx.drop j ∧ s' = { s with heap := h' } ∧ Zs h' B n ls j i ∧ IsZ h' B n .ellipsis f ∧ Tow h' B n vs ∧
    (∀ k, k < j → i < (its k).size) ∧ h'.objs.size = s.heap.objs.size ∧ Kp B n s.heap h') _ ?_ ?_ _ _ ⟨0, h₁, vals, Nat.zero_le _, by rw [List.drop_zero], rfl, Z.kept fun c o hc e => hs₁.extBut c o (by show c ≠ B + n + 2; omega) e, hz₁,
      ⟨hT.1, hs₁.extBut _ _ (by show (B + n + 1 : Nat) ≠ B + n + 2; omega) hT.2⟩, fun k hk => absurd hk (Nat.not_lt_zero _), hs₁.1, fun c o _ _ hc e => hs₁.extBut c o hc e⟩
  · rintro x rest r s' ⟨j, h', vs, hjn, hrest, rfl, Zj, hzj, hTj, hv, hsz, hkp⟩
    have hj : j < n := by
      rcases Nat.lt_or_ge j n with h | h
      · exact h
      · rw [show j = n by omega, zx_end] at hrest
        cases hrest
    rw [zx_drop B n j hj] at hrest
    obtain ⟨rfl, hrest'⟩ := List.cons.inj hrest
    have hl : h'.IsList (ls j) (its j) := (L.kp hkp).at' j hj
    refine wpAny_bind (wpAny_onRaise ?_)
    show wpAny _ _ (Builtin.SmallTypes.nextOf (.ref (B + j : Nat)) >>= _) _ _ _
    cases ex : (its j)[i]? with
    | none =>
      refine wpAny_bind (wpAny_nextOf_list_end (s := { s with heap := h' }) hh (Zj.todo j hj (Nat.le_refl _)) hl ex fun h₂ e hs₂ he => ?_)
      obtain ⟨oe, hoe, hce⟩ := he
      have hz₂ : IsZ h₂ B n .ellipsis f := hs₂ _ _ (by show (B + n + 2 : Nat) ≠ B + j; omega) hzj
      have hez : e ≠ zA B n := fun x => by subst x; rw [hz₂] at hoe; cases hoe; simp at hce
      refine wpAny_setField_rec (s := { s with heap := h₂ }) hz₂ (by simp) fun h₃ _ hs₃ => hE h₃ e (fun c o c1 c2 c3 y => hs₃.extBut c o c3 (hs₂ c o (by show c ≠ B + j; omega) (hkp c o c1 c2 c3 y))) ⟨oe, hs₃.extBut _ _ hez hoe, hce⟩
    | some x =>
      refine wpAny_bind (wpAny_nextOf_list_item (s := { s with heap := h' }) (Zj.todo j hj (Nat.le_refl _)) hl ex fun h₂ hit₂ hs₂ => wpAny_pure ?_)
      replace hs₂ : Heap.SameBut (B + j : Nat) h' h₂ := hs₂
      have hT₂ : h₂.get? (B + n + 1 : Nat) = some { cls := .type "tuple", data := .seq vs } := hs₂.extBut _ _ (by show (B + n + 1 : Nat) ≠ B + j; omega) hTj.2
      refine wpAny_bind (wpAny_seqItems (s := { s with heap := h₂ }) hT₂ rfl ?_)
      refine wpAny_bind (wpAny_updateSeq (s := { s with heap := h₂ }) hT₂ rfl ?_ (hz := by rw [hTj.1]; exact hnz) (_hz' := by rw [Array.size_setIfInBounds, hTj.1]; omega))
      refine wpAny_bind (wpAny_letGo (wpAny_pure ?_))
      have g₃ : (h₂.update (B + n + 1 : Nat) (Obj.mapSeq (·.setIfInBounds j x))).get? (B + n + 1 : Nat) = some { cls := .type "tuple", data := .seq (vs.setIfInBounds j x) } := by
        rw [Heap.get?_update_self _ hT₂ rfl]
        simp [Obj.mapSeq]
      have hs₃ : Heap.SameBut (B + n + 1 : Nat) h₂ (h₂.update (B + n + 1 : Nat) (Obj.mapSeq (·.setIfInBounds j x))) := Heap.SameBut.update ..
      generalize h₂.update (B + n + 1 : Nat) (Obj.mapSeq (·.setIfInBounds j x)) = h₃ at g₃ hs₃
      refine ⟨j + 1, h₃, vs.setIfInBounds j x, hj, hrest', rfl, (Zj.draw hj hs₂ hit₂).kept fun c o hc e => hs₃.extBut c o (by show c ≠ B + n + 1; omega) e,
        hs₃.extBut _ _ (by show (B + n + 2 : Nat) ≠ B + n + 1; omega) (hs₂.extBut _ _ (by show (B + n + 2 : Nat) ≠ B + j; omega) hzj), ⟨by rw [Array.size_setIfInBounds]; exact hTj.1, g₃⟩, fun k hk => ?_, by rw [hs₃.1, hs₂.1]; exact hsz, fun c o h1 h2 h3 e => ?_⟩
      · by_cases e : k = j
        · subst e
          exact (Array.getElem?_eq_some_iff.mp ex).1
        · exact hv k (by omega)
      · exact hs₃.extBut c o h2 (hs₂.extBut c o (by show c ≠ B + j; omega) (hkp c o h1 h2 h3 e))
  · rintro r s' ⟨j, h', vs, hjn, hrest, rfl, Zj, hzj, hTj, hv, hsz, hkp⟩
    have hj : j = n := by
      rcases Nat.lt_or_ge j n with h | h
      · rw [zx_drop B n j h] at hrest
        cases hrest
      · omega
    obtain ⟨k, hk, hs⟩ := hend
    have := hv k (by omega)
    omega
abbrev IsZH (h : Heap) (B n T : Nat) (f : Bool) : Prop := IsZipHeld h (zA B n) (B + n : Nat) (B + n + 1 : Nat) T f
/-- one turn while a tuple handed out still lives -/
theorem next_item_held {B : Nat} {n i T : Nat} {f : Bool} {oT : Obj} {ls : Nat → Nat} {its : Nat → Array Value} {Q : Value → Shared → Prop} (hn : 0 < n) (hnz : n ≤ sizeLine) (hi : ∀ k, k < n → i < (its k).size)
    (L : Ls s.heap B n ls its) (Z : Zs s.heap B n ls 0 i) (hz : IsZH s.heap B n T f) (hT : s.heap.get? T = some oT)
    (hQ : ∀ (h' : Heap) (us : List Value), us.length = n → (∀ k, k < n → us[k]? = (its k)[i]?) → IsZH h' B n T true → Zs h' B n ls 0 (i + 1) → h'.get? s.heap.objs.size = some { cls := .type "tuple", data := .seq us.toArray } → h'.objs.size = s.heap.objs.size + 1 →
      (∀ (c : Nat) (o : Obj), ¬ (B ≤ c ∧ c < B + n) → c ≠ zA B n → s.heap.get? c = some o → h'.get? c = some o) → Q (.ref s.heap.objs.size) { s with heap := h' }) :
    wpAny (model prog w) A (Builtin.«zip.__next__» ⟨[.ref (zA B n)], []⟩) (fun fin s' => ∃ v, fin = .done (.ret v) ∧ Q v s') E s := by
  show wpAny _ _ (field (.ref (zA B n)) 2 >>= _) _ _ _
  refine wpAny_bind (wpAny_field hz rfl (x := .bool false) rfl ?_)
  show wpAny _ _ (field (.ref (zA B n)) 3 >>= _) _ _ _
  refine wpAny_bind (wpAny_field hz rfl (x := .ref (B + n : Nat)) rfl ?_)
  refine wpAny_bind (wpAny_seqItems Z.ti rfl ?_)
  simp only [refs_ne hn, Bool.false_eq_true, if_false]
  refine wpAny_bind (wpAny_tupleHeld_zip hz hT fun h₁ hz₁ hs₁ => ?_)
  replace hz₁ : IsZH h₁ B n T true := hz₁
  simp only [Bool.false_eq_true, if_false]
  refine wpAny_bind ?_
  rw [← Array.forIn_toList]
  refine wpAny_forIn_list _ (fun rest r s' => ∃ (j : Nat) (h' : Heap), j ≤ n ∧ rest = (refs B n).drop j ∧ r.1 = none ∧ r.2.size = j ∧ s' = { s with heap := h' } ∧ Zs h' B n ls j i ∧ IsZH h' B n T true ∧
    (∀ k, k < j → r.2[k]? = (its k)[i]?) ∧ h'.objs.size = s.heap.objs.size ∧ (∀ (c : Nat) (o : Obj), ¬ (B ≤ c ∧ c < B + n) → c ≠ zA B n → s.heap.get? c = some o → h'.get? c = some o)) _ ?_ ?_ _ _
    ⟨0, h₁, Nat.zero_le _, by rw [List.drop_zero], rfl, rfl, rfl, Z.kept fun c o hc e => hs₁.extBut c o (by show c ≠ B + n + 2; omega) e, hz₁, fun k hk => absurd hk (Nat.not_lt_zero _), hs₁.1, fun c o _ hc e => hs₁.extBut c o hc e⟩
  · rintro x rest r s' ⟨j, h', hjn, hrest, hr, hr2, rfl, Zj, hzj, hv, hsz, hkp⟩
    have hj : j < n := by
      rcases Nat.lt_or_ge j n with h | h
      · exact h
      · rw [show j = n by omega, rf_end] at hrest
        cases hrest
    rw [rf_drop B n j hj] at hrest
    obtain ⟨rfl, hrest'⟩ := List.cons.inj hrest
    obtain ⟨x, ex⟩ : ∃ x, (its j)[i]? = some x := ⟨_, Array.getElem?_eq_getElem (hi j hj)⟩
    have hl : h'.IsList (ls j) (its j) := (L.at' j hj).at fun o e => hkp _ o (by have := L.low j hj; omega) (by have := L.low j hj; unfold zA; omega) e
    refine wpAny_bind (wpAny_holding ?_)
    show wpAny _ _ (Builtin.SmallTypes.nextOf (.ref (B + j : Nat)) >>= _) _ _ _
    refine wpAny_bind (wpAny_nextOf_list_item (s := { s with heap := h' }) (Zj.todo j hj (Nat.le_refl _)) hl ex fun h₂ hit₂ hs₂ => wpAny_pure ?_)
    replace hs₂ : Heap.SameBut (B + j : Nat) h' h₂ := hs₂
    refine wpAny_pure ⟨j + 1, h₂, hj, hrest', rfl, by rw [Array.size_push, hr2], rfl, Zj.draw hj hs₂ hit₂, hs₂.extBut _ _ (by show (B + n + 2 : Nat) ≠ B + j; omega) hzj, fun k hk => ?_, by rw [hs₂.1]; exact hsz, fun c o h1 h3 e => hs₂.extBut c o (by show c ≠ B + j; omega) (hkp c o h1 h3 e)⟩
    by_cases e : k = j
    · subst e
      rw [ex, Array.getElem?_push, if_pos hr2.symm]
    · rw [Array.getElem?_push, if_neg (by omega)]
      exact hv k (by omega)
  · rintro r s' ⟨j, h', hjn, hrest, hr, hr2, rfl, Zj, hzj, hv, hsz, hkp⟩
    have hj : j = n := by
      rcases Nat.lt_or_ge j n with h | h
      · rw [rf_drop B n j h] at hrest
        cases hrest
      · omega
    subst hj
    obtain ⟨r1, r2⟩ := r
    have hr : r1 = none := hr
    subst hr
    have hr2 : r2.size = j := hr2
    show wpAny _ _ (newTuple r2.toList >>= _) _ _ _
    refine wpAny_bind (wpAny_newTuple (s := { s with heap := h' }) ?_ (by rw [Array.length_toList, hr2]; exact hnz))
    refine wpAny_pure ⟨_, rfl, ?_⟩
    show Q (.ref h'.objs.size) _
    rw [hsz]
    have up : ∀ (c : Nat) (o : Obj), h'.get? c = some o → (h'.push { cls := .type "tuple", data := .seq r2.toList.toArray }).get? c = some o := fun c o e => Heap.get?_push_of_some _ e
    refine hQ _ r2.toList (by rw [Array.length_toList]; exact hr2) (fun k hk => by rw [Array.getElem?_toList]; exact hv k hk) (up _ _ hzj) (Zj.turn.kept fun c o hc e => up c o e) ?_ (by rw [Heap.size_push, hsz]) fun c o h1 h3 e => up c o (hkp c o h1 h3 e)
    have := Heap.get?_push_size (h := h') (o := { cls := .type "tuple", data := .seq r2.toList.toArray }) rfl
    rw [hsz] at this
    exact this
theorem next_end_held {B : Nat} {n i T : Nat} {f : Bool} {oT : Obj} {ls : Nat → Nat} {its : Nat → Array Value} {Q : Fin → Shared → Prop} (hh : A.handled = none) (hn : 0 < n) (hend : ∃ k, k < n ∧ (its k).size ≤ i)
    (L : Ls s.heap B n ls its) (Z : Zs s.heap B n ls 0 i) (hz : IsZH s.heap B n T f) (hT : s.heap.get? T = some oT)
    (hE : ∀ h' e, (∀ (c : Nat) (o : Obj), ¬ (B ≤ c ∧ c < B + n) → c ≠ zA B n → s.heap.get? c = some o → h'.get? c = some o) → (∃ o, h'.get? e = some o ∧ o.cls = .type "StopIteration") → E (.ref e) { s with heap := h' }) :
    wpAny (model prog w) A (Builtin.«zip.__next__» ⟨[.ref (zA B n)], []⟩) Q E s := by
  show wpAny _ _ (field (.ref (zA B n)) 2 >>= _) _ _ _
  refine wpAny_bind (wpAny_field hz rfl (x := .bool false) rfl ?_)
  show wpAny _ _ (field (.ref (zA B n)) 3 >>= _) _ _ _
  refine wpAny_bind (wpAny_field hz rfl (x := .ref (B + n : Nat)) rfl ?_)
  refine wpAny_bind (wpAny_seqItems Z.ti rfl ?_)
  simp only [refs_ne hn, Bool.false_eq_true, if_false]
  refine wpAny_bind (wpAny_tupleHeld_zip hz hT fun h₁ hz₁ hs₁ => ?_)
  replace hz₁ : IsZH h₁ B n T true := hz₁
  simp only [Bool.false_eq_true, if_false]
  refine wpAny_bind ?_
  rw [← Array.forIn_toList]
  refine wpAny_forIn_list _ (fun rest r s' => ∃ (j : Nat) (h' : Heap), j ≤ n ∧ rest = (refs B n).drop j ∧ s' = { s with heap := h' } ∧ Zs h' B n ls j i ∧
    (∀ k, k < j → i < (its k).size) ∧ (∀ (c : Nat) (o : Obj), ¬ (B ≤ c ∧ c < B + n) → c ≠ zA B n → s.heap.get? c = some o → h'.get? c = some o)) _ ?_ ?_ _ _
    ⟨0, h₁, Nat.zero_le _, by rw [List.drop_zero], rfl, Z.kept fun c o hc e => hs₁.extBut c o (by show c ≠ B + n + 2; omega) e, fun k hk => absurd hk (Nat.not_lt_zero _), fun c o _ hc e => hs₁.extBut c o hc e⟩
  · rintro x rest r s' ⟨j, h', hjn, hrest, rfl, Zj, hv, hkp⟩
    have hj : j < n := by
      rcases Nat.lt_or_ge j n with h | h
      · exact h
      · rw [show j = n by omega, rf_end] at hrest
        cases hrest
    rw [rf_drop B n j hj] at hrest
    obtain ⟨rfl, hrest'⟩ := List.cons.inj hrest
    have hl : h'.IsList (ls j) (its j) := (L.at' j hj).at fun o e => hkp _ o (by have := L.low j hj; omega) (by have := L.low j hj; unfold zA; omega) e
    refine wpAny_bind (wpAny_holding ?_)
    show wpAny _ _ (Builtin.SmallTypes.nextOf (.ref (B + j : Nat)) >>= _) _ _ _
    cases ex : (its j)[i]? with
    | none =>
      refine wpAny_bind (wpAny_nextOf_list_end (s := { s with heap := h' }) hh (Zj.todo j hj (Nat.le_refl _)) hl ex fun h₂ e hs₂ he => ?_)
      exact hE h₂ e (fun c o c1 c3 y => hs₂ c o (by show c ≠ B + j; omega) (hkp c o c1 c3 y)) he
    | some x =>
      refine wpAny_bind (wpAny_nextOf_list_item (s := { s with heap := h' }) (Zj.todo j hj (Nat.le_refl _)) hl ex fun h₂ hit₂ hs₂ => wpAny_pure ?_)
      replace hs₂ : Heap.SameBut (B + j : Nat) h' h₂ := hs₂
      refine wpAny_pure ⟨j + 1, h₂, hj, hrest', rfl, Zj.draw hj hs₂ hit₂, fun k hk => ?_, fun c o h1 h3 e => hs₂.extBut c o (by show c ≠ B + j; omega) (hkp c o h1 h3 e)⟩
      by_cases e : k = j
      · subst e
        exact (Array.getElem?_eq_some_iff.mp ex).1
      · exact hv k (by omega)
  · rintro r s' ⟨j, h', hjn, hrest, rfl, Zj, hv, hkp⟩
    have hj : j = n := by
      rcases Nat.lt_or_ge j n with h | h
      · rw [rf_drop B n j h] at hrest
        cases hrest
      · omega
    obtain ⟨k, hk, hs⟩ := hend
    have := hv k (by omega)
    omega
/-- what stands behind i turns -/
def Stt (h : Heap) (B n : Nat) (ls : Nat → Nat) (i : Nat) : Prop := Zs h B n ls 0 i ∧ (∃ vals, Tow h B n vals) ∧ ∃ f0 f, IsZ h B n f0 f ∧ (f0 = .none ∨ ∃ T : Nat, f0 = rawInt T)
theorem Stt.type {B n i : Nat} {ls : Nat → Nat} (S : Stt s.heap B n ls i) : s.TypeIs (.ref (zA B n)) "zip" := by
  obtain ⟨_, _, f0, f, hz, _⟩ := S
  exact ⟨_, hz, rfl⟩
theorem item {B : Nat} {n i : Nat} {ls : Nat → Nat} {its : Nat → Array Value} {Q : Value → Shared → Prop} (hn : 0 < n) (hnz : n ≤ sizeLine) (hi : ∀ k, k < n → i < (its k).size) (L : Ls s.heap B n ls its) (S : Stt s.heap B n ls i)
    (hQ : ∀ (h' : Heap) (us : List Value), us.length = n → (∀ k, k < n → us[k]? = (its k)[i]?) → Stt h' B n ls (i + 1) → h'.get? s.heap.objs.size = some { cls := .type "tuple", data := .seq us.toArray } → h'.objs.size = s.heap.objs.size + 1 →
      Kp B n s.heap h' → Q (.ref s.heap.objs.size) { s with heap := h' }) :
    wpAny (model prog w) A (Builtin.«zip.__next__» ⟨[.ref (zA B n)], []⟩) (fun fin s' => ∃ v, fin = .done (.ret v) ∧ Q v s') E s := by
  obtain ⟨Z, ⟨vals, hT⟩, f0, f, hz, hf⟩ := S
  have fresh : Fre s.heap f0 → wpAny (model prog w) A (Builtin.«zip.__next__» ⟨[.ref (zA B n)], []⟩) (fun fin s' => ∃ v, fin = .done (.ret v) ∧ Q v s') E s := fun hf =>
    next_item hn hnz hi L Z hT hz hf fun h' us l1 l2 z' T' Z' g sz k => hQ h' us l1 l2 ⟨Z', ⟨_, T'⟩, _, _, z', .inr ⟨_, rfl⟩⟩ g sz k
  rcases hf with rfl | ⟨T, rfl⟩
  · exact fresh (.inl rfl)
  · cases hg : s.heap.get? T with
    | none => exact fresh (.inr ⟨T, rfl, hg⟩)
    | some oT =>
      refine next_item_held hn hnz hi L Z hz hg fun h' us l1 l2 z' Z' g sz k => hQ h' us l1 l2 ⟨Z', ⟨vals, hT.1, k _ _ (by omega) (by show (B + n + 1 : Nat) ≠ B + n + 2; omega) hT.2⟩, _, _, z', .inr ⟨_, rfl⟩⟩ g sz fun c o h1 h2 h3 e => k c o h1 h3 e
theorem fin {B : Nat} {n i : Nat} {ls : Nat → Nat} {its : Nat → Array Value} {Q : Fin → Shared → Prop} (hh : A.handled = none) (hnz : n ≤ sizeLine) (hend : n = 0 ∨ ∃ k, k < n ∧ (its k).size ≤ i) (L : Ls s.heap B n ls its) (S : Stt s.heap B n ls i)
    (hE : ∀ h' e, Kp B n s.heap h' → (∃ o, h'.get? e = some o ∧ o.cls = .type "StopIteration") → E (.ref e) { s with heap := h' }) :
    wpAny (model prog w) A (Builtin.«zip.__next__» ⟨[.ref (zA B n)], []⟩) Q E s := by
  obtain ⟨Z, ⟨vals, hT⟩, f0, f, hz, hf⟩ := S
  rcases hf with rfl | ⟨T, rfl⟩
  · exact next_end hh hnz hend L Z hT hz (.inl rfl) hE
  · cases hg : s.heap.get? T with
    | none => exact next_end hh hnz hend L Z hT hz (.inr ⟨T, rfl, hg⟩) hE
    | some oT =>
      rcases Nat.eq_zero_or_pos n with h0 | hn
      · subst h0
        show wpAny _ _ (field (.ref (zA B 0)) 2 >>= _) _ _ _
        refine wpAny_bind (wpAny_field hz rfl (x := .bool false) rfl ?_)
        show wpAny _ _ (field (.ref (zA B 0)) 3 >>= _) _ _ _
        refine wpAny_bind (wpAny_field hz rfl (x := .ref (B + 0 : Nat)) rfl ?_)
        refine wpAny_bind (wpAny_seqItems Z.ti rfl ?_)
        have e0 : (refs B 0).toArray.isEmpty = true := rfl
        simp only [e0, if_true]
        refine wpAny_bind (wpAny_rule ?_)
        refine wpAny_bind ?_
        exact stop_raise hh fun h' e k x => hE h' e (fun c o _ _ _ y => k c o y) x
      · rcases hend with h | hend
        · omega
        · exact next_end_held hh hn hend L Z hz hg fun h' e k x => hE h' e (fun c o h1 _ h3 y => k c o h1 h3 y) x
theorem py_item {B : Nat} {n i : Nat} {ls : Nat → Nat} {its : Nat → Array Value} {Q : Option Value → Shared → Prop} (hn : 0 < n) (hnz : n ≤ sizeLine) (hi : ∀ k, k < n → i < (its k).size) (L : Ls s.heap B n ls its) (S : Stt s.heap B n ls i)
    (hQ : ∀ (h' : Heap) (us : List Value), us.length = n → (∀ k, k < n → us[k]? = (its k)[i]?) → Stt h' B n ls (i + 1) → h'.get? s.heap.objs.size = some { cls := .type "tuple", data := .seq us.toArray } → h'.objs.size = s.heap.objs.size + 1 →
      Kp B n s.heap h' → Q (some (.ref s.heap.objs.size)) { s with heap := h' }) :
    wpAny (model prog w) A (pyNext (.ref (zA B n))) Q E s := by
  have hT := S.type
  unfold pyNext
  exact wpAny_bind (wpAny_attempt (wpAny_callSpecial?_slot (name := Str.ofString "__next__") hT F.slot_zip_next
    (wpAny_call_entry F.slot_zip_next hT F.entry_zip_next
      (item hn hnz hi L S fun h' us a1 a2 a3 a4 a5 a6 => wpAny_pure (hQ h' us a1 a2 a3 a4 a5 a6)) (F.args_zip_next_1 _))))
theorem py_fin {B : Nat} {n i : Nat} {ls : Nat → Nat} {its : Nat → Array Value} {Q : Option Value → Shared → Prop} (hh : A.handled = none) (hnz : n ≤ sizeLine) (hend : n = 0 ∨ ∃ k, k < n ∧ (its k).size ≤ i) (L : Ls s.heap B n ls its) (S : Stt s.heap B n ls i)
    (hQ : ∀ h', Kp B n s.heap h' → Q none { s with heap := h' }) : wpAny (model prog w) A (pyNext (.ref (zA B n))) Q E s := by
  have hT := S.type
  unfold pyNext
  refine wpAny_bind (wpAny_attempt (wpAny_callSpecial?_slot (name := Str.ofString "__next__") hT F.slot_zip_next
    (wpAny_call_entry F.slot_zip_next hT F.entry_zip_next (fin (A := A.in1) hh hnz hend L S fun h' e hk he => ?_) (F.args_zip_next_1 _))))
  obtain ⟨o, ho, hc⟩ := he
  refine wpAny_bind (wpAny_isInstance (T := "StopIteration") (b := true) ⟨o, ho, hc⟩ isSubtype_stop ?_)
  exact wpAny_pure (hQ _ hk)
theorem py_self {B n i : Nat} {ls : Nat → Nat} {Q : Value → Shared → Prop} (S : Stt s.heap B n ls i) (h : Q (.ref (zA B n)) s) : wpAny (model prog w) A (pyIter (.ref (zA B n))) Q E s := by
  have hT := S.type
  refine wpAny_pyIter_slot hT F.slot_zip_iter (wpAny_call_entry F.slot_zip_iter hT F.entry_zip_iter ?_ (F.args_zip_iter_1 _))
  show wpAny _ _ (ret (.ref (zA B n))) _ _ s
  exact wpAny_pure ⟨_, rfl, "zip", _, hT, F.slot_zip_next.lookup, h⟩
end
end ZpN

set_option Elab.async false
set_option linter.all false
set_option maxRecDepth 100000
set_option maxHeartbeats 2000000
/-! Dat: zip(*xs): the call. -/
namespace ZpN
open PySem PySem.Spec PyProof.Rows
theorem typeCall (vs : List Value) : checkTypeCall "zip" ⟨vs, []⟩ = pure () := by kernel_rfl
theorem newCall : ∀ vs : List Value, checkBuiltinCall "zip.__new__" ⟨.type "zip" :: vs, []⟩ = pure ()
  | [] => by kernel_rfl
  | v :: vs => by kernel_rfl
theorem objInit (obj : Value) (vs : List Value) : argsOk "object.__init__" ⟨obj :: vs, []⟩ := by
  unfold argsOk; rw [signature?_of (id := "object.__init__") (n := ['_', '_', 't', 'i', 'n', 'i', '_', '_']) (o := ['t', 'c', 'e', 'j', 'b', 'o']) (by kernel_rfl) F.owner_object]; kernel_rfl
theorem newClass_zp (vs : List Value) : Builtin.SmallTypes.newClass "zip" ⟨.type "zip" :: vs, []⟩ = pure (.type "zip", vs) := by
  unfold Builtin.SmallTypes.newClass
  simp only [isType, sub_zip, pure_bind, Bool.not_true, Bool.false_eq_true, if_false]
def argv (ls : Nat → Nat) (n : Nat) : List Value := (List.range n).map fun k => Value.ref (ls k)
theorem argv_len (ls : Nat → Nat) (n : Nat) : (argv ls n).length = n := by simp [argv]
theorem argv_drop (ls : Nat → Nat) (n j : Nat) (h : j < n) : (argv ls n).drop j = .ref (ls j) :: (argv ls n).drop (j + 1) := by
  have hl : j < (argv ls n).length := by rw [argv_len]; exact h
  rw [List.drop_eq_getElem_cons hl]
  congr 1
  simp [argv]
theorem argv_end (ls : Nat → Nat) (n : Nat) : (argv ls n).drop n = [] := List.drop_eq_nil_of_le (by rw [argv_len]; exact Nat.le_refl _)
theorem refs_snoc (B j : Nat) : refs B (j + 1) = refs B j ++ [.ref (B + j : Nat)] := by
  unfold refs
  rw [List.range_succ, List.map_append]
  rfl
theorem new_meets (ls : Nat → Nat) (n : Nat) (its : Nat → Array Value) (hn : n ≤ sizeLine) :
    Meets (Builtin.«zip.__new__» ⟨.type "zip" :: argv ls n, []⟩) (fun _ R s => (∀ k, k < n → s.heap.IsList (ls k) (its k)) ∧
      ∀ h', Stt h' s.heap.objs.size n ls 0 → h'.objs.size = s.heap.objs.size + n + 3 → (∀ c o, s.heap.get? c = some o → h'.get? c = some o) → R (.ok (.ret (.ref (zA s.heap.objs.size n)))) { s with heap := h' }) :=
  .of_wp fun prog w A R s h => by
    obtain ⟨hl, hR⟩ := h
    unfold Builtin.«zip.__new__»
    refine wpAny_bind (wpAny_of_eq (newClass_zp _) ?_)
    dsimp only
    rw [if_neg (by simp)]
    refine wpAny_bind ?_
    unfold Builtin.SmallTypes.iterAll
    refine wpAny_bind ?_
    refine wpAny_forIn_list _ (fun rest r s' => ∃ (j : Nat) (h' : Heap), j ≤ n ∧ rest = (argv ls n).drop j ∧ r.toList = refs s.heap.objs.size j ∧ s' = { s with heap := h' } ∧ h'.objs.size = s.heap.objs.size + j ∧
      (∀ k, k < j → h'.IsListIter (s.heap.objs.size + k : Nat) (ls k) 0) ∧ (∀ c o, s.heap.get? c = some o → h'.get? c = some o)) _ ?_ ?_ _ _ ⟨0, s.heap, Nat.zero_le _, by rw [List.drop_zero], rfl, rfl, rfl, fun k hk => absurd hk (Nat.not_lt_zero _), fun _ _ e => e⟩
    · rintro x rest r s' ⟨j, h', hjn, hrest, hr, rfl, hsz, hit, hk⟩
      have hj : j < n := by
        rcases Nat.lt_or_ge j n with h | h
        · exact h
        · rw [show j = n by omega, argv_end] at hrest
          cases hrest
      rw [argv_drop ls n j hj] at hrest
      obtain ⟨rfl, hrest'⟩ := List.cons.inj hrest
      have hl' : h'.IsList (ls j) (its j) := (hl j hj).at fun o e => hk _ o e
      refine wpAny_bind (wpAny_holding (wpAny_pyIter_list (s := { s with heap := h' }) hl' ?_))
      refine wpAny_pure ⟨j + 1, _, hj, hrest', ?_, rfl, by rw [Heap.size_push, hsz]; omega, fun k hkj => ?_, fun c o e => Heap.get?_push_of_some _ (hk c o e)⟩
      · rw [Array.toList_push, hr, refs_snoc]
        show _ ++ [Value.ref h'.objs.size] = _
        rw [hsz]
      · by_cases e : k = j
        · subst e
          rw [← hsz]
          exact ⟨_, Heap.get?_push_size _ rfl, rfl, rfl⟩
        · exact (hit k (by omega)).at fun o e => Heap.get?_push_of_some _ e
    · rintro r s' ⟨j, h', hjn, hrest, hr, rfl, hsz, hit, hk⟩
      have hj : j = n := by
        rcases Nat.lt_or_ge j n with h | h
        · rw [argv_drop ls n j h] at hrest
          cases hrest
        · omega
      subst hj
      refine wpAny_pure ?_
      rw [hr]
      refine wpAny_bind (wpAny_newTuple (s := { s with heap := h' }) ?_ (by rw [refs_len]; exact hn))
      refine wpAny_bind (wpAny_newTuple (s := { s with heap := h'.push { cls := .type "tuple", data := .seq (refs s.heap.objs.size j).toArray } }) ?_ (by rw [List.length_map, refs_len]; exact hn))
      show wpAny _ _ (newObj (.type "zip") (.fields #[.none, .bool false, .bool false, .ref h'.objs.size, .ref (h'.push { cls := .type "tuple", data := .seq (refs s.heap.objs.size j).toArray }).objs.size]) >>= _) _ _ _
      refine wpAny_bind (wpAny_newObj_type ?_ (by size_fits))
      refine wpAny_pure ⟨_, rfl, ?_⟩
      have z1 : (h'.push { cls := .type "tuple", data := .seq (refs s.heap.objs.size j).toArray }).objs.size = s.heap.objs.size + j + 1 := by rw [Heap.size_push, hsz]
      generalize hh1 : h'.push { cls := .type "tuple", data := .seq (refs s.heap.objs.size j).toArray } = h1 at z1 ⊢
      have z2 : (h1.push { cls := .type "tuple", data := .seq (List.map (fun _ => Value.none) (refs s.heap.objs.size j)).toArray }).objs.size = s.heap.objs.size + j + 2 := by rw [Heap.size_push, z1]
      generalize hh2 : h1.push { cls := .type "tuple", data := .seq (List.map (fun _ => Value.none) (refs s.heap.objs.size j)).toArray } = h2 at z2 ⊢
      show R (Except.ok (Flow.ret (Value.ref h2.objs.size))) _
      rw [z1, hsz, z2]
      have g0 : h1.get? (s.heap.objs.size + j : Nat) = some { cls := .type "tuple", data := .seq (refs s.heap.objs.size j).toArray } := by
        rw [← hh1, ← hsz]
        exact Heap.get?_push_size _ rfl
      have g1 : h2.get? (s.heap.objs.size + j + 1 : Nat) = some { cls := .type "tuple", data := .seq (List.map (fun _ => Value.none) (refs s.heap.objs.size j)).toArray } := by
        rw [← hh2, ← z1]
        exact Heap.get?_push_size _ rfl
      have u1 : ∀ c o, h'.get? c = some o → h1.get? c = some o := fun c o e => by
        rw [← hh1]
        exact Heap.get?_push_of_some _ e
      have u2 : ∀ c o, h1.get? c = some o → h2.get? c = some o := fun c o e => by
        rw [← hh2]
        exact Heap.get?_push_of_some _ e
      have u3 : ∀ c o, h2.get? c = some o → (h2.push { cls := .type "zip", data := .fields #[.none, .bool false, .bool false, .ref (s.heap.objs.size + j : Nat), .ref (s.heap.objs.size + j + 1 : Nat)] }).get? c = some o := fun c o e => Heap.get?_push_of_some _ e
      refine hR _ ⟨⟨u3 _ _ (u2 _ _ g0), fun k hk1 hk2 => by omega, fun k hk1 _ => ((hit k hk1).at fun o e => u3 _ _ (u2 _ _ (u1 _ _ e)))⟩, ⟨_, ⟨by simp [refs_len], u3 _ _ g1⟩⟩, .none, false, ?_, .inl rfl⟩ (by rw [Heap.size_push, z2]) fun c o e => u3 _ _ (u2 _ _ (u1 _ _ (hk c o e)))
      have := Heap.get?_push_size (h := h2) (o := { cls := .type "zip", data := .fields #[.none, .bool false, .bool false, .ref (s.heap.objs.size + j : Nat), .ref (s.heap.objs.size + j + 1 : Nat)] }) rfl
      rw [z2] at this
      exact this
section
variable {prog : Program} {w : World} {A : Around} {E : Value → Shared → Prop} {s : Shared}
theorem call_zip {ls : Nat → Nat} {n : Nat} {its : Nat → Array Value} {Q : Value → Shared → Prop} (hn : n ≤ sizeLine) (hl : ∀ k, k < n → s.heap.IsList (ls k) (its k))
    (hQ : ∀ h', Stt h' s.heap.objs.size n ls 0 → h'.objs.size = s.heap.objs.size + n + 3 → (∀ c o, s.heap.get? c = some o → h'.get? c = some o) → Q (.ref (zA s.heap.objs.size n)) { s with heap := h' }) :
    wpAny (model prog w) A (call (.type "zip") (argv ls n)) Q E s := by
  refine callType_new F.called_zip (by decide) (typeCall _) (newCall _) (fun obj => objInit obj _) F.entry_zip_new (new_meets ls n its hn) ⟨hl, fun h' S sz k => ?_⟩
  show _ ∧ _
  exact ⟨S.type (s := { s with heap := h' }), hQ h' S sz k⟩
/-- zip(*x) as a call -/
theorem callWith_typeS {T : String} {e : Expr} {env : Env} {p pos : Pos} {Q : Value → Shared → Prop} (h : wpAny (model prog w) A (eval e env) (fun v s₁ => PySem.W.StarOf (model prog w) A E v (fun vs s₂ => wpAny (model prog w) A (call (.type T) vs) Q E s₂) s₁) E s)
    (he : starEach [.Starred e p] env = [(true, eval e env)] := by rfl) : wpAny (model prog w) A (callWith pos (.type T) [] (backTo pos (starEach [.Starred e p] env)) []) Q E s := by
  rw [he]
  unfold callWith
  refine wpAny_bind (wpAny_holding (wpAny_mono (PySem.W.ks_lone (Q := fun a s₁ => wpAny (model prog w) A (call (.type T) ([] ++ a.pos) a.kw) Q E s₁) (pos := pos) h) (fun a s₁ h₁ => wpAny_bind (wpAny_standAt ?_)) fun _ _ x => x))
  refine wpAny_bind (wpAny_pure ?_)
  exact wpAny_bind (wpAny_mono (wpAny_operating h₁) (fun r s₂ hr => wpAny_bind (wpAny_holding (wpAny_point (wpAny_pure hr)))) fun _ _ x => x)
end
end ZpN

set_option Elab.async false
set_option linter.all false
set_option maxRecDepth 100000
set_option maxHeartbeats 2000000
/-! Dat: zip(*xs): what a loop walks. -/
namespace ZpN
open PySem PySem.Spec PyProof.Rows L2
/-- the lists at as, each item in a new tuple -/
def Itn (K : PySem.W.Frag) (as : List Addr) : It :=
  ⟨fun i H => as ≠ [] ∧ ∀ a ∈ as, ∃ (xs : List V) (x : V), SqL K H a xs ∧ xs[i]? = some x,
   fun i H v H' => ∃ (T : Addr) (zs : List V), v = .ref T ∧ H T = none ∧ H' = upd H T (.tup zs) ∧ zs.length = as.length ∧ ∀ (k : Nat) (a : Addr), as[k]? = some a → ∀ xs, SqL K H a xs → zs[k]? = xs[i]?,
   fun i H => (∀ a ∈ as, ∃ xs : List V, SqL K H a xs) ∧ (as = [] ∨ ∃ a ∈ as, ∃ xs : List V, SqL K H a xs ∧ xs.length ≤ i)⟩
def adr (as : List Addr) (k : Nat) : Nat := as.getD k 0
theorem adr_get {as : List Addr} {k : Nat} (h : k < as.length) : as[k]? = some (adr as k) := by
  unfold adr
  rw [List.getD_eq_getElem?_getD, List.getElem?_eq_getElem h]
  rfl
theorem adr_mem {as : List Addr} {k : Nat} (h : k < as.length) : adr as k ∈ as := List.mem_of_getElem? (adr_get h)
def fpz (B n : Nat) : List Addr := (List.range (n + 3)).map fun k => B + k
theorem mem_fpz {B n b : Nat} : b ∈ fpz B n ↔ B ≤ b ∧ b < B + n + 3 := by
  unfold fpz
  rw [List.mem_map]
  constructor
  · rintro ⟨k, hk, rfl⟩
    have := List.mem_range.mp hk
    omega
  · intro h
    exact ⟨b - B, List.mem_range.mpr (by omega), by omega⟩
section
variable {prog : Program} {w : World} {A : Around} {E : Value → Shared → Prop} {s : Shared}
theorem Stt.kept {h h' : Heap} {B n i : Nat} {ls : Nat → Nat} (S : Stt h B n ls i) (hk : ∀ (c : Nat) (o : Obj), B ≤ c → c < B + n + 3 → h.get? c = some o → h'.get? c = some o) : Stt h' B n ls i := by
  obtain ⟨Z, ⟨vals, hT1, hT2⟩, f0, f, hz, hf⟩ := S
  exact ⟨⟨hk _ _ (by omega) (by omega) Z.ti, fun k h1 h2 => by omega, fun k h1 h2 => (Z.todo k h1 h2).at fun o e => hk _ o (by omega) (by omega) e⟩, ⟨vals, hT1, hk _ _ (by omega) (by omega) hT2⟩, f0, f, hk _ _ (by unfold zA; omega) (by unfold zA; omega) hz, hf⟩
theorem Stt.there {h : Heap} {B n i : Nat} {ls : Nat → Nat} (S : Stt h B n ls i) (b : Nat) (hb : b ∈ fpz B n) : ∃ o, h.get? b = some o ∧ ∀ v, o.data ≠ .cell v := by
  obtain ⟨Z, ⟨vals, hT1, hT2⟩, f0, f, hz, hf⟩ := S
  rw [mem_fpz] at hb
  by_cases h1 : b < B + n
  · obtain ⟨o, ho, hc, hd⟩ := Z.todo (b - B) (by omega) (Nat.zero_le _)
    rw [show B + (b - B) = b by omega] at ho
    exact ⟨o, ho, fun v q => by rw [hd] at q; cases q⟩
  · by_cases h2 : b = B + n
    · subst h2
      exact ⟨_, Z.ti, fun v q => nomatch q⟩
    · by_cases h3 : b = B + n + 1
      · subst h3
        exact ⟨_, hT2, fun v q => nomatch q⟩
      · have h4 : b = zA B n := by unfold zA; omega
        subst h4
        exact ⟨_, hz, fun v q => nomatch q⟩
/-- the step ahead of the store: the tuple may go -/
theorem let_go {tg : Expr} {B n i T : Nat} {ls : Nat → Nat} {Q : Unit → Shared → Prop} (S : Stt s.heap B n ls i) (hQ : ∀ h', Stt h' B n ls i → Heap.SameBut (zA B n) s.heap h' → Q () { s with heap := h' }) :
    wpAny (model prog w) A (letOwnedTupleGo tg (.ref (zA B n)) (.ref T)) Q E s := by
  have id' : Q () s := hQ s.heap S (Heap.SameBut.refl _ _)
  have go : ∀ {elts : List Expr} {x1} {pos : Pos}, wpAny (model prog w) A (letOwnedTupleGo (.Tuple elts x1 pos) (.ref (zA B n)) (.ref T)) Q E s := by
    intro elts x1 pos
    obtain ⟨Z, hT, f0, f, hz, hf⟩ := id S
    unfold letOwnedTupleGo
    refine wpAny_bind (wpAny_load hz ?_)
    show wpAny _ _ (if (["enumerate", "zip", "dict_itemiterator", "dict_reverseitemiterator", "odict_iterator", "itertools.zip_longest", "itertools.pairwise"].contains "zip" &&
        (#[f0, .bool f, .bool false, .ref (B + n : Nat), .ref (B + n + 1 : Nat)] : Array Value)[0]? == some (rawInt T)) = true then _ else _) Q E s
    split
    · refine wpAny_bind (wpAny_rule ?_)
      show wpAny _ _ (setField (.ref (zA B n)) 0 .none) Q E s
      exact wpAny_setField_rec hz (by simp) fun h' hz' hs' => hQ h' ⟨Z.kept fun c o hc e => hs'.extBut c o (by show c ≠ B + n + 2; omega) e, (by
        obtain ⟨vals, t1, t2⟩ := hT
        exact ⟨vals, t1, hs'.extBut _ _ (by show (B + n + 1 : Nat) ≠ B + n + 2; omega) t2⟩), .none, f, hz', .inl rfl⟩ hs'
    · exact wpAny_pure id'
  have golist : ∀ {elts : List Expr} {pos : Pos}, wpAny (model prog w) A (letOwnedTupleGo (.List elts pos) (.ref (zA B n)) (.ref T)) Q E s := fun {elts pos} => go (elts := elts) (x1 := 0) (pos := pos)
  cases tg <;> first
    | exact go
    | exact golist
    | exact wpAny_pure id'
end
theorem turn_zipN {P : Program} {w : World} {K : PySem.W.Frag} {tg : Expr} (as : List Addr) (B : Nat) (hz : as.length ≤ sizeLine) (hlow : ∀ a ∈ as, a < B) : Turn P w K tg (Itn K as) (fpz B as.length) (zA B as.length) (fun i h => Stt h B as.length (adr as) i) where
  mem := mem_fpz.mpr (by unfold zA; omega)
  obj := fun i h st b hb => st.there b hb
  keep := fun i h h' st k => st.kept fun c o h1 h2 e => k c (mem_fpz.mpr ⟨h1, h2⟩) o e
  item := by
    intro X hP hw hK hc i pins s σ H E I hf st hg
    subst hP hw hK
    obtain ⟨hne, hg⟩ := hg
    have hn : 0 < as.length := List.length_pos_iff.mpr hne
    have ch : ∀ k : Nat, ∃ y : Array Value × List V × V, k < as.length → SqL X.K H (adr as k) y.2.1 ∧ y.2.1[i]? = some y.2.2 ∧ Vals y.2.1 y.1.toList ∧ s.heap.IsList (adr as k) y.1 := by
      intro k
      by_cases hk : k < as.length
      · obtain ⟨xs, x, hq, hx⟩ := hg _ (adr_mem hk)
        obtain ⟨its, rv, p, _⟩ := I.list hq
        exact ⟨(its.toArray, xs, x), fun _ => ⟨hq, hx, by rw [List.toList_toArray]; exact rv, p.isList⟩⟩
      · exact ⟨(#[], [], .non), fun h => absurd h hk⟩
    obtain ⟨y, c⟩ := Classical.axiomOfChoice ch
    have hL : Ls s.heap B as.length (adr as) (fun k => (y k).1) := ⟨fun k hk => hlow _ (adr_mem hk), fun k hk => (c k hk).2.2.2⟩
    have hi : ∀ k, k < as.length → ∃ u, (y k).1[i]? = some u ∧ RelV (y k).2.2 u := fun k hk => by
      obtain ⟨_, c2, c3, _⟩ := c k hk
      obtain ⟨u, g1, g2⟩ := c3.get c2
      exact ⟨u, by rw [← g1, Array.getElem?_toList], g2⟩
    refine py_item (its := fun k => (y k).1) hn hz (fun k hk => by
      obtain ⟨u, g, _⟩ := hi k hk
      exact (Array.getElem?_eq_some_iff.mp g).1) hL st fun h' us l1 l2 st' hT hsz hk => ?_
    refine ⟨_, rfl, let_go (s := { s with heap := h' }) st' fun h'' st'' sb => ?_⟩
    have hzl : zA B as.length < s.heap.objs.size := by
      obtain ⟨_, _, f0, f, hzz, _⟩ := st
      exact Heap.lt_size hzz
    have hT2 : h''.get? s.heap.objs.size = some { cls := .type "tuple", data := .seq us.toArray } := (sb.2 _ (Nat.ne_of_gt hzl)).trans hT
    have hv : Vals ((List.range us.length).map fun k => (y k).2.2) us := vals_of_get us _ fun j u e => by
      have hj : j < as.length := by rw [← l1]; exact (List.getElem?_eq_some_iff.mp e).1
      obtain ⟨u', g1, g2⟩ := hi j hj
      rw [l2 j hj] at e
      have e' : (y j).1[i]? = some u := e
      rw [g1] at e'
      cases e'
      exact g2
    have new : ObjOk X.prog X.w (upd H s.heap.objs.size (.tup ((List.range us.length).map fun k => (y k).2.2))) h'' s.heap.objs.size (.tup ((List.range us.length).map fun k => (y k).2.2)) :=
      ⟨by rw [List.length_map, List.length_range, l1]; exact hz, us, hv, ⟨_, hT2, rfl, _, rfl⟩⟩
    have I1 : Inv X pins σ (upd H s.heap.objs.size (.tup ((List.range us.length).map fun k => (y k).2.2))) { s with heap := h'' } :=
      I.turnedNew (t' := s.toks) (ch := fpz B as.length) (fun b o hb q => (sb.2 b (fun z => hb (mem_fpz.mpr (by rw [z]; unfold zA; omega)))).trans (hk b o (fun z => hb (mem_fpz.mpr (by omega))) (fun z => hb (mem_fpz.mpr (by omega))) (fun z => hb (mem_fpz.mpr (by rw [z]; unfold zA; omega))) q)) hf (Nat.le_refl _) new
    refine ⟨.ref s.heap.objs.size, _, I1, rfl, ⟨_, _, rfl, I.hok.fresh (Nat.le_refl _), rfl, by rw [List.length_map, List.length_range, l1], fun k a ha xs hq => ?_⟩, st'', fun b hb => ?_⟩
    · have hka : k < as.length := (List.getElem?_eq_some_iff.mp ha).1
      have e : a = adr as k := by
        rw [adr_get hka] at ha
        exact (Option.some.inj ha).symm
      subst e
      obtain ⟨d1, d2, _⟩ := c k hka
      rw [I.list_inj hq d1, d2, List.getElem?_map, List.getElem?_range (by rw [l1]; exact hka)]
      rfl
    · have hlt : @LT.lt Nat _ b s.heap.objs.size := by
        have := mem_fpz.mp hb
        have hzl : @LT.lt Nat _ (B + as.length + 2) s.heap.objs.size := hzl
        omega
      rw [upd_ne (Nat.ne_of_lt hlt)]
      exact (hf b hb).1
  done := by
    intro X hP hw hK hc i pins s σ H E I hf st hg
    subst hP hw hK
    obtain ⟨hall, hend⟩ := hg
    have ch : ∀ k : Nat, ∃ y : Array Value × List V, k < as.length → SqL X.K H (adr as k) y.2 ∧ Vals y.2 y.1.toList ∧ s.heap.IsList (adr as k) y.1 := by
      intro k
      by_cases hk : k < as.length
      · obtain ⟨xs, hq⟩ := hall _ (adr_mem hk)
        obtain ⟨its, rv, p, _⟩ := I.list hq
        exact ⟨(its.toArray, xs), fun _ => ⟨hq, by rw [List.toList_toArray]; exact rv, p.isList⟩⟩
      · exact ⟨(#[], []), fun h => absurd h hk⟩
    obtain ⟨y, c⟩ := Classical.axiomOfChoice ch
    have hL : Ls s.heap B as.length (adr as) (fun k => (y k).1) := ⟨fun k hk => hlow _ (adr_mem hk), fun k hk => (c k hk).2.2⟩
    refine py_fin (its := fun k => (y k).1) (I.ok.hd hc) hz ?_ hL st fun h' hk => ⟨rfl, I.turnedL (t' := s.toks) (ch := fpz B as.length) (fun b o hb q =>
      hk b o (fun z => hb (mem_fpz.mpr (by omega))) (fun z => hb (mem_fpz.mpr (by omega))) (fun z => hb (mem_fpz.mpr (by rw [z]; unfold zA; omega))) q) hf⟩
    rcases hend with h | ⟨a, ha, xs, hq, hx⟩
    · exact .inl (by rw [h]; rfl)
    · obtain ⟨k, hk⟩ := List.mem_iff_getElem?.mp ha
      have hka : k < as.length := (List.getElem?_eq_some_iff.mp hk).1
      have e : a = adr as k := by
        rw [adr_get hka] at hk
        exact (Option.some.inj hk).symm
      subst e
      obtain ⟨d1, d2, _⟩ := c k hka
      refine .inr ⟨k, hka, ?_⟩
      have := d2.length
      rw [I.list_inj d1 hq] at this
      show (y k).1.size ≤ i
      rw [← Array.length_toList]
      first | (rw [← this]; exact hx) | (rw [this]; exact hx)
  self := fun A i s Q E st h => py_self st h
def iZipS (K : PySem.W.Frag) (te : TE) : TI := fun σ H R => te σ H fun x H1 => ∃ (q : Addr) (as : List Addr), x = .ref q ∧ (SqT K H1 q (as.map V.ref) ∨ SqL K H1 q (as.map V.ref)) ∧ (∀ a ∈ as, ∃ xs : List V, SqL K H1 a xs) ∧ R (Itn K as) H1
theorem vals_argv : ∀ (as : List Addr) (us : List Value), Vals (as.map V.ref) us → us = as.map Value.ref
  | [], us, h => by cases h; rfl
  | a :: as, us, h => by
    cases h with
    | cons r rr =>
      cases r
      rw [vals_argv as _ rr]
      rfl
theorem argv_adr (as : List Addr) : as.map Value.ref = argv (adr as) as.length := by
  apply List.ext_getElem
  · rw [List.length_map, argv_len]
  · intro k h1 h2
    rw [List.length_map] at h1
    have := adr_get h1
    rw [List.getElem?_eq_getElem h1] at this
    rw [List.getElem_map, Option.some.inj this]
    simp only [argv, List.getElem_map, List.getElem_range]
theorem pi_zipS {X : Cx} {tg e : Expr} {te : TE} {p sp pos : Pos} (hg : Gl X "zip") (hm : X.mg "zip" = none) (he : PE X e te) (hst : starEach [.Starred e sp] X.env = [(true, eval e X.env)] := by rfl) :
    PI X tg (.Call (.Name "zip" p) [.Starred e sp] [] pos) (iZipS X.K te) := by
  refine ⟨fun pins s σ H R I h => ?_⟩
  refine Call_ (ld_blt I hg hm PyProof.Rows.boot_zip (callWith_typeS (thn (he.run pins s σ H _ I h) fun v s1 ⟨x, H1, I1, rx, q, as, ex, hxs, hal, hq⟩ => ?_) hst))
  subst ex
  obtain rfl : v = Value.ref q := rx
  have hsz : as.length ≤ sizeLine := by
    rcases hxs with h | h
    · obtain ⟨its, rv, _, hz⟩ := I1.tuple h
      rw [List.length_map] at hz
      exact hz
    · obtain ⟨its, rv, _, hz⟩ := I1.list h
      rw [List.length_map] at hz
      exact hz
  refine StX.star_any I1 hxs fun us s2 I2 rv => ?_
  have eu := vals_argv as us rv
  rw [argv_adr] at eu
  subst eu
  have ch : ∀ k : Nat, ∃ y : Array Value, k < as.length → s2.heap.IsList (adr as k) y ∧ adr as k < s2.heap.objs.size := by
    intro k
    by_cases hk : k < as.length
    · obtain ⟨xs, hq⟩ := hal _ (adr_mem hk)
      obtain ⟨its, rv, p, _⟩ := I2.list hq
      exact ⟨its.toArray, fun _ => ⟨p.isList, p.lt⟩⟩
    · exact ⟨#[], fun h => absurd h hk⟩
  obtain ⟨y, c⟩ := Classical.axiomOfChoice ch
  refine call_zip (its := y) hsz (fun k hk => (c k hk).1) fun h' S sz hk => py_self S ?_
  have I3 : Inv X pins σ H1 { s2 with heap := h' } := I2.kept (t' := s2.toks) hk
  refine ⟨_, _, _, _, H1, rfl, I3, turn_zipN as s2.heap.objs.size hsz (fun a ha => ?_), S, fun b hb => ?_, hq⟩
  · obtain ⟨k, hk⟩ := List.mem_iff_getElem?.mp ha
    have hka : k < as.length := (List.getElem?_eq_some_iff.mp hk).1
    rw [adr_get hka] at hk
    rw [← Option.some.inj hk]
    exact (c k hka).2
  · have hle : s2.heap.objs.size ≤ b := (mem_fpz.mp hb).1
    exact I2.fpOk hle (I2.hok.fresh hle)
end ZpN

set_option Elab.async false
set_option linter.all false
set_option maxRecDepth 100000
set_option maxHeartbeats 2000000
/-! Dat: zip(*xs) of lists, walked. -/
namespace Dt
open PySem PySem.Spec PyProof.Rows L2
def rowsD : List D → Option (List (List D))
  | [] => some []
  | .lst none xs :: r => (rowsD r).map (xs :: ·)
  | _ => none
def mnR : List (List D) → Nat
  | [] => 0
  | [r] => r.length
  | r :: s :: t => min r.length (mnR (s :: t))
def colD (dss : List (List D)) (i : Nat) : D := .tup (dss.map fun r => r.getD i .non)
def colsD (dss : List (List D)) : List D := (List.range (mnR dss)).map (colD dss)
def nZipS : D → R (List D)
  | .lst none rs => match rowsD rs with
    | some dss => .ok (colsD dss)
    | none => .bad
  | .tup rs => match rowsD rs with
    | some dss => .ok (colsD dss)
    | none => .bad
  | _ => .bad
def dZipS (fe : Env → R D) : Env → R (List D) := fun ρ => (fe ρ).bind fun x => nZipS x.fr
theorem rowsD_map : ∀ {rs : List D} {dss : List (List D)}, rowsD rs = some dss → rs = dss.map (D.lst none)
  | [], dss, h => by
    cases Option.some.inj h
    rfl
  | .lst none xs :: r, dss, h => by
    have h : (rowsD r).map (xs :: ·) = some dss := h
    cases hr : rowsD r with
    | none => rw [hr] at h; cases h
    | some ess =>
      rw [hr] at h
      cases Option.some.inj h
      rw [List.map_cons, ← rowsD_map hr]
  | .lst (some _) xs :: r, dss, h => by cases h
  | .non :: _, _, h => by cases h
  | .bl _ :: _, _, h => by cases h
  | .int _ :: _, _, h => by cases h
  | .str _ :: _, _, h => by cases h
  | .ty _ :: _, _, h => by cases h
  | .cls _ :: _, _, h => by cases h
  | .tup _ :: _, _, h => by cases h
  | .obj _ _ _ _ :: _, _, h => by cases h
  | .dic _ _ _ :: _, _, h => by cases h
  | .dct _ _ _ :: _, _, h => by cases h
  | .exc _ _ _ _ :: _, _, h => by cases h
@[simp] theorem rowsD_of : ∀ dss : List (List D), rowsD (dss.map (D.lst none)) = some dss
  | [] => rfl
  | xs :: r => by
    show (rowsD (r.map (D.lst none))).map (xs :: ·) = _
    rw [rowsD_of r]
    rfl
theorem mnR_le : ∀ {dss : List (List D)} {ds : List D}, ds ∈ dss → mnR dss ≤ ds.length
  | [r], ds, h => by
    rw [List.mem_singleton.mp h]
    exact Nat.le_refl _
  | r :: s :: t, ds, h => by
    show min r.length (mnR (s :: t)) ≤ ds.length
    rcases List.mem_cons.mp h with rfl | h
    · exact Nat.min_le_left _ _
    · exact Nat.le_trans (Nat.min_le_right _ _) (mnR_le h)
theorem mnR_at : ∀ {dss : List (List D)}, dss ≠ [] → ∃ ds ∈ dss, ds.length = mnR dss
  | [r], _ => ⟨r, List.mem_cons_self, rfl⟩
  | r :: s :: t, _ => by
    obtain ⟨ds, h1, h2⟩ := mnR_at (dss := s :: t) (by simp)
    by_cases h : r.length ≤ mnR (s :: t)
    · exact ⟨r, List.mem_cons_self, (Nat.min_eq_left h).symm⟩
    · exact ⟨ds, List.mem_cons_of_mem _ h1, h2.trans (Nat.min_eq_right (by omega)).symm⟩
section
variable {g : G} {F F' H : Hp}
def Rows (g : G) (F : Hp) (as : List Addr) (dss : List (List D)) : Prop := Paired (fun (a : Addr) (ds : List D) => ∃ vs, SqL g.K F a vs ∧ RpL g F vs ds) as dss
theorem Rows.mono (s : Same F F') {as : List Addr} {dss : List (List D)} (h : Rows g F as dss) : Rows g F' as dss := by
  unfold Rows at h ⊢
  induction h with
  | nil => exact .nil
  | cons h1 h2 ih =>
    obtain ⟨vs, a, b⟩ := h1
    exact .cons ⟨vs, s.seq a, RpL.mono s b⟩ ih
theorem Rows.at {as : List Addr} {dss : List (List D)} (h : Rows g F as dss) : ∀ {k : Nat} {a : Addr}, as[k]? = some a → ∃ ds vs, dss[k]? = some ds ∧ ds ∈ dss ∧ SqL g.K F a vs ∧ RpL g F vs ds := by
  unfold Rows at h
  induction h with
  | nil => intro k a e; simp at e
  | cons h1 h2 ih =>
    intro k a e
    cases k with
    | zero =>
      obtain ⟨vs, p, q⟩ := h1
      cases Option.some.inj e
      exact ⟨_, vs, rfl, List.mem_cons_self, p, q⟩
    | succ k =>
      obtain ⟨ds, vs, e1, e2, e3, e4⟩ := ih (k := k) (by simpa using e)
      exact ⟨ds, vs, by simpa using e1, List.mem_cons_of_mem _ e2, e3, e4⟩
theorem Rows.len {as : List Addr} {dss : List (List D)} (h : Rows g F as dss) : as.length = dss.length := Paired.length h
theorem Rows.back {as : List Addr} {dss : List (List D)} (h : Rows g F as dss) {ds : List D} (hd : ds ∈ dss) : ∃ a ∈ as, ∃ vs, SqL g.K F a vs ∧ RpL g F vs ds := by
  unfold Rows at h
  induction h with
  | nil => cases hd
  | cons h1 h2 ih =>
    rcases List.mem_cons.mp hd with rfl | hd
    · obtain ⟨vs, p, q⟩ := h1
      exact ⟨_, List.mem_cons_self, vs, p, q⟩
    · obtain ⟨a, ha, vs, p, q⟩ := ih hd
      exact ⟨a, List.mem_cons_of_mem _ ha, vs, p, q⟩
theorem rows_of : ∀ {vs : List V} (dss : List (List D)), RpL g F vs (dss.map (D.lst none)) → ∃ as : List Addr, vs = as.map V.ref ∧ Rows g F as dss
  | _, [], h => by
    cases h
    exact ⟨[], rfl, .nil⟩
  | _, ds :: dss, h => by
    cases h with
    | cons h1 h2 =>
      obtain ⟨as, e, r⟩ := rows_of dss h2
      cases h1 with
      | lst hs hr => exact ⟨_ :: as, by rw [e]; rfl, .cons ⟨_, hs, hr⟩ r⟩
theorem rpl_of : ∀ {zs : List V} {ds : List D}, zs.length = ds.length → (∀ (k : Nat) v d, zs[k]? = some v → ds[k]? = some d → Rp g F v d) → RpL g F zs ds
  | [], [], _, _ => .nil
  | [], _ :: _, h, _ => by cases h
  | _ :: _, [], h, _ => by cases h
  | z :: zs, d :: ds, h, r => .cons (r 0 z d rfl rfl) (rpl_of (Nat.succ.inj h) fun k v e h1 h2 => r (k + 1) v e (by simpa using h1) (by simpa using h2))
theorem src_zipN {as : List Addr} {dss : List (List D)} : Src g (ZpN.Itn g.K as) (colsD dss) (fun F => Rows g F as dss) where
  go := fun i F H hi C s => by
    have hi : i < mnR dss := by
      unfold colsD at hi
      rw [List.length_map, List.length_range] at hi
      exact hi
    refine ⟨fun e => ?_, fun a ha => ?_⟩
    · have := C.len
      rw [e] at this
      have e2 : dss = [] := List.eq_nil_of_length_eq_zero this.symm
      rw [e2] at hi
      exact absurd hi (Nat.not_lt_zero _)
    · obtain ⟨k, hk⟩ := List.mem_iff_getElem?.mp ha
      obtain ⟨ds, vs, _, hm, h1, h2⟩ := C.at hk
      have hl := mnR_le hm
      obtain ⟨v, e1, _⟩ := h2.get (List.getElem?_eq_getElem (show i < ds.length by omega))
      exact ⟨vs, v, s.seq h1, e1⟩
  stop := fun i F H hi C s => by
    have hi : mnR dss ≤ i := by
      unfold colsD at hi
      rw [List.length_map, List.length_range] at hi
      exact hi
    refine ⟨fun a ha => ?_, ?_⟩
    · obtain ⟨k, hk⟩ := List.mem_iff_getElem?.mp ha
      obtain ⟨ds, vs, _, hm, h1, h2⟩ := C.at hk
      exact ⟨vs, s.seq h1⟩
    · by_cases e : dss = []
      · have := C.len
        rw [e] at this
        exact .inl (List.eq_nil_of_length_eq_zero this)
      · obtain ⟨ds, hd, hl⟩ := mnR_at e
        obtain ⟨a, ha, vs, h1, h2⟩ := C.back hd
        exact .inr ⟨a, ha, vs, s.seq h1, by rw [h2.length]; omega⟩
  yld := fun i d F H x H' C s e ⟨T, zs, e1, nT, e2, hl, hz⟩ => by
    subst e1 e2
    have hi : i < mnR dss := by
      have := (List.getElem?_eq_some_iff.mp e).1
      unfold colsD at this
      rw [List.length_map, List.length_range] at this
      exact this
    have ed : d = colD dss i := by
      unfold colsD at e
      rw [List.getElem?_map, List.getElem?_range hi] at e
      exact (Option.some.inj e).symm
    subst ed
    have st := step_tup (vs := zs) s nT
    refine ⟨_, st, .tup (.inl upd_same) (RpL.mono st.ff (rpl_of (by rw [List.length_map, hl, C.len]) fun k v d h1 h2 => ?_)), rfl⟩
    have hk : k < as.length := by
      rw [← hl]
      exact (List.getElem?_eq_some_iff.mp h1).1
    obtain ⟨ds, vs, f1, f2, f3, f4⟩ := C.at (List.getElem?_eq_getElem hk)
    rw [hz k _ (List.getElem?_eq_getElem hk) vs (s.seq f3)] at h1
    rw [List.getElem?_map, f1] at h2
    have hm := mnR_le f2
    have eg : ds.getD i .non = d := Option.some.inj h2
    have ed : ds[i]? = some d := by
      rw [← eg, List.getD_eq_getElem?_getD, List.getElem?_eq_getElem (by omega)]
      rfl
    obtain ⟨v', g1, g2⟩ := f4.get ed
    rw [g1] at h1
    cases h1
    exact g2
  mono := fun F F' s C => C.mono s
end
section
variable {X : Cx} {W : Wx} {tg e : Expr} {p sp pos : Pos} {fe : Env → R D}
theorem di_zipS (hg : Gl X "zip") (hm : X.mg "zip" = none) (he : DE true X W e fe) (hst : starEach [.Starred e sp] X.env = [(true, eval e X.env)] := by rfl) :
    DI X W tg (.Call (.Name "zip" p) [.Starred e sp] [] pos) (dZipS fe) :=
  pi_imp (ZpN.pi_zipS hg hm he hst) fun σ H Q => fun ⟨τ, B, F, ρ, E, q⟩ => by
  refine ⟨τ, B, F, ρ, E, ?_⟩
  unfold dZipS at q
  cases hf : fe ρ with
  | bad => rw [hf] at q; exact q
  | ex x => rw [hf] at q; exact q
  | ok x =>
    rw [hf, R.bind_ok] at q
    intro v H1 F1 s1 r
    obtain ⟨F2, s2, o⟩ := r.op s1
    have q := outI.step s2 q
    have o : Rp (gx X W) F2 v x.fr := o
    have s := s2.fh
    generalize x.fr = y at q o
    unfold nZipS at q
    split at q
    · rename_i rs
      cases o with
      | lst hs hr =>
        cases hd : rowsD rs with
        | none => rw [hd] at q; exact q.elim
        | some dss =>
          rw [hd] at q
          rw [rowsD_map hd] at hr
          obtain ⟨as, e1, rw'⟩ := rows_of dss hr
          subst e1
          exact ⟨_, as, rfl, .inr (s.seq hs), fun a ha => by
            obtain ⟨k, hk⟩ := List.mem_iff_getElem?.mp ha
            obtain ⟨ds, vs, _, hm, h1, h2⟩ := rw'.at hk
            exact ⟨vs, s.seq h1⟩, q _ _ H1 F2 (StepP.refl s) src_zipN rw'⟩
    · rename_i rs
      cases o with
      | tup hs0 hr =>
        have hs := hs0.t
        cases hd : rowsD rs with
        | none => rw [hd] at q; exact q.elim
        | some dss =>
          rw [hd] at q
          rw [rowsD_map hd] at hr
          obtain ⟨as, e1, rw'⟩ := rows_of dss hr
          subst e1
          exact ⟨_, as, rfl, .inl (same_sqT s hs), fun a ha => by
            obtain ⟨k, hk⟩ := List.mem_iff_getElem?.mp ha
            obtain ⟨ds, vs, _, hm, h1, h2⟩ := rw'.at hk
            exact ⟨vs, s.seq h1⟩, q _ _ H1 F2 (StepP.refl s) src_zipN rw'⟩
    · exact q.elim
end
end Dt

set_option Elab.async false
set_option linter.all false
set_option maxRecDepth 100000
set_option maxHeartbeats 2000000
/-! Dat: o[a:c] = ys of a list of one's own, ys any list. -/
namespace L2
open PySem PySem.Spec PyProof.Rows
section
variable {prog : Program} {w : World} {A : Around} {E : Value → Shared → Prop} {s : Shared}
theorem setItem_slAny {l b sl : Addr} {items new : Array Value} {n n2 : Nat} {ob : Obj} {vl vu : Value} {a c : Nat} {Q : Unit → Shared → Prop}
    (e : s.heap.get? l = some { cls := .type "list", data := .seq items n }) (hb : s.heap.IsList b new) (e2 : s.heap.get? b = some ob) (d2 : ob.data = .seq new n2) (hne : l ≠ b)
    (hs : s.heap.IsSliceOf sl vl vu .none) (pl : IsPart vl (some (a : Int))) (pu : IsPart vu (some (c : Int))) (hac : a ≤ c) (hc : c ≤ items.size)
    (hsz : items.size + new.size ≤ sizeLine) (h : Q () { s with heap := s.heap.update l (Obj.mapSeq fun xs => xs.extract 0 a ++ new ++ xs.extract c xs.size) }) :
    wpAny (model prog w) A (setItem (.ref l) (.ref sl) (.ref b)) Q E s := by
  have hl : s.heap.IsList l items := PySem.IsL.isList e
  obtain ⟨os, hos, hcs, hds⟩ := id hs
  have hTs : s.TypeIs (.ref sl) "slice" := ⟨os, hos, hcs⟩
  have hsame : Builtin.List.listSameRef (.ref l) (.ref b) = false := by
    unfold Builtin.List.listSameRef
    exact beq_eq_false_iff_ne.mpr hne
  have hz' : ((fun xs : Array Value => xs.extract 0 a ++ new ++ xs.extract c xs.size) items).size ≤ sizeLine + 1 := by
    simp only [Array.size_append, Array.size_extract]
    omega
  have hmax : (max (a : Int) (c : Int)).toNat = c := by omega
  unfold setItem
  try with_reducible refine wpAny_holding ?_
  first | refine wpAny_bind (wpAny_pure ?_) | skip
  refine wpAny_bind (wpAny_sequenceKey hl.typeIs (by decide) ?_)
  refine wpAny_bind (wpAny_callSpecial?_slot (name := Str.ofString "__setitem__") hl.typeIs slot_list_setitem (wpAny_call_entry slot_list_setitem hl.typeIs entry_list_setitem ?_ (args_list_setitem _ _ _)))
  refine wpAny_bind (m := Builtin.List.listSubscript? (.ref sl)) ?_
  unfold Builtin.List.listSubscript?
  refine wpAny_bind (wpAny_specialOf hTs slice_no_index ?_)
  simp only [Option.isNone_none, if_true]
  refine wpAny_pure (wpAny_bind (m := typeOf (.ref sl)) (wpAny_typeOf hTs ?_))
  first
    | rw [if_neg (by decide)]
    | refine PySem.W.KFB.if_not (by decide) ?_
  rw [listSliceParts_eq]
  refine wpAny_bind (wpAny_bind (wpAny_field hos hds (x := .none) rfl (wpAny_bind (wpAny_listPart .none ?_))))
  rw [if_neg (show ¬ ((rawPart none == rawInt 0) = true) from Bool.false_ne_true)]
  refine wpAny_bind (wpAny_field hos hds (x := vl) rfl (wpAny_bind (wpAny_listPart pl ?_)))
  refine wpAny_bind (wpAny_field hos hds (x := vu) rfl (wpAny_bind (wpAny_listPart pu (wpAny_pure ?_))))
  first
    | simp only [hsame, Bool.false_eq_true, if_false]
    | refine PySem.W.KFB.if_not hsame ?_
  refine wpAny_bind (m := Builtin.List.listAllItems (.ref b) "must assign iterable to extended slice") ?_
  unfold Builtin.List.listAllItems
  refine wpAny_bind (wpAny_typeOf hb.typeIs ?_)
  first
    | refine PySem.W.KFB.if_so (by decide) ?_
    | rw [if_pos (by decide)]
    | simp only [beq_self_eq_true, Bool.true_or, if_true]
  unfold Builtin.List.listItems
  refine wpAny_bind (wpAny_seqItems e2 d2 (wpAny_pure (wpAny_bind (wpAny_bind (wpAny_seqItems e rfl (wpAny_pure ?_))))))
  refine wpAny_bind (wpAny_of_eq ((sliceIndices_raw (some (a : Int)) (some (c : Int)) none items.size (by simp)).trans (congrArg (pure : Int × Int × Int → Sem (Int × Int × Int)) (bounds_run hac hc))) ?_)
  show wpAny _ _ (if ((1 : Int) == 1) = true then _ else _) _ _ s
  rw [if_pos (by decide)]
  refine wpAny_bind (wpAny_rule ?_)
  first
    | simp only [notLongL hsz, Bool.false_eq_true, if_false]
    | refine PySem.W.KFB.if_not (notLongL hsz) ?_
  first | refine wpAny_bind (wpAny_pure ?_) | skip
  show wpAny _ _ (updateSeq l (fun xs => xs.extract 0 ((a : Int)).toNat ++ new ++ xs.extract (max (a : Int) (c : Int)).toNat xs.size) >>= _) _ _ s
  rw [hmax, Int.toNat_natCast]
  refine wpAny_bind (wpAny_updateSeq (hz := Nat.le_trans (Nat.le_add_right _ _) hsz) (_hz' := hz') e rfl (wpAny_bind (wpAny_letGo ?_)))
  first
    | exact wpAny_bind (wpAny_pure (wpAny_pure ⟨.none, rfl, wpAny_pure h⟩))
    | exact wpAny_pure ⟨.none, rfl, wpAny_pure h⟩
end
section
variable {X : Cx} {o : Expr} {to : TE} {lo hi : Option Expr} {tl th : TO} {p2 pos : Pos}
/-- o[a:c] = y as a target -/
def gSlc (K : PySem.W.Frag) (to : TE) (tl th : TO) : TG := fun y σ H Q => to σ H fun x H1 => tl σ H1 fun l H2 => th σ H2 fun u H3 => ∃ (p b : Addr) (xs ys : List V) (a c : Nat), x = .ref p ∧ y = .ref b ∧ H3 p = some (.lst xs) ∧ SqL K H3 b ys ∧ (p = b → ∃ o, K.lookup b = some o) ∧
  l = some (a : Int) ∧ u = some (c : Int) ∧ a ≤ c ∧ c ≤ xs.length ∧ xs.length + ys.length ≤ sizeLine ∧ Q σ (upd H3 p (.lst (xs.take a ++ ys ++ xs.drop c)))
theorem pg_slc (ho : PE X o to) (hl : PO X lo tl) (hu : PO X hi th)
    (ha : ∀ v, assign (.Subscript o (.Slice lo hi none p2) pos) X.env v = (do
      let ov ← holding [v] (eval o X.env)
      let iv ← holding [v, ov] (eval (.Slice lo hi none p2) X.env)
      standAt pos
      holding [v, ov, iv] (setItem ov iv v)
      release [iv, v, ov] []) := by intro _; rfl) : PG X (.Subscript o (.Slice lo hi none p2) pos) (gSlc X.K to tl th) := by
  refine ⟨fun pins s σ H v u Q I r h => ?_⟩
  rw [ha]
  refine wpAny_bind (wpAny_holding (thn (ho.run pins s σ H _ I h) fun ov s1 ⟨x, H1, I1, r1, q1⟩ => ?_))
  refine wpAny_bind (wpAny_holding ?_)
  refine wpAny_Slice (thn (hl.run pins s1 σ H1 _ I1 q1) fun vl s2 ⟨l, H2, I2, pl, q2⟩ => thn (hu.run pins s2 σ H2 _ I2 q2) fun vu s3 ⟨uu, H3, I3, pu, q3⟩ => ?_)
  rw [evalPart_none]
  refine wpAny_pure ?_
  have I4 : Inv X pins σ H3 { s3 with heap := s3.heap.push { cls := .type "slice", data := .fields #[vl, vu, .none] } } := I3.kept (t' := s3.toks) fun b ob q => Heap.get?_push_of_some _ q
  obtain ⟨p, b, xs, ys, a, c, ex, ey, hp, hb, hk, el, eu, hac, hc, hz, q⟩ := q3
  have hne : p ≠ b := fun z => by
    obtain ⟨o, ho⟩ := hk z
    have := (I3.bs b o (I3.mod.kin b o ho)).2
    rw [← z, hp] at this
    cases this
  subst ex ey el eu
  obtain rfl : ov = Value.ref p := r1
  obtain rfl : u = Value.ref b := r
  refine wpAny_bind (wpAny_standAt (wpAny_bind (wpAny_holding ?_)))
  obtain ⟨z, its, n, rr, hl1, e⟩ := I4.lstM hp
  obtain ⟨its2, r2, hpl, z2⟩ := I4.list hb
  obtain ⟨ob, n2, e2, c2, dn2, d2⟩ := id hpl
  have l2 := r2.length
  refine setItem_slAny (a := a) (c := c) e hpl.isList e2 d2 hne (Heap.IsSliceOf.new ..) pl pu hac (by rw [List.size_toArray, ← hl1]; exact hc) (by rw [List.size_toArray, List.size_toArray]; omega) ?_
  refine wpAny_release ⟨σ, _, ?_, q⟩
  refine I4.lset (its' := its.take a ++ its2 ++ its.drop c) (t' := s3.toks) hp e ?_ (Vals.append (Vals.append (rr.take _) r2) (rr.drop _)) ?_
  · exact splice_eq its its2 a c
  · rw [List.length_append, List.length_append, List.length_take, List.length_drop]
    omega
end
end L2
namespace Dt
open PySem PySem.Spec PyProof.Rows L2
section
variable {g : G} {F H : Hp}
theorem OwnL.take : ∀ {vs : List V} {ds : List D} {A : List Addr} (n : Nat), OwnL g F H vs ds A → ∃ A', OwnL g F H (vs.take n) (ds.take n) A' ∧ ∀ q, q ∈ A' → q ∈ A
  | _, _, _, 0, _ => ⟨[], .nil, fun _ z => nomatch z⟩
  | _, _, _, n + 1, .nil => ⟨[], .nil, fun _ z => nomatch z⟩
  | _, _, _, n + 1, .cons ho hr hd => by
    obtain ⟨A', h1, h2⟩ := OwnL.take n hr
    exact ⟨_, .cons ho h1 fun q hq hb => hd q hq (h2 q hb), fun q hq => by
      rcases List.mem_append.mp hq with z | z
      · exact List.mem_append_left _ z
      · exact List.mem_append_right _ (h2 q z)⟩
theorem OwnL.drop : ∀ {vs : List V} {ds : List D} {A : List Addr} (n : Nat), OwnL g F H vs ds A → ∃ A', OwnL g F H (vs.drop n) (ds.drop n) A' ∧ ∀ q, q ∈ A' → q ∈ A
  | _, _, A, 0, h => ⟨A, h, fun _ z => z⟩
  | _, _, _, n + 1, .nil => ⟨[], .nil, fun _ z => nomatch z⟩
  | _, _, _, n + 1, .cons ho hr hd => by
    obtain ⟨A', h1, h2⟩ := OwnL.drop n hr
    exact ⟨A', h1, fun q hq => List.mem_append_right _ (h2 q hq)⟩
theorem OwnL.frzApp : ∀ {ws : List V} {es : List D} {vs : List V} {ds : List D} {A : List Addr}, RpL g F ws es → allRf es = true → OwnL g F H vs ds A → OwnL g F H (ws ++ vs) (es ++ ds) A
  | _, _, _, _, _, .nil, _, h => h
  | _, _, _, _, _, .cons r rs, e, h => by
    obtain ⟨e1, e2⟩ := Bool.and_eq_true_iff.mp e
    exact .cons (.frz e1 r) (OwnL.frzApp rs e2 h) fun _ z => nomatch z
theorem OwnL.splice {ws : List V} {es : List D} (r : RpL g F ws es) (e : allRf es = true) : ∀ {vs : List V} {ds : List D} {A : List Addr} (a c : Nat), a ≤ c → OwnL g F H vs ds A → ∃ A', OwnL g F H (vs.take a ++ ws ++ vs.drop c) (ds.take a ++ es ++ ds.drop c) A' ∧ ∀ q, q ∈ A' → q ∈ A
  | _, _, _, 0, c, _, h => by
    obtain ⟨A', h1, h2⟩ := h.drop c
    exact ⟨A', OwnL.frzApp r e h1, h2⟩
  | _, _, _, a + 1, c + 1, hac, .nil => ⟨[], OwnL.frzApp r e .nil, fun _ z => nomatch z⟩
  | _, _, _, a + 1, c + 1, hac, .cons ho hr hd => by
    obtain ⟨A', h1, h2⟩ := OwnL.splice r e a c (by omega) hr
    exact ⟨_, .cons ho h1 fun q hq hb => hd q hq (h2 q hb), fun q hq => by
      rcases List.mem_append.mp hq with z | z
      · exact List.mem_append_left _ z
      · exact List.mem_append_right _ (h2 q z)⟩
end
def spL (xs : List D) (a c : Int) (ys : List D) : List D := xs.take a.toNat ++ ys ++ xs.drop c.toNat
def fSpl (t : Nat) (xs : List D) (l h : Option Int) (ys : List D) : R D := match l, h with
  | some a, some c => if 0 ≤ a ∧ a ≤ c ∧ c ≤ xs.length ∧ allRf ys = true ∧ xs.length + ys.length ≤ 16777216 then .ok (.lst (some t) (spL xs a c ys)) else .bad
  | _, _ => .bad
/-- o[a:c] = ys -/
def dStoreSl (fp : Env → R Pl) (fl fh : Env → R (Option Int)) (fa : Env → R D) : DTS := fun ρ => Out.of (fa ρ) ρ fun d => match d.fr with
  | .lst none ys => Out.ofP (fp ρ) ρ fun p => onLst ρ p fun t xs => match fl ρ with
    | .ok l => match fh ρ with
      | .ok h => match fSpl t xs l h ys with
        | .ok e => .nx (putP ρ p e)
        | _ => .bad
      | _ => .bad
    | _ => .bad
  | _ => .bad
section
variable {X : Cx} {W : Wx} {a v : Expr} {lo hi : Option Expr} {p2 tpos pos : Pos} {fa : Env → R D} {fp : Env → R Pl} {fl fh : Env → R (Option Int)}
theorem ds_storeSl (hp : DPl X W a fp) (hl : DO X W lo fl) (hh : DO X W hi fh) (he : DE true X W v fa)
    (ha : ∀ u, assign (.Subscript a (.Slice lo hi none p2) tpos) X.env u = (do
      let ov ← holding [u] (eval a X.env)
      let iv ← holding [u, ov] (eval (.Slice lo hi none p2) X.env)
      standAt tpos
      holding [u, ov, iv] (setItem ov iv u)
      release [iv, u, ov] []) := by exact fun _ => rfl)
    (hs : swapsWithSole [.Subscript a (.Slice lo hi none p2) tpos] v pos.line X.env = pure false := by rfl) (hw : swappedStores [.Subscript a (.Slice lo hi none p2) tpos] v X.env = pure none := by rfl)
    (h1 : (assignEach [.Subscript a (.Slice lo hi none p2) tpos] X.env).map (·.2) = [assign (.Subscript a (.Slice lo hi none p2) tpos) X.env] := by rfl) :
    DS X W (.Assign [.Subscript a (.Slice lo hi none p2) tpos] v pos) (dStoreSl fp fl fh fa) := ps_imp (ps_asg he (pg_slc hp hl hh ha) hs hw h1) fun E σ H => fun ⟨τ, B, F, ρ, R, q⟩ => by
  unfold dStoreSl at q
  refine ⟨τ, B, F, ρ, R, ?_⟩
  cases hfa : fa ρ with
  | bad => rw [hfa] at q; exact q
  | ex x => rw [hfa] at q; exact fun cls dd H' F' s r => q cls dd σ H H' F' (s.toI R.bh) (R.stepP s) r
  | ok d =>
    rw [hfa, Out.of_ok] at q
    intro v H1 F1 s1 r1
    obtain ⟨F2, s2, o2⟩ := r1.op s1
    have o2 : Rp (gx X W) F2 v d.fr := o2
    have R2 := R.stepP s2
    have q := outS.step (s2.toI R.bh) q
    refine ⟨τ, B, F2, ρ, R2, ?_⟩
    generalize d.fr = y at q o2
    split at q
    · rename_i ys
      cases o2 with
      | lst hs rr =>
      rename_i b ws
      cases hf : fp ρ with
      | bad => rw [hf] at q; exact q
      | ex x => rw [hf] at q; exact fun cls dd H' F' s r => q cls dd σ H1 H' F' (s.toI R2.bh) (R2.stepP s) r
      | ok p =>
        rw [hf, Out.ofP_ok] at q
        obtain ⟨t, xs, hg, q⟩ := onLst_ok q
        intro u H3 F3 s3 l3
        have R3 := R2.stepP s3
        cases hfl : fl ρ with
        | bad => rw [hfl] at q; exact q.elim
        | ex x => rw [hfl] at q; exact q.elim
        | ok l =>
          refine ⟨τ, B, F3, ρ, R3, ?_⟩
          rw [hfl]
          rw [hfl] at q
          intro H4 F4 s4
          have R4 := R3.stepP s4
          refine ⟨τ, B, F4, ρ, R4, ?_⟩
          cases hfh : fh ρ with
          | bad => rw [hfh] at q; exact q.elim
          | ex x => rw [hfh] at q; exact q.elim
          | ok h =>
            rw [hfh] at q
            intro H5 F5 s5
            have s25 := (s3.trans s4).trans s5
            have q := outS.step (s25.toI R2.bh) q
            have s05 := s2.trans s25
            dsimp only at q
            cases hsp : fSpl t xs l h ys with
            | bad => rw [hsp] at q; exact q.elim
            | ex x => rw [hsp] at q; exact q.elim
            | ok e =>
              rw [hsp] at q
              unfold fSpl at hsp
              split at hsp
              · rename_i a c
                split at hsp
                · rename_i cc
                  cases hsp
                  obtain ⟨h0, hac, hcl, hrf, hsz⟩ := cc
                  have l0 := R.locBack (s2.hh.trans s3.hh) l3
                  obtain ⟨l, vs, A0, rfl, k1, k2, k3, k4, up⟩ := R.mutL l0 hg
                  obtain ⟨A', o1, ha'⟩ := (k2.stepP s05).splice (RpL.mono s25.ff rr) hrf a.toNat c.toNat (by omega)
                  obtain ⟨R5, s6⟩ := up F5 H5 _ _ A' s05 o1 (fun z => k3 (ha' l z)) fun x hx => .inl (ha' x hx)
                  have e1 := k2.length
                  refine ⟨l, b, vs, ws, a.toNat, c.toNat, rfl, rfl, s05.hh _ _ k1, s25.fh.seq (s25.ff.seq hs), fun z => ?_, congrArg some (by omega), congrArg some (by omega), by omega, by rw [e1]; omega, by rw [e1, rr.length, sizeLine_eq]; omega, q σ _ F5 ⟨Same.refl F5, R5.fh, R5.bh, fun _ _ _ => rfl⟩ R5⟩
                  · rcases hs with hs | ⟨o, its, n, ho, _⟩
                    · have f2 : F2 l = none := (s2.new l _ k1).trans k4
                      rw [← z] at hs
                      rcases hs with hs | ⟨o, hs⟩ <;> (rw [f2] at hs; cases hs)
                    · exact ⟨o, ho⟩
                · cases hsp
              · cases hsp
    · exact q.elim
end
end Dt

set_option Elab.async false
set_option linter.all false
set_option maxRecDepth 100000
set_option maxHeartbeats 2000000
/-! Dat: the caught exception handed to a def. -/
namespace Dt
open PySem PySem.Spec PyProof.Rows L2
/-- as L2H.FnH, for one handled exception -/
structure FnHP (p : Addr × Obj) (P : Program) (w : World) (K : PySem.W.Frag) (mg : Str → Option Value) (base : Heap) (CX : CXT) (k : Nat) (f : Addr) (fd : FuncData) (ps : List Str) (sp : Sp) : Prop where
  len : ∀ vs H Q E, sp vs H Q E → vs.length = ps.length
  run : ∀ (A : Around) (outer : List PySem.Env) (s : Shared) (H : Hp) (args : Args) (us : List Value) (vs : List V) (Q : VK) (E : XK), L2H.RoomH k A → L2H.Hot1 A p → L2H.PinOk outer H s p → Env0 P w K mg base A outer s H → BindsTo s fd args (ps.zip us) → Vals vs us → sp vs H Q E →
    codeAny (model P w) A (.call (.ref f) args) (CR CX outer P w H s Q E) s
theorem fn_ofHP {CX : CXT} {P : Program} {w : World} {K : PySem.W.Frag} {mg : Str → Option Value} {base : Heap} {k : Nat} {f : Addr} {name qual : Str} {params : Arguments} {body : List Stmt} {scope : Scope} {dV kV doc pm cdv ct oc : Value} {an od : Option Addr}
    {osl : Array (Option Value)} {N ps : List Str} {sp : Sp} {p : Addr × Obj} (lk : K.lookup f = some ⟨oc, od, .func (PySem.W.fnOf name qual params body scope dV kV doc pm an cdv ct), osl⟩) (hcd : PySem.W.codeIn K cdv qual = true) (S : FnScope N ps scope)
    (len : ∀ vs H Q E, sp vs H Q E → vs.length = ps.length)
    (hbody : ∀ (A : Around) (outer : List PySem.Env) (s : Shared) (H : Hp) (vs : List V) (Q : VK) (E : XK), L2H.Hot1 A p → L2H.RoomH k (A.deeper (envOfC qual scope s.heap.objs.size f cdv)) → sp vs H Q E →
      ∃ t, PSs (L2H.cxH CX P w K mg base N qual scope f cdv A outer s H E p) body t ∧ t { nx := fun _ H' => Q .non H', rt := Q } (L2.start N vs) H) :
    FnHP p P w K mg base CX (k + 1) f (PySem.W.fnOf name qual params body scope dV kV doc pm an cdv ct) ps sp := by
  refine ⟨len, fun A outer s H args us vs Q E hr hot hpin e0 hb r hsp => ?_⟩
  have hl := len _ _ _ _ hsp
  have KX : K.In s.heap := e0.mod.kin.keeps fun b o e => (e0.bs b o e).1
  have lim : s.heap.NoLimit := e0.mod.nolimit.keeps fun b o e => (e0.bs b o e).1
  have hkind : ∀ y ∈ ps.zip us, scope.names.lookup y.1 = some .local ∨ (scope.names.lookup y.1 = some .cell ∧ ((cellsFrom (s.heap.objs.size + 1) scope.names []).lookup y.1).isSome = true) := fun ⟨n, v⟩ hy => by
    rcases S.par n (List.of_mem_zip hy).1 with q | q
    · exact .inl q
    · exact .inr ⟨q, PySem.W.cellsFrom_some _ _ _ (.inl q)⟩
  refine codeAny_call_function hr.depth (KX _ _ lk) rfl S.co S.gen rfl (PySem.W.codeRec_of KX hcd) (hb _ _ _ _ ?_)
  refine wpAny_newFunctionEnv_cells S.kind hkind fun env he s1 x => ?_
  subst he
  refine ⟨lim.keeps x.toInCall.keep, codeAny_func ?_⟩
  obtain ⟨t, ht, hq⟩ := hbody A outer s H vs Q E hot (hr.deeper _) hsp
  have I : Inv (L2H.cxH CX P w K mg base N qual scope f cdv A outer s H E p) [] (L2.start N vs) H s1 := L2H.inv_startH S hpin e0 hl r x
  refine wpAny_mono (ht.run [] s1 (L2.start N vs) H _ I hq) (fun fl s' hs => ?_) fun e s' hs => hs
  have fin : ∀ {σ' : L2.St} {H' : Hp} {v : V} {u : Value}, Inv (L2H.cxH CX P w K mg base N qual scope f cdv A outer s H E p) [] σ' H' s' → RelV v u → Q v H' → CE outer P w H s Q u s' :=
    fun {σ' H' v u} J rv q => ⟨v, H', J.os, J.bare, J.base, J.hok, rv, q⟩
  cases fl with
  | ret u =>
    obtain ⟨v, σ', H', J, rv, q⟩ := hs
    exact fin J rv q
  | next =>
    obtain ⟨σ', H', J, q⟩ := hs
    exact fin (v := V.non) (u := Value.none) J rfl q
  | brk =>
    obtain ⟨_, _, _, q⟩ := hs
    exact False.elim q
  | cont =>
    obtain ⟨_, _, _, q⟩ := hs
    exact False.elim q
/-- the context bears just this handled exception -/
def HotP (X : Cx) (p : Addr × Obj) : Prop := L2H.Hot1 X.A p ∧ p ∈ X.pn
theorem hotp_suite {X : Cx} {a : Addr} {oe : Obj} {cls : Value} {d : Option Addr} {pn : List (Addr × Obj)} (hz : L2N.Zn cls d oe) (hf : ∃ vs, oe.data = .fields vs) : HotP (X.suite a ((a, oe) :: pn)) (a, oe) := by
  obtain ⟨vs, e⟩ := hf
  exact ⟨⟨rfl, vs, e, hz.2.2 vs e⟩, List.mem_cons_self⟩
section
variable {X : Cx} {CX : CXT} {k : Nat} {f C : Addr} {fd : FuncData} {ps : List Str} {sp : Sp} {E : L2.St → XK} {x m : Str} {q pos apos : Pos} {e o : Expr} {es : List Expr} {ta : TE} {t : TA} {p : Addr × Obj}
theorem run_fnHP {pins : List (Addr × Obj)} {σ : L2.St} {H : Hp} {s : Shared} {Q : VK} {us : List Value} {vs : List V} (F : FnHP p X.prog X.w X.K X.mg X.base CX k f fd ps sp) (hr : L2H.RoomH k X.A) (hc : HotP X p) (hb : Binds X.K fd ps []) (hx : PassesAt CX X σ (E σ))
    (I : Inv X pins σ H s) (r : Vals vs us) (h : sp vs H Q (E σ)) : wpAny (model X.prog X.w) X.A (call (.ref f) us) (EP X pins σ Q) X.xe s := by
  obtain ⟨hot, hp⟩ := hc
  have hl : us.length = ps.length := by rw [← r.length]; exact F.len _ _ _ _ h
  have b := hb s us I.kIn (by rw [List.append_nil]; exact hl)
  rw [List.append_nil] at b
  have P1 := I.pin p (List.mem_append_left _ hp)
  have hpin : L2H.PinOk X.stack H s p := ⟨P1.1, P1.2.1, fun hm => (List.mem_cons.mp (I.stkSub p.1 hm)).elim P1.2.2.1 P1.2.2.2.1, P1.2.2.2.2⟩
  refine wpAny_call (codeAny_mono (F.run X.A X.stack s H ⟨us, []⟩ us vs Q (E σ) hr hot hpin I.env0 b r h) fun r s' hq => ?_)
  cases r with
  | error e => exact hx pins H s e s' I hq
  | ok fl =>
    cases fl with
    | ret u => exact I.after hq
    | next => exact False.elim hq
    | brk => exact False.elim hq
    | cont => exact False.elim hq
theorem pe_callHP (F : FnHP p X.prog X.w X.K X.mg X.base CX k f fd ps sp) (hr : L2H.RoomH k X.A) (hc : HotP X p) (hg : Gl X x) (hm : X.mg x = some (.ref f)) (hk : PySem.W.keepIn X.K (.ref f) = true) (hb : Binds X.K fd ps []) (hx : ∀ σ, PassesAt CX X σ (E σ))
    (ha : PA X (e :: es) t) (hdb : (x == ("__debug__" : Str)) = false := by decide) (he : starEach (e :: es) X.env = (false, eval e X.env) :: starEach es X.env := by rfl) (hpl : (backTo pos (starEach es X.env)).any (·.1) = false := by rfl) :
    PE X (.Call (.Name x q) (e :: es) [] pos) (tCallS sp E t) := by
  refine ⟨fun pins s σ H Q I h => ?_⟩
  refine wpAny_Call_Name_kw (ld_glob I hg hm ?_ hdb)
  refine PySem.W.callWith_K (h₀ := X.base) I.ok.mod.kin hk (thn (ha.run pos pins s σ H _ I h) fun us s1 ⟨vs, H1, I1, r, q⟩ => ⟨I1.kIn, ?_⟩) he hpl
  exact run_fnHP F hr hc hb (hx σ) I1 r q
end
section
variable {P : Program} {w : World} {K : PySem.W.Frag} {mg : Str → Option Value} {base : Heap}
theorem fun0HX {p : Addr × Obj} {cls : Value} {dd : Option Addr} {x qual : Str} {st : Stmt} {f : Addr} {fd : FuncData} {N ps : List Str} {k : Nat} {t : DTS} (F : Fun K x qual st f fd) (S : FnScope N ps (defScope st))
    (hbody : ∀ (cdv : Value) (A : Around) (outer : List PySem.Env) (s : Shared) (H : Hp) (E : XK), L2H.Hot1 A p → L2H.RoomH k (A.deeper (envOfC qual (defScope st) s.heap.objs.size f cdv)) →
      DSs (L2H.cxH (L2N.CX P w) P w K mg base N qual (defScope st) f cdv A outer s H E p) ⟨fun cls dd _ H => E cls dd H, some (p.1, cls, dd)⟩ (defBody st) t) :
    FnHP p P w K mg base (L2N.CX P w) (k + 1) f fd ps (toSp0 ⟨K, mg, some (p.1, cls, dd)⟩ ps.length (runF N.length t)) := by
  obtain ⟨oc, od, kV, doc, pm, an, cdv, ct, osl, rfl, lk, hcd⟩ := F.ex
  refine fn_ofHP lk hcd S (fun vs H Q E h => h.1) fun A outer s H vs Q E hot hr h => ⟨_, hbody cdv A outer s H E hot hr, ?_⟩
  obtain ⟨hl, F, ds, sF, r, f, q⟩ := h
  have hlen : vs.length = ds.length := r.length
  refine ⟨[], H, F, ds.map some ++ List.replicate (N.length - ds.length) none, ⟨Same.refl H, sF, [], ?_, fun _ z => nomatch z⟩, ?_⟩
  · unfold L2.start
    rw [hlen]
    exact OwnE.args r f _
  · unfold runF at q
    cases ht : t (ds.map some ++ List.replicate (N.length - ds.length) none) with
    | nx ρ =>
      rw [ht] at q
      exact fun σ H' F' s R => q .non H' F' ⟨s.ff, s.fh, s.bh, s.new⟩ ⟨[], .frz rfl .non, fun _ z => nomatch z⟩
    | rt d ρ =>
      rw [ht] at q
      exact fun v σ H' F' s R => by
        obtain ⟨s', r'⟩ := R.left s
        exact q v H' F' s' r'
    | xc x ρ =>
      rw [ht] at q
      exact fun cls dd σ H1 H' F' s R rx => q cls dd H' F' ⟨s.ff, s.fh, s.bh, s.new⟩ rx
    | _ => rw [ht] at q; exact q.elim
end
/-- as Def0H, the exception that is handled known -/
def Def0HX (P : Program) (w : World) (K : PySem.W.Frag) (mg : Str → Option Value) (x : Str) (k : Nat) (ps : List Str) (fn : List D → R D) : Prop :=
  ∃ f fd, mg x = some (.ref f) ∧ PySem.W.keepIn K (.ref f) = true ∧ (∀ (s : Shared) (us : List Value), us.length = ps.length → BindsTo s fd ⟨us, []⟩ (ps.zip us)) ∧
    ∀ (base : Heap) (p : Addr × Obj) (cls : Value) (d : Option Addr), L2N.Zn cls d p.2 → (∃ vs, p.2.data = .fields vs) → FnHP p P w K mg base (L2N.CX P w) k f fd ps (toSp0 ⟨K, mg, some (p.1, cls, d)⟩ ps.length fn)
section
variable {X : Cx} {W : Wx} {e : Expr} {pos : Pos} {es : List Expr} {fs : Env → R (List D)}
theorem de_callHX {a : Addr} {oe : Obj} {cls : Value} {d : Option Addr} {k : Nat} {ps : List Str} {fn : List D → R D} {x : Str} {p : Pos} (F : Def0HX X.prog X.w X.K X.mg x k ps fn) (hr : L2H.RoomH k X.A) (hz : L2N.Zn cls d oe) (hf : ∃ vs, oe.data = .fields vs) (hc : HotP X (a, oe)) (hW : W.ex = some (a, cls, d)) (hg : Gl X x) (tk : L2N.Takes X W.w) (ha : DA true X W (e :: es) fs) (hrf : RfA fs) (hda : ∀ ρ ds, fs ρ = .ok ds → ds.length = (e :: es).length) (hn : (e :: es).length = ps.length) (hdb : (x == ("__debug__" : Str)) = false := by decide)
    (he : starEach (e :: es) X.env = (false, eval e X.env) :: starEach es X.env := by rfl) (hpl : (backTo pos (starEach es X.env)).any (·.1) = false := by rfl) : DE true X W (.Call (.Name x p) (e :: es) [] pos) (dCall fn fs) := by
  obtain ⟨f, fd, hm, hk, hb, Fn⟩ := F
  refine pe_imp (pe_callHP (Fn X.base (a, oe) cls d hz hf) hr hc hg hm hk (fun s us _ hl => by
    rw [List.append_nil] at hl ⊢
    exact hb s us hl) (fun σ => L2N.passAt tk σ) ha hdb he hpl) fun σ H Q => fun ⟨τ, B, F, ρ, RR, q⟩ => ?_
  refine ⟨τ, B, F, ρ, RR, ?_⟩
  unfold dCall at q
  cases hf : fs ρ with
  | bad => rw [hf] at q; exact q
  | ex x => rw [hf] at q; exact q
  | ok ds =>
    rw [hf, R.bind_ok] at q
    intro vs H1 F1 s1 r
    have q' := q.step s1
    have r : RpL (gx X W) F1 vs ds := r
    have eg : gx X W = ⟨X.K, X.mg, some (a, cls, d)⟩ := by show (⟨X.K, X.mg, W.ex⟩ : G) = _; rw [hW]
    rw [eg] at r q'
    refine ⟨by rw [r.length, hda ρ ds hf, hn], F1, ds, s1.fh, r, hrf ρ ds hf, ?_⟩
    cases hz : fn ds with
    | ok z =>
      rw [hz] at q'
      exact fun v H' F' s R => q' v H' F' s R
    | ex w =>
      rw [hz] at q'
      exact fun cls dd H' F' s rx => q' cls dd H' F' s rx
    | bad => rw [hz] at q'; exact q'.elim
end
/-- isinstance(e, C) where the exception is among what the context bears -/
theorem call_isAX {X : Cx} {a : Addr} {oe : Obj} {cls : Value} {d : Option Addr} (hz : L2N.Zn cls d oe) (hf : ∃ vs, oe.data = .fields vs) (hp : (a, oe) ∈ X.pn) : CallR X (.builtin "isinstance") (rIsA X.K a cls d) := by
  intro pins s σ H xs us Q I r h
  obtain ⟨D, c, cv, b, rfl, rfl, C, rfl, hcv, e, q⟩ := h
  cases r with
  | cons rx rr =>
    cases rr with
    | cons rt rr =>
      cases rr
      cases rx
      have ec := hcv _ rt
      subst ec
      obtain ⟨hget, _⟩ := I.pin (a, oe) (List.mem_append.mpr (.inl hp))
      obtain ⟨vs, hv⟩ := hf
      have J : PySem.W.InstAt s.heap a oe D none := by
        have hzc := hz.zc
        obtain ⟨oc, od, oda, osl⟩ := oe
        obtain ⟨h1, h2⟩ := hzc
        dsimp only at h1 h2 hv
        subst h1 h2 hv
        exact ⟨hget, rfl, rfl, trivial⟩
      exact PySem.W.kia_one (PySem.W.handS_kitx_exc C.hg C.hk C.hs C.hd C.ha C.hn C.ht C.hm) I.kIn J e (fun z => nomatch z) fun tk => ⟨.bl b, H, I.kept (t' := tk) fun _ _ z => z, rfl, q⟩
end Dt

set_option Elab.async false
set_option linter.all false
set_option maxRecDepth 100000
set_option maxHeartbeats 2000000
/-! Dat: own exceptions whose __init__ says super().__init__(f"..") and stores its argument. -/
namespace Dt
open PySem PySem.Spec PyProof.Rows L2
/-- the context of such an __init__ -/
def cxS (P : Program) (w : World) (K : PySem.W.Frag) (mg : Str → Option Value) (base : Heap) (N : List Str) (qual : Str) (scope : Scope) (f : Addr) (cd : Value) (cc : Addr) (A : Around) (outer : List PySem.Env) (s : Shared) (H : Hp) (xe : Value → Shared → Prop) : Cx where
  prog := P
  w := w
  K := K
  mg := mg
  base := base
  A := A.deeper (PySem.W.ksEnv qual scope s.heap.objs.size f cd cc)
  N := N
  s_0 := s
  H_0 := H
  env := PySem.W.ksEnv qual scope s.heap.objs.size f cd cc
  outer := outer
  stack := PySem.W.ksEnv qual scope s.heap.objs.size f cd cc :: outer
  ex := []
  fn := fun _ => false
  calm := true
  pn := []
  xe := xe
/-- its scope -/
structure SupScope (x : Str) (scope : Scope) : Prop where
  kind : scope.kind = .function
  self : scope.names.lookup ("self" : Str) = some .local
  par : scope.names.lookup x = some .local
  sup : scope.names.lookup ("super" : Str) = some .globalImplicit
  cls : scope.names.lookup ("__class__" : Str) = some .free
  only : ∀ p ∈ scope.names, (p.2 = .cell ∨ p.2 = .free) → p.1 = ("__class__" : Str)
  nocell : ∀ p ∈ scope.names, p.2 ≠ .cell
  co : scope.isCoroutine = false
  gen : scope.isGenerator = false
  ne : (("self" : Str) == x) = false
  nd : (x == ("__debug__" : Str)) = false
  nc : (x == ("__classdict__" : Str)) = false
theorem lkC {y : Str} {cc c : Addr} (h : ([(("__class__" : Str), cc)] : List (Str × Addr)).lookup y = some c) : y = "__class__" ∧ c = cc := by
  rw [List.lookup] at h
  split at h
  · rename_i e
    cases h
    exact ⟨beq_iff_eq.mp e, rfl⟩
  · cases h
theorem lkC_self {cc : Addr} : ([(("__class__" : Str), cc)] : List (Str × Addr)).lookup ("__class__" : Str) = some cc := by
  rw [List.lookup]
  simp
theorem inv_startS {P : Program} {w : World} {K : PySem.W.Frag} {mg : Str → Option Value} {base : Heap} {x qual : Str} {scope : Scope} {f cc : Addr} {cd : Value} {A : Around} {outer : List PySem.Env} {s : Shared} {H : Hp} {xe : Value → Shared → Prop} {u0 u1 : Value} {v0 v1 : V} {h0 : Heap} {t : Nat} {oc : Obj} {cv : Option Value}
    (S : SupScope x scope) (hd : A.handled = none) (e0 : Env0 P w K mg base A outer s H) (r0 : RelV v0 u0) (r1 : RelV v1 u1)
    (hn : h0.Ns s.heap.objs.size (fun y => ([(("self" : Str), u0), (x, u1)] : List (Str × Value)).reverse.lookup y)) (hk : ∀ b o, s.heap.get? b = some o → h0.get? b = some o)
    (hc : base.get? cc = some oc) (hcd : oc.data = .cell cv) :
    Inv (cxS P w K mg base ["self", x] qual scope f cd cc A outer s H xe) [] [some v0, some v1] H { s with heap := h0, toks := t } := by
  have noA : ∀ b : Addr, b ∉ (cxS P w K mg base ["self", x] qual scope f cd cc A outer s H xe).ex := fun b z => absurd (show b ∈ ([] : List Addr) from z) (by simp)
  have hs : x ≠ "self" := fun z => by
    have := S.ne
    rw [z] at this
    simp at this
  refine ⟨⟨e0.mod, S.kind, rfl, rfl, Nat.le_refl _, fun y z c h1 h2 => ?_, fun y hy => ?_, fun y c z _ => ?_, fun _ => hd, Around.frames_deeper e0.frames, .inr ⟨rfl, rfl⟩, fun b z => absurd z (noA b), e0.bs, e0.bsz, fun b _ _ => noA b, fun b z => absurd z (noA b), e0.funs, e0.frf⟩,
    rfl, e0.bare, Un.kept hk, ⟨_, hn, fun i y v h1 h2 h3 => ?_⟩, fun y c h => ?_, e0.hok.fresh (Nat.le_refl _), fun y c h => ?_, fun p hp => absurd (show p ∈ ([] : List (Addr × Obj)) from hp) (by simp), e0.hok.kept hk, rfl⟩
  · exact (lkC h1).1.trans (lkC h2).1.symm
  · have hy : scope.names.lookup y = some .cell ∨ scope.names.lookup y = some .free := hy
    have : y = "__class__" := by
      rcases hy with hy | hy
      · exact S.only _ (PySem.mem_of_lookup hy) (.inl rfl)
      · exact S.only _ (PySem.mem_of_lookup hy) (.inr rfl)
    subst this
    exact ⟨cc, lkC_self⟩
  · exact absurd (show false = true from z) (by simp)
  · match i, h1, h2 with
    | 0, h1, h2 =>
      cases h1
      cases h2
      refine ⟨u0, r0, .inl ⟨S.self, ?_⟩⟩
      show ([(x, u1), (("self" : Str), u0)] : List (Str × Value)).lookup ("self" : Str) = some u0
      rw [List.lookup, S.ne]
      simp [List.lookup]
    | 1, h1, h2 =>
      cases h1
      cases h2
      refine ⟨u1, r1, .inl ⟨S.par, ?_⟩⟩
      show ([(x, u1), (("self" : Str), u0)] : List (Str × Value)).lookup x = some u1
      rw [List.lookup]
      simp
    | i + 2, h1, h2 => cases h1
  · obtain ⟨_, rfl⟩ := lkC h
    exact ⟨cv, oc, hk _ _ (e0.bs _ _ hc).1, hcd⟩
  · obtain ⟨_, rfl⟩ := lkC h
    exact (e0.bs _ _ hc).2
/-- what the written part says of the class, its __init__, its code, its cell -/
structure SupC (P : Program) (K : PySem.W.Frag) (C cc cda : Addr) : Prop where
  cell : ∃ cl cld csl, K.lookup cc = some ⟨cl, cld, .cell (some (.ref C)), csl⟩
  code : ∃ ccl cdd vs ccs file tf, K.lookup cda = some ⟨ccl, cdd, .fields vs, ccs⟩ ∧ vs[2]? = some (.str file tf) ∧ ((P.main.file : Str) == file) = true
  mro : PySem.W.mroIn K C (.ref C) = some true
  ve : PySem.W.subIn K (.ref C) (.type "ValueError") = some true
  sup : PySem.W.ks_superIn K C C "__init__" = some (some (.builtin "ValueError.__init__"))
  glob : PySem.W.nsIn K cStatics "thirdparty.any" = some none
  top : (P.main.scope.names.lookup ("super" : Str)).isSome = false
theorem boot_super : bootBuiltins "super" = some (.type "super") := by first | rfl | kernel_rfl
section
variable {P : Program} {w : World} {K : PySem.W.Frag} {mg : Str → Option Value} {base : Heap} {x name qual : Str} {params : Arguments} {bodyF body : List Stmt} {scope : Scope} {dV kV doc pm ct oc : Value} {an od : Option Addr} {osl : Array (Option Value)} {f cc cda a C : Addr} {A : Around} {outer : List PySem.Env} {s0 s : Shared} {H0 H : Hp} {xe : Value → Shared → Prop}
  {ar : Arg} {σ : L2.St} {e : Expr} {te : TE} {p0 p1 p2 p3 p4 : Pos} {pl : Sem Bool} {Q : Flow → Shared → Prop}
theorem sup_st (S : SupScope x scope) (T : OexC K C) (U : SupC P K C cc cda) (hms : mg "super" = none)
    (lk : K.lookup f = some ⟨oc, od, .func (PySem.W.ksFn name qual params bodyF scope dV kV doc pm an (.ref cda) ct cc), osl⟩) (hp : (params.posonlyargs ++ params.args).head? = some ar) (har : ar.arg = "self")
    (I : Inv (cxS P w K mg base ["self", x] qual scope f (.ref cda) cc A outer s0 H0 xe) [] σ H s) (ha : H a = some (exo a C none)) (hσ : σ[0]? = some (some (.ref a)))
    (he : PE (cxS P w K mg base ["self", x] qual scope f (.ref cda) cc A outer s0 H0 xe) e te) (ht : te σ H fun v H1 => [v].length ≤ 1000 ∧ H1 = H)
    (h : ∀ s', Inv (cxS P w K mg base ["self", x] qual scope f (.ref cda) cc A outer s0 H0 xe) [] σ H s' → Q .next s')
    (h1 : swapsWith (.Call (.Attribute (.Call (.Name "super" p0) [] [] p1) "__init__" p2) [e] [] p3) none p4.line (PySem.W.ksEnv qual scope s0.heap.objs.size f (.ref cda) cc) = pure false := by rfl)
    (h2 : starEach [e] (PySem.W.ksEnv qual scope s0.heap.objs.size f (.ref cda) cc) = [(false, eval e (PySem.W.ksEnv qual scope s0.heap.objs.size f (.ref cda) cc))] := by rfl)
    (h3 : eval (.Call (.Attribute (.Call (.Name "super" p0) [] [] p1) "__init__" p2) [e] [] p3) (PySem.W.ksEnv qual scope s0.heap.objs.size f (.ref cda) cc) = (do
      let ov ← attributeBase (.Call (.Name "super" p0) [] [] p1) "__init__" (PySem.W.ksEnv qual scope s0.heap.objs.size f (.ref cda) cc) (eval (.Call (.Name "super" p0) [] [] p1) (PySem.W.ksEnv qual scope s0.heap.objs.size f (.ref cda) cc))
      standAt p2.atName
      let (f9, first) ← holding [ov] (getMethod ov "__init__" pl)
      callWith p3 f9 first (backTo p3 (starEach [e] (PySem.W.ksEnv qual scope s0.heap.objs.size f (.ref cda) cc))) []) := by rfl) :
    _root_.PySem.wpAt (model P w) (A.deeper (PySem.W.ksEnv qual scope s0.heap.objs.size f (.ref cda) cc)) (.func body (PySem.W.ksEnv qual scope s0.heap.objs.size f (.ref cda) cc))
      (exec (.Expr (.Call (.Attribute (.Call (.Name "super" p0) [] [] p1) "__init__" p2) [e] [] p3) p4) (PySem.W.ksEnv qual scope s0.heap.objs.size f (.ref cda) cc)) Q xe s := by
  obtain ⟨cl, cld, csl, hcell⟩ := U.cell
  obtain ⟨ccl, cdd, vs, ccs, file, tf, hcode, hvs, hfile⟩ := U.code
  obtain ⟨nm, q, N, bs, bm, sn, sub, ab, col, dd, k0, k1, k2, k3, k5, hC, hbm⟩ := T.cls
  refine ks_wpAt_Expr_any (hi := by unfold interactive; show (scope.kind == ScopeKind.module && _) = false; rw [S.kind]; rfl) (hs := h1) ?_
  refine ks_wpAt_MethodCall (he := h3) ?_
  refine ks_wpAt_super_base (ar := ar) S.sup S.cls (by decide) rfl (I.kIn _ _ lk) rfl hp rfl (I.kIn _ _ hcode) rfl hvs hfile U.top ?_
  obtain ⟨mb, b1, b2⟩ := I.mod.blt
  refine PySem.W.ks_loadName_global S.kind S.sup (Calls.loadGlobal_builtin (mg := mg) (mb := mb) (I.mod.glob.keeps I.bk) hms (b1.keeps I.bk) ((b2 "super" (by decide)).trans boot_super) ⟨rfl, ?_⟩)
  refine wpAny_loadName_free S.kind S.cls lkC_self ⟨_, I.kIn _ _ hcell, rfl⟩ ?_
  obtain ⟨m, hn, hl⟩ := id I.loc
  obtain ⟨u, ru, lu⟩ := hl 0 "self" (.ref a) rfl hσ (.inl S.self)
  obtain rfl : u = Value.ref a := ru
  have hm : m "self" = some (.ref a) := by
    rcases lu with ⟨_, hm⟩ | ⟨hk, _⟩
    · exact hm
    · have hk : scope.names.lookup ("self" : Str) = some .cell ∨ scope.names.lookup ("self" : Str) = some .free := hk
      rw [S.self] at hk
      rcases hk with hk | hk <;> cases hk
  rw [har]
  refine wpAny_loadName_local S.kind S.self hn hm ?_
  obtain ⟨t1, ho⟩ := exo_at I.hok ha
  have hCs := I.kIn _ _ hC
  obtain ⟨hp1, g, d, t, os⟩ := s
  refine ks_wpAny_isType_cls hCs rfl ⟨rfl, ?_⟩
  refine ks_wpAny_call_super hCs rfl ho rfl (fun c z => by cases z) (PySem.W.looks_mroIn I.kIn U.mro) (fun h2' es k2 => ?_)
  have I1 : Inv (cxS P w K mg base ["self", x] qual scope f (.ref cda) cc A outer s0 H0 xe) [] σ H ⟨h2', g, d, t, os⟩ := I.kept (t' := t) k2
  have hcl : PySem.W.clsIn K C = some { name := nm, bases := bs, mro := .ref C :: bm, ns := N, qualname := q, hasDict := true, slotNames := sn, subclasses := sub, abstract := ab, collection := col, hasDel := false } := by unfold PySem.W.clsIn; rw [hC] <;> rfl
  have hin : PySem.W.InstAt h2' a { cls := .ref C, dict := none, data := .fields #[.ref t1, .none, .none, .none, .bool false, .none] } C none := ⟨k2 _ _ ho, rfl, rfl, trivial⟩
  have hsup := U.sup
  unfold PySem.W.ks_superIn at hsup
  rw [hcl, Option.bind_some] at hsup
  refine PySem.W.kxs_getMethod PySem.W.kxs_ValueError es (PySem.W.looks_opaque I1.kIn U.glob) (l₀ := .ref C :: bm) ((PySem.W.looks_clsIn I1.kIn hcl).andThen .now) rfl I1.kIn hsup (hin.type.andThen (PySem.W.looks_subIn I1.kIn U.ve)) (PySem.W.ks_ne I1.kIn hin hcl) (by decide) ?_
  have I2 : Inv (cxS P w K mg base ["self", x] qual scope f (.ref cda) cc A outer s0 H0 xe) [] σ H ⟨h2'.push (PySem.W.kxs_mw "ValueError.__init__" a), g, d, t + 1, os⟩ := I1.kept (t' := t + 1) fun b o z => Heap.get?_push_of_some _ z
  have hu : (h2'.push (PySem.W.kxs_mw "ValueError.__init__" a)).get? h2'.objs.size = some (PySem.W.kxs_mw "ValueError.__init__" a) := Heap.get?_push_at rfl rfl
  have I3 := I2.pins_of (pins' := [(h2'.objs.size, PySem.W.kxs_mw "ValueError.__init__" a)]) fun p hp => by
    have eq : p = (h2'.objs.size, PySem.W.kxs_mw "ValueError.__init__" a) := by simpa using hp
    rw [eq]
    exact ⟨hu, I1.hok.fresh (Nat.le_refl _), Nat.ne_of_gt I1.lt, I1.nofs (Nat.le_refl _), fun v z => by cases z⟩
  have hpa : PA (cxS P w K mg base ["self", x] qual scope f (.ref cda) cc A outer s0 H0 xe) [e] (tCons te tNil) := pa_cons (hs := h2) he pa_nil
  show wpAny _ _ (callWith p3 (.ref h2'.objs.size) [] (backTo p3 (starEach [e] (PySem.W.ksEnv qual scope s0.heap.objs.size f (.ref cda) cc))) []) _ _ _
  rw [h2]
  refine PySem.W.kxs_callWith (i := "ValueError.__init__") (x := a) (by rfl) ?_
  refine PySem.Calls.evalArgs_plain ?_
  have hre := hpa.run p3 _ _ _ _ (fun us H1 => us.length ≤ 1000 ∧ H1 = H) I3 ht
  rw [show starEach [e] (cxS P w K mg base ["self", x] qual scope f (.ref cda) cc A outer s0 H0 xe).env = _ from h2] at hre
  refine wpAny_mono hre (fun us s5 hs5 => ?_) fun _ _ z => z
  obtain ⟨vs5, H5, I5, r5, l5, rfl⟩ := hs5
  have hu5 := (I5.pin (h2'.objs.size, PySem.W.kxs_mw "ValueError.__init__" a) (List.mem_append_right _ List.mem_cons_self)).1
  refine ⟨hu5, ?_⟩
  obtain ⟨t5, ho5⟩ := exo_at I5.hok ha
  have hC5 := I5.kIn _ _ hC
  obtain ⟨hp5, g5, d5, tk5, os5⟩ := s5
  show wpAny _ _ (call (.ref h2'.objs.size) us) _ _ _
  refine wpAny_call (codeAny_of_tree ?_)
  show wpAny _ _ (callAny (.ref h2'.objs.size) ⟨us, []⟩) _ _ _
  simp only [callAny]
  refine wpAny_bind (wpAny_load hu5 ?_)
  simp only [PySem.W.kxs_mw, show (Value.type "method-wrapper" == Value.type "method" || Value.type "method-wrapper" == Value.type "builtin_function_or_method" || Value.type "method-wrapper" == Value.type "method-wrapper") = true by decide, if_true]
  refine PySem.W.KFB.if_so (by decide) ?_
  refine wpAny_bind (PySem.W.check_bound_init F.excBase_ValueError.toExcCallFacts hC5 ho5 rfl ?_)
  refine wpAny_bind (wpAny_pure (wpAny_pure ?_))
  refine ⟨plainId_quiet F.excBase_ValueError.init.plain _, codeAny_builtin F.excBase_ValueError.initEntry ?_⟩
  refine PySem.W.exc_init_tree (cls := .ref C) (t0 := t5) (dv := none) (c2 := .none) (c3 := .none) (b4 := .bool false) ho5 (by rw [← r5.length, sizeLine_eq]; omega) (fun h7 k7 hx7 ht7 => ?_)
  have J := I5.write (t' := tk5) (x := a) (e := a) (o := exo a C none) (by rw [ha]; exact True.intro) (.inl rfl) k7 ⟨_, hx7⟩ (exo_ok hx7)
  have eu : upd H5 a (exo a C none) = H5 := by
    funext b
    by_cases hb : b = a
    · rw [hb, upd_same, ha]
    · rw [upd_ne hb]
  rw [eu] at J
  exact h _ (J.pins_of (pins' := []) fun p hp => absurd hp (by simp))
theorem call_form {env : PySem.Env} {o : Expr} {nm : Str} {fs : List Expr} {q1 q2 q3 q4 q5 : Pos} {msg x : Str} {j : Nat} (hpos : (p2.endLine == p3.line) = true) (ho : ∃ a b c d, o = .Call a b c d) : eval (.Call (.Attribute o nm p2) [.JoinedStr fs q4] [] p3) env = (do
      let ov ← attributeBase o nm env (eval o env)
      standAt p2.atName
      let (f9, first) ← holding [ov] (getMethod ov nm (do return (← importBound o env).getD true))
      callWith p3 f9 first (backTo p3 (starEach [.JoinedStr fs q4] env)) []) := by
  show (do
      let ov ← attributeBase o nm env (eval o env)
      standAt p2.atName
      methodCall o nm p2 p3 env ov 1 (backTo p3 (starEach [.JoinedStr fs q4] env)) []) = _
  have e1 : methodCallForm 1 (backTo p3 (starEach [.JoinedStr fs q4] env)) [] = true := rfl
  unfold methodCall methodCallPos calleeOf
  rw [e1]
  simp only [hpos, Bool.not_true, Bool.false_or, if_true, pure_bind]
/-- what __init__ promises -/
def spI (C : Addr) (x : Str) : Sp := fun vs H Q _ => ∃ (a : Addr) (i : Int), vs = [.ref a, .int i] ∧ i.natAbs.log2 < 1920 ∧ H a = some (exo a C none) ∧ ∀ dx, H dx = none → dx ≠ a → Q .non (upd (upd H dx (exd dx [(x, .int i)])) a (exo a C (some dx)))
theorem init_fn {CX : CXT} {msg : Str} {j : Nat} {q1 q2 q3 q4 q5 q6 q7 q8 : Pos} (S : SupScope x scope) (T : OexC K C) (U : SupC P K C cc cda) (hms : mg "super" = none)
    (lk : K.lookup f = some ⟨oc, od, .func (PySem.W.ksFn name qual params bodyF scope dV kV doc pm an (.ref cda) ct cc), osl⟩) (hcd : PySem.W.codeIn K (.ref cda) qual = true) (hp : (params.posonlyargs ++ params.args).head? = some ar) (har : ar.arg = "self")
    (hb : bodyF = [.Expr (.Call (.Attribute (.Call (.Name "super" p0) [] [] p1) "__init__" p2) [.JoinedStr [.Constant (.str msg) j q1, .FormattedValue (.Name x q2) (-1) none q3] q4] [] p3) p4, .Assign [.Attribute (.Name "self" q5) x q6] (.Name x q7) q8])
    (hpos : (p2.endLine == p3.line) = true) (hno : PySem.W.findIn K (.ref C) x = some none) (hmsg : msg.length ≤ 1000) : FnOk P w K mg base CX 1 f (PySem.W.ksFn name qual params bodyF scope dV kV doc pm an (.ref cda) ct cc) ["self", x] (spI C x) := by
  refine ⟨fun vs H Q E h => by obtain ⟨a, i, rfl, _⟩ := h; rfl, fun A outer s H args us vs Q E hr e0 hbd r hsp => ?_⟩
  obtain ⟨a, i, rfl, hi, ha, hq⟩ := hsp
  have KX : K.In s.heap := e0.mod.kin.keeps fun b o e => (e0.bs b o e).1
  have lim : s.heap.NoLimit := e0.mod.nolimit.keeps fun b o e => (e0.bs b o e).1
  obtain ⟨cl, cld, csl, hcell⟩ := U.cell
  cases r with
  | @cons _ u0 _ us' ra r' =>
    cases r' with
    | @cons _ u1 _ us'' ri r'' =>
      cases r''
      have hloc : ∀ y ∈ (["self", x] : List Str).zip [u0, u1], scope.names.lookup y.1 = some .local := fun y hy => by
        have hy : y ∈ [(("self" : Str), u0), (x, u1)] := hy
        rcases List.mem_cons.mp hy with rfl | hy
        · exact S.self
        · rw [List.mem_singleton.mp hy]
          exact S.par
      refine ks_codeAny_call_defAt (fd := PySem.W.ksFn name qual params bodyF scope dV kV doc pm an (.ref cda) ct cc) (binds := (["self", x] : List Str).zip [u0, u1]) hr.depth (KX _ _ lk) rfl lim (PySem.W.codeRec_of KX hcd) rfl hbd S.nocell hloc (fun h1 hn hk => ?_) S.co S.gen S.kind
      subst hb
      have I := inv_startS (qual := qual) (f := f) (cd := .ref cda) (t := s.toks + 2) (xe := fun e s' => wpAny (model P w) (A.deeper (PySem.W.ksEnv qual scope s.heap.objs.size f (.ref cda) cc)) (leaving (PySem.W.ksEnv qual scope s.heap.objs.size f (.ref cda) cc) e) (fun _ s'' => CR CX outer P w H s Q E (.error e) s'') (fun e' s'' => CR CX outer P w H s Q E (.error e') s'') s') S hr.hd e0 ra ri hn hk (e0.mod.kin _ _ hcell) rfl
      refine ks_wpAt_execs_cons ?_
      have l1 : (Str.empty ++ msg).length ≤ 1000 := by
        rw [Str.length_append]
        show 0 + msg.length ≤ 1000
        omega
      have l2 : (Str.empty ++ msg ++ (toString i : Str)).length ≤ sizeLine := by
        have := int_text_len_1921 hi
        rw [Str.length_append, sizeLine_eq]
        have e : (toString i : Str).length ≤ 1921 := this
        omega
      refine sup_st S T U hms lk hp har I ha rfl (pe_joined (PJ.cons pe_str (PJ.cons (pe_fmt (pe_var (i := 1) rfl (.inl S.par) S.nd S.nc)) PJ.nil)))
        ⟨msg, rfl, by rw [sizeLine_eq]; omega, .int i, rfl, .inr ⟨i, rfl, hi, _, rfl, l2, by show 1 ≤ 1000; omega, rfl⟩⟩ (fun s' J => ?_) (h3 := call_form (q1 := q1) (q2 := q2) (q3 := q3) (q5 := q5) (msg := msg) (x := x) (j := j) hpos ⟨_, _, _, _, rfl⟩)
      refine ks_wpAt_execs_cons (_root_.PySem.wpAt_of_wpAny ?_)
      have so := ps_ost (pos := q8) (p' := q6) (f := x) (pe_var (X := cxS P w K mg base ["self", x] qual scope f (.ref cda) cc A outer s H (fun e s' => wpAny (model P w) (A.deeper (PySem.W.ksEnv qual scope s.heap.objs.size f (.ref cda) cc)) (leaving (PySem.W.ksEnv qual scope s.heap.objs.size f (.ref cda) cc) e) (fun _ s'' => CR CX outer P w H s Q E (.error e) s'') (fun e' s'' => CR CX outer P w H s Q E (.error e') s'') s')) (pos := q5) (x := "self") (i := 0) rfl (.inl S.self)) (pe_var (pos := q7) (x := x) (i := 1) rfl (.inl S.par) S.nd S.nc)
      refine wpAny_mono (so.run [] s' _ H { nx := fun _ H' => Q .non H', rt := fun _ _ => False } J ⟨.int i, rfl, .ref a, rfl, a, C, rfl, T, hno, .inl ⟨ha, fun dx n ne => hq dx n ne⟩⟩) (fun fl s2 h2 => ?_) (fun _ _ z => z)
      cases fl with
      | next =>
        obtain ⟨σ', H', J', q⟩ := h2
        refine _root_.PySem.wpAt_of_wpAny (wpAny_execs_nil ?_)
        exact ⟨.non, H', J'.os, J'.bare, J'.base, J'.hok, rfl, q⟩
      | brk =>
        obtain ⟨_, _, _, q⟩ := h2
        exact False.elim q
      | cont =>
        obtain ⟨_, _, _, q⟩ := h2
        exact False.elim q
      | ret u =>
        obtain ⟨_, _, _, _, _, q⟩ := h2
        exact False.elim q
end
end Dt

set_option Elab.async false
set_option linter.all false
set_option maxRecDepth 100000
set_option maxHeartbeats 4000000
/-! Dat: raise of such exceptions, their field and isinstance in a suite. -/
namespace Dt
open PySem PySem.Spec PyProof.Rows L2
section
open PySem.W PySem.Calls
variable {prog : Program} {w : World} {A : Around} {E : Value → Shared → Prop} {s : Shared} {K : Frag} {x D : Addr} {ox : Obj} {od : Option Obj}
theorem findObj_dataO {C : Addr} {name : Str} {a g : Value} (hc : (clsIn K C).isSome = true) (ha : findIn K (.ref C) name = some (some a)) (hg : specialIn K a "__get__" = some (some g)) (ht : takesIn K a = some true) : findObj K C od name = some (.bind g a) := by
  obtain ⟨cd, hc⟩ := Option.isSome_iff_exists.mp hc
  unfold findObj
  rw [hc, Option.bind_some, ha, Option.bind_some]
  simp [hg, ht]
theorem kin_classO {Q : Option Value → Shared → Prop} (hga : findIn K (.ref D) "__getattribute__" = some (some (.builtin "BaseException.__getattribute__"))) (hgt : findIn K (.ref D) "__getattr__" = some none) (hsub : subIn K (.ref D) (.type "BaseException") = some true)
    (hdct : hasDictIn K D = true) (ha : findIn K (.ref D) "__class__" = some (some (.builtin "object.__class__")))
    (hn : specialIn K (.builtin "object.__class__") "__get__" = some (some (.builtin "getset_descriptor.__get__"))) (htk : takesIn K (.builtin "object.__class__") = some true) (hm : mroIn K D (.type "object") = some true)
    (X : K.In s.heap) (I : InstAt s.heap x ox D od) (h : Q (some (.ref D)) { s with toks := s.toks + 1 }) : wpAny (model prog w) A (getAttr? (.ref x) "__class__") Q E s := by
  have hf : findObj K D od "__class__" = some (.bind (.builtin "getset_descriptor.__get__") (.builtin "object.__class__")) := findObj_dataO (by obtain ⟨cd, hc, _⟩ := any_some hdct; rw [hc]; rfl) ha hn htk
  obtain ⟨hp, g, d, t, os⟩ := s
  have L0 := I.type (M := model prog w)
  have L1 := looks_findIn (M := model prog w) X hga
  have L2 := looks_findIn (M := model prog w) X hgt
  have L3 := looks_find (M := model prog w) X I hf
  have sub : Looks (model prog w) hp (isInstance (.ref x) (.type "BaseException")) true := L0.andThen (looks_subIn X hsub)
  have hx0 : (false && onTheHeap (Value.builtin "BaseException.__getattribute__")) = false := rfl
  have hx2 : (Value.builtin "BaseException.__getattribute__" == Value.builtin "object.__getattribute__") = false := by decide +kernel
  have hx1 : (onTheHeap (Value.ref D) && Value.builtin "BaseException.__getattribute__" == Value.builtin "object.__getattribute__") = false := by rw [hx2]; rfl
  unfold getAttr? getAttrBy? getAttrBy
  refine wpAny_bind (wpAny_mkText (wpAny_bind (wpAny_attempt (wpAny_holding (wpAny_bind (L0.at (wpAny_bind (L1.at ?_))))))))
  show wpAny _ _ (if (onTheHeap (Value.ref D) && Value.builtin "BaseException.__getattribute__" == Value.builtin "object.__getattribute__") = true then _ else _) _ _ _
  rw [hx1, if_neg Bool.false_ne_true]
  unfold getAttrByItsOwn hookBefore
  refine wpAny_bind ?_
  rw [if_pos (show onTheHeap (Value.ref D) = true from rfl)]
  refine L2.at ?_
  refine wpAny_bind (wpAny_attempt (wpAny_holding ?_))
  unfold callGetattribute
  rw [hx0, if_neg Bool.false_ne_true]
  unfold boundAndCalled
  rw [PySem.F.excAttr_ValueError.ga.bind (.ref x)]
  refine wpAny_bind (wpAny_pure ?_)
  show wpAny _ _ (call (.builtin "BaseException.__getattribute__") [.ref x, .str "__class__" t]) _ _ _
  refine wpAny_call (codeAny_call_builtin PySem.F.excAttr_ValueError.ga.plain PySem.F.entry_bexc_ga ?_)
  refine @check_slot (model prog w) _ _ ⟨hp, g, d, t + 1, os⟩ "BaseException.__getattribute__" "BaseException" "__getattribute__" (.ref x) [.str "__class__" t] [] _ (by decide +kernel) (by decide +kernel) sub (PySem.F.args_bexc_ga (.ref x) (.str "__class__" t)) ?_
  unfold Builtin.«object.__getattribute__»
  refine wpAny_bind (wpAny_of_eq (a := ((Value.ref x : Value), [Value.str "__class__" t])) (by first | rfl | (simp only [slotArgs]; rfl)) ?_)
  refine wpAny_bind (wpAny_pure (wpAny_bind (L0.at (wpAny_bind (L3.at ?_)))))
  show wpAny _ _ (holding [Value.builtin "object.__class__"] (call (.builtin "getset_descriptor.__get__") [.builtin "object.__class__", .ref x, .ref D]) >>= ret) _ _ _
  refine wpAny_bind (wpAny_holding (wpAny_call (class_get (s := ⟨hp, g, d, t + 1, os⟩) (ox := ox) (od := od) X I hm ?_)))
  refine wpAny_pure ?_
  show wpAny _ _ (handedOut (.ref D)) _ _ _
  rw [handedOut_of (v := .ref D) rfl]
  first
    | exact wpAny_pure (wpAny_pure h)
    | exact wpAny_pure h
    | exact wpAny_pure (wpAny_bind (wpAny_pure (wpAny_pure h)))
theorem kitx_excO (C : ExcC K D) : KitX K (.ref x) (.ref D) (fun h => InstAt h x ox D od) where
  ty := fun _ _ _ I => I.type
  it := fun _ _ X _ => by
    obtain ⟨cdD, hcD, _⟩ := any_some C.hd
    unfold clsIn at hcD
    split at hcD
    · rename_i c' d' cd' sl' ho
      intro A' Q' E' s' k q
      unfold isType loadHead
      exact wpAny_bind (wpAny_loadPart (k _ _ (X _ _ ho)) (wpAny_pure q))
    · cases hcD
  ne := (handS_kitx_exc (x := x) (ox := ox) C.hg C.hk C.hs C.hd C.ha C.hn C.ht C.hm).ne
  ca := fun X I k => kin_classO C.hg C.hk C.hs C.hd C.ha C.hn C.ht C.hm X I k
end
/-! ### isinstance of a caught exception, with or without a dict -/
def rIsA2 (K : PySem.W.Frag) (a : Addr) (cls : Value) (d : Option Addr) : List V → Hp → VK → Prop := fun xs H Q => ∃ (D : Addr) (c : V) (cv : Value) (b : Bool), cls = .ref D ∧ (∀ dd, d = some dd → ∃ fs, H dd = some (.xd fs)) ∧ ExcC K D ∧ xs = [.ref a, c] ∧ (∀ u, RelV c u → u = cv) ∧ PySem.W.kitOne K (.ref D) cv = some b ∧ Q (.bl b) H
theorem call_isA2 {X : Cx} {a : Addr} {oe : Obj} {cls : Value} {d : Option Addr} {pn : List (Addr × Obj)} (hz : L2N.Zn cls d oe) (hf : ∃ vs, oe.data = .fields vs) : CallR (X.suite a ((a, oe) :: pn)) (.builtin "isinstance") (rIsA2 X.K a cls d) := by
  intro pins s σ H xs us Q I r h
  obtain ⟨D, c, cv, b, rfl, hdd, C, rfl, hcv, e, q⟩ := h
  cases r with
  | cons rx rr =>
    cases rr with
    | cons rt rr =>
      cases rr
      cases rx
      have ec := hcv _ rt
      subst ec
      obtain ⟨hget, _⟩ := I.pin (a, oe) (List.mem_append.mpr (.inl List.mem_cons_self))
      obtain ⟨vs, hv⟩ := hf
      have hzc := hz.zc
      have J : ∃ od, PySem.W.InstAt s.heap a oe D od := by
        cases d with
        | none =>
          refine ⟨none, ?_⟩
          obtain ⟨oc, od, oda, osl⟩ := oe
          obtain ⟨h1, h2⟩ := hzc
          dsimp only at h1 h2 hv
          subst h1 h2 hv
          exact ⟨hget, rfl, rfl, trivial⟩
        | some dd =>
          obtain ⟨fs, hfs⟩ := hdd dd rfl
          have hx : ObjOk X.prog X.w H s.heap dd (.xd fs) := I.hok dd _ hfs
          obtain ⟨mA, ⟨o, es, ep, ho, _⟩, hr⟩ := hx
          refine ⟨some o, hget, hzc.1, by unfold PySem.W.notCls; rw [hv] <;> rfl, by rw [hzc.2]; exact ho⟩
      obtain ⟨od, J⟩ := J
      exact PySem.W.kia_one (kitx_excO C) I.kIn J e (fun z => nomatch z) fun tk => ⟨.bl b, H, I.kept (t' := tk) fun _ _ z => z, rfl, q⟩
def nIsE2 (cs : List String) : List D → R D
  | [.exc D _ _ _, .cls C] => if (cs.contains D && cs.contains C) = true then .ok (.bl (isSubE D C)) else .bad
  | [.exc D _ _ _, .ty T] => if (cs.contains D && T == "ValueError") = true then .ok (.bl true) else .bad
  | _ => .bad
theorem nx_isE2 {cs : List String} : ∀ ds w, nIsE2 cs ds ≠ .ex w := by
  intro ds w e; unfold nIsE2 at e; split at e
  all_goals first | (cases e; done) | (split at e <;> cases e)
theorem cd_isE2 {K : PySem.W.Frag} {mg : Str → Option Value} {a : Addr} {cls : Value} {d : Option Addr} {cs : List String} {gr : Bool} (ET : ErT K mg cs) : CallD true gr (⟨K, mg, some (a, cls, d)⟩ : G) (rIsA2 K a cls d) (nIsE2 cs) := fun F H vs ds z Q s ha e q => by
  unfold nIsE2 at e
  split at e
  · obtain ⟨c, rfl⟩ := if_ok_inv e
    obtain ⟨c1, c2⟩ := Bool.and_eq_true_iff.mp c
    obtain ⟨v, u, rfl, o, o2⟩ := ha.two
    cases o.rp s with
    | exc0 h1 h2 =>
      cases h1
      cases o2.rp s with
      | cls h3 =>
        obtain ⟨da, m1, m2, m3, m4, m5⟩ := (ET.c _ c1).at_
        have h2' : mg (nmS _) = some (.ref _) := h2
        rw [m1] at h2'
        cases h2'
        exact ⟨_, _, _, _, rfl, (fun dd z => by cases z), m5, rfl, fun u hu => hu, (ET.s _ _ _ _ c1 c2 m1 h3).2, out_sc s (.bl _) rfl q⟩
    | exc1 h1 h2 k1 k2 k3 =>
      cases h1
      cases o2.rp s with
      | cls h3 =>
        obtain ⟨da, m1, m2, m3, m4, m5⟩ := (ET.c _ c1).at_
        have h2' : mg (nmS _) = some (.ref _) := h2
        rw [m1] at h2'
        cases h2'
        refine ⟨_, _, _, _, rfl, fun dd z => ?_, m5, rfl, fun u hu => hu, (ET.s _ _ _ _ c1 c2 m1 h3).2, out_sc s (.bl _) rfl q⟩
        cases z
        exact ⟨_, k1⟩
  · obtain ⟨c, rfl⟩ := if_ok_inv e
    obtain ⟨c1, c2⟩ := Bool.and_eq_true_iff.mp c
    obtain ⟨v, u, rfl, o, o2⟩ := ha.two
    cases o.rp s with
    | exc0 h1 h2 =>
      cases h1
      cases o2.rp s with
      | ty n =>
        obtain ⟨da, m1, m2, m3, m4, m5⟩ := (ET.c _ c1).at_
        have h2' : mg (nmS _) = some (.ref _) := h2
        rw [m1] at h2'
        cases h2'
        have e4 := beq_iff_eq.mp c2
        subst e4
        exact ⟨_, _, _, _, rfl, (fun dd z => by cases z), m5, rfl, fun u hu => hu, ET.v _ _ c1 m1, out_sc s (.bl _) rfl q⟩
    | exc1 h1 h2 k1 k2 k3 =>
      cases h1
      cases o2.rp s with
      | ty n =>
        obtain ⟨da, m1, m2, m3, m4, m5⟩ := (ET.c _ c1).at_
        have h2' : mg (nmS _) = some (.ref _) := h2
        rw [m1] at h2'
        cases h2'
        have e4 := beq_iff_eq.mp c2
        subst e4
        refine ⟨_, _, _, _, rfl, fun dd z => ?_, m5, rfl, fun u hu => hu, ET.v _ _ c1 m1, out_sc s (.bl _) rfl q⟩
        cases z
        exact ⟨_, k1⟩
  · cases e
/-! ### C(e), C's __init__ as above -/
section
variable {X : Cx} {e : Expr} {es : List Expr} {ta : TA} {p pos : Pos}
theorem pmk_oexN {CX : CXT} {x : Str} {C fI : Addr} {k : Nat} {fd : FuncData} {ps : List Str} {sp : Sp} (T : OexC X.K C) (iC : PySem.W.findIn X.K (.ref C) "__init__" = some (some (.ref fI))) (tI : PySem.W.typeIn X.K (.ref fI) = some (.type "function"))
    (F1 : FnOk X.prog X.w X.K X.mg X.base CX k fI fd ps sp) (hr : Room (k + 1) X.A) (hb : Binds X.K fd ps []) (hx : Passes CX X (fun _ _ _ => False)) (hg : Gl X x) (hm : X.mg x = some (.ref C)) (ha : PA X (e :: es) ta)
    (hdb : (x == ("__debug__" : Str)) = false := by decide) (he : starEach (e :: es) X.env = (false, eval e X.env) :: starEach es X.env := by rfl) (hpl : (backTo pos (starEach es X.env)).any (·.1) = false := by rfl) :
    L2N.PMk X (.Call (.Name x p) (e :: es) [] pos) (tMkO C sp [] ta) := by
  intro pins s σ H Q I h
  obtain ⟨nm, q, N, bs, bm, sn, sub, ab, col, dd, k0, k1, k2, k3, k5, hC, hbm⟩ := T.cls
  refine wpAny_Call_Name_kw (ld_glob I hg hm ?_ hdb)
  refine PySem.W.callWith_K (h₀ := X.base) I.ok.mod.kin T.kC (thn (ha.run pos pins s σ H _ I h) fun us s1 ⟨vs, H1, I1, r1, hz, q1⟩ => ⟨I1.kIn, ?_⟩) he hpl
  show wpAny _ _ (call (.ref C) us) _ _ _
  obtain ⟨hp, g, dr, tk, os⟩ := s1
  have hsz : hp.objs.size ≤ hp.objs.size + 1 := Nat.le_succ _
  have hn : H1 (hp.objs.size + 1) = none := I1.hok.fresh hsz
  have hq := q1 (hp.objs.size + 1) hn
  rw [List.append_nil] at hq
  have kk : ∀ b o, hp.get? b = some o → ((hp.push (PySem.W.kdv_tup us)).push (PySem.HandSPX.excO C hp.objs.size)).get? b = some o := fun b o e => Heap.get?_push_of_some _ (Heap.get?_push_of_some _ e)
  have hget : ((hp.push (PySem.W.kdv_tup us)).push (PySem.HandSPX.excO C hp.objs.size)).get? (hp.objs.size + 1) = some (PySem.HandSPX.excO C hp.objs.size) := by heap_get
  have I2 : Inv X pins σ (upd H1 (hp.objs.size + 1) (exo (hp.objs.size + 1) C none)) ⟨(hp.push (PySem.W.kdv_tup us)).push (PySem.HandSPX.excO C hp.objs.size), g, dr, tk, os⟩ :=
    I1.laid (t' := tk) (a := hp.objs.size + 1) (o := exo (hp.objs.size + 1) C none) (h' := (hp.push (PySem.W.kdv_tup us)).push (PySem.HandSPX.excO C hp.objs.size)) kk hsz (exo_ok hget)
  have r2 : Vals (V.ref (hp.objs.size + 1) :: vs) (Value.ref (hp.objs.size + 1) :: us) := .cons rfl r1
  have hl : (Value.ref (hp.objs.size + 1) :: us ++ []).length = ps.length := by
    rw [List.append_nil]
    have e := r2.length
    rw [F1.len _ _ _ _ hq] at e
    exact e.symm
  have hus : us.length ≤ sizeLine := by
    rw [← Paired.length r1, sizeLine_eq]
    omega
  have hb' := hb _ (Value.ref (hp.objs.size + 1) :: us) I2.kIn hl
  rw [List.append_nil] at hb'
  refine wpAny_call (PySem.HandSPX.call_own F.excBase_ValueError (fun Y => PySem.HandSPX.refsVE_contains Y bm hbm) (I1.kIn _ _ hC) (PySem.W.looks_findIn I1.kIn iC) (fun self => PySem.W.bind_fn I1.kIn self tI) hus
    (codeAny_mono (F1.run _ X.stack _ _ ⟨Value.ref (hp.objs.size + 1) :: us, []⟩ (Value.ref (hp.objs.size + 1) :: us) _ _ (fun _ _ _ => False) (hr.make C us []) (I2.env0.make C us []) hb' r2 hq) fun r s' hq' => ?_))
  cases r with
  | error er => exact hx pins σ _ _ er s' I2 hq'
  | ok fl =>
    cases fl with
    | ret u =>
      obtain ⟨v, H2, os2, bare2, un2, hok2, rv, ev, d, fs, ea, ed, hd1, q2⟩ := hq'
      subst ev
      obtain ⟨h2, g2, d2, t2, os'⟩ := s'
      obtain ⟨t0, G, J, kG, ge, hoe, na⟩ := mk_end0 (d2 := d2) (t2 := t2) I1 hsz kk un2 hok2 os2 bare2 ea ed hd1
      exact ⟨rv, _, _, _, ⟨G, g2, d2, t2, os'⟩, _, .ref C, some d, rfl, J, kG, ge, hoe, ⟨rfl, rfl, fun vs e => by cases e; rfl⟩, rfl, rfl, na, rfl, bare2, raises_own T.exC T.tyC, q2⟩
    | next => exact False.elim hq'
    | brk => exact False.elim hq'
    | cont => exact False.elim hq'
end
end Dt

set_option Elab.async false
set_option linter.all false
set_option maxRecDepth 100000
set_option maxHeartbeats 4000000
/-! Dat: the same, on data. -/
namespace Dt
open PySem PySem.Spec PyProof.Rows L2
structure OexD (P : Program) (K : PySem.W.Frag) (mg : Str → Option Value) (C fl : String) : Prop where
  at_ : ∃ ca fI fd, mg (nmS C) = some (.ref ca) ∧ OexC K ca ∧ PySem.W.findIn K (.ref ca) "__init__" = some (some (.ref fI)) ∧ PySem.W.typeIn K (.ref fI) = some (.type "function") ∧
    (∀ (s : Shared) (us : List Value), us.length = 2 → BindsTo s fd ⟨us, []⟩ (([("self" : Str), nmS fl] : List Str).zip us)) ∧
    (∀ (w : World) (base : Heap), FnOk P w K mg base (L2N.CX P w) 1 fI fd [("self" : Str), nmS fl] (spI ca (nmS fl))) ∧ XfC K ca ∧ PySem.W.findIn K (.ref ca) (nmS fl) = some none
def dRaiseO (C fl : String) (fa : Env → R D) : DTS := fun ρ => Out.of (fa ρ) ρ fun d => match d with
  | .int i => if -9223372036854775808 ≤ i ∧ i < 9223372036854775808 then .xc ⟨C, some ([fl], [.int i])⟩ ρ else .bad
  | _ => .bad
theorem log_le {i : Int} (h : -9223372036854775808 ≤ i ∧ i < 9223372036854775808) : i.natAbs.log2 < 1920 := by
  by_cases z : i.natAbs = 0
  · rw [z]
    decide
  · have : i.natAbs.log2 < 64 := (Nat.log2_lt z).mpr (by omega)
    omega
section
variable {X : Cx} {W : Wx}
theorem ds_raiseO {C fl : String} {x : Str} {a : Expr} {fa : Env → R D} {p pos pos2 : Pos} (hc : X.calm = true) (tk : L2N.Takes X W.w) (O : OexD X.prog X.K X.mg C fl) (hr : Room 2 X.A) (hx : nmS C = x) (hg : Gl X x) (ha' : DA true X W [a] (dCons fa dNil)) (hdb : (x == ("__debug__" : Str)) = false := by decide)
    (he : starEach [a] X.env = (false, eval a X.env) :: starEach [] X.env := by rfl) (hpl : (backTo pos (starEach [] X.env)).any (·.1) = false := by rfl) :
    DS X W (.Raise (some (.Call (.Name x p) [a] [] pos)) none pos2) (dRaiseO C fl fa) := by
  obtain ⟨ca, fI, fd, h1, h2, h3, h4, h5, h6, _, _⟩ := O.at_
  subst hx
  refine ps_imp (L2N.ps_raise hc tk (pmk_oexN h2 h3 h4 (h6 X.w X.base) hr (fun s us _ hl => by
    rw [List.append_nil] at hl ⊢
    exact h5 s us hl) passLN hg h1 ha' hdb he hpl)) fun E σ H => fun ⟨τ, B, F, ρ, R, q⟩ => ?_
  refine ⟨τ, B, F, ρ, R, ?_⟩
  unfold dRaiseO at q
  unfold dCons
  cases hf : fa ρ with
  | bad => rw [hf] at q; exact q.elim
  | ex y =>
    rw [hf] at q
    exact fun cls dd H' F' s r => q cls dd σ H H' F' (s.toI R.bh) (R.stepP s) r
  | ok d =>
    rw [hf] at q
    intro vs H1 F1 s1 r
    have r : RpL (gx X W) F1 vs [d.fr] := r
    cases d with
    | int i =>
      have q : outS (gx X W) W τ B F E (if -9223372036854775808 ≤ i ∧ i < 9223372036854775808 then .xc ⟨C, some ([fl], [.int i])⟩ ρ else .bad) := q
      split at q
      · rename_i hi
        cases r with
        | cons r0 rr =>
          cases rr
          cases r0
          refine ⟨by show 1 ≤ 1000; omega, fun a na => ⟨a, i, rfl, log_le hi, upd_same, fun dx nd ne => ?_⟩⟩
          have nd1 : H1 dx = none := by
            rw [upd_ne ne] at nd
            exact nd
          have eH : upd (del (upd (upd (upd H1 a (exo a ca none)) dx (exd dx [(nmS fl, .int i)])) a (exo a ca (some dx))) a) dx (.xd [(nmS fl, .int i)]) = upd H1 dx (.xd [(nmS fl, .int i)]) := by
            funext b
            by_cases hb : b = dx
            · rw [hb, upd_same, upd_same]
            · rw [upd_ne hb, upd_ne hb]
              by_cases hba : b = a
              · rw [hba, del_same, na]
              · rw [del_ne hba, upd_ne hba, upd_ne hb, upd_ne hba]
          refine ⟨rfl, dx, [(nmS fl, .int i)], upd_same, ?_, nd1, ?_⟩
          · rw [upd_ne ne, upd_same]
          · rw [eH]
            have F1d : F1 dx = none := by
              cases z : F1 dx with
              | none => rfl
              | some o =>
                rw [s1.fh _ _ z] at nd1
                cases nd1
            have st : StepP F1 H1 (upd F1 dx (.xd [(nmS fl, .int i)])) (upd H1 dx (.xd [(nmS fl, .int i)])) := by
              refine ⟨fun b o z => ?_, fun b o z => ?_, fun b o z => ?_, fun b o z => ?_⟩
              · rw [upd_ne (ne_of_none z F1d)]
                exact z
              · by_cases hb : b = dx
                · rw [hb, upd_same] at z ⊢
                  exact z
                · rw [upd_ne hb] at z ⊢
                  exact s1.fh _ _ z
              · rw [upd_ne (ne_of_none z nd1)]
                exact z
              · rw [upd_ne (ne_of_none z nd1)]
            have s2 := s1.trans st
            exact q (.ref ca) (some dx) σ H1 _ _ (s2.toI R.bh) (R.stepP s2) ⟨ca, h1, rfl, dx, [(nmS fl, .int i)], rfl, upd_same, rfl, .cons (.int i) .nil⟩
      · exact q.elim
    | _ => exact q.elim
/-! ### e.f in a suite -/
def fXf (C fl : String) : D → R D
  | .exc D' true [n] [.int i] => if D' = C ∧ n = fl then .ok (.int i) else .bad
  | _ => .bad
theorem fXf_cases (C fl : String) (d : D) : fXf C fl d = .bad ∨ ∃ i, d = .exc C true [fl] [.int i] ∧ fXf C fl d = .ok (.int i) := by
  unfold fXf
  split
  · split
    · rename_i c
      obtain ⟨rfl, rfl⟩ := c
      exact .inr ⟨_, rfl, rfl⟩
    · exact .inl rfl
  · exact .inl rfl
def dXf (C fl : String) (fa : Env → R D) : Env → R D := fun ρ => (fa ρ).bind (fXf C fl)
theorem de_xf {X : Cx} {Ws : Wx} {a : Addr} {oe : Obj} {cls : Value} {d : Option Addr} {pn : List (Addr × Obj)} {C fl : String} {n : Str} {e : Expr} {fa : Env → R D} {pos : Pos} (O : OexD X.prog X.K X.mg C fl) (hn : nmS fl = n) (hz : L2N.Zn cls d oe) (hf : ∃ vs, oe.data = .fields vs) (hW : Ws.ex = some (a, cls, d))
    (he : DE true (X.suite a ((a, oe) :: pn)) Ws e fa) (hb : attributeBase e n X.env (eval e X.env) = eval e X.env := by rfl) : DE true (X.suite a ((a, oe) :: pn)) Ws (.Attribute e n pos) (dXf C fl fa) := by
  obtain ⟨ca, fI, fd, h1, h2, h3, h4, h5, h6, h7, h8⟩ := O.at_
  subst hn
  refine pe_imp (pe_xf h7 h8 hz.zc hf he hb) fun σ H Q => fun ⟨τ, B, F, ρ, R, q⟩ => ?_
  refine ⟨τ, B, F, ρ, R, ?_⟩
  unfold dXf at q
  cases hfa : fa ρ with
  | bad => rw [hfa] at q; exact q
  | ex x => rw [hfa] at q; exact q
  | ok dv =>
    rw [hfa, Dt.R.bind_ok] at q
    intro v H1 F1 s1 r
    have q := q.step s1
    rcases fXf_cases C fl dv with hb | ⟨i, rfl, hi⟩
    · rw [hb] at q
      exact q.elim
    · rw [hi] at q
      obtain ⟨A1, o, _⟩ := r
      have rp := o.rp s1.fh
      cases rp with
      | exc1 k1 k2 k3 k4 k5 =>
        have k1 : Ws.ex = some _ := k1
        rw [hW] at k1
        cases k1
        have k2 : X.mg (nmS C) = some (.ref _) := k2
        rw [h1] at k2
        cases k2
        rename_i dd fs
        cases fs with
        | nil => cases k4
        | cons p fs =>
          cases fs with
          | cons _ _ => exact absurd (congrArg List.length k4) (by simp)
          | nil =>
            obtain ⟨pk, pv⟩ := p
            have kp : pk = nmS fl := List.head_eq_of_cons_eq (show pk :: [] = nmS fl :: [] from k4)
            subst kp
            cases k5 with
            | cons k6 k7 =>
              cases k6
              exact ⟨rfl, rfl, _, _, _, rfl, k3, (by rw [lookup_put]; exact if_pos rfl), out_sc s1.fh (.int i) rfl q⟩
end
/-- how it is put together -/
theorem oexd_mk {P : Program} {K : PySem.W.Frag} {h : Heap} {mg : Str → Option Value} {C fl : String} {ca fI cc cda : Addr} {nm q : Str} {N : Addr} {bs bm : List Value} {sn : List Str} {sub : List Value} {ab : Bool} {col : Option Bool} {dd : Option Addr} {k0 k1 k2 k3 k5 : Option Value}
    {name qual : Str} {params : Arguments} {body : List Stmt} {scope : Scope} {dV kV doc pm ct oc : Value} {an od : Option Addr} {osl : Array (Option Value)} {ar : Arg} {msg : Str} {j : Nat} {p0 p1 p2 p3 p4 q1 q2 q3 q4 q5 q6 q7 q8 : Pos}
    (X : K.In h) (G : h.Ns mainGlobals mg) (aC : mg (nmS C) = some (.ref ca)) (xL : K.lookup ca = some (excClassObj nm q ca N bs bm true sn sub ab col dd k0 k1 k2 k3 k5 "ValueError.__new__")) (hbm : PySem.HandSPX.refsVE bm = true)
    (sa : PySem.W.findIn K (.ref ca) "__setattr__" = some (some (.builtin "object.__setattr__"))) (exC : PySem.W.subIn K (.ref ca) (.type "BaseException") = some true) (tyC : PySem.W.typeIn K (.ref ca) = some (.type "type")) (kC : PySem.W.keepIn K (.ref ca) = true)
    (iC : PySem.W.findIn K (.ref ca) "__init__" = some (some (.ref fI))) (tI : PySem.W.typeIn K (.ref fI) = some (.type "function")) (no : PySem.W.findIn K (.ref ca) (nmS fl) = some none)
    (ga : PySem.W.findIn K (.ref ca) "__getattribute__" = some (some (.builtin "BaseException.__getattribute__"))) (gg : PySem.W.findIn K (.ref ca) "__getattr__" = some none) (hd : PySem.W.hasDictIn K ca = true)
    (lk : K.lookup fI = some ⟨oc, od, .func (PySem.W.ksFn name qual params body scope dV kV doc pm an (.ref cda) ct cc), osl⟩) (hcd : PySem.W.codeIn K (.ref cda) qual = true)
    (hb : body = [.Expr (.Call (.Attribute (.Call (.Name "super" p0) [] [] p1) "__init__" p2) [.JoinedStr [.Constant (.str msg) j q1, .FormattedValue (.Name (nmS fl) q2) (-1) none q3] q4] [] p3) p4, .Assign [.Attribute (.Name "self" q5) (nmS fl) q6] (.Name (nmS fl) q7) q8])
    (S : SupScope (nmS fl) scope) (hp : (params.posonlyargs ++ params.args).head? = some ar) (har : ar.arg = "self") (hpos : (p2.endLine == p3.line) = true) (hmsg : msg.length ≤ 1000)
    (hbd : ∀ (s : Shared) (us : List Value), us.length = 2 → BindsTo s (PySem.W.ksFn name qual params body scope dV kV doc pm an (.ref cda) ct cc) ⟨us, []⟩ (([("self" : Str), nmS fl] : List Str).zip us))
    (U : SupC P K ca cc cda) (ms : mg "super" = none) : OexD P K mg C fl :=
  ⟨ca, fI, _, aC, ⟨⟨nm, q, N, bs, bm, sn, sub, ab, col, dd, k0, k1, k2, k3, k5, xL, hbm⟩, sa, exC, tyC, kC⟩, iC, tI, hbd,
    fun w base => init_fn S ⟨⟨nm, q, N, bs, bm, sn, sub, ab, col, dd, k0, k1, k2, k3, k5, xL, hbm⟩, sa, exC, tyC, kC⟩ U ms lk hcd hp har hb hpos no hmsg, ⟨ga, gg, exC, hd⟩, no⟩
end Dt

set_option Elab.async false
set_option linter.all false
set_option maxRecDepth 100000
set_option maxHeartbeats 4000000
/-! Dat: for x in xs: if x is not None: x.append(c), over lists of one's own. -/
namespace Dt
open PySem PySem.Spec PyProof.Rows L2
def okE : D → Bool
  | .non => true
  | .lst (some 0) ys => decide (ys.length < 16777216)
  | _ => false
def apE (c : Int) : D → D
  | .lst (some 0) ys => .lst (some 0) (ys ++ [.int c])
  | d => d
def dAppEach (n j : Nat) (c : Int) : DTS := fun ρ => match ρ[n]? with
  | some (some (.lst (some t) xs)) => if n ≠ j ∧ j < ρ.length ∧ xs.all okE = true then .nx ((ρ.set n (some (.lst (some t) (xs.map (apE c))))).set j none) else .bad
  | _ => .bad
section
variable {g : G} {τ : List V} {B F F' H H' : Hp} {σ : L2.St} {ρ : Env}
theorem EnvR.forget2 (E : EnvR g τ B F H σ ρ) (j : Nat) (x : Option V) : EnvR g τ B F H (σ.set j x) (ρ.set j none) := by
  obtain ⟨A, o, b⟩ := E.own
  obtain ⟨A', o', h'⟩ := o.gone j x
  exact ⟨E.bh, E.fh, A', o', fun p hp => b p (h' p hp)⟩
theorem EnvR.slot (E : EnvR g τ B F H σ ρ) {i : Nat} {d : D} (h : ρ[i]? = some (some d)) : ∃ v, σ[i]? = some (some v) ∧ Loc H σ ρ (i, []) v := by
  obtain ⟨A, o, _⟩ := E.own
  obtain ⟨v, A', h1, _, _, _⟩ := o.get h
  exact ⟨v, h1, d, d, v, h, h1, rfl, rfl⟩
end
/-- the list with its first i items changed -/
def mixE (c : Int) (xs : List D) (i : Nat) : List D := (xs.take i).map (apE c) ++ xs.drop i
theorem mixE_len (c : Int) (xs : List D) (i : Nat) (h : i ≤ xs.length) : (mixE c xs i).length = xs.length := by
  unfold mixE
  rw [List.length_append, List.length_map, List.length_take, List.length_drop]
  omega
theorem mixE_at (c : Int) (xs : List D) (i : Nat) (h : i < xs.length) : (mixE c xs i)[i]? = some xs[i] := by
  unfold mixE
  rw [List.getElem?_append_right (by rw [List.length_map, List.length_take]; omega), List.length_map, List.length_take, Nat.min_eq_left (by omega), List.getElem?_drop, show i + (i - i) = i by omega, List.getElem?_eq_getElem h]
theorem mixE_step (c : Int) (xs : List D) (i : Nat) (h : i < xs.length) : (mixE c xs i).set i (apE c xs[i]) = mixE c xs (i + 1) := by
  unfold mixE
  rw [List.set_append_right _ _ (by rw [List.length_map, List.length_take]; omega), List.length_map, List.length_take, Nat.min_eq_left (by omega), Nat.sub_self, List.drop_eq_getElem_cons h, List.set_cons_zero, List.take_succ_eq_append_getElem h, List.map_append, List.append_assoc]
  rfl
theorem mixE_end (c : Int) (xs : List D) : mixE c xs xs.length = xs.map (apE c) := by
  unfold mixE
  rw [List.take_length, List.drop_length, List.append_nil]
section
variable {X : Cx} {W : Wx} {n j : Nat} {x l : Str} {c : Int} {k1 k2 : Nat} {p1 p2 p3 p4 p5 p6 p7 p8 p9 p10 p11 p12 : Pos}
theorem ds_appEach (hp : PassesOwn (model X.prog X.w) X.A X.env X.xe) (hc : X.calm = true) (hN : X.N.Nodup) (hn : X.N[n]? = some l) (hj : X.N[j]? = some x) (vl : Vis X.env.scope l) (vx : Vis X.env.scope x) (lx : L2.Loc X.env.scope x)
    (hf : X.fn x = true ∨ X.env.scope.names.lookup x = some .local) (d1 : (l == ("__debug__" : Str)) = false := by decide) (d2 : (l == ("__classdict__" : Str)) = false := by decide) (d3 : (x == ("__debug__" : Str)) = false := by decide) (d4 : (x == ("__classdict__" : Str)) = false := by decide)
    (hbase : attributeBase (.Name x p6) "append" X.env (eval (.Name x p6) X.env) = eval (.Name x p6) X.env := by rfl) (hline : (p7.endLine == p9.line) = true := by rfl)
    (hsw : swapsWith (.Call (.Attribute (.Name x p6) "append" p7) [.Constant (.int c) k2 p8] [] p9) none p10.line X.env = pure false := by rfl) :
    DS X W (.For (.Name x p1) (.Name l p2) [.If (.Compare (.Name x p3) [.IsNot] [.Constant .none k1 p4] p5) [.Expr (.Call (.Attribute (.Name x p6) "append" p7) [.Constant (.int c) k2 p8] [] p9) p10] [] p11] [] p12) (dAppEach n j c) := by
  have vxr : PE X (.Name x p6) (tVar j) := pe_var hj vx d3 d4
  have body := pss_one (ps_if (pos := p11) (pt_cmp (pos := p5) (pc_notN (j := k1) (pos' := p4) (pe_var (pos := p3) hj vx d3 d4)))
    (pss_one (ps_expr (pos := p10) (pe_bm (cpos := p9) PySem.F.plainAttrs_list PySem.F.slot_list_append PySem.F.type_list_append mt_append vxr (pa_cons (pe_int (i := c) (j := k2) (pos := p8)) pa_nil) hbase rfl hline) hsw)) pss_nil)
  refine ps_imp (ps_for hp hc (pi_list (pe_var (pos := p2) hn vl d1 d2)) (pg_name (pos := p1) hN hj lx hf) body) fun E σ H => fun ⟨τ, B, F, ρ, R, q⟩ => ?_
  unfold dAppEach at q
  cases hρ : ρ[n]? with
  | none => rw [hρ] at q; exact q.elim
  | some o =>
    cases o with
    | none => rw [hρ] at q; exact q.elim
    | some d =>
      rw [hρ] at q
      cases d with
      | lst o xs =>
        cases o with
        | none => exact q.elim
        | some t =>
          have q : outS (gx X W) W τ B F E (if n ≠ j ∧ j < ρ.length ∧ xs.all okE = true then .nx ((ρ.set n (some (.lst (some t) (xs.map (apE c))))).set j none) else .bad) := q
          split at q
          · rename_i hh
            obtain ⟨nj, hjr, hok⟩ := hh
            obtain ⟨v0, hv0, l0⟩ := R.slot hρ
            obtain ⟨a, vs, A0, rfl, h1, _, _, _, _⟩ := R.mutL l0 (show getP ρ (n, []) = some (.lst (some t) xs) by unfold getP; rw [hρ]; rfl)
            refine ⟨.ref a, hv0, a, rfl, ⟨vs, SqL.of h1⟩, ?_⟩
            -- the state ahead of item i
            let St : Nat → L2.St → Hp → Prop := fun i σ' H' => ∃ F', StepI B F F' H' ∧ EnvR (gx X W) τ B F' H' σ' ((ρ.set n (some (.lst (some t) (mixE c xs i)))).set j none)
            have e0 : mixE c xs 0 = xs := by
              unfold mixE
              rw [List.take_zero, List.map_nil, List.drop_zero, List.nil_append]
            have sn : (ρ.set n (some (.lst (some t) xs))) = ρ := by
              apply List.ext_getElem?
              intro k
              rw [List.getElem?_set]
              split
              · rename_i hk
                subst hk
                split
                · rw [hρ]
                · rename_i hk
                  rw [List.getElem?_eq_none (by omega)] at hρ
                  cases hρ
              · rfl
            have hnl : n < ρ.length := (List.getElem?_eq_some_iff.mp hρ).1
            have slotN : ∀ i : Nat, ((ρ.set n (some (.lst (some t) (mixE c xs i)))).set j none)[n]? = some (some (.lst (some t) (mixE c xs i))) := fun i => by
              rw [List.getElem?_set_ne (fun z => nj z.symm), List.getElem?_set_self hnl]
            have hjl : j < σ.length := by
              obtain ⟨A, o, _⟩ := R.own
              rw [o.length]
              exact hjr
            refine ⟨fun i m σ' H' => m = xs.length - i ∧ i ≤ xs.length ∧ σ'[n]? = some (some (.ref a)) ∧ j < σ'.length ∧ St i (σ'.set j none) H', ⟨xs.length, rfl, Nat.zero_le _, hv0, hjl, F, StepI.refl R.fh R.bh, by
              rw [e0, sn]
              exact R.forget2 j none⟩, fun i m σ' H' hw => ?_⟩
            obtain ⟨rfl, hi, hσn, hjl', F', s', R'⟩ := hw
            have hσn' : (σ'.set j none)[n]? = some (some (.ref a)) := by rw [List.getElem?_set_ne (fun z => nj z.symm)]; exact hσn
            obtain ⟨v1, hv1, l1⟩ := R'.slot (slotN i)
            rw [hσn'] at hv1
            cases hv1
            have gi : getP ((ρ.set n (some (.lst (some t) (mixE c xs i)))).set j none) (n, []) = some (.lst (some t) (mixE c xs i)) := by
              unfold getP
              rw [slotN i]
              rfl
            obtain ⟨a', vs', A0', ea, k1, k2, _, _, _⟩ := R'.mutL l1 gi
            cases ea
            by_cases hlt : i < xs.length
            · refine .inr ?_
              have hm := mixE_at c xs i hlt
              obtain ⟨w, Ak, hw, ow⟩ := k2.get hm
              refine ⟨⟨vs', w, SqL.of k1, hw⟩, fun σ2 H2 => xs.length - (i + 1) = xs.length - (i + 1) ∧ i + 1 ≤ xs.length ∧ σ2[n]? = some (some (.ref a)) ∧ j < σ2.length ∧ St (i + 1) (σ2.set j none) H2, fun σ2 H2 hN2 => ⟨xs.length - (i + 1), by omega, hN2⟩, fun x' H1 y => ?_⟩
              obtain ⟨rfl, hy⟩ := y
              have hx' : w = x' := by
                have := hy vs' (SqL.of k1)
                rw [hw] at this
                exact Option.some.inj this
              subst hx'
              have gj : (σ'.set j (some w))[j]? = some (some w) := List.getElem?_set_self hjl'
              have gn : (σ'.set j (some w))[n]? = some (some (.ref a)) := by rw [List.getElem?_set_ne (fun z => nj z.symm)]; exact hσn
              have ss : (σ'.set j (some w)).set j none = σ'.set j none := List.set_set ..
              have hoki : okE xs[i] = true := List.all_eq_true.mp hok _ (List.getElem_mem hlt)
              have stp := mixE_step c xs i hlt
              refine ⟨w, gj, _, rfl, ?_⟩
              cases hd : xs[i] with
              | non =>
                rw [hd] at ow stp
                have wn : w = .non := by
                  cases (show Own (gx X W) F' H1 w .non Ak from ow) with
                  | frz _ r => cases r; rfl
                subst wn
                rw [if_neg (by simp)]
                refine ⟨rfl, hlt, gn, by rw [List.length_set]; exact hjl', F', s', ?_⟩
                rw [ss]
                have : mixE c xs (i + 1) = mixE c xs i := by
                  rw [← stp]
                  show (mixE c xs i).set i .non = _
                  apply List.ext_getElem?
                  intro k
                  rw [List.getElem?_set]
                  split
                  · rename_i hk
                    subst hk
                    rw [hm, hd]
                    split
                    · rfl
                    · rename_i hk
                      rw [mixE_len c xs i hi] at hk
                      exact absurd hlt hk
                  · rfl
                rw [this]
                exact R'
              | lst oo ys =>
                rw [hd] at hoki ow stp hm
                cases oo with
                | none => cases hoki
                | some tt =>
                  cases tt with
                  | succ tt => cases hoki
                  | zero =>
                    have hlen : ys.length < 16777216 := of_decide_eq_true hoki
                    have l2 : Loc H1 (σ'.set j none) ((ρ.set n (some (.lst (some t) (mixE c xs i)))).set j none) (n, [i]) w :=
                      ⟨.lst (some t) (mixE c xs i), .lst (some 0) ys, .ref a, slotN i, hσn', at_snoc (π := []) rfl rfl hm, loc_snoc (π := []) (show LocV H1 (.ref a) _ [] (.ref a) from rfl) rfl (.inl k1) hw hm⟩
                    have g2 : getP ((ρ.set n (some (.lst (some t) (mixE c xs i)))).set j none) (n, [i]) = some (.lst (some 0) ys) := by
                      unfold getP
                      rw [slotN i]
                      exact at_snoc (π := []) (d := .lst (some t) (mixE c xs i)) rfl rfl hm
                    obtain ⟨e, ve, Ae, rfl, m1, m2, m3, m4, up⟩ := R'.mutL l2 g2
                    rw [if_pos (by simp)]
                    obtain ⟨A2, o2, h2⟩ := m2.snoc (v := .int c) (d := .int c) (A1 := []) (show Own (gx X W) F' H1 (V.int c) (D.int c) [] from .frz rfl (Rp.int c)) fun _ _ z => nomatch z
                    obtain ⟨R2, s2⟩ := up F' H1 (ve ++ [.int c]) (ys ++ [.int c]) A2 (StepP.refl R'.fh) o2 (fun z => (h2 e z).elim m3 fun z => nomatch z) fun x hx => (h2 x hx).imp id fun z => nomatch z
                    refine ⟨V.ref e, gj, .inl ⟨rfl, _, SqL.of m1⟩, e, ve, V.int c, rfl, rfl, m1, by rw [m2.length, sizeLine_eq]; exact hlen, ?_⟩
                    refine ⟨rfl, hlt, gn, by rw [List.length_set]; exact hjl', F', s'.trans s2, ?_⟩
                    rw [ss]
                    have ep : putP ((ρ.set n (some (.lst (some t) (mixE c xs i)))).set j none) (n, [i]) (.lst (some 0) (ys ++ [.int c])) = (ρ.set n (some (.lst (some t) (mixE c xs (i + 1))))).set j none := by
                      rw [putP_of (slotN i), ← stp]
                      show List.set _ n (some ((D.lst (some t) (mixE c xs i)).put (.lst (some 0) (ys ++ [.int c])) [i])) = _
                      have e3 : (D.lst (some t) (mixE c xs i)).put (.lst (some 0) (ys ++ [.int c])) [i] = .lst (some t) ((mixE c xs i).set i (.lst (some 0) (ys ++ [.int c]))) := by
                        show (match (mixE c xs i)[i]? with | some k => D.lst (some t) ((mixE c xs i).set i (D.put k (.lst (some 0) (ys ++ [D.int c])) [])) | none => _) = _
                        rw [hm]
                        rfl
                      rw [e3, List.set_comm _ _ (fun z => nj z.symm), List.set_set]
                      rfl
                    rw [ep] at R2
                    exact R2
              | _ => rw [hd] at hoki; cases hoki
            · have ei : i = xs.length := by omega
              subst ei
              refine .inl ⟨⟨vs', SqL.of k1, by rw [k2.length, mixE_len c xs _ (Nat.le_refl _)]; exact Nat.le_refl _⟩, ?_⟩
              refine q σ' H' F' s' ?_
              rw [mixE_end] at R'
              have R3 := R'.forget2 j (σ'[j]'hjl')
              rw [List.set_set, List.set_set, List.set_getElem_self] at R3
              exact R3
          · exact q.elim
      | _ => exact q.elim
end
end Dt

set_option Elab.async false
set_option linter.all false
set_option maxRecDepth 100000
set_option maxHeartbeats 4000000
/-! Dat: str(n); sorted of texts, of a dict's keys that are texts. -/
namespace Dt
open PySem PySem.Spec PyProof.Rows L2
/-! ### str(n) -/
def nStr : List D → R D
  | [.int i] => if i.natAbs.log2 < 1920 then .ok (.str (toString i)) else .bad
  | _ => .bad
theorem nx_str : ∀ ds w, nStr ds ≠ .ex w := by
  intro ds w e
  unfold nStr at e
  split at e
  · split at e <;> cases e
  · cases e
section
variable {g : G} {gr : Bool}
theorem cd_str : CallD true gr g (fun xs H Q => ∃ i : Int, xs = [.int i] ∧ i.natAbs.log2 < 1920 ∧ Q (.str (toString i)) H) nStr := fun F H vs ds z Q s ha e q => by
  unfold nStr at e
  split at e
  · obtain ⟨c, rfl⟩ := if_ok_inv e
    obtain ⟨v, rfl, o⟩ := ha.one
    exact ⟨_, by rw [o.int], c, out_sc s (.str _) rfl q⟩
  · cases e
end
/-! ### the order of texts -/
abbrev kS (x : Str) : List Nat := x.cps.toList
theorem kS_inj {x y : Str} (h : kS x = kS y) : x = y := by
  have e : x.cps = y.cps := Array.toList_inj.mp h
  cases x
  cases y
  exact congrArg Str.mk e
def leS (x y : Str) : Bool := decide (kS x ≤ kS y)
theorem leS_of {x y : Str} : (ltCps (kS y) (kS x) = false) ↔ kS x ≤ kS y := by
  rw [ltCps_eq, decide_eq_false_iff_not]
  exact Iff.rfl
theorem leS_trans {x y z : Str} (h1 : kS x ≤ kS y) (h2 : kS y ≤ kS z) : kS x ≤ kS z := List.le_trans h1 h2
def srtS (xs : List Str) : List Str := xs.mergeSort leS
theorem srtS_perm (xs : List Str) : (srtS xs).Perm xs := List.mergeSort_perm _ _
theorem srtS_pair (xs : List Str) : (srtS xs).Pairwise (fun a b => kS a ≤ kS b) := by
  have := List.pairwise_mergeSort (le := leS) (fun a b c h1 h2 => decide_eq_true (leS_trans (of_decide_eq_true h1) (of_decide_eq_true h2))) (fun a b => by
    rcases List.le_total (kS a) (kS b) with h | h
    · show (decide _ || decide _) = true
      rw [decide_eq_true h, Bool.true_or]
    · show (decide _ || decide _) = true
      rw [decide_eq_true h, Bool.or_true]) xs
  exact this.imp fun h => of_decide_eq_true h
theorem rising_pair : ∀ (ys : List Str) (p : Str), risingS p ys = true → (p :: ys).Pairwise (fun a b => kS a ≤ kS b)
  | [], p, _ => List.pairwise_singleton _ _
  | y :: ys, p, h => by
    have h : (!ltCps (kS y) (kS p) && risingS y ys) = true := h
    rw [Bool.and_eq_true, Bool.not_eq_true'] at h
    have ih := rising_pair ys y h.2
    have py := leS_of.mp h.1
    refine List.pairwise_cons.mpr ⟨fun z hz => ?_, ih⟩
    rcases List.mem_cons.mp hz with e | e
    · rw [e]; exact py
    · exact leS_trans py ((List.pairwise_cons.mp ih).1 z e)
theorem sortedS_pair : ∀ {ys : List Str}, sortedS ys = true → ys.Pairwise (fun a b => kS a ≤ kS b)
  | [], _ => .nil
  | y :: ys, h => rising_pair ys y h
theorem sortedS_uniq : ∀ {xs ys : List Str}, xs.Perm ys → xs.Pairwise (fun a b => kS a ≤ kS b) → ys.Pairwise (fun a b => kS a ≤ kS b) → xs = ys
  | [], ys, h, _, _ => h.nil_eq
  | x :: xs, [], h, _, _ => (h.symm.nil_eq).symm
  | x :: xs, y :: ys, h, hx, hy => by
    obtain ⟨hx1, hx2⟩ := List.pairwise_cons.mp hx
    obtain ⟨hy1, hy2⟩ := List.pairwise_cons.mp hy
    have e : x = y := by
      have m1 : x ∈ y :: ys := h.mem_iff.mp List.mem_cons_self
      have m2 : y ∈ x :: xs := h.mem_iff.mpr List.mem_cons_self
      rcases List.mem_cons.mp m1 with z | z
      · exact z
      · rcases List.mem_cons.mp m2 with w | w
        · exact w.symm
        · exact kS_inj (List.le_antisymm (hx1 y w) (hy1 x z))
    subst e
    rw [sortedS_uniq ((List.perm_cons x).mp h) hx2 hy2]
/-! ### sorted -/
def txK : List Key → Option (List Str)
  | [] => some []
  | .inr b :: r => (txK r).map (b :: ·)
  | _ => none
theorem txK_inr : ∀ {ks : List Key} {ss : List Str}, txK ks = some ss → ks = ss.map Sum.inr
  | [], ss, h => by cases h; rfl
  | .inr b :: r, ss, h => by
    have h : (txK r).map (b :: ·) = some ss := h
    obtain ⟨s2, h1, rfl⟩ := Option.map_eq_some_iff.mp h
    rw [txK_inr h1, List.map_cons]
  | .inl _ :: r, ss, h => by cases h
def nSortA : List D → R D
  | [.lst _ xs] => match dInts xs with
    | some ns => .ok (.lst (some 0) ((srt ns).map D.int))
    | none => match dStrs xs with
      | some ss => if ss.length < 64 then .ok (.lst (some 0) ((srtS ss).map D.str)) else .bad
      | none => .bad
  | [.dic _ ks _] => match txK ks with
      | some ss => if ss.length < 64 then .ok (.lst (some 0) ((srtS ss).map D.str)) else .bad
      | none => .bad
  | _ => .bad
theorem nx_sortA : ∀ ds w, nSortA ds ≠ .ex w := by
  intro ds w e
  unfold nSortA at e
  split at e
  · split at e
    · cases e
    · split at e
      · split at e <;> cases e
      · cases e
  · split at e
    · split at e <;> cases e
    · cases e
  · cases e
theorem rf_strs : ∀ ns : List Str, allRf (ns.map D.str) = true
  | [] => rfl
  | _ :: ns => rf_strs ns
def rSortD : List V → Hp → VK → Prop := fun xs H Q => ∃ (a : Addr) (kvs : List (Key × V)) (ks : List Str), xs = [.ref a] ∧ Rd H a (.dK kvs) ∧ kvs.map (·.1) = ks.map Sum.inr ∧ ks.length < 64 ∧
    ∀ ys p, ys.Perm ks → sortedS ys = true → H p = none → Q (.ref p) (upd H p (.lst (ys.map V.str)))
abbrev rSortA (K : PySem.W.Frag) : List V → Hp → VK → Prop := fun xs H Q => rSortedI K xs H Q ∨ rSortedS K xs H Q ∨ rSortD xs H Q
theorem cr_sortA {X : Cx} (hc : X.calm = true) : CallR X (.builtin "sorted") (rSortA X.K) := by
  intro pins s σ H vs us Q I r h
  rcases h with h | h | h
  · exact cr_sortedI pins s σ H vs us Q I r h
  · exact cr_sortedS pins s σ H vs us Q I r h
  · exact call_sortedD hc pins s σ H vs us Q I r h
section
variable {g : G} {gr : Bool} {F H : Hp}
theorem Op.dic {v : V} {o : Option Nat} {ks : List Key} {ds : List D} (s : Same F H) (h : Op gr g F H v (.dic o ks ds)) : ∃ a kvs, v = .ref a ∧ H a = some (.dK kvs) ∧ kvs.map (·.1) = ks := by
  cases gr with
  | true =>
    cases (show Rp g F v (.dic o ks ds) from h) with
    | dic h1 h2 r => exact ⟨_, _, rfl, s _ _ h1, h2⟩
  | false =>
    have h : Sw g F H v (.dic o ks ds) := h
    cases h with
    | dic h1 h2 r => exact ⟨_, _, rfl, h1, h2⟩
    | frz _ r => cases r with
      | dic h1 h2 r => exact ⟨_, _, rfl, s _ _ h1, h2⟩
theorem cd_sortA : CallD true gr g (rSortA g.K) nSortA := fun F H vs ds z Q s ha e q => by
  unfold nSortA at e
  split at e
  · obtain ⟨v, rfl, o⟩ := ha.one
    obtain ⟨a, us, rfl, h1, h2, r, _⟩ := o.lst s
    split at e
    · rename_i ns hns
      cases e
      have e1 := dInts_rp r hns
      subst e1
      refine .inl ⟨a, ns, rfl, h1, fun ns' p hp hs hn => ?_⟩
      have : ns' = srt ns := sorted_uniq (hp.trans (srt_perm ns).symm) hs (srt_pair ns)
      rw [this]
      exact out_lst s hn (rp_ints _) (allRf_ints _) q
    · split at e
      · rename_i ss hss
        obtain ⟨c, rfl⟩ := if_ok_inv e
        have e1 := dStrs_rp r hss
        subst e1
        refine .inr (.inl ⟨a, ss, rfl, h1, c, fun ns' p hp hs hn => ?_⟩)
        have : ns' = srtS ss := sortedS_uniq (hp.trans (srtS_perm ss).symm) (sortedS_pair hs) (srtS_pair ss)
        rw [this]
        exact out_lst s hn (rp_strs _) (rf_strs _) q
      · cases e
  · obtain ⟨v, rfl, o⟩ := ha.one
    obtain ⟨a, kvs, rfl, h1, h2⟩ := o.dic s
    split at e
    · rename_i ss hss
      obtain ⟨c, rfl⟩ := if_ok_inv e
      refine .inr (.inr ⟨a, kvs, ss, rfl, .inl h1, by rw [h2]; exact txK_inr hss, c, fun ns' p hp hs hn => ?_⟩)
      have : ns' = srtS ss := sortedS_uniq (hp.trans (srtS_perm ss).symm) (sortedS_pair hs) (srtS_pair ss)
      rw [this]
      exact out_lst s hn (rp_strs _) (rf_strs _) q
    · cases e
  · cases e
end
end Dt

set_option Elab.async false
set_option linter.all false
set_option maxRecDepth 100000
set_option maxHeartbeats 4000000
/-! Dat: len of an instance with its own __len__. -/
namespace Dt
open PySem PySem.Spec PyProof.Rows L2 PySem.Calls Builtin
def rLenI (C : Addr) (sp : Sp) (E : XK) : List V → Hp → VK → Prop := fun xs H Q => ∃ a dx fs, xs = [.ref a] ∧ H a = some (.ins C dx fs) ∧ sp [.ref a] H (fun v H' => ∃ n : Int, v = .int n ∧ (0 ≤ n ∧ n < 9223372036854775808) ∧ Q (.int n) H') E
section
variable {X : Cx} {CX : CXT} {k : Nat} {C g : Addr} {fd : FuncData} {ps : List Str} {sp : Sp} {E : XK}
theorem cr_lenI (hs : PySem.W.findIn X.K (.ref C) "__len__" = some (some (.ref g))) (hf : PySem.W.isFn X.K (.ref g) = true) (F : FnOk X.prog X.w X.K X.mg X.base CX k g fd ps sp) (hr : Room (k + 1) X.A) (hb : Binds X.K fd ps []) (hx : Passes CX X.nox E) : CallR X (.builtin "len") (rLenI C sp E) := by
  intro pins s σ H xs us Q I r h
  obtain ⟨a, dx, fs, rfl, ea, q⟩ := h
  rw [Vals.ref1 r]
  obtain ⟨mA, O, _, _, _, _⟩ := ins_get I.hok ea
  obtain ⟨od, J, _⟩ := O.look
  have hl : ([Value.ref a] ++ ([] : List Value)).length = ps.length := by
    rw [← F.len _ _ _ _ q]
    rfl
  refine Calls.call_function_entry kind_len plain_len entry_len (args_len1 _) ?_
  unfold Builtin.«len»
  refine wpAny_bind (m := oneArg "len" _) (wpAny_pure ?_)
  refine wpAny_bind (m := callSpecial? (.ref a) (Str.ofString "__len__")) (PySem.W.special_fn I.kIn J hs (beq_iff_eq.mp hf) ?_)
  refine wpAny_call (codeAny_mono (F.run X.A.in1 X.stack s H ⟨[.ref a], []⟩ [.ref a] [.ref a] _ E hr.in1 I.env0.in1 (hb _ [.ref a] I.kIn hl) (.cons rfl .nil) q) fun r s' hq => ?_)
  cases r with
  | error er => exact False.elim (hx pins σ H s er s' (I.wish _) hq)
  | ok fl =>
    cases fl with
    | ret u =>
      obtain ⟨v, H', I3, rv, n, rfl, ⟨h0, h1⟩, q3⟩ := I.after hq
      obtain ⟨t, rfl⟩ : ∃ t, u = .int n t := rv
      refine wpAny_bind (wpAny_holding (wpAny_pure ?_))
      refine wpAny_bind (wpAny_letGo ?_)
      show wpAny _ _ (if n < 0 then _ else _) _ _ _
      rw [if_neg (by omega)]
      show wpAny _ _ (if n ≥ 2 ^ 63 then _ else _) _ _ _
      rw [if_neg (by omega)]
      exact wpAny_bind (wpAny_mkInt (wpAny_pure ⟨_, rfl, ⟨.int n, H', I3.tok _, ⟨_, rfl⟩, q3⟩⟩))
    | next => exact False.elim hq
    | brk => exact False.elim hq
    | cont => exact False.elim hq
end
def lenO (C : String) (gr : Bool) (fn : List D → R D) (x : D) : R D := match fnMethP C "__len__" gr fn x [] with
  | .ok (.int n) => if 0 ≤ n ∧ n < 9223372036854775808 then .ok (.int n) else .bad
  | _ => .bad
/-- len(o), o an instance whose class has __len__ -/
def dLenO (C : String) (gr : Bool) (fn : List D → R D) (fa : Env → R D) : Env → R D := fun ρ => (fa ρ).bind fun x => lenO C gr fn (x.op gr)
section
variable {X : Cx} {W : Wx} {gr : Bool} {o : Expr} {pos p : Pos} {fa : Env → R D} {C : String} {k : Nat} {ps : List Str}
theorem de_lenO {fn : List D → R D} (Fn : DefP X.prog X.w X.K X.mg C "__len__" k ps fn) (hr : Room (k + 1) X.A) (hx : W.ex = none) (hn : 1 = ps.length) (hg : Gl X "len") (hm : X.mg "len" = none) (ho : DE gr X W o fa)
    (he : starEach [o] X.env = (false, eval o X.env) :: starEach [] X.env := by rfl) (hpl : (backTo pos (starEach [] X.env)).any (·.1) = false := by rfl) : DE true X W (.Call (.Name "len" p) [o] [] pos) (dLenO C gr fn fa) := by
  have eg : gx X W = ⟨X.K, X.mg, none⟩ := by show (⟨X.K, X.mg, W.ex⟩ : G) = _; rw [hx]
  obtain ⟨ca, f, fd, h1, h2, h3, h4, h5⟩ := Fn
  have h3at : PySem.W.findIn X.K (.ref ca) "__len__" = some (some (.ref f)) := h3.at_
  refine pe_imp (pe_callB (cr_lenI (sp := toSp0 ⟨X.K, X.mg, none⟩ ps.length fn) h3at h3.fn (h5 X.base) hr (binds_of h4) (passLN (X := X.nox))) hg hm (by decide +kernel) (pa_cons ho pa_nil he) (by decide) (by decide) he hpl) fun σ H Q => fun ⟨τ, B, F, ρ, RR, q⟩ => ?_
  refine ⟨τ, B, F, ρ, RR, ?_⟩
  unfold dLenO at q
  cases hf : fa ρ with
  | bad => rw [hf] at q; exact q
  | ex x => rw [hf] at q; exact q
  | ok x =>
    rw [hf, R.bind_ok] at q
    intro v H1 F1 s1 r1
    obtain ⟨F2, s2, ox⟩ := ResG.op s1 r1
    have q := q.step s2
    unfold lenO at q
    cases hz : fnMethP C "__len__" gr fn (x.op gr) [] with
    | bad => rw [hz] at q; exact q.elim
    | ex w => rw [hz] at q; exact q.elim
    | ok z =>
      rw [hz] at q
      cases z with
      | int n =>
        simp only at q
        split at q
        · rename_i hb
          obtain ⟨o', ns, vs, hx', hno⟩ := nx_methP_obj (C := C) (m := "__len__") (gr := gr) (fn := fn) (x := x.op gr) (ds := []) (by rw [hz]; exact fun e => nomatch e)
          have ox' := ox
          rw [hx'] at ox'
          obtain ⟨a, ca', dx, fs', rfl, k1, k2, k3, _⟩ := Op.obj s2.fh ox'
          have : ca' = ca := by
            have := k2.symm.trans h1
            cases this; rfl
          subst this
          show rLenI ca' _ _ [V.ref a] H1 Q
          refine ⟨a, dx, fs', rfl, k1, ?_⟩
          rw [eg] at q ox
          refine methP_call (W := ⟨fun _ _ _ _ => False, none⟩) (σ := σ) (ds := []) (C := C) (m := "__len__") (gr := gr) (x := x.op gr) s2.fh ox .nil rfl hn ?_
          rw [hz]
          intro v' H' F' st rg
          have r' : Rp (⟨X.K, X.mg, none⟩ : G) H' v' (.int n) := by
            obtain ⟨A, oo, _⟩ := rg
            exact oo.rp st.fh
          cases r'
          exact ⟨n, rfl, hb, q _ H' F' st rg⟩
        · exact q.elim
      | _ => exact q.elim
end
end Dt

set_option Elab.async false
set_option linter.all false
set_option maxRecDepth 100000
set_option maxHeartbeats 4000000
/-! Dat: x = range(a, b, c), walked by the comprehension of the next statement. -/
namespace Dt
open PySem PySem.Spec PyProof.Rows L2
/-- a range object -/
def rgO (p : Addr) (i j c : Int) : HO := .ext fun h => ∃ t u v, IsRange h p i j c t u v
def tRgO (ta : TA) : TE := fun σ H Q => ta σ H fun vs H1 => ∃ (i j c : Int) (n : Nat), vs = [.int i, .int j, .int c] ∧ RgC i j c n ∧ ∀ p, H1 p = none → Q (.ref p) (L2.upd H1 p (rgO p i j c))
def tRgV (i : Nat) : TI := fun σ H R => ∃ (p : Addr) (lo hi c : Int) (n : Nat), σ[i]? = some (some (.ref p)) ∧ H p = some (rgO p lo hi c) ∧ RgC lo hi c n ∧ R (Itc lo c n) H
section
variable {X : Cx} {tg : Expr}
theorem pe_rgO {a b c : Expr} {ta : TA} {p pos : Pos} (hg : Gl X "range") (hm : X.mg "range" = none) (ha : PA X [a, b, c] ta)
    (hs : starEach [a, b, c] X.env = (false, eval a X.env) :: starEach [b, c] X.env) (hpl : (backTo pos (starEach [b, c] X.env)).any (·.1) = false) :
    PE X (.Call (.Name "range" p) [a, b, c] [] pos) (tRgO ta) := by
  refine ⟨fun pins s σ H Q I h => ?_⟩
  refine Call_ (ld_blt I hg hm boot_range (PyProof.Rows.callWith_type1 (thn (ha.run pos pins s σ H _ I h) fun us s1 ⟨vs, H1, I1, r1, q1⟩ => ?_) hs hpl))
  obtain ⟨i, j, k, n, e, ⟨c0, c1, c2, c3⟩, q⟩ := q1
  subst e
  cases r1 with
  | cons r rr =>
    cases rr with
    | cons r' rr =>
      cases rr with
      | cons r'' rr =>
        cases rr
        obtain ⟨t, rfl⟩ := r
        obtain ⟨t', rfl⟩ := r'
        obtain ⟨t'', rfl⟩ := r''
        refine call_range_3 c0 ?_ (.inl (PyProof.noPylong_small c1))
        refine ⟨.ref s1.heap.objs.size, L2.upd H1 s1.heap.objs.size (rgO s1.heap.objs.size i j k), I1.laid (t' := s1.toks) (fun b o e => Heap.get?_push_of_some _ e) (Nat.le_refl _) ?_, rfl, q _ (I1.hok.fresh (Nat.le_refl _))⟩
        have nw := IsRange.new s1.heap i j k t t' t''
        exact ⟨⟨t, t', t'', nw⟩, ⟨_, nw⟩, fun h1 h2 ⟨x, y, z, e⟩ st => ⟨x, y, z, st _ e⟩⟩
theorem pi_rgV {i : Nat} {x : Str} {pos : Pos} (hN : X.N[i]? = some x) (vx : Vis X.env.scope x) (d1 : (x == ("__debug__" : Str)) = false) (d2 : (x == ("__classdict__" : Str)) = false) : PI X tg (.Name x pos) (tRgV i) := by
  refine ⟨fun pins s σ H R I h => ?_⟩
  obtain ⟨p, lo, hi, c, n, hσ, hp, ⟨c0, c1, c2, c3⟩, q⟩ := h
  refine thn ((pe_var (pos := pos) hN vx d1 d2).run pins s σ H (fun v H' => v = .ref p ∧ H' = H) I ⟨.ref p, hσ, rfl, rfl⟩) fun v s1 ⟨y, H1, I1, ry, ey, eH⟩ => ?_
  subst ey eH
  obtain rfl : v = Value.ref p := ry
  obtain ⟨⟨t, u, w, hr⟩, _, _⟩ := (show ObjOk X.prog X.w _ s1.heap p (rgO p lo hi c) from I1.hok p _ hp)
  refine wpAny_pyIter_range hr c2 ?_
  refine pi_one (tk := s1.toks) I1 _ (turn_rangeC _ lo c n) ?_ q
  have e1 : lo + ((0 : Nat) : Int) * c = lo := by simp
  have e2 : (n : Int) - ((0 : Nat) : Int) = Builtin.Range.rangeSize lo hi c := by rw [c3]; simp
  show IsRangeIter _ _ (lo + ((0 : Nat) : Int) * c) ((n : Int) - ((0 : Nat) : Int)) c
  rw [e1, e2]
  exact Heap.get?_push_size _ rfl
end
/-- x = range(..); y = [.. for .. in x] -/
def dRgLcF (i : Nat) (fs : Env → R (List D)) (j : Nat) (vs : List Nat) (tg : Tg) (ft : Env → R Bool) (fe : Env → R D) : DTS := fun ρ => match fs ρ with
  | .ok ds => (match nRangeC ds with
    | .ok items => if i < ρ.length then dSetF j (dLc vs (fun _ => .ok items) tg ft fe) (ρ.set i none) else .bad
    | _ => .bad)
  | .ex x => .xc x ρ
  | .bad => .bad
section
variable {X : Cx} {W : Wx} {i j : Nat} {x y : Str} {px px2 py p pos sp lpos spos : Pos} {a b c elt tgt : Expr} {ifs : List Expr} {scope : Scope} {own : List (Str × Nat)} {vs : List Nat} {fs : Env → R (List D)} {tg : Tg} {ft : Env → R Bool} {fe : Env → R D} {rest : List Stmt} {u : DTS}
theorem dss_rg0 {st2 : Stmt} (hN : X.N.Nodup) (hi : X.N[i]? = some x) (lx : L2.Loc X.env.scope x) (hf : X.fn x = true ∨ X.env.scope.names.lookup x = some .local)
    (hg : Gl X "range") (hm : X.mg "range" = none) (ha : DA true X W [a, b, c] fs)
    (h2 : PS X st2 (tAsg (tLc (tRgV i) (liftGp (gx X W) tg vs) (liftT (gx X W) (wish0 W) ft) (liftE true (gx X W) (wish0 W) fe) vs) (gName j)))
    (hr : DSs X W rest u)
    (hs : starEach [a, b, c] X.env = (false, eval a X.env) :: starEach [b, c] X.env) (hpl : (backTo pos (starEach [b, c] X.env)).any (·.1) = false)
    (hsx : swapsWith (.Call (.Name "range" p) [a, b, c] [] pos) (some (.Name x px)) sp.line X.env = pure false) :
    DSs X W (.Assign [.Name x px] (.Call (.Name "range" p) [a, b, c] [] pos) sp :: st2 :: rest) (dSeq (dRgLcF i fs j vs tg ft fe) u) := by
  refine pss_imp (pss_cons (ps_set (pos := sp) (pos' := px) hN hi lx (pe_rgO hg hm ha hs hpl) hsx hf) (pss_cons h2 hr)) fun E σ H => fun ⟨τ, B, F, ρ, R, q⟩ => ?_
  have q : outS (gx X W) W τ B F { E with nx := liftS (gx X W) W u E } (dRgLcF i fs j vs tg ft fe ρ) := outS.nxs (E' := { E with nx := _ }) q rfl rfl rfl fun ρ' σ' H' F' s e o => ⟨τ, B, F', ρ', e, o⟩
  unfold dRgLcF at q
  show tRgO (liftA true (gx X W) W fs) σ H (fun v H1 => tSeq (tAsg (tLc (tRgV i) (liftGp (gx X W) tg vs) (liftT (gx X W) (wish0 W) ft) (liftE true (gx X W) (wish0 W) fe) vs) (gName j)) (liftS (gx X W) W u) E (σ.set i (some v)) H1)
  refine ⟨τ, B, F, ρ, R, ?_⟩
  cases hfs : fs ρ with
  | bad => rw [hfs] at q; exact q
  | ex z => rw [hfs] at q; exact fun cls dd H' F' s r => q cls dd σ H H' F' (s.toI R.bh) (R.stepP s) r
  | ok ds =>
    rw [hfs] at q
    simp only at q
    intro ws H1 F1 s1 r1
    have R1 := R.stepP s1
    have q := outS.step (s1.toI R.bh) q
    cases hn : nRangeC ds with
    | bad => rw [hn] at q; exact q.elim
    | ex z => rw [hn] at q; exact q.elim
    | ok items =>
      rw [hn] at q
      have q : outS (gx X W) W τ B F1 _ (if i < ρ.length then dSetF j (dLc vs (fun _ => .ok items) tg ft fe) (ρ.set i none) else .bad) := q
      by_cases hil : i < ρ.length
      case neg => rw [if_neg hil] at q; exact q.elim
      rw [if_pos hil] at q
      have r1 : RpL (gx X W) F1 ws ds := r1
      have hn0 := hn
      unfold nRangeC at hn
      split at hn
      · rename_i lo hi' cc rr0
        split at hn
        · rename_i cond
          cases r1 with
          | cons k1 k2 => cases k1; cases k2 with
            | cons k3 k4 => cases k3; cases k4 with
              | cons k5 k6 =>
                cases k5; cases k6
                cases hn
                have rg : RgC lo hi' cc (Builtin.Range.rangeSize lo hi' cc).toNat := ⟨cond.1.1, cond.1.2, cond.2, PyProof.Rows.rangeSize_toNat _ _ _⟩
                refine ⟨lo, hi', cc, _, rfl, rg, fun P hP => ?_⟩
                have st : StepP F1 H1 F1 (L2.upd H1 P (rgO P lo hi' cc)) := step_new s1.fh hP
                have R2 := (R1.stepP st).forget2 i (some (.ref P))
                have q := outS.step (st.toI R1.bh) q
                have il : i < σ.length := by
                  obtain ⟨A, o, _⟩ := R.own
                  rw [o.length]
                  exact hil
                have L : tLc (liftI (gx X W) W fun _ => .ok (rangeCD lo cc (Builtin.Range.rangeSize lo hi' cc).toNat)) (liftGp (gx X W) tg vs) (liftT (gx X W) (wish0 W) ft) (liftE true (gx X W) (wish0 W) fe) vs (σ.set i (some (.ref P))) (L2.upd H1 P (rgO P lo hi' cc)) (fun z H3 => liftS (gx X W) W u E ((σ.set i (some (.ref P))).set j (some z)) H3) := by
                  refine lc_imp ⟨τ, B, F1, ρ.set i none, R2, ?_⟩
                  unfold dSetF at q
                  cases hf2 : dLc vs (fun _ => Dt.R.ok (rangeCD lo cc (Builtin.Range.rangeSize lo hi' cc).toNat)) tg ft fe (ρ.set i none) with
                  | ok d =>
                    rw [hf2] at q
                    intro v H' F' s r
                    obtain ⟨F3, s3, r3⟩ := r.frz s
                    exact q _ H' F3 (s3.toI R2.bh) (R2.setRes s3 r3 j)
                  | ex z => rw [hf2] at q; exact fun cls dd H' F' s r => q cls dd _ _ H' F' (s.toI R2.bh) (R2.stepP s) r
                  | bad => rw [hf2] at q; exact q
                obtain ⟨τ', B', F', ρ', E', oi⟩ := L
                refine ⟨P, lo, hi', cc, _, List.getElem?_set_self il, upd_same, rg, ?_⟩
                exact oi (Itc lo cc _) (fun _ => True) _ F' (StepP.refl E'.fh) src_rangeC trivial
        · cases hn
      · cases hn
theorem dss_rg (hc : X.calm = true) (hN : X.N.Nodup) (hi : X.N[i]? = some x) (lx : L2.Loc X.env.scope x) (vx : Vis X.env.scope x) (hf : X.fn x = true ∨ X.env.scope.names.lookup x = some .local) (d1 : (x == ("__debug__" : Str)) = false) (d2 : (x == ("__classdict__" : Str)) = false)
    (hg : Gl X "range") (hm : X.mg "range" = none) (ha : DA true X W [a, b, c] fs)
    (hy : X.N[j]? = some y) (hyl : X.env.scope.names.lookup y = some .local)
    (hsw : swapsWith (.ListComp elt [⟨tgt, .Name x px2, ifs, 0⟩] scope lpos) (some (.Name y py)) spos.line X.env = pure true) (ok : BlkOk X.N X.env.scope scope own) (hvs : own.map (·.2) = vs)
    (hgt : ∀ (s : Shared) (H : Hp) (C : Addr) (cl : List (Str × Addr)) (fp : List Addr), PG (X.blk s H scope (compEnvC scope cl C X.env) fp) tgt (liftGp (gx X W) tg vs))
    (ht : ∀ (s : Shared) (H : Hp) (C : Addr) (cl : List (Str × Addr)) (fp : List Addr), PTs (X.blk s H scope (compEnvC scope cl C X.env) fp) ifs (liftT (gx X W) (wish0 W) ft))
    (he : ∀ (s : Shared) (H : Hp) (C : Addr) (cl : List (Str × Addr)) (fp : List Addr), DE true (X.blk s H scope (compEnvC scope cl C X.env) fp) (wish0 W) elt fe)
    (hr : DSs X W rest u)
    (hs : starEach [a, b, c] X.env = (false, eval a X.env) :: starEach [b, c] X.env := by rfl) (hpl : (backTo pos (starEach [b, c] X.env)).any (·.1) = false := by rfl)
    (hsx : swapsWith (.Call (.Name "range" p) [a, b, c] [] pos) (some (.Name x px)) sp.line X.env = pure false := by rfl) (hs2 : ∀ z, foldedSetIterable (.Name x px2) X.env z = pure z := by intro _; rfl) :
    DSs X W (.Assign [.Name x px] (.Call (.Name "range" p) [a, b, c] [] pos) sp :: .Assign [.Name y py] (.ListComp elt [⟨tgt, .Name x px2, ifs, 0⟩] scope lpos) spos :: rest) (dSeq (dRgLcF i fs j vs tg ft fe) u) := by
  subst hvs
  exact dss_rg0 hN hi lx hf hg hm ha (ps_setLc hc hN hy hyl hsw (pi_rgV (tg := tgt) (pos := px2) hi vx d1 d2) ok (te := liftE true (gx X W) (wish0 W) fe) hgt ht he hs2) hr hs hpl hsx
theorem dss_rgC (hc : X.calm = true) (hN : X.N.Nodup) (hi : X.N[i]? = some x) (lx : L2.Loc X.env.scope x) (vx : Vis X.env.scope x) (hf : X.fn x = true ∨ X.env.scope.names.lookup x = some .local) (d1 : (x == ("__debug__" : Str)) = false) (d2 : (x == ("__classdict__" : Str)) = false)
    (hg : Gl X "range") (hm : X.mg "range" = none) (ha : DA true X W [a, b, c] fs)
    (hset : ∀ te, PE X (.ListComp elt [⟨tgt, .Name x px2, ifs, 0⟩] scope lpos) te → PS X (.Assign [.Name y py] (.ListComp elt [⟨tgt, .Name x px2, ifs, 0⟩] scope lpos) spos) (tAsg te (gName j))) (ok : BlkOk X.N X.env.scope scope own) (hvs : own.map (·.2) = vs)
    (hgt : ∀ (s : Shared) (H : Hp) (C : Addr) (cl : List (Str × Addr)) (fp : List Addr), PG (X.blk s H scope (compEnvC scope cl C X.env) fp) tgt (liftGp (gx X W) tg vs))
    (ht : ∀ (s : Shared) (H : Hp) (C : Addr) (cl : List (Str × Addr)) (fp : List Addr), PTs (X.blk s H scope (compEnvC scope cl C X.env) fp) ifs (liftT (gx X W) (wish0 W) ft))
    (he : ∀ (s : Shared) (H : Hp) (C : Addr) (cl : List (Str × Addr)) (fp : List Addr), DE true (X.blk s H scope (compEnvC scope cl C X.env) fp) (wish0 W) elt fe)
    (hr : DSs X W rest u)
    (hs : starEach [a, b, c] X.env = (false, eval a X.env) :: starEach [b, c] X.env := by rfl) (hpl : (backTo pos (starEach [b, c] X.env)).any (·.1) = false := by rfl)
    (hsx : swapsWith (.Call (.Name "range" p) [a, b, c] [] pos) (some (.Name x px)) sp.line X.env = pure false := by rfl) (hs2 : ∀ z, foldedSetIterable (.Name x px2) X.env z = pure z := by intro _; rfl) :
    DSs X W (.Assign [.Name x px] (.Call (.Name "range" p) [a, b, c] [] pos) sp :: .Assign [.Name y py] (.ListComp elt [⟨tgt, .Name x px2, ifs, 0⟩] scope lpos) spos :: rest) (dSeq (dRgLcF i fs j vs tg ft fe) u) := by
  subst hvs
  exact dss_rg0 hN hi lx hf hg hm ha (hset _ (pe_lc hc hN (pi_rgV (tg := tgt) (pos := px2) hi vx d1 d2) ok (te := liftE true (gx X W) (wish0 W) fe) hgt ht he hs2)) hr hs hpl hsx
end
end Dt

set_option Elab.async false
set_option linter.all false
set_option maxRecDepth 100000
set_option maxHeartbeats 4000000
/-! Dat: try .. except C: without a name. -/
namespace Dt
open PySem PySem.Spec PyProof.Rows L2
def leave0 : Out → Out
  | .nx ρ => .nx (ρ.map clean)
  | .bk ρ => .bk (ρ.map clean)
  | .ct ρ => .ct (ρ.map clean)
  | .rt d ρ => if d.noEx = true then .rt d (ρ.map fun _ => none) else .bad
  | _ => .bad
def dTry0 (cs : List String) (t : DTS) (C : String) (h : DTS) : DTS := fun ρ => match t ρ with
  | .xc x ρ' => if cs.contains x.C = true then (if isSubE x.C C = true then leave0 (h ρ') else .xc x ρ') else .bad
  | o => o
section
variable {X : Cx} {W : Wx} {x : Str} {body suite : List Stmt} {b₀ : Stmt} {np pos pos' : Pos} {t h : DTS}
theorem ds_try0 {cs : List String} {C : String} (hs : X.stack = X.env :: X.outer) (hf : X.env.frame = some X.env.locals) (hg : Gl X x) (hdb : (x == ("__debug__" : Str)) = false)
    (hx : nmS C = x) (hcs : cs.contains C = true) (ET : ErT X.K X.mg cs) (tk : L2N.Takes X W.w) (hex : W.ex = none)
    (hb : ∀ (W' : WX) (pn : List (Addr × Obj)) (xe : Value → Shared → Prop), L2N.Takes (X.tr pn xe) W' → PassesOwn (model X.prog X.w) X.A X.env xe → DSs (X.tr pn xe) ⟨W', none⟩ body t)
    (hsu : ∀ (a : Addr) (oe : Obj) (cls : Value) (d : Option Addr) (pn : List (Addr × Obj)), L2N.Zn cls d oe → (∃ vs, oe.data = .fields vs) → DSs (X.suite a ((a, oe) :: pn)) ⟨fun _ _ _ _ => False, some (a, cls, d)⟩ (b₀ :: suite) h) :
    DS X W (.Try body [.ExceptHandler (some (.Name x np)) none (b₀ :: suite) pos'] [] [] pos) (dTry0 cs t C h) := by
  obtain ⟨ca, hmc, _⟩ := (ET.c C hcs).at_
  rw [hx] at hmc
  refine ps_imp (L2N.ps_try_many (tb := fun W' => liftS ⟨X.K, X.mg, none⟩ ⟨W', none⟩ t) hs hf tk hb (L2N.HdsOk.cons (c := .ref ca) (ts := fun a cls d => liftS ⟨X.K, X.mg, some (a, cls, d)⟩ ⟨fun _ _ _ _ => False, some (a, cls, d)⟩ h) ⟨hg, hdb, .inl hmc⟩ hsu L2N.HdsOk.nil)) fun E σ H => fun ⟨τ, B, F, ρ, RR, q⟩ => ?_
  have eg : gx X W = ⟨X.K, X.mg, none⟩ := by show (⟨X.K, X.mg, W.ex⟩ : G) = _; rw [hex]
  rw [eg] at RR q
  refine ⟨τ, B, F, ρ, RR, ?_⟩
  unfold dTry0 at q
  cases ht : t ρ with
  | nx ρ' => rw [ht] at q; exact q
  | rt d ρ' => rw [ht] at q; exact q
  | bk ρ' => rw [ht] at q; exact q
  | ct ρ' => rw [ht] at q; exact q
  | bad => rw [ht] at q; exact q
  | xc xd ρ' =>
    rw [ht] at q
    have q : outS ⟨X.K, X.mg, none⟩ W τ B F E (if cs.contains xd.C = true then (if isSubE xd.C C = true then leave0 (h ρ') else .xc xd ρ') else .bad) := q
    split at q
    · rename_i hc
      intro cls dd σ' H1 H' F' s R' rx
      obtain ⟨da, e1, e2, e3⟩ := rx
      subst hx
      obtain ⟨ca', m1, m2, m3, m4, m5⟩ := (ET.c C hcs).at_
      rw [hmc] at m1
      cases m1
      have e1' : X.mg (nmS xd.C) = some (.ref da) := e1
      obtain ⟨p1, p2⟩ := ET.s xd.C C da ca hc hcs e1' hmc
      refine ⟨isSubE xd.C C, by rw [e2]; exact PySem.W.exm_ref m3 m5.hd m4 p1, fun hy a na => ?_, fun hno => ?_⟩
      · rw [if_pos hy] at q
        have q := outS.step s q
        have R2 : EnvR (⟨X.K, X.mg, some (a, cls, dd)⟩ : G) τ B F' H' σ' ρ' := EnvR.conv (g := ⟨X.K, X.mg, none⟩) (g' := ⟨X.K, X.mg, some (a, cls, dd)⟩) rfl rfl rfl R'
        refine ⟨τ, B, F', _, R2, ?_⟩
        cases ho : h ρ' with
        | nx ρ2 =>
          rw [ho] at q
          intro σ2 H2 F2 s2 R4
          exact q _ H2 F2 s2 (EnvR.cleaned (g := ⟨X.K, X.mg, some (a, cls, dd)⟩) (g' := ⟨X.K, X.mg, none⟩) rfl rfl R4)
        | bk ρ2 =>
          rw [ho] at q
          intro σ2 H2 F2 s2 R4
          exact q _ H2 F2 s2 (EnvR.cleaned (g := ⟨X.K, X.mg, some (a, cls, dd)⟩) (g' := ⟨X.K, X.mg, none⟩) rfl rfl R4)
        | ct ρ2 =>
          rw [ho] at q
          intro σ2 H2 F2 s2 R4
          exact q _ H2 F2 s2 (EnvR.cleaned (g := ⟨X.K, X.mg, some (a, cls, dd)⟩) (g' := ⟨X.K, X.mg, none⟩) rfl rfl R4)
        | rt d ρ2 =>
          rw [ho] at q
          have q : outS ⟨X.K, X.mg, none⟩ W τ B F' E (if d.noEx = true then .rt d (ρ2.map fun _ => none) else .bad) := q
          split at q
          · rename_i hd
            intro v σ2 H2 F2 s2 R4
            obtain ⟨A, o, b⟩ := R4.own
            cases o with
            | @cons _ _ _ _ A1 A2 o1 t1 o2 dj =>
              refine q v σ2 H2 F2 s2 ⟨R4.bh, R4.fh, A1 ++ [], .cons (Own.conv (g := ⟨X.K, X.mg, some (a, cls, dd)⟩) (g' := ⟨X.K, X.mg, none⟩) rfl rfl o1 (.inr (by rw [D.un, noEx_tag]; exact hd))) t1 (OwnE.none o2.length) (fun _ _ z => nomatch z), fun p hp => b p (by
                rw [List.append_nil] at hp
                exact List.mem_append_left _ hp)⟩
          · exact q.elim
        | xc x2 ρ2 => rw [ho] at q; exact q.elim
        | bad => rw [ho] at q; exact q.elim
      · rw [hno, if_neg Bool.false_ne_true] at q
        exact q cls dd σ' H1 H' F' s R' ⟨da, e1, e2, e3⟩
    · exact q.elim
end
end Dt

set_option Elab.async false
set_option linter.all false
set_option maxRecDepth 100000
set_option maxHeartbeats 4000000
/-! Dat: xs[lo:hi:k] of a list, k any expression. -/
namespace Dt
open PySem PySem.Spec PyProof.Rows L2
section
variable {X : Cx} {W : Wx} {gr : Bool} {e st a : Expr} {lo hi : Option Expr} {p2 pos : Pos} {te : TE} {tl th ts : TO} {fa : Env → R D} {fl fh fs : Env → R (Option Int)}
def tSl3V (K : PySem.W.Frag) (te : TE) (tl th ts : TO) : TE := fun σ H Q => te σ H fun x H1 => tl σ H1 fun l H2 => th σ H2 fun h H3 => ts σ H3 fun o H4 => ∃ k, o = some k ∧ k ≠ 0 ∧ rSl3 K k x l h H4 Q
theorem pe_slice3V (he : PE X e te) (hl : PO X lo tl) (hu : PO X hi th) (hs : PO X (some st) ts) :
    PE X (.Subscript e (.Slice lo hi (some st) p2) pos) (tSl3V X.K te tl th ts) := by
  refine ⟨fun pins s σ H Q I h => ?_⟩
  refine Subscript_ (thn (he.run pins s σ H _ I h) fun v s1 ⟨x, H1, I1, r1, q1⟩ => ?_)
  refine wpAny_Slice (thn (hl.run pins s1 σ H1 _ I1 q1) fun vl s2 ⟨l, H2, I2, pl, q2⟩ => thn (hu.run pins s2 σ H2 _ I2 q2) fun vu s3 ⟨u, H3, I3, pu, q3⟩ => ?_)
  refine thn (hs.run pins s3 σ H3 _ I3 q3) fun vs s4 ⟨o, H4, I4, ps, k, eo, hk, q4⟩ => ?_
  subst eo
  obtain ⟨b, xs, ex, hx, q⟩ := q4
  subst ex
  cases r1
  have I5 : Inv X pins σ H4 { s4 with heap := s4.heap.push { cls := .type "slice", data := .fields #[vl, vu, vs] } } := I4.kept (t' := s4.toks) fun b ob q => Heap.get?_push_of_some _ q
  obtain ⟨its, r, ht, hz⟩ := I5.list hx
  have hlen := r.length
  show wpAny (model X.prog X.w) X.A (subscriptTail e (.Slice lo hi (some st) p2) (.ref b) (.ref s4.heap.objs.size)) (EP X pins σ Q) X.xe { s4 with heap := s4.heap.push { cls := .type "slice", data := .fields #[vl, vu, vs] } }
  refine tail_any (ops := [.ref b, .ref s4.heap.objs.size]) ht.isList.typeIs (PySem.slot_list_getitem.lookup) ?_ (by with_unfolding_all rfl)
  refine wpAny_getItem_list_slice ht.isList (Heap.IsSliceOf.new _ vl vu vs) pl pu ps (fun z => hk (Option.some.inj z)) ?_ (by rw [List.size_toArray]; omega)
  have hsz := slicePick_size_le its.toArray l u (some k)
  rw [pickL_pick] at hsz ⊢
  refine ⟨.ref _, _, I5.laid (t' := s4.toks) (o := .lst (pickL xs l u k)) (fun b ob q => Heap.get?_push_of_some _ q) (Nat.le_refl _) ?_, rfl, q _ (I5.hok.fresh (Nat.le_refl _))⟩
  have rr : Vals (pickL xs l u k) (pickL its l u k) := by
    unfold pickL
    rw [hlen]
    exact vals_fm r _
  have l2 := rr.length
  refine ⟨?_, _, 0, rr, Heap.get?_push_size _ rfl⟩
  rw [l2]
  rw [List.size_toArray, List.size_toArray] at hsz
  omega
def dSl3V (gr : Bool) (fa : Env → R D) (fl fh fs : Env → R (Option Int)) : Env → R D := fun ρ => (fa ρ).bind fun x => (fl ρ).bind fun l => (fh ρ).bind fun h => (fs ρ).bind fun o => match o with
  | some k => if k ≠ 0 then fSl3 gr k (x.op gr) l h else .bad
  | none => .bad
theorem de_slice3V (ha : DE gr X W a fa) (hl : DO X W lo fl) (hh : DO X W hi fh) (hs : DO X W (some st) fs) : DE true X W (.Subscript a (.Slice lo hi (some st) p2) pos) (dSl3V gr fa fl fh fs) :=
  pe_imp (pe_slice3V ha hl hh hs) fun σ H Q => fun ⟨τ, B, F, ρ, E, q⟩ => by
  refine ⟨τ, B, F, ρ, E, ?_⟩
  unfold dSl3V at q
  cases hf : fa ρ with
  | bad => rw [hf] at q; exact q
  | ex x => rw [hf] at q; exact q
  | ok x =>
    rw [hf, Dt.R.bind_ok] at q
    intro vx H1 F1 s1 rx
    obtain ⟨F2, s2, ox⟩ := rx.op s1
    refine ⟨τ, B, F2, ρ, E.stepP s2, ?_⟩
    cases hl : fl ρ with
    | bad => rw [hl] at q; exact q
    | ex w => rw [hl] at q; exact fun cls dd H' F' s3 rx => q cls dd H' F' (s2.trans s3) (rx.back s2.hh)
    | ok l =>
      rw [hl, Dt.R.bind_ok] at q
      intro H3 F3 s3
      refine ⟨τ, B, F3, ρ, (E.stepP s2).stepP s3, ?_⟩
      cases hh : fh ρ with
      | bad => rw [hh] at q; exact q
      | ex w => rw [hh] at q; exact fun cls dd H' F' s4 rx => q cls dd H' F' ((s2.trans s3).trans s4) ((rx.back s3.hh).back s2.hh)
      | ok h =>
        rw [hh, Dt.R.bind_ok] at q
        intro H4 F4 s4
        refine ⟨τ, B, F4, ρ, ((E.stepP s2).stepP s3).stepP s4, ?_⟩
        cases hs : fs ρ with
        | bad => rw [hs] at q; exact q
        | ex w => rw [hs] at q; exact fun cls dd H' F' s5 rx => q cls dd H' F' (((s2.trans s3).trans s4).trans s5) (((rx.back s4.hh).back s3.hh).back s2.hh)
        | ok o =>
          rw [hs, Dt.R.bind_ok] at q
          intro H5 F5 s5
          cases o with
          | none => exact q.elim
          | some k =>
            have q : outE true (gx X W) W F H σ Q (if k ≠ 0 then fSl3 gr k (x.op gr) l h else .bad) := q
            by_cases hk : k ≠ 0
            · rw [if_pos hk] at q
              cases hz : fSl3 gr k (x.op gr) l h with
              | bad => rw [hz] at q; exact q.elim
              | ex w => exact absurd hz fSl3_nx
              | ok z =>
                have q' := q.step (((s2.trans s3).trans s4).trans s5)
                rw [hz] at q'
                exact ⟨k, rfl, hk, sl3_out s5.fh (((ox.step s3).step s4).step s5) hz q'⟩
            · rw [if_neg hk] at q
              exact q.elim
end
end Dt

set_option Elab.async false
set_option linter.all false
set_option maxRecDepth 100000
set_option maxHeartbeats 2000000
/-! Dat: dicts whose keys are numbers or texts: {}, d[k], d.get(k, x), k in d, d[k] = v. -/
namespace Dt
open PySem PySem.Spec PyProof.Rows L2
/-- a key -/
def keyD : D → Option Key
  | .int i => some (.inl i)
  | .str s => some (.inr s)
  | _ => none
/-- what stands under a key -/
def lkD : List Key → List D → Key → Option D
  | k :: ks, d :: ds, j => if k = j then some d else lkD ks ds j
  | _, _, _ => none
instance kMem : (k : Key) → (ks : List Key) → Decidable (k ∈ ks)
  | _, [] => .isFalse (fun h => nomatch h)
  | k, j :: ks => if h : k = j then .isTrue (by rw [h]; exact List.mem_cons_self) else match kMem k ks with
    | .isTrue m => .isTrue (List.mem_cons_of_mem _ m)
    | .isFalse m => .isFalse fun z => (List.mem_cons.mp z).elim h m
def kIx : List Key → Key → Nat
  | [], _ => 0
  | k :: ks, j => if k = j then 0 else kIx ks j + 1
section
variable {g : G} {gr : Bool} {F H : Hp}
theorem keyD_rp {v : V} {d : D} {k : Key} (h : keyD d = some k) (r : Rp g F v d) : v = kV k := by
  cases d with
  | int i => cases h; cases r; rfl
  | str s => cases h; cases r; rfl
  | _ => cases h
theorem lk_rp : ∀ {kvs : List (Key × V)} {ds : List D} {j : Key}, RpL g F (kvs.map (·.2)) ds → (∀ d, lkD (kvs.map (·.1)) ds j = some d → ∃ v, valV kvs j = some v ∧ Rp g F v d) ∧ (lkD (kvs.map (·.1)) ds j = none → valV kvs j = none)
  | [], _, j, h => by cases h; exact ⟨fun d e => (by cases e), fun _ => valV_nil⟩
  | p :: kvs, _, j, .cons (d := d) r t => by
    have ih := lk_rp (j := j) t
    by_cases e : p.1 = j
    · refine ⟨fun d' h => ?_, fun h => ?_⟩
      · have h : (if p.1 = j then some d else lkD (kvs.map (·.1)) _ j) = some d' := h
        rw [if_pos e] at h
        cases h
        exact ⟨_, valV_pos e, r⟩
      · have h : (if p.1 = j then some d else lkD (kvs.map (·.1)) _ j) = none := h
        rw [if_pos e] at h
        cases h
    · refine ⟨fun d' h => ?_, fun h => ?_⟩
      · have h : (if p.1 = j then some d else lkD (kvs.map (·.1)) _ j) = some d' := h
        rw [if_neg e] at h
        rw [valV_neg e]
        exact ih.1 d' h
      · have h : (if p.1 = j then some d else lkD (kvs.map (·.1)) _ j) = none := h
        rw [if_neg e] at h
        rw [valV_neg e]
        exact ih.2 h
theorem lk_sw : ∀ {kvs : List (Key × V)} {ds : List D} {j : Key}, SwL g F H (kvs.map (·.2)) ds → (∀ d, lkD (kvs.map (·.1)) ds j = some d → ∃ v, valV kvs j = some v ∧ Sw g F H v d) ∧ (lkD (kvs.map (·.1)) ds j = none → valV kvs j = none)
  | [], _, j, h => by cases h; exact ⟨fun d e => (by cases e), fun _ => valV_nil⟩
  | p :: kvs, _, j, .cons (d := d) r t => by
    have ih := lk_sw (j := j) t
    by_cases e : p.1 = j
    · refine ⟨fun d' h => ?_, fun h => ?_⟩
      · have h : (if p.1 = j then some d else lkD (kvs.map (·.1)) _ j) = some d' := h
        rw [if_pos e] at h
        cases h
        exact ⟨_, valV_pos e, r⟩
      · have h : (if p.1 = j then some d else lkD (kvs.map (·.1)) _ j) = none := h
        rw [if_pos e] at h
        cases h
    · refine ⟨fun d' h => ?_, fun h => ?_⟩
      · have h : (if p.1 = j then some d else lkD (kvs.map (·.1)) _ j) = some d' := h
        rw [if_neg e] at h
        rw [valV_neg e]
        exact ih.1 d' h
      · have h : (if p.1 = j then some d else lkD (kvs.map (·.1)) _ j) = none := h
        rw [if_neg e] at h
        rw [valV_neg e]
        exact ih.2 h
theorem Op.dic' {v : V} {o : Option Nat} {ks : List Key} {ds : List D} (s : Same F H) (h : Op gr g F H v (.dic o ks ds)) : ∃ a kvs g', v = .ref a ∧ H a = some (.dK kvs) ∧ kvs.map (·.1) = ks ∧ ResA g' g F H (kvs.map (·.2)) ds := by
  cases gr with
  | true =>
    cases (show Rp g F v (.dic o ks ds) from h) with
    | dic h1 h2 r => exact ⟨_, _, true, rfl, s _ _ h1, h2, r⟩
  | false =>
    have h : Sw g F H v (.dic o ks ds) := h
    cases h with
    | dic h1 h2 r => exact ⟨_, _, false, rfl, h1, h2, r⟩
    | frz _ r => cases r with
      | dic h1 h2 r => exact ⟨_, _, true, rfl, s _ _ h1, h2, r⟩
theorem lk_res {g' : Bool} {kvs : List (Key × V)} {ds : List D} {j : Key} (r : ResA g' g F H (kvs.map (·.2)) ds) : (∀ d, lkD (kvs.map (·.1)) ds j = some d → d.rf = true → ∃ v, valV kvs j = some v ∧ Rp g F v d) ∧ (lkD (kvs.map (·.1)) ds j = none → valV kvs j = none) := by
  cases g' with
  | true =>
    have r : RpL g F (kvs.map (·.2)) ds := r
    exact ⟨fun d h _ => (lk_rp r).1 d h, (lk_rp r).2⟩
  | false =>
    have r : SwL g F H (kvs.map (·.2)) ds := r
    refine ⟨fun d h c => ?_, (lk_sw r).2⟩
    obtain ⟨v, h1, h2⟩ := (lk_sw r).1 d h
    exact ⟨v, h1, h2.rf c⟩
end
def dDic : Env → R D := fun _ => .ok (.dic (some 0) [] [])
def fDG : D → D → R D
  | .dic _ ks ds, y => match keyD y with
    | some k => match lkD ks ds k with
      | some d => if d.rf = true then .ok d else .bad
      | none => .bad
    | none => .bad
  | _, _ => .bad
def fDIn : D → D → R D
  | y, .dic _ ks _ => match keyD y with
    | some k => .ok (.bl (decide (k ∈ ks)))
    | none => .bad
  | _, _ => .bad
def fDNotIn : D → D → R D
  | y, .dic _ ks _ => match keyD y with
    | some k => .ok (.bl (!decide (k ∈ ks)))
    | none => .bad
  | _, _ => .bad
def fDG2 : D → D → D → R D
  | .dic _ ks ds, y, z => match keyD y with
    | some k => match lkD ks ds k with
      | some d => if d.rf = true then .ok d else .bad
      | none => .ok z
    | none => .bad
  | _, _, _ => .bad
theorem nx_dg : ∀ x y w, fDG x y ≠ .ex w := by
  intro x y w e
  unfold fDG at e
  split at e
  · split at e
    · split at e
      · split at e <;> cases e
      · cases e
    · cases e
  · cases e
theorem nx_din : ∀ x y w, fDIn x y ≠ .ex w := by
  intro x y w e
  unfold fDIn at e
  split at e
  · split at e <;> cases e
  · cases e
theorem nx_dnotin : ∀ x y w, fDNotIn x y ≠ .ex w := by
  intro x y w e
  unfold fDNotIn at e
  split at e
  · split at e <;> cases e
  · cases e
def rDG : R2 := fun x y H Q => ∃ a v, x = .ref a ∧ DGet H a y (some v) ∧ Q v H
def rDIn : R2 := fun y x H Q => ∃ a o, x = .ref a ∧ DGet H a y o ∧ Q (.bl o.isSome) H
def rDNotIn : R2 := fun y x H Q => ∃ a o, x = .ref a ∧ DGet H a y o ∧ Q (.bl (!o.isSome)) H
section
variable {g : G} {g1 g2 : Bool} {F H : Hp}
theorem opd_dg : OpD g g1 g2 rDG fDG := opd_of fun F H vx vy x y z Q s hx hy e q => by
  unfold fDG at e
  split at e
  · split at e
    · rename_i k hk
      split at e
      · rename_i d hd
        obtain ⟨c, rfl⟩ := if_ok_inv e
        obtain ⟨a, kvs, g', rfl, h1, h2, r⟩ := hx.dic' s
        subst h2
        obtain ⟨v, h3, h4⟩ := (lk_res r).1 d hd c
        exact ⟨a, v, rfl, .inl ⟨kvs, k, .inl h1, keyD_rp hk (hy.rp s), h3.symm⟩, out_sc s h4 c q⟩
      · cases e
    · cases e
  · cases e
theorem val_mem (kvs : List (Key × V)) (k : Key) : (valV kvs k).isSome = decide (k ∈ kvs.map (·.1)) := by
  cases h : valV kvs k with
  | none => rw [decide_eq_false (valV_not h)]; rfl
  | some v => rw [decide_eq_true (valV_in h)]; rfl
theorem opd_din : OpD g g1 g2 rDIn fDIn := opd_of fun F H vx vy x y z Q s hx hy e q => by
  unfold fDIn at e
  split at e
  · split at e
    · rename_i k hk
      cases e
      obtain ⟨a, kvs, g', rfl, h1, h2, r⟩ := hy.dic' s
      subst h2
      refine ⟨a, valV kvs k, rfl, .inl ⟨kvs, k, .inl h1, keyD_rp hk (hx.rp s), rfl⟩, ?_⟩
      rw [val_mem]
      exact out_sc s (.bl _) rfl q
    · cases e
  · cases e
theorem opd_dnotin : OpD g g1 g2 rDNotIn fDNotIn := opd_of fun F H vx vy x y z Q s hx hy e q => by
  unfold fDNotIn at e
  split at e
  · split at e
    · rename_i k hk
      cases e
      obtain ⟨a, kvs, g', rfl, h1, h2, r⟩ := hy.dic' s
      subst h2
      refine ⟨a, valV kvs k, rfl, .inl ⟨kvs, k, .inl h1, keyD_rp hk (hx.rp s), rfl⟩, ?_⟩
      rw [val_mem]
      exact out_sc s (.bl _) rfl q
    · cases e
  · cases e
end
section
variable {X : Cx} {W : Wx} {gr g1 g2 g3 : Bool} {a b c e : Expr} {pos apos cpos : Pos} {fa fb fc fe : Env → R D} {fp : Env → R Pl} {fm : DTM}
theorem de_dic : DE true X W (.Dict [] [] pos) dDic := pe_imp pe_dnewK fun σ H Q => fun ⟨τ, B, F, ρ, E, q⟩ p n => by
  have st := step_new (o := .dK []) E.fh n
  refine q (.ref p) _ F st ⟨[p], .dic (kvs := []) upd_same (E.fh.free n) rfl .nil (fun z => nomatch z), fun x hx => ?_⟩
  rw [List.mem_singleton.mp hx]; exact n
theorem de_dg (hu : X.A.units + 65 < cLine) (ha : DE g1 X W a fa) (hb : DE g2 X W b fb) (hs : NoSl b := by exact fun _ _ _ h => nomatch h) : DE true X W (.Subscript a b pos) (dOp g1 g2 fDG fa fb) :=
  pe_imp (pe_dget (by omega) ha hb hs) fun _ _ _ q => lift2 (r := rDG) opd_dg nx_dg q
theorem de_din (hu : X.A.units + 65 < cLine) (ha : DE g1 X W a fa) (hb : DE g2 X W b fb) (hm : behindInMarks .In b = false := by rfl) : DE true X W (.Compare a [.In] [b] pos) (dOp g1 g2 fDIn fa fb) :=
  pe_imp (pe_cmp (pc_din (by omega) ha hb) hm) fun _ _ _ q => lift2 (r := rDIn) opd_din nx_din q
theorem de_dnotin (hu : X.A.units + 65 < cLine) (ha : DE g1 X W a fa) (hb : DE g2 X W b fb) (hm : behindInMarks .NotIn b = false := by rfl) : DE true X W (.Compare a [.NotIn] [b] pos) (dOp g1 g2 fDNotIn fa fb) :=
  pe_imp (pe_cmp (pc_dnotin (by omega) ha hb) hm) fun _ _ _ q => lift2 (r := rDNotIn) opd_dnotin nx_dnotin q
theorem dt_din (hu : X.A.units + 65 < cLine) (ha : DE g1 X W a fa) (hb : DE g2 X W b fb) (hm : behindInMarks .In b = false := by rfl) : DT X W (.Compare a [.In] [b] pos) (dB (dOp g1 g2 fDIn fa fb)) :=
  pt_imp (pt_cmp (pc_din (by omega) ha hb) hm) fun _ _ _ q => lift2 (r := rDIn) opd_din nx_din (liftB (gr := true) q)
theorem dt_dnotin (hu : X.A.units + 65 < cLine) (ha : DE g1 X W a fa) (hb : DE g2 X W b fb) (hm : behindInMarks .NotIn b = false := by rfl) : DT X W (.Compare a [.NotIn] [b] pos) (dB (dOp g1 g2 fDNotIn fa fb)) :=
  pt_imp (pt_cmp (pc_dnotin (by omega) ha hb) hm) fun _ _ _ q => lift2 (r := rDNotIn) opd_dnotin nx_dnotin (liftB (gr := true) q)
/-- d.get(k, x) -/
def dGet2 (g1 : Bool) (fa fb fc : Env → R D) : Env → R D := fun ρ => (fa ρ).bind fun x => match x.op g1 with
  | .dic _ ks ds => (fb ρ).bind fun y => (fc ρ).bind fun z => match keyD y.fr with
    | some k => match lkD ks ds k with
      | some d => if d.rf = true then .ok d else .bad
      | none => .ok z.fr
    | none => .bad
  | _ => .bad
theorem de_get2 (hu : X.A.units + 65 < cLine) (ha : DE g1 X W a fa) (hb : DE true X W b fb) (hc : DE true X W c fc) (m : M2 X a "get" apos b c cpos := by exact ⟨rfl, rfl, rfl, rfl⟩) :
    DE true X W (.Call (.Attribute a "get" apos) [b, c] [] cpos) (dGet2 g1 fa fb fc) := pe_imp (pe_dget2 (by omega) ha hb hc m) fun σ H Q => fun ⟨τ, B, F, ρ, E, q⟩ => by
  refine ⟨τ, B, F, ρ, E, ?_⟩
  unfold dGet2 at q
  cases hf : fa ρ with
  | bad => rw [hf] at q; exact q
  | ex x => rw [hf] at q; exact q
  | ok x =>
    rw [hf, R.bind_ok] at q
    intro vx H1 F1 s1 rx
    obtain ⟨F2, s2, ox⟩ := rx.op s1
    have E2 := E.stepP s2
    split at q
    · rename_i o ks ds hx
      rw [hx] at ox
      obtain ⟨p, kvs, g', rfl, h1, h2, r⟩ := ox.dic' s2.fh
      subst h2
      refine ⟨p, rfl, .inl ⟨kvs, .inl h1⟩, τ, B, F2, ρ, E2, ?_⟩
      have q := q.step s2
      cases hb : fb ρ with
      | bad => rw [hb] at q; exact q
      | ex x2 => rw [hb] at q; exact q
      | ok y =>
        rw [hb, R.bind_ok] at q
        intro vy H3 F3 s3 ry
        obtain ⟨F4, s4, oy⟩ := ry.op s3
        have E4 := E2.stepP s4
        have q := q.step s4
        refine ⟨τ, B, F4, ρ, E4, ?_⟩
        cases hc : fc ρ with
        | bad => rw [hc] at q; exact q
        | ex x2 => rw [hc] at q; exact q
        | ok z =>
          rw [hc, R.bind_ok] at q
          intro vz H5 F5 s5 rz
          obtain ⟨F6, s6, oz⟩ := rz.op s5
          have q := q.step s6
          have s26 := s4.trans s6
          have ox := Op.step s26 ox
          have h1' : H5 p = some (.dK kvs) := s26.hh _ _ h1
          split at q
          · rename_i k hk
            have oy : Rp (gx X W) F4 vy y.fr := oy
            have ek := keyD_rp hk oy
            obtain ⟨p', kvs', g2', e1, h3, h4, r'⟩ := ox.dic' s6.fh
            cases e1
            rw [h1'] at h3
            cases h3
            split at q
            · rename_i d hd
              split at q
              · rename_i c
                obtain ⟨v, h5, h6⟩ := (lk_res r').1 d hd c
                refine ⟨some v, .inl ⟨kvs, k, .inl h1', ek, h5.symm⟩, ?_⟩
                exact out_sc s6.fh h6 c q
              · exact q.elim
            · rename_i hd
              have h5 := (lk_res r').2 hd
              refine ⟨none, .inl ⟨kvs, k, .inl h1', ek, h5.symm⟩, ?_⟩
              exact out_sc s6.fh (show Rp (gx X W) F6 vz z.fr from oz) (D.rf_fr z) q
          · exact q.elim
    · exact q.elim
/-! ### d[k] = v -/
theorem valV_put1 : ∀ {kvs : List (Key × V)} {k : Key} {v : V}, (kvs.map (·.1)).Nodup → k ∈ kvs.map (·.1) → (putK kvs k v).map (·.1) = kvs.map (·.1) ∧ (putK kvs k v).map (·.2) = (kvs.map (·.2)).set (kIx (kvs.map (·.1)) k) v := by
  intro kvs k v hn hk
  have h1 : (kvs.any fun kv => decide (kv.1 = k)) = true := by
    obtain ⟨p, h1, h2⟩ := List.mem_map.mp hk
    exact List.any_eq_true.mpr ⟨p, h1, decide_eq_true h2⟩
  unfold putK
  rw [if_pos h1]
  clear h1
  induction kvs with
  | nil => cases hk
  | cons p kvs ih =>
    rw [List.map_cons, List.nodup_cons] at hn
    by_cases e : p.1 = k
    · have none : ∀ q ∈ kvs, ¬ q.1 = k := fun q hq z => hn.1 (by rw [e, ← z]; exact List.mem_map.mpr ⟨q, hq, rfl⟩)
      have same : kvs.map (fun kv => if kv.1 = k then (kv.1, v) else kv) = kvs := by
        conv => rhs; rw [← List.map_id kvs]
        exact List.map_congr_left fun q hq => if_neg (none q hq)
      rw [List.map_cons, if_pos e, same]
      refine ⟨rfl, ?_⟩
      show v :: kvs.map (·.2) = (p.2 :: kvs.map (·.2)).set (if p.1 = k then 0 else _) v
      rw [if_pos e]
      rfl
    · have hk' : k ∈ kvs.map (·.1) := by
        rcases List.mem_cons.mp hk with z | z
        · exact absurd z.symm e
        · exact z
      obtain ⟨i1, i2⟩ := ih hn.2 hk'
      rw [List.map_cons, if_neg e]
      refine ⟨?_, ?_⟩
      · rw [List.map_cons, i1]; rfl
      · rw [List.map_cons, i2]
        show p.2 :: _ = (p.2 :: kvs.map (·.2)).set (if p.1 = k then 0 else kIx (kvs.map (·.1)) k + 1) v
        rw [if_neg e]
        rfl
theorem valV_put2 {kvs : List (Key × V)} {k : Key} {v : V} (hk : ¬ k ∈ kvs.map (·.1)) : putK kvs k v = kvs ++ [(k, v)] := by
  refine putK_new v ?_
  cases h : valV kvs k with
  | none => rfl
  | some u => exact absurd (valV_in h) hk
/-- a dict of one's own is changed -/
theorem EnvR.mutD {g : G} {τ : List V} {B F H : Hp} {σ : L2.St} {ρ : Env} (E : EnvR g τ B F H σ ρ) {p : Pl} {u : V} {t : Nat} {ks : List Key} {xs : List D} (h : Loc H σ ρ p u) (e1 : getP ρ p = some (.dic (some t) ks xs)) :
    ∃ a kvs A0, u = .ref a ∧ H a = some (.dK kvs) ∧ kvs.map (·.1) = ks ∧ OwnL g F H (kvs.map (·.2)) xs A0 ∧ a ∉ A0 ∧ F a = none ∧ ∀ F' H' kvs' ks' ds A1, StepP F H F' H' → kvs'.map (·.1) = ks' → OwnL g F' H' (kvs'.map (·.2)) ds A1 → a ∉ A1 → (∀ q, q ∈ A1 → q ∈ A0 ∨ H q = none) →
      EnvR g τ B F' (L2.upd H' a (.dK kvs')) σ (putP ρ p (.dic (some t) ks' ds)) ∧ StepI B F F' (L2.upd H' a (.dK kvs')) := by
  obtain ⟨d, v0, h1, h2, h3, h4⟩ := getP_of h e1
  obtain ⟨A1, o1, hb, up⟩ := E.upd h1 h2 h3 h4
  cases (show Own g F H u (.dic (some 0) ks xs) A1 from o1) with
  | frz r _ => cases r
  | @dic a kvs _ _ A0 k1 k2 k3 k4 k5 =>
    refine ⟨a, kvs, A0, rfl, k1, k3, k4, k5, k2, fun F' H' kvs' ks' ds A2 s ek o na new => ?_⟩
    have fa : F' a = none := (s.new a _ k1).trans k2
    rw [putP_of h1]
    refine up F' _ (.dic (some t) ks' ds) (a :: A2) s.ff (fun q x hx => ?_) (.dic upd_same fa ek (o.mono' fun q hq => upd_ne fun z => na (by rw [← z]; exact hq)) na) rfl (fun q x hx hq => ⟨?_, s.new q x hx⟩) fun q hq => ?_
    · rw [upd_ne fun z => by rw [z, fa] at hx; cases hx]; exact s.fh q x hx
    · rw [upd_ne fun z => hq (by rw [z]; exact List.mem_cons_self)]; exact s.hh q x hx
    · rcases List.mem_cons.mp hq with z | z
      · exact .inl (by rw [z]; exact List.mem_cons_self)
      · exact (new q z).imp (fun y => List.mem_cons_of_mem _ y) id
/-- the dict of one's own at a place -/
def onDic (ρ : Env) (p : Pl) (k : Nat → List Key → List D → Out) : Out := match getP ρ p with
  | some (.dic (some t) ks xs) => k t ks xs
  | _ => .bad
theorem onDic_ok {g : G} {W : Wx} {τ : List V} {B F : Hp} {E : Ends} {ρ : Env} {p : Pl} {k : Nat → List Key → List D → Out} (h : outS g W τ B F E (onDic ρ p k)) : ∃ t ks xs, getP ρ p = some (.dic (some t) ks xs) ∧ outS g W τ B F E (k t ks xs) := by
  unfold onDic at h
  split at h
  · rename_i t ks xs hg; exact ⟨t, ks, xs, hg, h⟩
  · exact h.elim
def dDPut (fp : Env → R Pl) (fb fa : Env → R D) : DTS := fun ρ => Out.of (fa ρ) ρ fun d => Out.ofP (fp ρ) ρ fun p => onDic ρ p fun t ks xs => Out.of (fb ρ) ρ fun j => match keyD j with
  | some k => if ks.length < 16777216 then (if k ∈ ks then (if ks.Nodup then .nx (putP ρ p (.dic (some t) ks (xs.set (kIx ks k) d))) else .bad) else .nx (putP ρ p (.dic (some t) (ks ++ [k]) (xs ++ [d])))) else .bad
  | none => .bad
theorem ds_dput (hu : X.A.units + 65 < cLine) {v : Expr} {tpos : Pos} (hp : DPl X W a fp) (hb : DE g2 X W b fb) (he : DE true X W v fa)
    (hs : swapsWith v (some (.Subscript a b tpos)) pos.line X.env = pure false := by rfl) :
    DS X W (.Assign [.Subscript a b tpos] v pos) (dDPut fp fb fa) := ps_imp (ps_dput (by omega) hp hb he hs) fun E σ H => fun ⟨τ, B, F, ρ, R, q⟩ => by
  unfold dDPut at q
  refine lift_of R q fun d v H1 F1 hd s1 r1 q => ?_
  have R1 := R.stepP s1
  refine ⟨τ, B, F1, ρ, R1, ?_⟩
  cases hf : fp ρ with
  | bad => rw [hf] at q; exact q
  | ex x => rw [hf] at q; exact fun cls dd H' F' s r => q cls dd σ H1 H' F' (s.toI R1.bh) (R1.stepP s) r
  | ok p =>
    rw [hf, Out.ofP_ok] at q
    obtain ⟨t, ks, xs, hg, q⟩ := onDic_ok q
    intro u H2 F2 s2 l2
    have R2 := R1.stepP s2
    have q := outS.step (s2.toI R1.bh) q
    refine lift_of R2 q fun j w H3 F3 hj s3 r3 o => ?_
    have o : outS (gx X W) W τ B F3 E (match keyD j with
      | some k => if ks.length < 16777216 then (if k ∈ ks then (if ks.Nodup then .nx (putP ρ p (.dic (some t) ks (xs.set (kIx ks k) d))) else .bad) else .nx (putP ρ p (.dic (some t) (ks ++ [k]) (xs ++ [d])))) else .bad
      | none => .bad) := o
    split at o
    · rename_i k hk
      split at o
      · rename_i hlen
        have ew : w = kV k := keyD_rp hk (r3.rp s3)
        have l0 := R.locBack (s1.hh.trans s2.hh) l2
        obtain ⟨l, kvs, A0, rfl, k1, k2, k3, k4, k5, up⟩ := R.mutD l0 hg
        subst k2
        obtain ⟨Ay, oy, fy⟩ := r1
        have s13 := (s1.trans s2).trans s3
        have dj : ∀ x, x ∈ A0 → x ∉ Ay := fun x hx hy => by
          obtain ⟨_, z, hz⟩ := k3.mem x hx
          rw [fy x hy] at hz; cases hz
        have hl : kvs.length < sizeLine := by rw [List.length_map] at hlen; rw [sizeLine_eq]; exact hlen
        split at o
        · rename_i hin
          split at o
          · rename_i hnd
            obtain ⟨e1, e2⟩ := valV_put1 (v := v) hnd hin
            obtain ⟨A', o1, h1⟩ := (k3.stepP s13).set (n := kIx (kvs.map (·.1)) k) ((oy.stepP s2).stepP s3) dj
            rw [← e2] at o1
            obtain ⟨R3, s4⟩ := up F3 H3 (putK kvs k v) _ _ A' s13 e1 o1 (fun z => by
              rcases h1 l z with y | y
              · exact k4 y
              · rw [fy l y] at k1; cases k1) fun x hx => (h1 x hx).imp id (fy x)
            exact ⟨l, _, rfl, .inl ⟨kvs, k, s13.hh _ _ k1, ew, hl, rfl⟩, o σ _ F3 ⟨Same.refl F3, R3.fh, R3.bh, fun _ _ _ => rfl⟩ R3⟩
          · exact o.elim
        · rename_i hin
          have e1 := valV_put2 (v := v) hin
          obtain ⟨A', o1, h1⟩ := (k3.stepP s13).snoc ((oy.stepP s2).stepP s3) dj
          obtain ⟨R3, s4⟩ := up F3 H3 (kvs ++ [(k, v)]) (kvs.map (·.1) ++ [k]) (xs ++ [d]) A' s13 (by rw [List.map_append]; rfl) (by rw [List.map_append]; exact o1) (fun z => by
            rcases h1 l z with y | y
            · exact k4 y
            · rw [fy l y] at k1; cases k1) fun x hx => (h1 x hx).imp id (fy x)
          exact ⟨l, _, rfl, .inl ⟨kvs, k, s13.hh _ _ k1, ew, hl, by rw [e1]⟩, o σ _ F3 ⟨Same.refl F3, R3.fh, R3.bh, fun _ _ _ => rfl⟩ R3⟩
      · exact o.elim
    · exact o.elim
/-! ### (m, x), m changing what is one's own -/
def dTupM (fm : DTM) (fb : Env → R D) : DTM := fun ρ => match fm ρ with
  | .ok d ρ' => (match fb ρ' with
    | .ok y => .ok (.tup [d.fr, y.fr]) ρ'
    | .ex x => .ex x ρ'
    | .bad => .bad)
  | .ex x ρ' => .ex x ρ'
  | .bad => .bad
theorem dm_tup {x1} (ha : DM X W a fm) (hb : DE true X W b fb) (h1 : starEach (a :: [b]) X.env = (false, eval a X.env) :: starEach [b] X.env := by rfl) (h2 : starEach (b :: []) X.env = (false, eval b X.env) :: starEach [] X.env := by rfl) :
    DM X W (.Tuple [a, b] x1 pos) (dTupM fm fb) := pe_imp (pe_tup (pa_cons ha (pa_cons hb pa_nil h2) h1)) fun σ H Q => fun ⟨τ, B, F, ρ, R, q⟩ => by
  refine ⟨τ, B, F, ρ, R, ?_⟩
  unfold dTupM at q
  cases hf : fm ρ with
  | bad => rw [hf] at q; exact q
  | ex x ρ' => rw [hf] at q; exact q
  | ok d ρ' =>
    rw [hf] at q
    simp only at q
    intro v H1 F1 H'' si E1 sp rd
    obtain ⟨F2, s2, ox⟩ := rd.op sp
    have E2 := E1.stepP s2
    have si2 := si.trans (s2.toI E1.bh)
    refine ⟨τ, B, F2, ρ', E2, ?_⟩
    cases hfb : fb ρ' with
    | bad => rw [hfb] at q; exact q
    | ex x => rw [hfb] at q; exact fun cls dd H3 F3 s3 rx => q cls dd H1 H3 F3 (si2.trans (s3.toI E2.bh)) (E2.stepP s3) rx
    | ok y =>
      rw [hfb] at q
      intro vy H3 F3 s3 ry
      obtain ⟨F4, s4, oy⟩ := ry.op s3
      have E4 := E2.stepP s4
      refine ⟨by rw [sizeLine_eq]; show 2 ≤ _; omega, fun p n => ?_⟩
      have st := step_tup (vs := [v, vy]) E4.fh n
      have E5 := E4.stepP st
      refine q (.ref p) _ _ _ ((si2.trans (s4.toI E2.bh)).trans (st.toI E4.bh)) E5 (StepP.refl E5.fh) ⟨[], .frz rfl (.tup (.inl upd_same) (RpL.mono st.ff (.cons (Rp.mono s4.ff ox) (.cons oy .nil)))), fun _ z => nomatch z⟩
/-! ### text.upper() -/
def mUpper (a : Str) : R D := if a.length ≤ 5592405 then .ok (.str (Txt.upper a)) else .bad
theorem nx_upper : ∀ a w, mUpper a ≠ .ex w := by intro a w e; unfold mUpper at e; split at e <;> cases e
theorem de_upper {o : Expr} {fo : Env → R D} (ho : DE g1 X W o fo) (hbase : attributeBase o "upper" X.env (eval o X.env) = eval o X.env := by rfl) (hline : (apos.endLine == pos.line) = true := by rfl) :
    DE true X W (.Call (.Attribute o "upper" apos) [] [] pos) (dM0 mUpper fo) := de_m0 F.slot_str_upper F.type_str_upper mt_upper (fun F H a z Q s e q => by
  obtain ⟨c, rfl⟩ := if_ok_inv e
  exact ⟨_, rfl, rfl, c, out_sc s (.str _) rfl q⟩) nx_upper ho hbase hline
end
end Dt

set_option Elab.async false
set_option linter.all false
set_option maxRecDepth 100000
set_option maxHeartbeats 2000000
/-! Dat: defs with one keyword-only parameter whose default is a bool; their calls. -/
namespace Dt
open PySem PySem.Spec PyProof.Rows L2
/-- the text has the function x, which does fn; its last parameter is for the keyword kw alone, by default b -/
def DefKw (P : Program) (w : World) (K : PySem.W.Frag) (mg : Str → Option Value) (x : Str) (k : Nat) (ps : List Str) (n : Nat) (kw : Str) (b : Bool) (fn : List D → R D) : Prop :=
  ∃ f fd, mg x = some (.ref f) ∧ PySem.W.keepIn K (.ref f) = true ∧ (∃ ds, Vals [V.bl b] ds ∧ Binds K fd ps ds) ∧ KBn K fd ps n [kw] (fun us ws => us ++ ws) (fun vs zs => vs ++ zs) ∧
    ∀ base : Heap, FnOk P w K mg base (L2N.CX P w) k f fd ps (toSp0 ⟨K, mg, none⟩ ps.length fn)
theorem kw_facts {K : PySem.W.Frag} {kV : Value} {kw : Str} {b : Bool} {KD : Addr} (e : kV = .ref KD) (h : PySem.W.nsIn K KD kw = some (some (.bool b))) : KwdV K kV [(kw, .bl b)] :=
  .inr ⟨KD, e, fun q hq => by rw [List.mem_singleton.mp hq]; exact ⟨.bool b, h, rfl⟩⟩
theorem vals_app {vs zs : List V} {us ws : List Value} (h1 : Vals vs us) (h2 : Vals zs ws) : Vals (vs ++ zs) (us ++ ws) := by
  induction h1 with
  | nil => exact h2
  | cons a _ ih => exact .cons a ih
theorem pass_none {X : Cx} : Passes (L2N.CX X.prog X.w) X (fun _ _ _ => False) := fun _ _ _ _ _ _ _ h => by
  obtain ⟨_, _, _, _, _, _, _, _, _, _, _, _, z⟩ := h
  exact z.elim
theorem kbn_mk {K : PySem.W.Frag} {x qual kw : Str} {st : Stmt} {f : Addr} {fd : FuncData} {ps : List Str} {n : Nat} (F : Fun K x qual st f fd)
    (h : ∀ (kV doc pm : Value) (an : Option Addr) (cdv ct : Value) (us ws : List Value), us.length = n → ws.length = 1 → bindArgs (PySem.W.fnOf x qual (defArgs st) (defBody st) (defScope st) .none kV doc pm an cdv ct) ⟨us, [kw].zip ws⟩ = pure (ps.zip (us ++ ws))) :
    KBn K fd ps n [kw] (fun us ws => us ++ ws) (fun vs zs => vs ++ zs) := by
  obtain ⟨oc, od, kV, doc, pm, an, cdv, ct, osl, rfl, lk, hcd⟩ := F.ex
  exact ⟨fun s us ws _ h1 h2 => .of_eq (h kV doc pm an cdv ct us ws h1 h2), fun a b => vals_app a b⟩
def noX (r : R D) : R D := match r with
  | .ok d => .ok d
  | _ => .bad
section
variable {X : Cx} {W : Wx} {e y : Expr} {pos p kpos : Pos} {fy : Env → R D} {es : List Expr} {fs : Env → R (List D)} {k n : Nat} {ps : List Str} {fn : List D → R D} {x kw : Str} {b : Bool}
/-- f(..) by the default -/
def dCallKd (b : Bool) (fn : List D → R D) (fs : Env → R (List D)) : Env → R D := fun ρ => (fs ρ).bind fun ds => noX (fn (ds ++ [.bl b]))
/-- f(.., kw=y) -/
def dCallKw (fn : List D → R D) (fs : Env → R (List D)) (fy : Env → R D) : Env → R D := fun ρ => (fs ρ).bind fun ds => (fy ρ).bind fun y => noX (fn (ds ++ [y.fr]))
theorem de_callKd (F : DefKw X.prog X.w X.K X.mg x k ps n kw b fn) (hr : Room k X.A) (hx : W.ex = none) (hg : Gl X x) (ha : DA true X W (e :: es) fs) (hrf : RfA fs) (hda : ∀ ρ ds, fs ρ = .ok ds → ds.length = (e :: es).length) (hn : (e :: es).length + 1 = ps.length) (hdb : (x == ("__debug__" : Str)) = false := by decide)
    (he : starEach (e :: es) X.env = (false, eval e X.env) :: starEach es X.env := by rfl) (hpl : (backTo pos (starEach es X.env)).any (·.1) = false := by rfl) : DE true X W (.Call (.Name x p) (e :: es) [] pos) (dCallKd b fn fs) := by
  obtain ⟨f, fd, hm, hk, ⟨dv, v1, hb⟩, _, Fn⟩ := F
  refine pe_imp (pe_call (Fn X.base) hr hg hm hk hb v1 pass_none ha hdb he hpl) fun σ H Q => fun ⟨τ, B, F, ρ, RR, q⟩ => ?_
  have eg : gx X W = ⟨X.K, X.mg, none⟩ := by show (⟨X.K, X.mg, W.ex⟩ : G) = _; rw [hx]
  refine ⟨τ, B, F, ρ, RR, ?_⟩
  unfold dCallKd at q
  cases hf : fs ρ with
  | bad => rw [hf] at q; exact q
  | ex x => rw [hf] at q; exact q
  | ok ds =>
    rw [hf, R.bind_ok] at q
    intro vs H1 F1 s1 r
    have q' := q.step s1
    have r : RpL (gx X W) F1 vs ds := r
    rw [eg] at r q'
    have r2 : RpL ⟨X.K, X.mg, none⟩ F1 (vs ++ [V.bl b]) (ds ++ [D.bl b]) := by
      have go : ∀ {vs : List V} {ds : List D}, RpL ⟨X.K, X.mg, none⟩ F1 vs ds → RpL ⟨X.K, X.mg, none⟩ F1 (vs ++ [V.bl b]) (ds ++ [D.bl b]) := by
        intro vs ds h
        induction ds generalizing vs with
        | nil => cases h; exact .cons (.bl b) .nil
        | cons d ds ih => cases h with | cons a t => exact .cons a (ih t)
      exact go r
    refine ⟨by rw [List.length_append, r.length, hda ρ ds hf]; exact hn, F1, ds ++ [.bl b], s1.fh, r2, by
      unfold allRf
      rw [List.all_append]
      have := hrf ρ ds hf
      unfold allRf at this
      rw [this]
      rfl, ?_⟩
    unfold noX at q'
    cases hz : fn (ds ++ [.bl b]) with
    | ok z => rw [hz] at q'; exact q'
    | ex w => rw [hz] at q'; exact q'.elim
    | bad => rw [hz] at q'; exact q'.elim
theorem de_callKw (F : DefKw X.prog X.w X.K X.mg x k ps n kw b fn) (hr : Room k X.A) (hx : W.ex = none) (hg : Gl X x) (ha : DA true X W (e :: es) fs) (hy : DE true X W y fy) (hrf : RfA fs) (hda : ∀ ρ ds, fs ρ = .ok ds → ds.length = (e :: es).length) (hn : (e :: es).length = n) (hn2 : n + 1 = ps.length)
    (k1 : ((backToKw pos (keywordEach [⟨some kw, y, kpos⟩] X.env)).all fun x => x.fst.isSome) = true := by rfl) (k2 : List.filterMap (fun x => x.fst) (backToKw pos (keywordEach [⟨some kw, y, kpos⟩] X.env)) = [kw] := by rfl) (hdb : (x == ("__debug__" : Str)) = false := by decide)
    (he : starEach (e :: es) X.env = (false, eval e X.env) :: starEach es X.env := by rfl)
    (hpl : (((backTo pos (starEach (e :: es) X.env)).any fun x => x.fst) || (backToKw pos (keywordEach [⟨some kw, y, kpos⟩] X.env)).any fun x => x.fst.isNone) = false := by rfl) : DE true X W (.Call (.Name x p) (e :: es) [⟨some kw, y, kpos⟩] pos) (dCallKw fn fs fy) := by
  obtain ⟨f, fd, hm, hk, _, kb, Fn⟩ := F
  refine pe_imp (pe_callN (Fn X.base) hr hg hm hk kb pass_none ha (pk_cons hy pk_nil) k1 k2 hdb he hpl) fun σ H Q => fun ⟨τ, B, F, ρ, RR, q⟩ => ?_
  have eg : gx X W = ⟨X.K, X.mg, none⟩ := by show (⟨X.K, X.mg, W.ex⟩ : G) = _; rw [hx]
  refine ⟨τ, B, F, ρ, RR, ?_⟩
  unfold dCallKw at q
  cases hf : fs ρ with
  | bad => rw [hf] at q; exact q
  | ex x => rw [hf] at q; exact q
  | ok ds =>
    rw [hf, R.bind_ok] at q
    intro vs H1 F1 s1 r
    have R1 := RR.stepP s1
    have q := q.step s1
    refine ⟨τ, B, F1, ρ, R1, ?_⟩
    cases hfy : fy ρ with
    | bad => rw [hfy] at q; exact q
    | ex x => rw [hfy] at q; exact q
    | ok yd =>
      rw [hfy, R.bind_ok] at q
      intro vy H3 F3 s3 ry
      obtain ⟨F4, s4, oy⟩ := ry.op s3
      have q' := q.step s4
      have r : RpL (gx X W) F4 vs ds := RpL.mono s4.ff r
      have oy : Rp (gx X W) F4 vy yd.fr := oy
      rw [eg] at r q' oy
      have r2 : RpL ⟨X.K, X.mg, none⟩ F4 (vs ++ [vy]) (ds ++ [yd.fr]) := by
        have go : ∀ {vs : List V} {ds : List D}, RpL ⟨X.K, X.mg, none⟩ F4 vs ds → RpL ⟨X.K, X.mg, none⟩ F4 (vs ++ [vy]) (ds ++ [yd.fr]) := by
          intro vs ds h
          induction ds generalizing vs with
          | nil => cases h; exact .cons oy .nil
          | cons d ds ih => cases h with | cons a t => exact .cons a (ih t)
        exact go r
      have vl : vs.length = n := by rw [r.length, hda ρ ds hf]; exact hn
      refine ⟨vl, rfl, by rw [List.length_append, vl]; exact hn2, F4, ds ++ [yd.fr], s4.fh, r2, by
        unfold allRf
        rw [List.all_append]
        have := hrf ρ ds hf
        unfold allRf at this
        rw [this]
        show (yd.fr.rf && true) = true
        rw [D.rf_fr]
        rfl, ?_⟩
      unfold noX at q'
      cases hz : fn (ds ++ [yd.fr]) with
      | ok z => rw [hz] at q'; exact q'
      | ex w => rw [hz] at q'; exact q'.elim
      | bad => rw [hz] at q'; exact q'.elim
end
@[simp] theorem ev_callKd {b : Bool} {fn : List D → R D} {fs : Env → R (List D)} {ρ : Env} : dCallKd b fn fs ρ = (fs ρ).bind fun ds => noX (fn (ds ++ [.bl b])) := rfl
@[simp] theorem ev_callKw {fn : List D → R D} {fs : Env → R (List D)} {fy : Env → R D} {ρ : Env} : dCallKw fn fs fy ρ = (fs ρ).bind fun ds => (fy ρ).bind fun y => noX (fn (ds ++ [y.fr])) := rfl
@[simp] theorem noX_ok (d : D) : noX (.ok d) = .ok d := rfl
end Dt

set_option Elab.async false
set_option linter.all false
set_option maxRecDepth 100000
set_option maxHeartbeats 2000000
/-! Dat: for i, c in enumerate(text). -/
namespace EnS
open PySem PySem.Spec PyProof.Rows L2 Dt
/-- the signs of a text, each with its number in a new tuple -/
def Itse (x : Str) : It :=
  ⟨fun i _ => i < x.cps.size,
   fun i H v H' => ∃ (T : Addr) (c : Nat), v = .ref T ∧ H T = none ∧ x.cps[i]? = some c ∧ H' = upd H T (.tup [.int (i : Int), .str ⟨#[c]⟩]),
   fun i _ => x.cps.size ≤ i⟩
theorem draws_str {prog : Program} {w : World} {A : Around} (hh : A.handled = none) (it : Addr) (x : Str) (t : Tok) :
    Draws prog w A it [it] x.cps.size (fun i v => ∃ c u, x.cps[i]? = some c ∧ v = Value.str { cps := #[c] } u) fun i h => h.IsStrIter it (strIterType x) x t i := by
  unfold strIterType
  split
  · exact Draws.strAscii hh it x t
  · exact Draws.strWide hh it x t
theorem turn_enumS {P : Program} {w : World} {K : PySem.W.Frag} {elts : List Expr} {kk : Nat} {tpos : Pos} (x : Str) (t : Tok) (e it : Addr) : Turn P w K (.Tuple elts kk tpos) (Itse x) [e, it] e (fun i h => (∃ old, IsEnum h e it (i : Int) old) ∧ h.IsStrIter it (strIterType x) x t i ∧ e ≠ it ∧ i ≤ x.cps.size) where
  mem := List.mem_cons_self
  obj := fun i h ⟨⟨old, he⟩, ⟨o, ho, hc, hd⟩, _, _⟩ b hb => by
    simp only [List.mem_cons, List.not_mem_nil, or_false] at hb
    rcases hb with rfl | rfl
    · exact ⟨_, he, fun v q => nomatch q⟩
    · exact ⟨o, ho, fun v q => by rw [hd] at q; cases q⟩
  keep := fun i h h' ⟨⟨old, he⟩, ⟨o, ho, hc, hd⟩, ne, hi⟩ k => ⟨⟨old, k e List.mem_cons_self _ he⟩, ⟨o, k it (List.mem_cons_of_mem _ List.mem_cons_self) _ ho, hc, hd⟩, ne, hi⟩
  item := by
    intro X hP hw hK hc i pins s σ H E I hf ⟨⟨old, he⟩, hst, ne, hi⟩ hg
    subst hP hw hK
    have hg : i < x.cps.size := hg
    have hh : X.A.in1.handled = none := I.ok.hd hc
    refine wpAny_pyNext_enum_itemD (draws_str hh it x t) he hst hg ne (by simpa using ne) fun v h' tk ⟨c, u, hc1, hv⟩ ho st' hT hsz hk => ?_
    subst hv
    refine ⟨_, rfl, wpAny_letOwnedTupleGo_enum ho fun h'' he'' sb => ?_⟩
    have hel : e < s.heap.objs.size := Heap.lt_size he
    have hitl : it < s.heap.objs.size := by
      obtain ⟨o, ho, _⟩ := hst
      exact Heap.lt_size ho
    have hT2 : h''.get? s.heap.objs.size = some { cls := .type "tuple", data := .seq #[Value.int (i : Int) tk, Value.str ⟨#[c]⟩ u] } := (sb.2 _ (Nat.ne_of_gt hel)).trans hT
    have new : ObjOk X.prog X.w (upd H s.heap.objs.size (.tup [.int (i : Int), .str ⟨#[c]⟩])) h'' s.heap.objs.size (.tup [.int (i : Int), .str ⟨#[c]⟩]) :=
      ⟨by rw [sizeLine_eq]; show 2 ≤ _; omega, [Value.int (i : Int) tk, Value.str ⟨#[c]⟩ u], .cons (show RelV (.int (i : Int)) (.int i tk) from ⟨tk, rfl⟩) (.cons (show RelV (.str ⟨#[c]⟩) (.str ⟨#[c]⟩ u) from ⟨u, rfl⟩) .nil), ⟨_, hT2, rfl, _, rfl⟩⟩
    have I1 : Inv X pins σ (upd H s.heap.objs.size (.tup [.int (i : Int), .str ⟨#[c]⟩])) { s with heap := h'', toks := tk + 1 } :=
      I.turnedNew (t' := tk + 1) (ch := [e, it]) (fun b o hb q => (sb.2 b (fun z => hb (by rw [z]; exact List.mem_cons_self))).trans (hk b o (fun z => hb (by rw [z]; exact List.mem_cons_self)) (fun z => hb (by rw [z]; exact List.mem_cons_of_mem _ List.mem_cons_self)) q)) hf (Nat.le_refl _) new
    refine ⟨.ref s.heap.objs.size, _, I1, rfl, ⟨_, c, rfl, I.hok.fresh (Nat.le_refl _), hc1, rfl⟩, ⟨⟨_, by
      have : ((i + 1 : Nat) : Int) = (i : Int) + 1 := by omega
      rw [this]
      exact he''⟩, ?_, ne, hg⟩, fun b hb => ?_⟩
    · obtain ⟨o, ho, h1, h2⟩ := st'
      exact ⟨o, (sb.2 it (Ne.symm ne)).trans ho, h1, h2⟩
    · have hlt : b ≠ s.heap.objs.size := by
        simp only [List.mem_cons, List.not_mem_nil, or_false] at hb
        rcases hb with rfl | rfl
        · exact Nat.ne_of_lt hel
        · exact Nat.ne_of_lt hitl
      rw [upd_ne hlt]
      exact (hf b hb).1
  done := by
    intro X hP hw hK hc i pins s σ H E I hf ⟨⟨old, he⟩, hst, ne, hi⟩ hg
    subst hP hw hK
    have hg : x.cps.size ≤ i := hg
    have ei : i = x.cps.size := by omega
    have hh : X.A.in1.handled = none := I.ok.hd hc
    rw [ei] at hst
    refine wpAny_pyNext_enum_endD (draws_str hh it x t) he hst fun h' hk => ⟨rfl, I.turnedL (t' := s.toks) (ch := [e, it]) (fun b o hb q => hk b o (fun z => hb (by rw [z]; exact List.mem_cons_of_mem _ List.mem_cons_self)) q) hf⟩
  self := fun A i s Q E ⟨⟨old, he⟩, _⟩ h => wpAny_pyIter_enum he h
def iEnumS (ta : TA) : TI := fun σ H R => ta σ H fun vs H1 => ∃ x : Str, vs = [.str x] ∧ R (Itse x) H1
theorem pi_enumS {X : Cx} {e : Expr} {ta : TA} {p pos tpos : Pos} {elts : List Expr} {kk : Nat} (hg : Gl X "enumerate") (hm : X.mg "enumerate" = none) (ha : PA X [e] ta) (hs2 : starEach [e] X.env = [(false, eval e X.env)] := by rfl) :
    PI X (.Tuple elts kk tpos) (.Call (.Name "enumerate" p) [e] [] pos) (iEnumS ta) := by
  refine ⟨fun pins s σ H R I h => ?_⟩
  refine Call_ (ld_blt I hg hm boot_enumerate (PyProof.Rows.callWith_type1 (thn (ha.run pos pins s σ H _ I h) fun us s1 ⟨vs, H1, I1, r1, q1⟩ => ?_) hs2 rfl))
  obtain ⟨x, ex, q⟩ := q1
  subst ex
  cases r1 with
  | cons r rr =>
    cases rr
    obtain ⟨t, rfl⟩ := r
    refine call_enumerate_str fun h' he hit hsz hk => wpAny_pyIter_enum he ?_
    have I3 : Inv X pins σ H1 { s1 with heap := h' } := I1.kept (t' := s1.toks) hk
    refine ⟨_, _, _, _, H1, rfl, I3, turn_enumS x t (s1.heap.objs.size + 1) s1.heap.objs.size, ⟨⟨_, he⟩, hit, Nat.succ_ne_self _, Nat.zero_le _⟩, fun b hb => ?_, q⟩
    simp only [List.mem_cons, List.not_mem_nil, or_false] at hb
    have hle : s1.heap.objs.size ≤ b := by
      rcases hb with rfl | rfl
      · exact Nat.le_succ _
      · exact Nat.le_refl _
    exact I1.fpOk hle (I1.hok.fresh hle)
end EnS
namespace Dt
open PySem PySem.Spec PyProof.Rows L2
/-- the signs of a text with their numbers -/
def nEnumS : List D → R (List D)
  | [.str z] => .ok (enumD 0 (z.cps.toList.map fun c => .str ⟨#[c]⟩))
  | _ => .bad
theorem src_enumS {g : G} {z : Str} : Src g (EnS.Itse z) (enumD 0 (z.cps.toList.map fun c => .str ⟨#[c]⟩)) (fun _ => True) where
  go := fun i F H hi _ _ => by
    rw [enum_length, List.length_map, Array.length_toList] at hi
    exact hi
  stop := fun i F H hi _ _ => by
    rw [enum_length, List.length_map, Array.length_toList] at hi
    exact hi
  yld := fun i d F H x H' _ s e ⟨T, c, e1, nT, e2, e3⟩ => by
    subst e1 e3
    obtain ⟨y, k1, rfl⟩ := enum_get 0 _ i e
    rw [List.getElem?_map, Array.getElem?_toList, e2] at k1
    cases k1
    have st := step_tup (vs := [.int (i : Int), .str ⟨#[c]⟩]) s nT
    rw [Nat.zero_add]
    exact ⟨_, st, .tup (.inl upd_same) (RpL.mono st.ff (.cons (.int _) (.cons (.str _) .nil))), rfl⟩
  mono := fun _ _ _ _ => trivial
section
variable {X : Cx} {W : Wx} {a : Expr}
theorem di_enumS {fs : Env → R (List D)} {p tpos pos : Pos} {elts : List Expr} {kk : Nat} (hg : Gl X "enumerate") (hm : X.mg "enumerate" = none) (ha : DA true X W [a] fs) (hs : starEach [a] X.env = [(false, eval a X.env)] := by rfl) :
    DI X W (.Tuple elts kk tpos) (.Call (.Name "enumerate" p) [a] [] pos) (dArgs nEnumS fs) :=
  pi_imp (EnS.pi_enumS hg hm ha hs) (di_argsT (K := fun vs H1 R => ∃ x : Str, vs = [.str x] ∧ R (EnS.Itse x) H1) fun vs ds H F σ Q s r q => by
  unfold nEnumS at q
  split at q
  · cases r with
    | cons r1 r2 => cases r2; cases r1 with
      | str z => exact ⟨_, rfl, q _ _ H F (StepP.refl s) src_enumS trivial⟩
  · exact q.elim)
end
end Dt

set_option Elab.async false
set_option linter.all false
set_option maxRecDepth 100000
set_option maxHeartbeats 2000000
/-! Dat: dicts whose keys are tuples of whole numbers; max, min of a tuple. -/
namespace Dt
open PySem PySem.Spec PyProof.Rows L2
/-! ### max, min of a tuple -/
def rMaxT (K : PySem.W.Frag) : List V → Hp → VK → Prop := fun vs H Q => ∃ (a : Addr) (ns : List Int), vs = [V.ref a] ∧ SqT K H a (ns.map V.int) ∧ 0 < ns.length ∧ ∀ m, m ∈ ns → (∀ y, y ∈ ns → y ≤ m) → Q (.int m) H
def rMinT (K : PySem.W.Frag) : List V → Hp → VK → Prop := fun vs H Q => ∃ (a : Addr) (ns : List Int), vs = [V.ref a] ∧ SqT K H a (ns.map V.int) ∧ 0 < ns.length ∧ ∀ m, m ∈ ns → (∀ y, y ∈ ns → m ≤ y) → Q (.int m) H
theorem vals_int : ∀ {ns : List Int} {its : List Value}, Vals (ns.map V.int) its → ∀ (i : Nat) (v : Value), its[i]? = some v → ∃ t, v = .int (ns.getD i 0) t
  | [], _, .nil, i, v, h => by simp at h
  | n :: ns, _, .cons r t, 0, v, h => by
    simp at h
    subst h
    obtain ⟨tk, rfl⟩ := r
    exact ⟨tk, rfl⟩
  | n :: ns, _, .cons r t, i + 1, v, h => by
    obtain ⟨tk, e⟩ := vals_int t i v (by simpa using h)
    exact ⟨tk, by rw [e]; simp⟩
theorem getD_mem0 {ns : List Int} {k : Nat} (h : k < ns.length) : ns.getD k 0 ∈ ns := by
  rw [List.getD_eq_getElem?_getD, List.getElem?_eq_getElem h]
  exact List.getElem_mem h
theorem cr_maxT {X : Cx} (hc : X.calm = true) : CallR X (.builtin "max") (rMaxT X.K) := by
  intro pins s σ H vs us Q I r ⟨a, ns, ev, hs, hn, q⟩
  subst ev
  cases r with
  | cons r rr =>
    cases rr
    cases r
    obtain ⟨its, rv, p, hz⟩ := I.tuple hs
    have la : a < s.heap.objs.size := by
      obtain ⟨o, ho, _⟩ := p
      exact Heap.lt_size ho
    have hl : its.length = ns.length := by
      have := rv.length
      rw [List.length_map] at this
      exact this.symm
    have hh : X.A.in1.handled = none := I.ok.hd hc
    refine call_max_walkS (wpAny_pyIter_tuple p ⟨s.heap.objs.size, _, _, _, _, _, _, _, rfl, (Walks.tuple hh s.heap.objs.size a (Nat.ne_of_lt la) its.toArray).toS, ⟨⟨_, Heap.get?_push_size _ (ho := rfl), rfl, rfl⟩, ?_⟩, fun b hb => ?_, by rw [List.size_toArray, hl]; exact hn, CmpOf.ints_gt (fun i => ns.getD i 0) (fun i v h => vals_int rv i v (by simpa using h)), fun v s' hP hM => ?_⟩)
    · obtain ⟨o, ho, h1⟩ := p
      exact ⟨o, Heap.get?_push_of_some _ ho, h1⟩
    · have e : b = s.heap.objs.size ∨ b = a := by simpa using hb
      show b < (s.heap.push _).objs.size
      rw [Heap.size_push]
      rcases e with rfl | rfl
      · exact Nat.lt_succ_self _
      · exact Nat.lt_succ_of_lt la
    · have ab := argBest_gt (fun i => ns.getD i 0) (its.toArray.size - 1)
      rw [List.size_toArray, hl] at ab hP
      obtain ⟨t, rfl⟩ := vals_int rv _ v (by simpa using hP)
      have hlt : argBest (fun i j => decide (ns.getD i 0 > ns.getD j 0)) (ns.length - 1) < ns.length := by omega
      have I2 : Inv X pins σ H { s with heap := s'.heap, toks := s'.toks } := I.kept (t' := s'.toks) fun b u e => hM.heap b u (by
        have : b < s.heap.objs.size := Heap.lt_size e
        simp
        exact Nat.ne_of_lt this) (Heap.get?_push_of_some _ e)
      have es : s' = { s with heap := s'.heap, toks := s'.toks } := by
        obtain ⟨_, h2, h3, h4, _⟩ := hM
        cases s'
        simp only at h2 h3 h4 ⊢
        subst h2 h3 h4
        rfl
      refine ⟨.int _, H, by rw [es]; exact I2, ⟨t, rfl⟩, q _ ?_ fun y hy => ?_⟩
      · exact getD_mem0 hlt
      · obtain ⟨k, hk⟩ := List.mem_iff_getElem?.mp hy
        have hkl : k < ns.length := (List.getElem?_eq_some_iff.mp hk).1
        have := ab.2 k (by omega)
        rw [show ns.getD k 0 = y from by rw [List.getD_eq_getElem?_getD, hk]; rfl] at this
        exact this
theorem cr_minT {X : Cx} (hc : X.calm = true) : CallR X (.builtin "min") (rMinT X.K) := by
  intro pins s σ H vs us Q I r ⟨a, ns, ev, hs, hn, q⟩
  subst ev
  cases r with
  | cons r rr =>
    cases rr
    cases r
    obtain ⟨its, rv, p, hz⟩ := I.tuple hs
    have la : a < s.heap.objs.size := by
      obtain ⟨o, ho, _⟩ := p
      exact Heap.lt_size ho
    have hl : its.length = ns.length := by
      have := rv.length
      rw [List.length_map] at this
      exact this.symm
    have hh : X.A.in1.handled = none := I.ok.hd hc
    refine call_min_walkS (wpAny_pyIter_tuple p ⟨s.heap.objs.size, _, _, _, _, _, _, _, rfl, (Walks.tuple hh s.heap.objs.size a (Nat.ne_of_lt la) its.toArray).toS, ⟨⟨_, Heap.get?_push_size _ (ho := rfl), rfl, rfl⟩, ?_⟩, fun b hb => ?_, by rw [List.size_toArray, hl]; exact hn, CmpOf.ints_lt (fun i => ns.getD i 0) (fun i v h => vals_int rv i v (by simpa using h)), fun v s' hP hM => ?_⟩)
    · obtain ⟨o, ho, h1⟩ := p
      exact ⟨o, Heap.get?_push_of_some _ ho, h1⟩
    · have e : b = s.heap.objs.size ∨ b = a := by simpa using hb
      show b < (s.heap.push _).objs.size
      rw [Heap.size_push]
      rcases e with rfl | rfl
      · exact Nat.lt_succ_self _
      · exact Nat.lt_succ_of_lt la
    · have ab := argBest_lt (fun i => ns.getD i 0) (its.toArray.size - 1)
      rw [List.size_toArray, hl] at ab hP
      obtain ⟨t, rfl⟩ := vals_int rv _ v (by simpa using hP)
      have hlt : argBest (fun i j => decide (ns.getD i 0 < ns.getD j 0)) (ns.length - 1) < ns.length := by omega
      have I2 : Inv X pins σ H { s with heap := s'.heap, toks := s'.toks } := I.kept (t' := s'.toks) fun b u e => hM.heap b u (by
        have : b < s.heap.objs.size := Heap.lt_size e
        simp
        exact Nat.ne_of_lt this) (Heap.get?_push_of_some _ e)
      have es : s' = { s with heap := s'.heap, toks := s'.toks } := by
        obtain ⟨_, h2, h3, h4, _⟩ := hM
        cases s'
        simp only at h2 h3 h4 ⊢
        subst h2 h3 h4
        rfl
      refine ⟨.int _, H, by rw [es]; exact I2, ⟨t, rfl⟩, q _ ?_ fun y hy => ?_⟩
      · exact getD_mem0 hlt
      · obtain ⟨k, hk⟩ := List.mem_iff_getElem?.mp hy
        have hkl : k < ns.length := (List.getElem?_eq_some_iff.mp hk).1
        have := ab.2 k (by omega)
        rw [show ns.getD k 0 = y from by rw [List.getD_eq_getElem?_getD, hk]; rfl] at this
        exact this
def nMaxT : List D → R D
  | [.tup xs] => match dInts xs with
    | some (n :: ns) => .ok (.int (maxL (n :: ns)))
    | _ => .bad
  | _ => .bad
def nMinT : List D → R D
  | [.tup xs] => match dInts xs with
    | some (n :: ns) => .ok (.int (minL (n :: ns)))
    | _ => .bad
  | _ => .bad
theorem nx_maxT : ∀ ds w, nMaxT ds ≠ .ex w := by
  intro ds w e
  unfold nMaxT at e
  split at e
  · split at e <;> cases e
  · cases e
theorem nx_minT : ∀ ds w, nMinT ds ≠ .ex w := by
  intro ds w e
  unfold nMinT at e
  split at e
  · split at e <;> cases e
  · cases e
section
variable {g : G} {gr : Bool} {F H : Hp}
theorem cd_maxT : CallD true gr g (rMaxT g.K) nMaxT := fun F H vs ds z Q s ha e q => by
  unfold nMaxT at e
  split at e
  · split at e
    · rename_i n ns hns
      cases e
      obtain ⟨v, rfl, o⟩ := ha.one
      obtain ⟨a, us, rfl, h1, h2, r, _⟩ := o.tup s
      have e1 := dInts_rp r hns
      subst e1
      refine ⟨a, n :: ns, rfl, h1, by simp, fun m hm hy => ?_⟩
      have : m = maxL (n :: ns) := by
        have := maxL_ge hm
        have := hy _ (maxL_mem (ns := n :: ns) (by simp))
        omega
      rw [this]
      exact out_sc s (.int _) rfl q
    · cases e
  · cases e
theorem cd_minT : CallD true gr g (rMinT g.K) nMinT := fun F H vs ds z Q s ha e q => by
  unfold nMinT at e
  split at e
  · split at e
    · rename_i n ns hns
      cases e
      obtain ⟨v, rfl, o⟩ := ha.one
      obtain ⟨a, us, rfl, h1, h2, r, _⟩ := o.tup s
      have e1 := dInts_rp r hns
      subst e1
      refine ⟨a, n :: ns, rfl, h1, by simp, fun m hm hy => ?_⟩
      have : m = minL (n :: ns) := by
        have := minL_le hm
        have := hy _ (minL_mem (ns := n :: ns) (by simp))
        omega
      rw [this]
      exact out_sc s (.int _) rfl q
    · cases e
  · cases e
end
/-! ### tuples of whole numbers as keys -/
/-- no tuple of whole numbers of the text's own is of these lengths -/
def KFree (K : PySem.W.Frag) (ls : List Nat) : Prop := ∀ (a : Addr) (is : List Int), is.length ∈ ls → ¬ KT K a (is.map V.int)
def kfree (K : PySem.W.Frag) (ls : List Nat) : Bool := K.all fun p => match p.2.data with
  | .seq its _ => !(ls.contains its.size && its.toList.all fun v => match v with | .int _ _ => true | _ => false)
  | _ => true
theorem look_mem {α β : Type} [BEq α] [LawfulBEq α] : ∀ {K : List (α × β)} {a : α} {o : β}, K.lookup a = some o → (a, o) ∈ K
  | [], _, _, h => nomatch h
  | (b, x) :: K, a, o, h => by
    rw [List.lookup_cons] at h
    cases hb : (a == b) with
    | true =>
      rw [hb] at h
      cases h
      rw [eq_of_beq hb]
      exact List.mem_cons_self
    | false =>
      rw [hb] at h
      exact List.mem_cons_of_mem _ (look_mem h)
theorem kfree_of {K : PySem.W.Frag} {ls : List Nat} (h : kfree K ls = true) : KFree K ls := fun a is hl ⟨o, its, n, h1, h2, h3, h4, h5⟩ => by
  have hm : (a, o) ∈ K := look_mem h1
  have := List.all_eq_true.mp h _ hm
  simp only [h3] at this
  have sz : its.size = is.length := by
    have := h5.length
    rw [List.length_map, Array.length_toList] at this
    exact this.symm
  have al : (its.toList.all fun v => match v with | .int _ _ => true | _ => false) = true := by
    refine List.all_eq_true.mpr fun v hv => ?_
    obtain ⟨k, hk⟩ := List.mem_iff_getElem?.mp hv
    obtain ⟨t, rfl⟩ := vals_int h5 k v hk
    rfl
  rw [al, sz, Bool.and_true, Bool.not_eq_true'] at this
  rw [List.contains_iff_mem.mpr hl] at this
  cases this
def kI (is : List Int) : List Key := is.map Sum.inl
theorem kI_V (is : List Int) : (kI is).map kV = is.map V.int := by
  unfold kI
  rw [List.map_map]
  rfl
def keyT (ls : List Nat) : D → Option (List Key)
  | .tup xs => match dInts xs with
    | some is => if is.length ∈ ls then some (kI is) else none
    | none => none
  | _ => none
def lkT : List (List Key) → List D → List Key → Option D
  | k :: ks, d :: ds, j => if k = j then some d else lkT ks ds j
  | _, _, _ => none
instance kMemT : (k : List Key) → (ks : List (List Key)) → Decidable (k ∈ ks)
  | _, [] => .isFalse (fun h => nomatch h)
  | k, j :: ks => if h : k = j then .isTrue (by rw [h]; exact List.mem_cons_self) else match kMemT k ks with
    | .isTrue m => .isTrue (List.mem_cons_of_mem _ m)
    | .isFalse m => .isFalse fun z => (List.mem_cons.mp z).elim h m
def kIxT : List (List Key) → List Key → Nat
  | [], _ => 0
  | k :: ks, j => if k = j then 0 else kIxT ks j + 1
section
variable {g : G} {gr : Bool} {F H : Hp}
theorem keyT_rp {ls : List Nat} (KF : KFree g.K ls) {v : V} {d : D} {k : List Key} (h : keyT ls d = some k) (r : Rp g F v d) : ∃ b, v = .ref b ∧ F b = some (.tup (k.map kV)) := by
  unfold keyT at h
  split at h
  · split at h
    · rename_i is his
      split at h
      · rename_i hl
        cases h
        cases r with
        | @tup a vs _ hs rr =>
          have e := dInts_rp rr his
          subst e
          rw [kI_V]
          rcases hs with hs | hs
          · exact ⟨a, rfl, hs⟩
          · exact absurd hs (KF a is hl)
      · cases h
    · cases h
  · cases h
theorem lkT_rp : ∀ {kvs : List (List Key × V)} {ds : List D} {j : List Key}, RpL g F (kvs.map (·.2)) ds → (∀ d, lkT (kvs.map (·.1)) ds j = some d → ∃ v, valV kvs j = some v ∧ Rp g F v d) ∧ (lkT (kvs.map (·.1)) ds j = none → valV kvs j = none)
  | [], _, j, h => by cases h; exact ⟨fun d e => (by cases e), fun _ => valV_nil⟩
  | p :: kvs, _, j, .cons (d := d) r t => by
    have ih := lkT_rp (j := j) t
    by_cases e : p.1 = j
    · refine ⟨fun d' h => ?_, fun h => ?_⟩
      · have h : (if p.1 = j then some d else lkT (kvs.map (·.1)) _ j) = some d' := h
        rw [if_pos e] at h
        cases h
        exact ⟨_, valV_pos e, r⟩
      · have h : (if p.1 = j then some d else lkT (kvs.map (·.1)) _ j) = none := h
        rw [if_pos e] at h
        cases h
    · refine ⟨fun d' h => ?_, fun h => ?_⟩
      · have h : (if p.1 = j then some d else lkT (kvs.map (·.1)) _ j) = some d' := h
        rw [if_neg e] at h
        rw [valV_neg e]
        exact ih.1 d' h
      · have h : (if p.1 = j then some d else lkT (kvs.map (·.1)) _ j) = none := h
        rw [if_neg e] at h
        rw [valV_neg e]
        exact ih.2 h
theorem lkT_sw : ∀ {kvs : List (List Key × V)} {ds : List D} {j : List Key}, SwL g F H (kvs.map (·.2)) ds → (∀ d, lkT (kvs.map (·.1)) ds j = some d → ∃ v, valV kvs j = some v ∧ Sw g F H v d) ∧ (lkT (kvs.map (·.1)) ds j = none → valV kvs j = none)
  | [], _, j, h => by cases h; exact ⟨fun d e => (by cases e), fun _ => valV_nil⟩
  | p :: kvs, _, j, .cons (d := d) r t => by
    have ih := lkT_sw (j := j) t
    by_cases e : p.1 = j
    · refine ⟨fun d' h => ?_, fun h => ?_⟩
      · have h : (if p.1 = j then some d else lkT (kvs.map (·.1)) _ j) = some d' := h
        rw [if_pos e] at h
        cases h
        exact ⟨_, valV_pos e, r⟩
      · have h : (if p.1 = j then some d else lkT (kvs.map (·.1)) _ j) = none := h
        rw [if_pos e] at h
        cases h
    · refine ⟨fun d' h => ?_, fun h => ?_⟩
      · have h : (if p.1 = j then some d else lkT (kvs.map (·.1)) _ j) = some d' := h
        rw [if_neg e] at h
        rw [valV_neg e]
        exact ih.1 d' h
      · have h : (if p.1 = j then some d else lkT (kvs.map (·.1)) _ j) = none := h
        rw [if_neg e] at h
        rw [valV_neg e]
        exact ih.2 h
theorem Op.dct' {v : V} {o : Option Nat} {ks : List (List Key)} {ds : List D} (s : Same F H) (h : Op gr g F H v (.dct o ks ds)) : ∃ a kvs g', v = .ref a ∧ H a = some (.dT kvs) ∧ kvs.map (·.1) = ks ∧ ResA g' g F H (kvs.map (·.2)) ds := by
  cases gr with
  | true =>
    cases (show Rp g F v (.dct o ks ds) from h) with
    | dct h1 h2 r => exact ⟨_, _, true, rfl, s _ _ h1, h2, r⟩
  | false =>
    have h : Sw g F H v (.dct o ks ds) := h
    cases h with
    | dct h1 h2 r => exact ⟨_, _, false, rfl, h1, h2, r⟩
    | frz _ r => cases r with
      | dct h1 h2 r => exact ⟨_, _, true, rfl, s _ _ h1, h2, r⟩
theorem lkT_res {g' : Bool} {kvs : List (List Key × V)} {ds : List D} {j : List Key} (r : ResA g' g F H (kvs.map (·.2)) ds) : (∀ d, lkT (kvs.map (·.1)) ds j = some d → d.rf = true → ∃ v, valV kvs j = some v ∧ Rp g F v d) ∧ (lkT (kvs.map (·.1)) ds j = none → valV kvs j = none) := by
  cases g' with
  | true =>
    have r : RpL g F (kvs.map (·.2)) ds := r
    exact ⟨fun d h _ => (lkT_rp r).1 d h, (lkT_rp r).2⟩
  | false =>
    have r : SwL g F H (kvs.map (·.2)) ds := r
    refine ⟨fun d h c => ?_, (lkT_sw r).2⟩
    obtain ⟨v, h1, h2⟩ := (lkT_sw r).1 d h
    exact ⟨v, h1, h2.rf c⟩
theorem Op.key {ls : List Nat} (KF : KFree g.K ls) (s : Same F H) {v : V} {d : D} {k : List Key} (h : keyT ls d = some k) (r : Op gr g F H v d) : ∃ b, v = .ref b ∧ H b = some (.tup (k.map kV)) := by
  have rd : d.rf = true := by
    unfold keyT at h
    split at h
    · rfl
    · cases h
  obtain ⟨b, e1, e2⟩ := keyT_rp KF h (r.rf rd)
  exact ⟨b, e1, s _ _ e2⟩
end
def dDct : Env → R D := fun _ => .ok (.dct (some 0) [] [])
def fTIn (ls : List Nat) : D → D → R D
  | y, .dct _ ks _ => match keyT ls y with
    | some k => .ok (.bl (decide (k ∈ ks)))
    | none => .bad
  | _, _ => .bad
def fTNotIn (ls : List Nat) : D → D → R D
  | y, .dct _ ks _ => match keyT ls y with
    | some k => .ok (.bl (!decide (k ∈ ks)))
    | none => .bad
  | _, _ => .bad
def fTG (ls : List Nat) : D → D → R D
  | .dct _ ks ds, y => match keyT ls y with
    | some k => match lkT ks ds k with
      | some d => if d.rf = true then .ok d else .bad
      | none => .bad
    | none => .bad
  | _, _ => .bad
theorem nx_tin (ls : List Nat) : ∀ x y w, fTIn ls x y ≠ .ex w := by
  intro x y w e
  unfold fTIn at e
  split at e
  · split at e <;> cases e
  · cases e
theorem nx_tnotin (ls : List Nat) : ∀ x y w, fTNotIn ls x y ≠ .ex w := by
  intro x y w e
  unfold fTNotIn at e
  split at e
  · split at e <;> cases e
  · cases e
theorem nx_tg (ls : List Nat) : ∀ x y w, fTG ls x y ≠ .ex w := by
  intro x y w e
  unfold fTG at e
  split at e
  · split at e
    · split at e
      · split at e <;> cases e
      · cases e
    · cases e
  · cases e
theorem valT_mem (kvs : List (List Key × V)) (k : List Key) : (valV kvs k).isSome = decide (k ∈ kvs.map (·.1)) := by
  cases h : valV kvs k with
  | none => rw [decide_eq_false (valV_not h)]; rfl
  | some v => rw [decide_eq_true (valV_in h)]; rfl
section
variable {g : G} {g1 g2 : Bool} {ls : List Nat}
theorem opd_tin (KF : KFree g.K ls) : OpD g g1 g2 rDIn (fTIn ls) := opd_of fun F H vx vy x y z Q s hx hy e q => by
  unfold fTIn at e
  split at e
  · split at e
    · rename_i k hk
      cases e
      obtain ⟨a, kvs, g', rfl, h1, h2, r⟩ := hy.dct' s
      subst h2
      obtain ⟨b, eb, hb⟩ := hx.key KF s hk
      refine ⟨a, valV kvs k, rfl, .inr ⟨kvs, k, b, .inl h1, eb, hb, rfl⟩, ?_⟩
      rw [valT_mem]
      exact out_sc s (.bl _) rfl q
    · cases e
  · cases e
theorem opd_tnotin (KF : KFree g.K ls) : OpD g g1 g2 rDNotIn (fTNotIn ls) := opd_of fun F H vx vy x y z Q s hx hy e q => by
  unfold fTNotIn at e
  split at e
  · split at e
    · rename_i k hk
      cases e
      obtain ⟨a, kvs, g', rfl, h1, h2, r⟩ := hy.dct' s
      subst h2
      obtain ⟨b, eb, hb⟩ := hx.key KF s hk
      refine ⟨a, valV kvs k, rfl, .inr ⟨kvs, k, b, .inl h1, eb, hb, rfl⟩, ?_⟩
      rw [valT_mem]
      exact out_sc s (.bl _) rfl q
    · cases e
  · cases e
theorem opd_tg (KF : KFree g.K ls) : OpD g g1 g2 rDG (fTG ls) := opd_of fun F H vx vy x y z Q s hx hy e q => by
  unfold fTG at e
  split at e
  · split at e
    · rename_i k hk
      split at e
      · rename_i d hd
        obtain ⟨c, rfl⟩ := if_ok_inv e
        obtain ⟨a, kvs, g', rfl, h1, h2, r⟩ := hx.dct' s
        subst h2
        obtain ⟨v, h3, h4⟩ := (lkT_res r).1 d hd c
        obtain ⟨b, eb, hb⟩ := hy.key KF s hk
        exact ⟨a, v, rfl, .inr ⟨kvs, k, b, .inl h1, eb, hb, h3.symm⟩, out_sc s h4 c q⟩
      · cases e
    · cases e
  · cases e
end
def nLenT : List D → R D
  | [.dct _ ks _] => .ok (.int ks.length)
  | _ => .bad
theorem nx_lenT : ∀ ds w, nLenT ds ≠ .ex w := by
  intro ds w e
  unfold nLenT at e
  split at e <;> cases e
theorem cd_lenT {g : G} {gr : Bool} : CallD true gr g rLenT nLenT := fun F H vs ds z Q s ha e q => by
  unfold nLenT at e
  split at e
  · cases e
    obtain ⟨v, rfl, o⟩ := ha.one
    obtain ⟨a, kvs, g', rfl, h1, h2, r⟩ := o.dct' s
    subst h2
    refine ⟨a, kvs, rfl, h1, ?_⟩
    have := out_sc s (.int (((kvs.map (·.1)).length : Nat) : Int)) rfl q
    rw [List.length_map] at this
    exact this
  · cases e
section
variable {X : Cx} {W : Wx} {gr g1 g2 g3 : Bool} {a b c e : Expr} {pos apos cpos : Pos} {fa fb fc fe : Env → R D} {fp : Env → R Pl} {ls : List Nat}
theorem de_dct : DE true X W (.Dict [] [] pos) dDct := pe_imp pe_dnewT fun σ H Q => fun ⟨τ, B, F, ρ, E, q⟩ p n => by
  have st := step_new (o := .dT []) E.fh n
  refine q (.ref p) _ F st ⟨[p], .dct (kvs := []) upd_same (E.fh.free n) rfl .nil (fun z => nomatch z), fun x hx => ?_⟩
  rw [List.mem_singleton.mp hx]; exact n
theorem de_tg (KF : KFree X.K ls) (hu : X.A.units + 65 < cLine) (ha : DE g1 X W a fa) (hb : DE g2 X W b fb) (hs : NoSl b := by exact fun _ _ _ h => nomatch h) : DE true X W (.Subscript a b pos) (dOp g1 g2 (fTG ls) fa fb) :=
  pe_imp (pe_dget (by omega) ha hb hs) fun _ _ _ q => lift2 (r := rDG) (opd_tg KF) (nx_tg ls) q
theorem dt_tin (KF : KFree X.K ls) (hu : X.A.units + 65 < cLine) (ha : DE g1 X W a fa) (hb : DE g2 X W b fb) (hm : behindInMarks .In b = false := by rfl) : DT X W (.Compare a [.In] [b] pos) (dB (dOp g1 g2 (fTIn ls) fa fb)) :=
  pt_imp (pt_cmp (pc_din (by omega) ha hb) hm) fun _ _ _ q => lift2 (r := rDIn) (opd_tin KF) (nx_tin ls) (liftB (gr := true) q)
theorem dt_tnotin (KF : KFree X.K ls) (hu : X.A.units + 65 < cLine) (ha : DE g1 X W a fa) (hb : DE g2 X W b fb) (hm : behindInMarks .NotIn b = false := by rfl) : DT X W (.Compare a [.NotIn] [b] pos) (dB (dOp g1 g2 (fTNotIn ls) fa fb)) :=
  pt_imp (pt_cmp (pc_dnotin (by omega) ha hb) hm) fun _ _ _ q => lift2 (r := rDNotIn) (opd_tnotin KF) (nx_tnotin ls) (liftB (gr := true) q)
theorem de_tin (KF : KFree X.K ls) (hu : X.A.units + 65 < cLine) (ha : DE g1 X W a fa) (hb : DE g2 X W b fb) (hm : behindInMarks .In b = false := by rfl) : DE true X W (.Compare a [.In] [b] pos) (dOp g1 g2 (fTIn ls) fa fb) :=
  pe_imp (pe_cmp (pc_din (by omega) ha hb) hm) fun _ _ _ q => lift2 (r := rDIn) (opd_tin KF) (nx_tin ls) q
theorem de_tnotin (KF : KFree X.K ls) (hu : X.A.units + 65 < cLine) (ha : DE g1 X W a fa) (hb : DE g2 X W b fb) (hm : behindInMarks .NotIn b = false := by rfl) : DE true X W (.Compare a [.NotIn] [b] pos) (dOp g1 g2 (fTNotIn ls) fa fb) :=
  pe_imp (pe_cmp (pc_dnotin (by omega) ha hb) hm) fun _ _ _ q => lift2 (r := rDNotIn) (opd_tnotin KF) (nx_tnotin ls) q
end
theorem valT_put1 : ∀ {kvs : List (List Key × V)} {k : List Key} {v : V}, (kvs.map (·.1)).Nodup → k ∈ kvs.map (·.1) → (putK kvs k v).map (·.1) = kvs.map (·.1) ∧ (putK kvs k v).map (·.2) = (kvs.map (·.2)).set (kIxT (kvs.map (·.1)) k) v := by
  intro kvs k v hn hk
  have h1 : (kvs.any fun kv => decide (kv.1 = k)) = true := by
    obtain ⟨p, h1, h2⟩ := List.mem_map.mp hk
    exact List.any_eq_true.mpr ⟨p, h1, decide_eq_true h2⟩
  unfold putK
  rw [if_pos h1]
  clear h1
  induction kvs with
  | nil => cases hk
  | cons p kvs ih =>
    rw [List.map_cons, List.nodup_cons] at hn
    by_cases e : p.1 = k
    · have none : ∀ q ∈ kvs, ¬ q.1 = k := fun q hq z => hn.1 (by rw [e, ← z]; exact List.mem_map.mpr ⟨q, hq, rfl⟩)
      have same : kvs.map (fun kv => if kv.1 = k then (kv.1, v) else kv) = kvs := by
        conv => rhs; rw [← List.map_id kvs]
        exact List.map_congr_left fun q hq => if_neg (none q hq)
      rw [List.map_cons, if_pos e, same]
      refine ⟨rfl, ?_⟩
      show v :: kvs.map (·.2) = (p.2 :: kvs.map (·.2)).set (if p.1 = k then 0 else _) v
      rw [if_pos e]
      rfl
    · have hk' : k ∈ kvs.map (·.1) := by
        rcases List.mem_cons.mp hk with z | z
        · exact absurd z.symm e
        · exact z
      obtain ⟨i1, i2⟩ := ih hn.2 hk'
      rw [List.map_cons, if_neg e]
      refine ⟨?_, ?_⟩
      · rw [List.map_cons, i1]; rfl
      · rw [List.map_cons, i2]
        show p.2 :: _ = (p.2 :: kvs.map (·.2)).set (if p.1 = k then 0 else kIxT (kvs.map (·.1)) k + 1) v
        rw [if_neg e]
        rfl
theorem valT_put2 {kvs : List (List Key × V)} {k : List Key} {v : V} (hk : ¬ k ∈ kvs.map (·.1)) : putK kvs k v = kvs ++ [(k, v)] := by
  refine putK_new v ?_
  cases h : valV kvs k with
  | none => rfl
  | some u => exact absurd (valV_in h) hk
/-- a dict of one's own is changed -/
theorem EnvR.mutT {g : G} {τ : List V} {B F H : Hp} {σ : L2.St} {ρ : Env} (E : EnvR g τ B F H σ ρ) {p : Pl} {u : V} {t : Nat} {ks : List (List Key)} {xs : List D} (h : Loc H σ ρ p u) (e1 : getP ρ p = some (.dct (some t) ks xs)) :
    ∃ a kvs A0, u = .ref a ∧ H a = some (.dT kvs) ∧ kvs.map (·.1) = ks ∧ OwnL g F H (kvs.map (·.2)) xs A0 ∧ a ∉ A0 ∧ F a = none ∧ ∀ F' H' kvs' ks' ds A1, StepP F H F' H' → kvs'.map (·.1) = ks' → OwnL g F' H' (kvs'.map (·.2)) ds A1 → a ∉ A1 → (∀ q, q ∈ A1 → q ∈ A0 ∨ H q = none) →
      EnvR g τ B F' (L2.upd H' a (.dT kvs')) σ (putP ρ p (.dct (some t) ks' ds)) ∧ StepI B F F' (L2.upd H' a (.dT kvs')) := by
  obtain ⟨d, v0, h1, h2, h3, h4⟩ := getP_of h e1
  obtain ⟨A1, o1, hb, up⟩ := E.upd h1 h2 h3 h4
  cases (show Own g F H u (.dct (some 0) ks xs) A1 from o1) with
  | frz r _ => cases r
  | @dct a kvs _ _ A0 k1 k2 k3 k4 k5 =>
    refine ⟨a, kvs, A0, rfl, k1, k3, k4, k5, k2, fun F' H' kvs' ks' ds A2 s ek o na new => ?_⟩
    have fa : F' a = none := (s.new a _ k1).trans k2
    rw [putP_of h1]
    refine up F' _ (.dct (some t) ks' ds) (a :: A2) s.ff (fun q x hx => ?_) (.dct upd_same fa ek (o.mono' fun q hq => upd_ne fun z => na (by rw [← z]; exact hq)) na) rfl (fun q x hx hq => ⟨?_, s.new q x hx⟩) fun q hq => ?_
    · rw [upd_ne fun z => by rw [z, fa] at hx; cases hx]; exact s.fh q x hx
    · rw [upd_ne fun z => hq (by rw [z]; exact List.mem_cons_self)]; exact s.hh q x hx
    · rcases List.mem_cons.mp hq with z | z
      · exact .inl (by rw [z]; exact List.mem_cons_self)
      · exact (new q z).imp (fun y => List.mem_cons_of_mem _ y) id
/-- the dict of one's own at a place -/
def onDct (ρ : Env) (p : Pl) (k : Nat → List (List Key) → List D → Out) : Out := match getP ρ p with
  | some (.dct (some t) ks xs) => k t ks xs
  | _ => .bad
theorem onDct_ok {g : G} {W : Wx} {τ : List V} {B F : Hp} {E : Ends} {ρ : Env} {p : Pl} {k : Nat → List (List Key) → List D → Out} (h : outS g W τ B F E (onDct ρ p k)) : ∃ t ks xs, getP ρ p = some (.dct (some t) ks xs) ∧ outS g W τ B F E (k t ks xs) := by
  unfold onDct at h
  split at h
  · rename_i t ks xs hg; exact ⟨t, ks, xs, hg, h⟩
  · exact h.elim
section
variable {X : Cx} {W : Wx} {gr g1 g2 g3 : Bool} {a b c e : Expr} {pos apos cpos : Pos} {fa fb fc fe : Env → R D} {fp : Env → R Pl} {ls : List Nat}
def dTPut (ls : List Nat) (fp : Env → R Pl) (fb fa : Env → R D) : DTS := fun ρ => Out.of (fa ρ) ρ fun d => Out.ofP (fp ρ) ρ fun p => onDct ρ p fun t ks xs => Out.of (fb ρ) ρ fun j => match keyT ls j with
  | some k => if ks.length < 16777216 then (if k ∈ ks then (if ks.Nodup then .nx (putP ρ p (.dct (some t) ks (xs.set (kIxT ks k) d))) else .bad) else .nx (putP ρ p (.dct (some t) (ks ++ [k]) (xs ++ [d])))) else .bad
  | none => .bad
theorem ds_tput (KF : KFree X.K ls) (hu : X.A.units + 65 < cLine) {v : Expr} {tpos : Pos} (hp : DPl X W a fp) (hb : DE g2 X W b fb) (he : DE true X W v fa)
    (hs : swapsWith v (some (.Subscript a b tpos)) pos.line X.env = pure false := by rfl) :
    DS X W (.Assign [.Subscript a b tpos] v pos) (dTPut ls fp fb fa) := ps_imp (ps_dput (by omega) hp hb he hs) fun E σ H => fun ⟨τ, B, F, ρ, R, q⟩ => by
  unfold dTPut at q
  refine lift_of R q fun d v H1 F1 hd s1 r1 q => ?_
  have R1 := R.stepP s1
  refine ⟨τ, B, F1, ρ, R1, ?_⟩
  cases hf : fp ρ with
  | bad => rw [hf] at q; exact q
  | ex x => rw [hf] at q; exact fun cls dd H' F' s r => q cls dd σ H1 H' F' (s.toI R1.bh) (R1.stepP s) r
  | ok p =>
    rw [hf, Out.ofP_ok] at q
    obtain ⟨t, ks, xs, hg, q⟩ := onDct_ok q
    intro u H2 F2 s2 l2
    have R2 := R1.stepP s2
    have q := outS.step (s2.toI R1.bh) q
    refine lift_of R2 q fun j w H3 F3 hj s3 r3 o => ?_
    have o : outS (gx X W) W τ B F3 E (match keyT ls j with
      | some k => if ks.length < 16777216 then (if k ∈ ks then (if ks.Nodup then .nx (putP ρ p (.dct (some t) ks (xs.set (kIxT ks k) d))) else .bad) else .nx (putP ρ p (.dct (some t) (ks ++ [k]) (xs ++ [d])))) else .bad
      | none => .bad) := o
    split at o
    · rename_i k hk
      split at o
      · rename_i hlen
        obtain ⟨kb, ew, hkb⟩ := keyT_rp KF hk (r3.rp s3)
        have l0 := R.locBack (s1.hh.trans s2.hh) l2
        obtain ⟨l, kvs, A0, rfl, k1, k2, k3, k4, k5, up⟩ := R.mutT l0 hg
        subst k2
        obtain ⟨Ay, oy, fy⟩ := r1
        have s13 := (s1.trans s2).trans s3
        have dj : ∀ x, x ∈ A0 → x ∉ Ay := fun x hx hy => by
          obtain ⟨_, z, hz⟩ := k3.mem x hx
          rw [fy x hy] at hz; cases hz
        have hl : kvs.length < sizeLine := by rw [List.length_map] at hlen; rw [sizeLine_eq]; exact hlen
        split at o
        · rename_i hin
          split at o
          · rename_i hnd
            obtain ⟨e1, e2⟩ := valT_put1 (v := v) hnd hin
            obtain ⟨A', o1, h1⟩ := (k3.stepP s13).set (n := kIxT (kvs.map (·.1)) k) ((oy.stepP s2).stepP s3) dj
            rw [← e2] at o1
            obtain ⟨R3, s4⟩ := up F3 H3 (putK kvs k v) _ _ A' s13 e1 o1 (fun z => by
              rcases h1 l z with y | y
              · exact k4 y
              · rw [fy l y] at k1; cases k1) fun x hx => (h1 x hx).imp id (fy x)
            exact ⟨l, _, rfl, .inr ⟨kvs, k, kb, s13.hh _ _ k1, ew, hkb, hl, rfl⟩, o σ _ F3 ⟨Same.refl F3, R3.fh, R3.bh, fun _ _ _ => rfl⟩ R3⟩
          · exact o.elim
        · rename_i hin
          have e1 := valT_put2 (v := v) hin
          obtain ⟨A', o1, h1⟩ := (k3.stepP s13).snoc ((oy.stepP s2).stepP s3) dj
          obtain ⟨R3, s4⟩ := up F3 H3 (kvs ++ [(k, v)]) (kvs.map (·.1) ++ [k]) (xs ++ [d]) A' s13 (by rw [List.map_append]; rfl) (by rw [List.map_append]; exact o1) (fun z => by
            rcases h1 l z with y | y
            · exact k4 y
            · rw [fy l y] at k1; cases k1) fun x hx => (h1 x hx).imp id (fy x)
          exact ⟨l, _, rfl, .inr ⟨kvs, k, kb, s13.hh _ _ k1, ew, hkb, hl, by rw [e1]⟩, o σ _ F3 ⟨Same.refl F3, R3.fh, R3.bh, fun _ _ _ => rfl⟩ R3⟩
      · exact o.elim
    · exact o.elim
end
end Dt
/-! printed by gen.py for law_k35_places -/
namespace Lw
open PySem PySem.Spec PyProof.Rows L2 Dt
set_option linter.all false
/-- the error classes of the text -/
def ecs : List String := ["ArchiveError", "InvalidFormat", "InvalidSymbol"]
/-! ### the data level -/
def obs : Obs := [("Format", ["side", "checks"])]
@[simp] theorem ob_Format_side : obOk obs "Format" "side" = true := by decide +kernel
@[simp] theorem ob_Format_checks : obOk obs "Format" "checks" = true := by decide +kernel
abbrev d_BORDER : D := .int 2
abbrev c_BORDER : Dt.Env → R D := dC d_BORDER
abbrev d_CELLS_OF_SYMBOL : D := .int 4
abbrev c_CELLS_OF_SYMBOL : Dt.Env → R D := dC d_CELLS_OF_SYMBOL
abbrev d_CODEWORD : D := .int 16
abbrev c_CODEWORD : Dt.Env → R D := dC d_CODEWORD
abbrev d_GREATEST_SIDE : D := .int 40
abbrev c_GREATEST_SIDE : Dt.Env → R D := dC d_GREATEST_SIDE
abbrev d_HEAD : D := .int 10
abbrev c_HEAD : Dt.Env → R D := dC d_HEAD
abbrev d_LEAST_SIDE : D := .int 16
abbrev c_LEAST_SIDE : Dt.Env → R D := dC d_LEAST_SIDE
def d_NUMBERS_OF_CHECKS : D := .tup [.int 2, .int 4, .int 6, .int 8]
abbrev c_NUMBERS_OF_CHECKS : Dt.Env → R D := dC d_NUMBERS_OF_CHECKS
noncomputable abbrev t__law_cell : DTS := (dSeq (dIf (dB (dOp true true fLt (dVar 1) (dCall nLen (dCons (dVar 0) dNil)))) (dRet (dCall nInt (dCons (dOp true true (fIx true) (dVar 0) (dVar 1)) dNil))) dNx) (dRet (dC (.int 0))))
noncomputable def f__law_cell : List D → R D := runF 2 t__law_cell
noncomputable def r__law_form_4 : DTS := (dRet (dTup (dCons (dVar 1) (dCons (dVar 2) dNil))))
noncomputable def r__law_form_3 : DTS := (dSeq (dIf (dB (dOp true true fEq (dOp true true fMod (dOp true true fDiv (dVar 0) (dC (.int 28))) (dC (.int 40))) (dC (.int 7)))) (dSetF 1 (dOp true true (fAdd true true) (dC (.int 23)) (dOp true true fMod (dOp true true fDiv (dVar 0) (dC (.int 1120))) (dC (.int 18))))) dNx) r__law_form_4)
noncomputable def r__law_form_2 : DTS := (dSeq (dIf (dAnd (dB (dOp true true fLt (dVar 1) (dC (.int 18)))) (dB (dOp true true fGt (dVar 2) (dC (.int 4))))) (dSetF 2 (dOp true true fSub (dVar 2) (dC (.int 4)))) dNx) r__law_form_3)
noncomputable def r__law_form_1 : DTS := (dSeq (dSetF 2 (dOp true true (fAdd true true) (dC (.int 2)) (dOp true true (fMul true) (dC (.int 2)) (dOp true true fMod (dOp true true fDiv (dVar 0) (dC (.int 7))) (dC (.int 4)))))) r__law_form_2)
noncomputable def r__law_form_0 : DTS := (dSeq (dSetF 1 (dOp true true (fAdd true true) (dC (.int 16)) (dOp true true fMod (dVar 0) (dC (.int 7))))) r__law_form_1)
noncomputable abbrev t__law_form : DTS := r__law_form_0
noncomputable def f__law_form : List D → R D := runF 3 t__law_form
noncomputable abbrev t__law_words : DTS := (dRet (dOp true true fDiv (dOp true true (fMul true) (dOp true true fSub (dVar 0) (dC (.int 4))) (dOp true true fSub (dVar 0) (dC (.int 4)))) (dC (.int 64))))
noncomputable def f__law_words : List D → R D := runF 1 t__law_words
noncomputable abbrev t__law_place : DTS := (dSeq (dSetF 2 (dOp true true fSub (dVar 0) (dC (.int 4)))) (dRet (dLc [3] (dArgs nRange2 (dCons (dOp true true (fMul true) (dC (.int 4)) (dVar 1)) (dCons (dOp true true (fAdd true true) (dOp true true (fMul true) (dC (.int 4)) (dVar 1)) (dC (.int 4))) dNil))) (tName 3) dYes (dTup (dCons (dOp true true (fAdd true true) (dC (.int 2)) (dOp true true fDiv (dVar 3) (dVar 2))) (dCons (dOp true true (fAdd true true) (dC (.int 2)) (dOp true true fMod (dVar 3) (dVar 2))) dNil))))))
noncomputable def f__law_place : List D → R D := runF 4 t__law_place
noncomputable abbrev t_Format_data_symbols : DTS := (dRet (dOp true true fSub c_CODEWORD (dFld obs true "checks" (dVar 0))))
noncomputable def f_Format_data_symbols : List D → R D := runF 1 t_Format_data_symbols
noncomputable abbrev t_Format_codewords : DTS := (dSeq (dSetF 1 (dOp true true fSub (dFld obs true "side" (dVar 0)) (dOp true true (fMul true) (dC (.int 2)) c_BORDER))) (dRet (dOp true true fDiv (dOp true true (fMul true) (dVar 1) (dVar 1)) (dOp true true (fMul true) c_CODEWORD c_CELLS_OF_SYMBOL))))
noncomputable def f_Format_codewords : List D → R D := runF 2 t_Format_codewords
noncomputable def r_place_cells_3 : DTS := (dRet (dLc [4] (dArgs nRange2 (dCons (dVar 3) (dCons (dOp true true (fAdd true true) (dVar 3) c_CELLS_OF_SYMBOL) dNil))) (tName 4) dYes (dTup (dCons (dOp true true (fAdd true true) c_BORDER (dOp true true fDiv (dVar 4) (dVar 2))) (dCons (dOp true true (fAdd true true) c_BORDER (dOp true true fMod (dVar 4) (dVar 2))) dNil)))))
noncomputable def r_place_cells_2 : DTS := (dSeq (dSetF 3 (dOp true true (fMul true) c_CELLS_OF_SYMBOL (dVar 1))) r_place_cells_3)
noncomputable def r_place_cells_1 : DTS := (dSeq (dSetF 2 (dOp true true fSub (dFld obs true "side" (dVar 0)) (dOp true true (fMul true) (dC (.int 2)) c_BORDER))) r_place_cells_2)
noncomputable def r_place_cells_0 : DTS := (dSeq (dIf (dOr (dB (dOp true true fLt (dVar 1) (dC (.int 0)))) (dB (dOp true true fGe (dVar 1) (dOp true true (fMul true) c_CODEWORD (dProp "Format" "codewords" true f_Format_codewords (dVar 0)))))) (dRaise "InvalidSymbol") dNx) r_place_cells_1)
noncomputable abbrev t_place_cells : DTS := r_place_cells_0
noncomputable def f_place_cells : List D → R D := runF 5 t_place_cells
noncomputable abbrev t_Format_body_size : DTS := (dRet (dOp true true (fMul true) (dOp true true fSub (dProp "Format" "codewords" true f_Format_codewords (dVar 0)) (dC (.int 1))) (dProp "Format" "data_symbols" true f_Format_data_symbols (dVar 0))))
noncomputable def f_Format_body_size : List D → R D := runF 1 t_Format_body_size
noncomputable abbrev t__law_refused : DTS := (dTry ecs (dSeq (dDo (dCall f_place_cells (dCons (dVar 0) (dCons (dVar 1) dNil)))) (dRet (dC (.bl false)))) "ArchiveError" 2 (dRet (dCall (nIsE ecs) (dCons (dVar 2) (dCons (dC (.cls "InvalidSymbol")) dNil)))))
noncomputable def f__law_refused : List D → R D := runF 3 t__law_refused
noncomputable abbrev t_Format_capacity : DTS := (dRet (dOp true true fDiv (dOp true true fSub (dProp "Format" "body_size" true f_Format_body_size (dVar 0)) c_HEAD) (dC (.int 2))))
noncomputable def f_Format_capacity : List D → R D := runF 1 t_Format_capacity
noncomputable def r_Format___init___3 : DTS := (dIf (dB (dOp false true fLt (dProp "Format" "capacity" false f_Format_capacity (dRef 0)) (dC (.int 1)))) (dRaise "InvalidFormat") dNx)
noncomputable def r_Format___init___2 : DTS := (dSeq (dFldSet obs "checks" (pName 0) (dVar 2)) r_Format___init___3)
noncomputable def r_Format___init___1 : DTS := (dSeq (dFldSet obs "side" (pName 0) (dVar 1)) r_Format___init___2)
noncomputable def r_Format___init___0 : DTS := (dSeq (dIf (dOr (dB (dOp true true fLt (dVar 1) c_LEAST_SIDE)) (dOr (dB (dOp true true fGt (dVar 1) c_GREATEST_SIDE)) (dB (dOp true true fNotIn (dVar 2) c_NUMBERS_OF_CHECKS)))) (dRaise "InvalidFormat") dNx) r_Format___init___1)
noncomputable abbrev t_Format___init__ : DTS := r_Format___init___0
noncomputable def f_Format___init__ : List D → R (D × D) := runM 3 t_Format___init__
noncomputable def b_law_0 : DTS := (dSeq (dIf (dOr (dNot (dTru (dCall nIsi (dCons (dVar 8) (dCons (dC (.ty "tuple")) dNil))))) (dOr (dB (dOp true false (fTIn [2]) (dVar 8) (dRef 3))) (dOr (dB (dOp true true fLt (dCall nMinT (dCons (dVar 8) dNil)) (dC (.int 2)))) (dB (dOp true true fGt (dCall nMaxT (dCons (dVar 8) dNil)) (dOp true true fSub (dVar 5) (dC (.int 3)))))))) (dRet (dC (.bl false))) dNx) (dTPut [2] (pName 3) (dVar 8) (dC (.bl true))))
noncomputable def b_law_1 : DTS := (dSeq (dSetF 7 (dCall f_place_cells (dCons (dVar 1) (dCons (dVar 4) dNil)))) (dSeq (dIf (dOr (dNot (dTru (dCall nIsi (dCons (dVar 7) (dCons (dC (.ty "list")) dNil))))) (dB (dOp true true fNe (dVar 7) (dCall f__law_place (dCons (dVar 5) (dCons (dVar 4) dNil)))))) (dRet (dC (.bl false))) dNx) (dFor (dIter (dVar 7)) (tName 8) b_law_0)))
noncomputable def r_law_6 : DTS := (dRet (dOp true true fEq (dCall nLenT (dConsB (dRef 3) dNil)) (dOp true true (fMul true) (dC (.int 4)) (dVar 2))))
noncomputable def r_law_5 : DTS := (dSeq (dFor (dArgs nRange1 (dCons (dVar 2) dNil)) (tName 4) b_law_1) r_law_6)
noncomputable def r_law_4 : DTS := (dSeq (dSet 3 dDct) r_law_5)
noncomputable def r_law_3 : DTS := (dSeq (dIf (dB (dOp true true fEq (dOp true true fMod (dCall f__law_cell (dCons (dVar 0) (dCons (dC (.int 1)) dNil))) (dC (.int 4))) (dC (.int 1)))) (dRet (dAndV (dCall f__law_refused (dCons (dVar 1) (dCons (dOp true true fSub (dNeg (dC (.int 1))) (dOp true true fMod (dOp true true fDiv (dCall f__law_cell (dCons (dVar 0) (dCons (dC (.int 1)) dNil))) (dC (.int 4))) (dC (.int 9)))) dNil))) (dCall f__law_refused (dCons (dVar 1) (dCons (dOp true true (fAdd true true) (dVar 2) (dOp true true fMod (dOp true true fDiv (dCall f__law_cell (dCons (dVar 0) (dCons (dC (.int 1)) dNil))) (dC (.int 4))) (dC (.int 9)))) dNil))))) dNx) r_law_4)
noncomputable def r_law_2 : DTS := (dSeq (dSetF 2 (dOp true true (fMul true) (dC (.int 16)) (dCall f__law_words (dCons (dVar 5) dNil)))) r_law_3)
noncomputable def r_law_1 : DTS := (dSeq (dSetF 1 (dCall (fnMake "Format" f_Format___init__) (dCons (dVar 5) (dCons (dVar 6) dNil)))) r_law_2)
noncomputable def r_law_0 : DTS := (dSeq (dSetG (tTup 2 (tMore (tName 5) (tMore (tName 6) tNone))) (dCall f__law_form (dCons (dCall f__law_cell (dCons (dVar 0) (dCons (dC (.int 0)) dNil))) dNil))) r_law_1)
noncomputable abbrev t_law : DTS := r_law_0
noncomputable def f_law : List D → R D := runF 9 t_law
/-! ### the text -/
def topS (i : Nat) : Stmt := PySem.Challenge.pw_scanpages_k35_places.main.body.getD i (.Pass ⟨0, 0, 0, 0⟩)
abbrev s__law_cell : Stmt := topS 16
theorem sc__law_cell : FnScope ["_law_script", "_law_k"] ["_law_script", "_law_k"] (defScope s__law_cell) := ⟨rfl, rfl, rfl, by decide +kernel, rfl, by decide +kernel, by decide +kernel⟩
abbrev s__law_form : Stmt := topS 18
theorem sc__law_form : FnScope ["_law_cell_here", "_law_side", "_law_checks"] ["_law_cell_here"] (defScope s__law_form) := ⟨rfl, rfl, rfl, by decide +kernel, rfl, by decide +kernel, by decide +kernel⟩
abbrev s__law_words : Stmt := topS 19
theorem sc__law_words : FnScope ["_law_side"] ["_law_side"] (defScope s__law_words) := ⟨rfl, rfl, rfl, by decide +kernel, rfl, by decide +kernel, by decide +kernel⟩
abbrev s__law_place : Stmt := topS 22
theorem sc__law_place : FnScope ["_law_side", "_law_place_here", "_law_width", "_law_at"] ["_law_side", "_law_place_here"] (defScope s__law_place) := ⟨rfl, rfl, rfl, by decide +kernel, rfl, by decide +kernel, by decide +kernel⟩
abbrev s_Format_data_symbols : Stmt := inClass (topS 12) 1
theorem sc_Format_data_symbols : FnScope ["self"] ["self"] (defScope s_Format_data_symbols) := ⟨rfl, rfl, rfl, by decide +kernel, rfl, by decide +kernel, by decide +kernel⟩
abbrev s_Format_codewords : Stmt := inClass (topS 12) 2
theorem sc_Format_codewords : FnScope ["self", "field"] ["self"] (defScope s_Format_codewords) := ⟨rfl, rfl, rfl, by decide +kernel, rfl, by decide +kernel, by decide +kernel⟩
abbrev s_place_cells : Stmt := topS 14
theorem sc_place_cells : FnScope ["form", "place", "width", "first", "at"] ["form", "place"] (defScope s_place_cells) := ⟨rfl, rfl, rfl, by decide +kernel, rfl, by decide +kernel, by decide +kernel⟩
abbrev s_Format_body_size : Stmt := inClass (topS 12) 3
theorem sc_Format_body_size : FnScope ["self"] ["self"] (defScope s_Format_body_size) := ⟨rfl, rfl, rfl, by decide +kernel, rfl, by decide +kernel, by decide +kernel⟩
abbrev s__law_refused : Stmt := topS 23
theorem sc__law_refused : FnScope ["_law_form_here", "_law_place_here", "e"] ["_law_form_here", "_law_place_here"] (defScope s__law_refused) := ⟨rfl, rfl, rfl, by decide +kernel, rfl, by decide +kernel, by decide +kernel⟩
abbrev s_Format_capacity : Stmt := inClass (topS 12) 4
theorem sc_Format_capacity : FnScope ["self"] ["self"] (defScope s_Format_capacity) := ⟨rfl, rfl, rfl, by decide +kernel, rfl, by decide +kernel, by decide +kernel⟩
abbrev s_Format___init__ : Stmt := inClass (topS 12) 0
theorem sc_Format___init__ : FnScope ["self", "side", "checks"] ["self", "side", "checks"] (defScope s_Format___init__) := ⟨rfl, rfl, rfl, by decide +kernel, rfl, by decide +kernel, by decide +kernel⟩
abbrev s_law : Stmt := topS 24
theorem sc_law : FnScope ["_law_script", "_law_form_here", "_law_count", "_law_seen", "_law_place_here", "_law_side", "_law_checks", "_law_cells", "_law_cell_here"] ["_law_script"] (defScope s_law) := ⟨rfl, rfl, rfl, by decide +kernel, rfl, by decide +kernel, by decide +kernel⟩
structure Txt (K : PySem.W.Frag) (mg : Str → Option Value) : Prop where
  d__law_cell : ∃ f fd, Fun K "_law_cell" "_law_cell" s__law_cell f fd ∧ mg "_law_cell" = some (.ref f)
  d__law_form : ∃ f fd, Fun K "_law_form" "_law_form" s__law_form f fd ∧ mg "_law_form" = some (.ref f)
  d__law_words : ∃ f fd, Fun K "_law_words" "_law_words" s__law_words f fd ∧ mg "_law_words" = some (.ref f)
  d__law_place : ∃ f fd, Fun K "_law_place" "_law_place" s__law_place f fd ∧ mg "_law_place" = some (.ref f)
  d_Format_data_symbols : ∃ ca p f fd, Fun K "data_symbols" "Format.data_symbols" s_Format_data_symbols f fd ∧ mg (nmS "Format") = some (.ref ca) ∧ Cls K ca ∧ PropOf K ca (nmS "data_symbols") p f
  d_Format_codewords : ∃ ca p f fd, Fun K "codewords" "Format.codewords" s_Format_codewords f fd ∧ mg (nmS "Format") = some (.ref ca) ∧ Cls K ca ∧ PropOf K ca (nmS "codewords") p f
  d_place_cells : ∃ f fd, Fun K "place_cells" "place_cells" s_place_cells f fd ∧ mg "place_cells" = some (.ref f)
  d_Format_body_size : ∃ ca p f fd, Fun K "body_size" "Format.body_size" s_Format_body_size f fd ∧ mg (nmS "Format") = some (.ref ca) ∧ Cls K ca ∧ PropOf K ca (nmS "body_size") p f
  d__law_refused : ∃ f fd, Fun K "_law_refused" "_law_refused" s__law_refused f fd ∧ mg "_law_refused" = some (.ref f)
  d_Format_capacity : ∃ ca p f fd, Fun K "capacity" "Format.capacity" s_Format_capacity f fd ∧ mg (nmS "Format") = some (.ref ca) ∧ Cls K ca ∧ PropOf K ca (nmS "capacity") p f
  d_Format___init__ : ∃ ca f fd, Fun K "__init__" "Format.__init__" s_Format___init__ f fd ∧ mg (nmS "Format") = some (.ref ca) ∧ Mk K ca f
  d_law : ∃ f fd, Fun K "law" "law" s_law f fd ∧ mg "law" = some (.ref f)
  ob : ObT K mg obs
  b_int : mg "int" = none
  b_isinstance : mg "isinstance" = none
  b_len : mg "len" = none
  b_list : mg "list" = none
  b_max : mg "max" = none
  b_min : mg "min" = none
  b_range : mg "range" = none
  b_tuple : mg "tuple" = none
  er : ErT K mg ecs
  x_ArchiveError : ∀ ca, mg (nmS "ArchiveError") = some (.ref ca) → PySem.W.excIn K ca [.type "ValueError", .type "Exception", .type "BaseException", .type "object"] "ValueError.__new__" = true
  x_InvalidFormat : ∀ ca, mg (nmS "InvalidFormat") = some (.ref ca) → PySem.W.excIn K ca [.type "ValueError", .type "Exception", .type "BaseException", .type "object"] "ValueError.__new__" = true
  x_InvalidSymbol : ∀ ca, mg (nmS "InvalidSymbol") = some (.ref ca) → PySem.W.excIn K ca [.type "ValueError", .type "Exception", .type "BaseException", .type "object"] "ValueError.__new__" = true
  k_BORDER : KD K mg "BORDER" d_BORDER
  k_CELLS_OF_SYMBOL : KD K mg "CELLS_OF_SYMBOL" d_CELLS_OF_SYMBOL
  k_CODEWORD : KD K mg "CODEWORD" d_CODEWORD
  k_GREATEST_SIDE : KD K mg "GREATEST_SIDE" d_GREATEST_SIDE
  k_HEAD : KD K mg "HEAD" d_HEAD
  k_LEAST_SIDE : KD K mg "LEAST_SIDE" d_LEAST_SIDE
  k_NUMBERS_OF_CHECKS : KD K mg "NUMBERS_OF_CHECKS" d_NUMBERS_OF_CHECKS
  kf_2 : KFree K [2]
theorem Txt.g_BORDER {X : Cx} {W : Wx} {pos : Pos} (T : Txt X.K X.mg) (hg : Gl X "BORDER") : DE true X W (.Name "BORDER" pos) c_BORDER := de_k T.k_BORDER hg
theorem Txt.g_CELLS_OF_SYMBOL {X : Cx} {W : Wx} {pos : Pos} (T : Txt X.K X.mg) (hg : Gl X "CELLS_OF_SYMBOL") : DE true X W (.Name "CELLS_OF_SYMBOL" pos) c_CELLS_OF_SYMBOL := de_k T.k_CELLS_OF_SYMBOL hg
theorem Txt.g_CODEWORD {X : Cx} {W : Wx} {pos : Pos} (T : Txt X.K X.mg) (hg : Gl X "CODEWORD") : DE true X W (.Name "CODEWORD" pos) c_CODEWORD := de_k T.k_CODEWORD hg
theorem Txt.g_GREATEST_SIDE {X : Cx} {W : Wx} {pos : Pos} (T : Txt X.K X.mg) (hg : Gl X "GREATEST_SIDE") : DE true X W (.Name "GREATEST_SIDE" pos) c_GREATEST_SIDE := de_k T.k_GREATEST_SIDE hg
theorem Txt.g_HEAD {X : Cx} {W : Wx} {pos : Pos} (T : Txt X.K X.mg) (hg : Gl X "HEAD") : DE true X W (.Name "HEAD" pos) c_HEAD := de_k T.k_HEAD hg
theorem Txt.g_LEAST_SIDE {X : Cx} {W : Wx} {pos : Pos} (T : Txt X.K X.mg) (hg : Gl X "LEAST_SIDE") : DE true X W (.Name "LEAST_SIDE" pos) c_LEAST_SIDE := de_k T.k_LEAST_SIDE hg
theorem Txt.g_NUMBERS_OF_CHECKS {X : Cx} {W : Wx} {pos : Pos} (T : Txt X.K X.mg) (hg : Gl X "NUMBERS_OF_CHECKS") : DE true X W (.Name "NUMBERS_OF_CHECKS" pos) c_NUMBERS_OF_CHECKS := de_k T.k_NUMBERS_OF_CHECKS hg
section
variable {P : Program} {w : World} {K : PySem.W.Frag} {mg : Str → Option Value}
set_option maxHeartbeats 8000000 in
theorem ok__law_cell (T : Txt K mg) : Def0 P w K mg "_law_cell" 1 ["_law_script", "_law_k"] f__law_cell := by
  obtain ⟨f, fd, F, hf⟩ := T.d__law_cell
  refine ⟨f, fd, hf, F.kp, bindsTo (ps := ["_law_script", "_law_k"]) F fun _ _ _ _ _ _ us hl => match us, hl with | [_, _], _ => rfl, fun base => fun0 (k := 0) F sc__law_cell fun cdv A outer s H E hr => ?_⟩
  have hu := hu65 hr
  have tk := L2N.takes_of (X := cxOf (L2N.CX P w) P w K mg base ["_law_script", "_law_k"] "_law_cell" (defScope s__law_cell) f cdv A outer s H E) rfl rfl rfl rfl
  have hpo : PassesOwn (model P w) (cxOf (L2N.CX P w) P w K mg base ["_law_script", "_law_k"] "_law_cell" (defScope s__law_cell) f cdv A outer s H E).A (cxOf (L2N.CX P w) P w K mg base ["_law_script", "_law_k"] "_law_cell" (defScope s__law_cell) f cdv A outer s H E).env (cxOf (L2N.CX P w) P w K mg base ["_law_script", "_law_k"] "_law_cell" (defScope s__law_cell) f cdv A outer s H E).xe := passes_of rfl
  exact (dss_cons (ds_if (dt_lt (de_var (pv 1)) (de_callB call_lenA cd_len nx_len (by rfl) T.b_len (by decide +kernel) (da_cons (de_var (pv 0)) da_nil))) (dss_one (ds_ret (de_callTy call_int1 cd_int nx_int (by rfl) T.b_int (by decide +kernel) (da_cons (de_ix (de_var (pv 0)) (de_var (pv 1))) da_nil)))) dss_nil) (dss_one (ds_ret de_int)))
set_option maxHeartbeats 8000000 in
theorem ok__law_form (T : Txt K mg) : Def0 P w K mg "_law_form" 1 ["_law_cell_here"] f__law_form := by
  obtain ⟨f, fd, F, hf⟩ := T.d__law_form
  refine ⟨f, fd, hf, F.kp, bindsTo (ps := ["_law_cell_here"]) F fun _ _ _ _ _ _ us hl => match us, hl with | [_], _ => rfl, fun base => fun0 (k := 0) F sc__law_form fun cdv A outer s H E hr => ?_⟩
  have hu := hu65 hr
  have tk := L2N.takes_of (X := cxOf (L2N.CX P w) P w K mg base ["_law_cell_here", "_law_side", "_law_checks"] "_law_form" (defScope s__law_form) f cdv A outer s H E) rfl rfl rfl rfl
  have hpo : PassesOwn (model P w) (cxOf (L2N.CX P w) P w K mg base ["_law_cell_here", "_law_side", "_law_checks"] "_law_form" (defScope s__law_form) f cdv A outer s H E).A (cxOf (L2N.CX P w) P w K mg base ["_law_cell_here", "_law_side", "_law_checks"] "_law_form" (defScope s__law_form) f cdv A outer s H E).env (cxOf (L2N.CX P w) P w K mg base ["_law_cell_here", "_law_side", "_law_checks"] "_law_form" (defScope s__law_form) f cdv A outer s H E).xe := passes_of rfl
  exact (dss_cons (ds_setF (i := 1) (fun te h => ps_set (i := 1) sc__law_form.nd rfl (Or.inl rfl) h) (de_add de_int (de_mod (de_var (pv 0)) de_int))) (dss_cons (ds_setF (i := 2) (fun te h => ps_set (i := 2) sc__law_form.nd rfl (Or.inl rfl) h) (de_add de_int (de_mul de_int (de_mod (de_fdiv (de_var (pv 0)) de_int) de_int)))) (dss_cons (ds_if (dt_w (dw_and (dt_lt (de_var (pv 1)) de_int) (dw_and1 (dt_gt (de_var (pv 2)) de_int)))) (dss_one (ds_setF (i := 2) (fun te h => ps_set (i := 2) sc__law_form.nd rfl (Or.inl rfl) h) (de_sub (de_var (pv 2)) de_int))) dss_nil) (dss_cons (ds_if (dt_eq hu (de_mod (de_fdiv (de_var (pv 0)) de_int) de_int) de_int) (dss_one (ds_setF (i := 1) (fun te h => ps_set (i := 1) sc__law_form.nd rfl (Or.inl rfl) h) (de_add de_int (de_mod (de_fdiv (de_var (pv 0)) de_int) de_int)))) dss_nil) (dss_one (ds_ret (de_tup (da_cons (de_var (pv 1)) (da_cons (de_var (pv 2)) da_nil)))))))))
set_option maxHeartbeats 8000000 in
theorem ok__law_words (T : Txt K mg) : Def0 P w K mg "_law_words" 1 ["_law_side"] f__law_words := by
  obtain ⟨f, fd, F, hf⟩ := T.d__law_words
  refine ⟨f, fd, hf, F.kp, bindsTo (ps := ["_law_side"]) F fun _ _ _ _ _ _ us hl => match us, hl with | [_], _ => rfl, fun base => fun0 (k := 0) F sc__law_words fun cdv A outer s H E hr => ?_⟩
  have hu := hu65 hr
  have tk := L2N.takes_of (X := cxOf (L2N.CX P w) P w K mg base ["_law_side"] "_law_words" (defScope s__law_words) f cdv A outer s H E) rfl rfl rfl rfl
  have hpo : PassesOwn (model P w) (cxOf (L2N.CX P w) P w K mg base ["_law_side"] "_law_words" (defScope s__law_words) f cdv A outer s H E).A (cxOf (L2N.CX P w) P w K mg base ["_law_side"] "_law_words" (defScope s__law_words) f cdv A outer s H E).env (cxOf (L2N.CX P w) P w K mg base ["_law_side"] "_law_words" (defScope s__law_words) f cdv A outer s H E).xe := passes_of rfl
  exact (dss_one (ds_ret (de_fdiv (de_mul (de_sub (de_var (pv 0)) de_int) (de_sub (de_var (pv 0)) de_int)) de_int)))
set_option maxHeartbeats 8000000 in
theorem ok__law_place (T : Txt K mg) : Def0 P w K mg "_law_place" 1 ["_law_side", "_law_place_here"] f__law_place := by
  obtain ⟨f, fd, F, hf⟩ := T.d__law_place
  refine ⟨f, fd, hf, F.kp, bindsTo (ps := ["_law_side", "_law_place_here"]) F fun _ _ _ _ _ _ us hl => match us, hl with | [_, _], _ => rfl, fun base => fun0 (k := 0) F sc__law_place fun cdv A outer s H E hr => ?_⟩
  have hu := hu65 hr
  have tk := L2N.takes_of (X := cxOf (L2N.CX P w) P w K mg base ["_law_side", "_law_place_here", "_law_width", "_law_at"] "_law_place" (defScope s__law_place) f cdv A outer s H E) rfl rfl rfl rfl
  have hpo : PassesOwn (model P w) (cxOf (L2N.CX P w) P w K mg base ["_law_side", "_law_place_here", "_law_width", "_law_at"] "_law_place" (defScope s__law_place) f cdv A outer s H E).A (cxOf (L2N.CX P w) P w K mg base ["_law_side", "_law_place_here", "_law_width", "_law_at"] "_law_place" (defScope s__law_place) f cdv A outer s H E).env (cxOf (L2N.CX P w) P w K mg base ["_law_side", "_law_place_here", "_law_width", "_law_at"] "_law_place" (defScope s__law_place) f cdv A outer s H E).xe := passes_of rfl
  exact (dss_cons (ds_setF (i := 2) (fun te h => ps_set (i := 2) sc__law_place.nd rfl (by first | exact Or.inr rfl | exact Or.inl rfl) h) (de_sub (de_var (pv 0)) de_int)) (dss_one (ds_ret (de_lc rfl sc__law_place.nd (di_range2 (by rfl) T.b_range (da_cons (de_mul de_int (de_var (pv 1))) (da_cons (de_add (de_mul de_int (de_var (pv 1))) de_int) da_nil))) (blkOk_by (own := [("_law_at", 3)]) (N := ["_law_side", "_law_place_here", "_law_width", "_law_at"]) (sc := defScope s__law_place) (by decide +kernel)) rfl (fun _ _ _ _ _ => (gp_name (by decide) (pg_name (i := 3) sc__law_place.nd rfl (by first | exact Or.inl rfl | exact Or.inr rfl)))) (fun _ _ _ _ _ => dts_nil) (fun _ _ _ _ _ => (de_tup (da_cons (de_add de_int (de_fdiv (de_var (pv 3)) (de_var (pv 2)))) (da_cons (de_add de_int (de_mod (de_var (pv 3)) (de_var (pv 2)))) da_nil))))))))
set_option maxHeartbeats 8000000 in
theorem ok_Format_data_symbols (T : Txt K mg) : DefPr P w K mg "Format" "data_symbols" 1 f_Format_data_symbols := by
  obtain ⟨ca, p, f, fd, F, h1, h2, h3⟩ := T.d_Format_data_symbols
  refine ⟨ca, p, f, fd, h1, h2, h3, bindsTo (ps := ["self"]) F fun _ _ _ _ _ _ us hl => match us, hl with | [_], _ => rfl, fun base => fun0 (k := 0) F sc_Format_data_symbols fun cdv A outer s H E hr => ?_⟩
  have hu := hu65 hr
  have tk := L2N.takes_of (X := cxOf (L2N.CX P w) P w K mg base ["self"] "Format.data_symbols" (defScope s_Format_data_symbols) f cdv A outer s H E) rfl rfl rfl rfl
  have hpo : PassesOwn (model P w) (cxOf (L2N.CX P w) P w K mg base ["self"] "Format.data_symbols" (defScope s_Format_data_symbols) f cdv A outer s H E).A (cxOf (L2N.CX P w) P w K mg base ["self"] "Format.data_symbols" (defScope s_Format_data_symbols) f cdv A outer s H E).env (cxOf (L2N.CX P w) P w K mg base ["self"] "Format.data_symbols" (defScope s_Format_data_symbols) f cdv A outer s H E).xe := passes_of rfl
  exact (dss_one (ds_ret (de_sub (T.g_CODEWORD (by rfl)) (de_fld T.ob (f := "checks") rfl (de_var (pv 0))))))
set_option maxHeartbeats 8000000 in
theorem ok_Format_codewords (T : Txt K mg) : DefPr P w K mg "Format" "codewords" 1 f_Format_codewords := by
  obtain ⟨ca, p, f, fd, F, h1, h2, h3⟩ := T.d_Format_codewords
  refine ⟨ca, p, f, fd, h1, h2, h3, bindsTo (ps := ["self"]) F fun _ _ _ _ _ _ us hl => match us, hl with | [_], _ => rfl, fun base => fun0 (k := 0) F sc_Format_codewords fun cdv A outer s H E hr => ?_⟩
  have hu := hu65 hr
  have tk := L2N.takes_of (X := cxOf (L2N.CX P w) P w K mg base ["self", "field"] "Format.codewords" (defScope s_Format_codewords) f cdv A outer s H E) rfl rfl rfl rfl
  have hpo : PassesOwn (model P w) (cxOf (L2N.CX P w) P w K mg base ["self", "field"] "Format.codewords" (defScope s_Format_codewords) f cdv A outer s H E).A (cxOf (L2N.CX P w) P w K mg base ["self", "field"] "Format.codewords" (defScope s_Format_codewords) f cdv A outer s H E).env (cxOf (L2N.CX P w) P w K mg base ["self", "field"] "Format.codewords" (defScope s_Format_codewords) f cdv A outer s H E).xe := passes_of rfl
  exact (dss_cons (ds_setF (i := 1) (fun te h => ps_set (i := 1) sc_Format_codewords.nd rfl (Or.inl rfl) h) (de_sub (de_fld T.ob (f := "side") rfl (de_var (pv 0))) (de_mul de_int (T.g_BORDER (by rfl))))) (dss_one (ds_ret (de_fdiv (de_mul (de_var (pv 1)) (de_var (pv 1))) (de_mul (T.g_CODEWORD (by rfl)) (T.g_CELLS_OF_SYMBOL (by rfl)))))))
set_option maxHeartbeats 8000000 in
theorem ok_place_cells (T : Txt K mg) : Def0 P w K mg "place_cells" 3 ["form", "place"] f_place_cells := by
  obtain ⟨f, fd, F, hf⟩ := T.d_place_cells
  refine ⟨f, fd, hf, F.kp, bindsTo (ps := ["form", "place"]) F fun _ _ _ _ _ _ us hl => match us, hl with | [_, _], _ => rfl, fun base => fun0 (k := 2) F sc_place_cells fun cdv A outer s H E hr => ?_⟩
  have hu := hu65 hr
  have tk := L2N.takes_of (X := cxOf (L2N.CX P w) P w K mg base ["form", "place", "width", "first", "at"] "place_cells" (defScope s_place_cells) f cdv A outer s H E) rfl rfl rfl rfl
  have hpo : PassesOwn (model P w) (cxOf (L2N.CX P w) P w K mg base ["form", "place", "width", "first", "at"] "place_cells" (defScope s_place_cells) f cdv A outer s H E).A (cxOf (L2N.CX P w) P w K mg base ["form", "place", "width", "first", "at"] "place_cells" (defScope s_place_cells) f cdv A outer s H E).env (cxOf (L2N.CX P w) P w K mg base ["form", "place", "width", "first", "at"] "place_cells" (defScope s_place_cells) f cdv A outer s H E).xe := passes_of rfl
  exact (dss_cons (ds_if (dt_w (dw_or (dt_lt (de_var (pv 1)) de_int) (dw_or1 (dt_ge (de_var (pv 1)) (de_mul (T.g_CODEWORD (by rfl)) (de_prop (ok_Format_codewords T) rfl (hr.mono (by decide)) rfl (de_var (pv 0)))))))) (dss_one (ds_raise (C := "InvalidSymbol") rfl tk (T.er.c "InvalidSymbol" (by decide)) T.x_InvalidSymbol rfl (by rfl))) dss_nil) (dss_cons (ds_setF (i := 2) (fun te h => ps_set (i := 2) sc_place_cells.nd rfl (by first | exact Or.inr rfl | exact Or.inl rfl) h) (de_sub (de_fld T.ob (f := "side") rfl (de_var (pv 0))) (de_mul de_int (T.g_BORDER (by rfl))))) (dss_cons (ds_setF (i := 3) (fun te h => ps_set (i := 3) sc_place_cells.nd rfl (Or.inl rfl) h) (de_mul (T.g_CELLS_OF_SYMBOL (by rfl)) (de_var (pv 1)))) (dss_one (ds_ret (de_lc rfl sc_place_cells.nd (di_range2 (by rfl) T.b_range (da_cons (de_var (pv 3)) (da_cons (de_add (de_var (pv 3)) (T.g_CELLS_OF_SYMBOL (by rfl))) da_nil))) (blkOk_by (own := [("at", 4)]) (N := ["form", "place", "width", "first", "at"]) (sc := defScope s_place_cells) (by decide +kernel)) rfl (fun _ _ _ _ _ => (gp_name (by decide) (pg_name (i := 4) sc_place_cells.nd rfl (by first | exact Or.inl rfl | exact Or.inr rfl)))) (fun _ _ _ _ _ => dts_nil) (fun _ _ _ _ _ => (de_tup (da_cons (de_add (T.g_BORDER (by rfl)) (de_fdiv (de_var (pv 4)) (de_var (pv 2)))) (da_cons (de_add (T.g_BORDER (by rfl)) (de_mod (de_var (pv 4)) (de_var (pv 2)))) da_nil))))))))))
set_option maxHeartbeats 8000000 in
theorem ok_Format_body_size (T : Txt K mg) : DefPr P w K mg "Format" "body_size" 3 f_Format_body_size := by
  obtain ⟨ca, p, f, fd, F, h1, h2, h3⟩ := T.d_Format_body_size
  refine ⟨ca, p, f, fd, h1, h2, h3, bindsTo (ps := ["self"]) F fun _ _ _ _ _ _ us hl => match us, hl with | [_], _ => rfl, fun base => fun0 (k := 2) F sc_Format_body_size fun cdv A outer s H E hr => ?_⟩
  have hu := hu65 hr
  have tk := L2N.takes_of (X := cxOf (L2N.CX P w) P w K mg base ["self"] "Format.body_size" (defScope s_Format_body_size) f cdv A outer s H E) rfl rfl rfl rfl
  have hpo : PassesOwn (model P w) (cxOf (L2N.CX P w) P w K mg base ["self"] "Format.body_size" (defScope s_Format_body_size) f cdv A outer s H E).A (cxOf (L2N.CX P w) P w K mg base ["self"] "Format.body_size" (defScope s_Format_body_size) f cdv A outer s H E).env (cxOf (L2N.CX P w) P w K mg base ["self"] "Format.body_size" (defScope s_Format_body_size) f cdv A outer s H E).xe := passes_of rfl
  exact (dss_one (ds_ret (de_mul (de_sub (de_prop (ok_Format_codewords T) rfl (hr.mono (by decide)) rfl (de_var (pv 0))) de_int) (de_prop (ok_Format_data_symbols T) rfl (hr.mono (by decide)) rfl (de_var (pv 0))))))
set_option maxHeartbeats 8000000 in
theorem ok__law_refused (T : Txt K mg) : Def0 P w K mg "_law_refused" 4 ["_law_form_here", "_law_place_here"] f__law_refused := by
  obtain ⟨f, fd, F, hf⟩ := T.d__law_refused
  refine ⟨f, fd, hf, F.kp, bindsTo (ps := ["_law_form_here", "_law_place_here"]) F fun _ _ _ _ _ _ us hl => match us, hl with | [_, _], _ => rfl, fun base => fun0 (k := 3) F sc__law_refused fun cdv A outer s H E hr => ?_⟩
  have hu := hu65 hr
  have tk := L2N.takes_of (X := cxOf (L2N.CX P w) P w K mg base ["_law_form_here", "_law_place_here", "e"] "_law_refused" (defScope s__law_refused) f cdv A outer s H E) rfl rfl rfl rfl
  have hpo : PassesOwn (model P w) (cxOf (L2N.CX P w) P w K mg base ["_law_form_here", "_law_place_here", "e"] "_law_refused" (defScope s__law_refused) f cdv A outer s H E).A (cxOf (L2N.CX P w) P w K mg base ["_law_form_here", "_law_place_here", "e"] "_law_refused" (defScope s__law_refused) f cdv A outer s H E).env (cxOf (L2N.CX P w) P w K mg base ["_law_form_here", "_law_place_here", "e"] "_law_refused" (defScope s__law_refused) f cdv A outer s H E).xe := passes_of rfl
  exact (dss_one (ds_tryD (cs := ecs) (C := "ArchiveError") (i := 2) rfl rfl sc__law_refused.nd rfl rfl (by rfl) (by decide) rfl (by decide) T.er tk rfl (fun W pn xe tkb hpob => (dss_cons (ds_do (de_callD (ok_place_cells T) (hr.mono (by decide)) rfl (by rfl) tkb (da_cons (de_var (pv 0)) (da_cons (de_var (pv 1)) da_nil)) (rf_cons (rf_cons rf_nil)) (len_cons (len_cons len_nil)) rfl)) (dss_one (ds_ret de_bl)))) (fun a oe cls d pn hz hf => (dss_one (ds_ret (de_callB (call_isA hz hf) (cd_isE T.er) nx_isE (by rfl) T.b_isinstance (by decide +kernel) (da_cons (de_var (pv 2)) (da_cons (de_cls (C := "InvalidSymbol") T.er (by decide) rfl (by rfl)) da_nil))))))))
set_option maxHeartbeats 8000000 in
theorem ok_Format_capacity (T : Txt K mg) : DefPr P w K mg "Format" "capacity" 5 f_Format_capacity := by
  obtain ⟨ca, p, f, fd, F, h1, h2, h3⟩ := T.d_Format_capacity
  refine ⟨ca, p, f, fd, h1, h2, h3, bindsTo (ps := ["self"]) F fun _ _ _ _ _ _ us hl => match us, hl with | [_], _ => rfl, fun base => fun0 (k := 4) F sc_Format_capacity fun cdv A outer s H E hr => ?_⟩
  have hu := hu65 hr
  have tk := L2N.takes_of (X := cxOf (L2N.CX P w) P w K mg base ["self"] "Format.capacity" (defScope s_Format_capacity) f cdv A outer s H E) rfl rfl rfl rfl
  have hpo : PassesOwn (model P w) (cxOf (L2N.CX P w) P w K mg base ["self"] "Format.capacity" (defScope s_Format_capacity) f cdv A outer s H E).A (cxOf (L2N.CX P w) P w K mg base ["self"] "Format.capacity" (defScope s_Format_capacity) f cdv A outer s H E).env (cxOf (L2N.CX P w) P w K mg base ["self"] "Format.capacity" (defScope s_Format_capacity) f cdv A outer s H E).xe := passes_of rfl
  exact (dss_one (ds_ret (de_fdiv (de_sub (de_prop (ok_Format_body_size T) rfl (hr.mono (by decide)) rfl (de_var (pv 0))) (T.g_HEAD (by rfl))) de_int)))
set_option maxHeartbeats 8000000 in
theorem ok_Format___init__ (T : Txt K mg) : DefI P w K mg "Format" 7 ["self", "side", "checks"] f_Format___init__ := by
  obtain ⟨ca, f, fd, F, h1, h2⟩ := T.d_Format___init__
  refine ⟨ca, f, fd, h1, h2, bindsTo (ps := ["self", "side", "checks"]) F fun _ _ _ _ _ _ us hl => match us, hl with | [_, _, _], _ => rfl, fun base => funM (k := 6) F sc_Format___init__ fun cdv A outer s H E hr => ?_⟩
  have hu := hu65 hr
  have tk := L2N.takes_of (X := cxOf (L2N.CX P w) P w K mg base ["self", "side", "checks"] "Format.__init__" (defScope s_Format___init__) f cdv A outer s H E) rfl rfl rfl rfl
  have hpo : PassesOwn (model P w) (cxOf (L2N.CX P w) P w K mg base ["self", "side", "checks"] "Format.__init__" (defScope s_Format___init__) f cdv A outer s H E).A (cxOf (L2N.CX P w) P w K mg base ["self", "side", "checks"] "Format.__init__" (defScope s_Format___init__) f cdv A outer s H E).env (cxOf (L2N.CX P w) P w K mg base ["self", "side", "checks"] "Format.__init__" (defScope s_Format___init__) f cdv A outer s H E).xe := passes_of rfl
  exact (dss_cons (ds_if (dt_w (dw_or (dt_lt (de_var (pv 1)) (T.g_LEAST_SIDE (by rfl))) (dw_or (dt_gt (de_var (pv 1)) (T.g_GREATEST_SIDE (by rfl))) (dw_or1 (dt_notin hu (de_var (pv 2)) (T.g_NUMBERS_OF_CHECKS (by rfl))))))) (dss_one (ds_raise (C := "InvalidFormat") rfl tk (T.er.c "InvalidFormat" (by decide)) T.x_InvalidFormat rfl (by rfl))) dss_nil) (dss_cons (ds_fldSet T.ob (f := "side") rfl (dp_name (pv 0)) (de_var (pv 1))) (dss_cons (ds_fldSet T.ob (f := "checks") rfl (dp_name (pv 0)) (de_var (pv 2))) (dss_one (ds_if (dt_lt (de_weak (de_prop (ok_Format_capacity T) rfl (hr.mono (by decide)) rfl (de_ref (pv 0)))) de_int) (dss_one (ds_raise (C := "InvalidFormat") rfl tk (T.er.c "InvalidFormat" (by decide)) T.x_InvalidFormat rfl (by rfl))) dss_nil)))))
set_option maxHeartbeats 8000000 in
theorem ok_law (T : Txt K mg) : Def0 P w K mg "law" 9 ["_law_script"] f_law := by
  obtain ⟨f, fd, F, hf⟩ := T.d_law
  refine ⟨f, fd, hf, F.kp, bindsTo (ps := ["_law_script"]) F fun _ _ _ _ _ _ us hl => match us, hl with | [_], _ => rfl, fun base => fun0 (k := 8) F sc_law fun cdv A outer s H E hr => ?_⟩
  have hu := hu65 hr
  have tk := L2N.takes_of (X := cxOf (L2N.CX P w) P w K mg base ["_law_script", "_law_form_here", "_law_count", "_law_seen", "_law_place_here", "_law_side", "_law_checks", "_law_cells", "_law_cell_here"] "law" (defScope s_law) f cdv A outer s H E) rfl rfl rfl rfl
  have hpo : PassesOwn (model P w) (cxOf (L2N.CX P w) P w K mg base ["_law_script", "_law_form_here", "_law_count", "_law_seen", "_law_place_here", "_law_side", "_law_checks", "_law_cells", "_law_cell_here"] "law" (defScope s_law) f cdv A outer s H E).A (cxOf (L2N.CX P w) P w K mg base ["_law_script", "_law_form_here", "_law_count", "_law_seen", "_law_place_here", "_law_side", "_law_checks", "_law_cells", "_law_cell_here"] "law" (defScope s_law) f cdv A outer s H E).env (cxOf (L2N.CX P w) P w K mg base ["_law_script", "_law_form_here", "_law_count", "_law_seen", "_law_place_here", "_law_side", "_law_checks", "_law_cells", "_law_cell_here"] "law" (defScope s_law) f cdv A outer s H E).xe := passes_of rfl
  exact (dss_cons (ds_setG (dg_tup rfl (dgs_cons (dg_name (pg_name (i := 5) sc_law.nd rfl (Or.inl rfl))) (dgs_cons (dg_name (pg_name (i := 6) sc_law.nd rfl (Or.inl rfl))) dgs_nil))) (de_callD (ok__law_form T) (hr.mono (by decide)) rfl (by rfl) tk (da_cons (de_callD (ok__law_cell T) (hr.mono (by decide)) rfl (by rfl) tk (da_cons (de_var (pv 0)) (da_cons de_int da_nil)) (rf_cons (rf_cons rf_nil)) (len_cons (len_cons len_nil)) rfl) da_nil) (rf_cons rf_nil) (len_cons len_nil) rfl)) (dss_cons (ds_setF (i := 1) (fun te h => ps_set (i := 1) sc_law.nd rfl (Or.inl rfl) h) (de_make (ok_Format___init__ T) rfl (hr.mono (by decide)) rfl tk (by rfl) (da_cons (de_var (pv 5)) (da_cons (de_var (pv 6)) da_nil)) (rf_cons (rf_cons rf_nil)) (len_cons (len_cons len_nil)) rfl)) (dss_cons (ds_setF (i := 2) (fun te h => ps_set (i := 2) sc_law.nd rfl (Or.inl rfl) h) (de_mul de_int (de_callD (ok__law_words T) (hr.mono (by decide)) rfl (by rfl) tk (da_cons (de_var (pv 5)) da_nil) (rf_cons rf_nil) (len_cons len_nil) rfl))) (dss_cons (ds_if (dt_eq hu (de_mod (de_callD (ok__law_cell T) (hr.mono (by decide)) rfl (by rfl) tk (da_cons (de_var (pv 0)) (da_cons de_int da_nil)) (rf_cons (rf_cons rf_nil)) (len_cons (len_cons len_nil)) rfl) de_int) de_int) (dss_one (ds_ret (de_andV (de_callD (ok__law_refused T) (hr.mono (by decide)) rfl (by rfl) tk (da_cons (de_var (pv 1)) (da_cons (de_sub (de_neg de_int) (de_mod (de_fdiv (de_callD (ok__law_cell T) (hr.mono (by decide)) rfl (by rfl) tk (da_cons (de_var (pv 0)) (da_cons de_int da_nil)) (rf_cons (rf_cons rf_nil)) (len_cons (len_cons len_nil)) rfl) de_int) de_int)) da_nil)) (rf_cons (rf_cons rf_nil)) (len_cons (len_cons len_nil)) rfl) (de_one (de_callD (ok__law_refused T) (hr.mono (by decide)) rfl (by rfl) tk (da_cons (de_var (pv 1)) (da_cons (de_add (de_var (pv 2)) (de_mod (de_fdiv (de_callD (ok__law_cell T) (hr.mono (by decide)) rfl (by rfl) tk (da_cons (de_var (pv 0)) (da_cons de_int da_nil)) (rf_cons (rf_cons rf_nil)) (len_cons (len_cons len_nil)) rfl) de_int) de_int)) da_nil)) (rf_cons (rf_cons rf_nil)) (len_cons (len_cons len_nil)) rfl))))) dss_nil) (dss_cons (ds_set (i := 3) (fun te h => ps_set (i := 3) sc_law.nd rfl (Or.inl rfl) h) de_dct) (dss_cons (ds_for hpo rfl (di_range1 (by rfl) T.b_range (da_cons (de_var (pv 2)) da_nil)) (dg_name (pg_name (i := 4) sc_law.nd rfl (Or.inl rfl))) (dss_cons (ds_setF (i := 7) (fun te h => ps_set (i := 7) sc_law.nd rfl (Or.inl rfl) h) (de_callD (ok_place_cells T) (hr.mono (by decide)) rfl (by rfl) tk (da_cons (de_var (pv 1)) (da_cons (de_var (pv 4)) da_nil)) (rf_cons (rf_cons rf_nil)) (len_cons (len_cons len_nil)) rfl)) (dss_cons (ds_if (dt_w (dw_or (dt_not (dt_tru (de_callB call_isi cd_isi nx_isi (by rfl) T.b_isinstance (by decide +kernel) (da_cons (de_var (pv 7)) (da_cons (de_ty (by rfl) T.b_list (by decide +kernel)) da_nil))))) (dw_or1 (dt_ne hu (de_var (pv 7)) (de_callD (ok__law_place T) (hr.mono (by decide)) rfl (by rfl) tk (da_cons (de_var (pv 5)) (da_cons (de_var (pv 4)) da_nil)) (rf_cons (rf_cons rf_nil)) (len_cons (len_cons len_nil)) rfl))))) (dss_one (ds_ret de_bl)) dss_nil) (dss_one (ds_for hpo rfl (di_seq (de_var (pv 7))) (dg_name (pg_name (i := 8) sc_law.nd rfl (Or.inl rfl))) (dss_cons (ds_if (dt_w (dw_or (dt_not (dt_tru (de_callB call_isi cd_isi nx_isi (by rfl) T.b_isinstance (by decide +kernel) (da_cons (de_var (pv 8)) (da_cons (de_ty (by rfl) T.b_tuple (by decide +kernel)) da_nil))))) (dw_or (dt_tin (T.kf_2) hu (de_var (pv 8)) (de_ref (pv 3))) (dw_or (dt_lt (de_callB (cr_minT rfl) cd_minT nx_minT (by rfl) T.b_min (by decide +kernel) (da_cons (de_var (pv 8)) da_nil)) de_int) (dw_or1 (dt_gt (de_callB (cr_maxT rfl) cd_maxT nx_maxT (by rfl) T.b_max (by decide +kernel) (da_cons (de_var (pv 8)) da_nil)) (de_sub (de_var (pv 5)) de_int))))))) (dss_one (ds_ret de_bl)) dss_nil) (dss_one (ds_tput T.kf_2 hu (dp_name (pv 3)) (de_var (pv 8)) de_bl)))))))) (dss_one (ds_ret (de_eq hu (de_callB call_len_dT cd_lenT nx_lenT (by rfl) T.b_len (by decide +kernel) (da_consB (de_ref (pv 3)) da_nil)) (de_mul de_int (de_var (pv 2))))))))))))
end
theorem txt_mk {K : PySem.W.Frag} {h : Heap} {mg : Str → Option Value} (X : K.In h) (G : h.Ns mainGlobals mg)
    {O0 : Addr}
    {f0 : Addr} {od0 an0 : Option Addr} {sl0 : Array (Option Value)} {oc0 kV0 dc0 pm0 cd0 ct0 : Value}
    {f1 : Addr} {od1 an1 : Option Addr} {sl1 : Array (Option Value)} {oc1 kV1 dc1 pm1 cd1 ct1 : Value}
    {f2 : Addr} {od2 an2 : Option Addr} {sl2 : Array (Option Value)} {oc2 kV2 dc2 pm2 cd2 ct2 : Value}
    {f3 : Addr} {od3 an3 : Option Addr} {sl3 : Array (Option Value)} {oc3 kV3 dc3 pm3 cd3 ct3 : Value}
    {f4 : Addr} {od4 an4 : Option Addr} {sl4 : Array (Option Value)} {oc4 kV4 dc4 pm4 cd4 ct4 : Value}
    {pp4 : Addr} {rs4 : List Value}
    {f5 : Addr} {od5 an5 : Option Addr} {sl5 : Array (Option Value)} {oc5 kV5 dc5 pm5 cd5 ct5 : Value}
    {pp5 : Addr} {rs5 : List Value}
    {f6 : Addr} {od6 an6 : Option Addr} {sl6 : Array (Option Value)} {oc6 kV6 dc6 pm6 cd6 ct6 : Value}
    {f7 : Addr} {od7 an7 : Option Addr} {sl7 : Array (Option Value)} {oc7 kV7 dc7 pm7 cd7 ct7 : Value}
    {pp7 : Addr} {rs7 : List Value}
    {f8 : Addr} {od8 an8 : Option Addr} {sl8 : Array (Option Value)} {oc8 kV8 dc8 pm8 cd8 ct8 : Value}
    {f9 : Addr} {od9 an9 : Option Addr} {sl9 : Array (Option Value)} {oc9 kV9 dc9 pm9 cd9 ct9 : Value}
    {pp9 : Addr} {rs9 : List Value}
    {f10 : Addr} {od10 an10 : Option Addr} {sl10 : Array (Option Value)} {oc10 kV10 dc10 pm10 cd10 ct10 : Value}
    {f11 : Addr} {od11 an11 : Option Addr} {sl11 : Array (Option Value)} {oc11 kV11 dc11 pm11 cd11 ct11 : Value}
    {C0 : Addr}
    {C1 : Addr}
    {C2 : Addr}
    {u0 : Value}
    {u1 : Value}
    {u2 : Value}
    {u3 : Value}
    {u4 : Value}
    {u5 : Value}
    {u6 : Value}
    (oa0 : PySem.W.nsIn K mainGlobals "Format" = some (some (.ref O0)))
    (og0 : PySem.W.plainGet K O0 Str.empty = true)
    (oh0 : PySem.W.hasDictIn K O0 = true)
    (op0 : PySem.W.plainOver K O0 = true)
    (os0 : PySem.W.findIn K (.ref O0) "__setattr__" = some (some (.builtin "object.__setattr__")))
    (on0_0 : PySem.W.findIn K (.ref O0) "side" = some none)
    (on0_1 : PySem.W.findIn K (.ref O0) "checks" = some none)
    (a0 : PySem.W.nsIn K mainGlobals "_law_cell" = some (some (.ref f0)))
    (l0 : K.lookup f0 = some ⟨oc0, od0, .func (PySem.W.fnOf "_law_cell" "_law_cell" (defArgs s__law_cell) (defBody s__law_cell) (defScope s__law_cell) .none kV0 dc0 pm0 an0 cd0 ct0), sl0⟩)
    (c0 : PySem.W.codeIn K cd0 "_law_cell" = true)
    (k0 : PySem.W.keepIn K (.ref f0) = true)
    (a1 : PySem.W.nsIn K mainGlobals "_law_form" = some (some (.ref f1)))
    (l1 : K.lookup f1 = some ⟨oc1, od1, .func (PySem.W.fnOf "_law_form" "_law_form" (defArgs s__law_form) (defBody s__law_form) (defScope s__law_form) .none kV1 dc1 pm1 an1 cd1 ct1), sl1⟩)
    (c1 : PySem.W.codeIn K cd1 "_law_form" = true)
    (k1 : PySem.W.keepIn K (.ref f1) = true)
    (a2 : PySem.W.nsIn K mainGlobals "_law_words" = some (some (.ref f2)))
    (l2 : K.lookup f2 = some ⟨oc2, od2, .func (PySem.W.fnOf "_law_words" "_law_words" (defArgs s__law_words) (defBody s__law_words) (defScope s__law_words) .none kV2 dc2 pm2 an2 cd2 ct2), sl2⟩)
    (c2 : PySem.W.codeIn K cd2 "_law_words" = true)
    (k2 : PySem.W.keepIn K (.ref f2) = true)
    (a3 : PySem.W.nsIn K mainGlobals "_law_place" = some (some (.ref f3)))
    (l3 : K.lookup f3 = some ⟨oc3, od3, .func (PySem.W.fnOf "_law_place" "_law_place" (defArgs s__law_place) (defBody s__law_place) (defScope s__law_place) .none kV3 dc3 pm3 an3 cd3 ct3), sl3⟩)
    (c3 : PySem.W.codeIn K cd3 "_law_place" = true)
    (k3 : PySem.W.keepIn K (.ref f3) = true)
    (a4 : PySem.W.findIn K (.ref O0) "data_symbols" = some (some (.ref pp4)))
    (pg4 : PySem.W.specialIn K (.ref pp4) "__get__" = some (some (.builtin "property.__get__")))
    (pt4 : PySem.W.takesIn K (.ref pp4) = some true)
    (pr4 : PySem.W.recIn K pp4 "property" = some (.ref f4 :: rs4))
    (l4 : K.lookup f4 = some ⟨oc4, od4, .func (PySem.W.fnOf "data_symbols" "Format.data_symbols" (defArgs s_Format_data_symbols) (defBody s_Format_data_symbols) (defScope s_Format_data_symbols) .none kV4 dc4 pm4 an4 cd4 ct4), sl4⟩)
    (c4 : PySem.W.codeIn K cd4 "Format.data_symbols" = true)
    (k4 : PySem.W.keepIn K (.ref f4) = true)
    (a5 : PySem.W.findIn K (.ref O0) "codewords" = some (some (.ref pp5)))
    (pg5 : PySem.W.specialIn K (.ref pp5) "__get__" = some (some (.builtin "property.__get__")))
    (pt5 : PySem.W.takesIn K (.ref pp5) = some true)
    (pr5 : PySem.W.recIn K pp5 "property" = some (.ref f5 :: rs5))
    (l5 : K.lookup f5 = some ⟨oc5, od5, .func (PySem.W.fnOf "codewords" "Format.codewords" (defArgs s_Format_codewords) (defBody s_Format_codewords) (defScope s_Format_codewords) .none kV5 dc5 pm5 an5 cd5 ct5), sl5⟩)
    (c5 : PySem.W.codeIn K cd5 "Format.codewords" = true)
    (k5 : PySem.W.keepIn K (.ref f5) = true)
    (a6 : PySem.W.nsIn K mainGlobals "place_cells" = some (some (.ref f6)))
    (l6 : K.lookup f6 = some ⟨oc6, od6, .func (PySem.W.fnOf "place_cells" "place_cells" (defArgs s_place_cells) (defBody s_place_cells) (defScope s_place_cells) .none kV6 dc6 pm6 an6 cd6 ct6), sl6⟩)
    (c6 : PySem.W.codeIn K cd6 "place_cells" = true)
    (k6 : PySem.W.keepIn K (.ref f6) = true)
    (a7 : PySem.W.findIn K (.ref O0) "body_size" = some (some (.ref pp7)))
    (pg7 : PySem.W.specialIn K (.ref pp7) "__get__" = some (some (.builtin "property.__get__")))
    (pt7 : PySem.W.takesIn K (.ref pp7) = some true)
    (pr7 : PySem.W.recIn K pp7 "property" = some (.ref f7 :: rs7))
    (l7 : K.lookup f7 = some ⟨oc7, od7, .func (PySem.W.fnOf "body_size" "Format.body_size" (defArgs s_Format_body_size) (defBody s_Format_body_size) (defScope s_Format_body_size) .none kV7 dc7 pm7 an7 cd7 ct7), sl7⟩)
    (c7 : PySem.W.codeIn K cd7 "Format.body_size" = true)
    (k7 : PySem.W.keepIn K (.ref f7) = true)
    (a8 : PySem.W.nsIn K mainGlobals "_law_refused" = some (some (.ref f8)))
    (l8 : K.lookup f8 = some ⟨oc8, od8, .func (PySem.W.fnOf "_law_refused" "_law_refused" (defArgs s__law_refused) (defBody s__law_refused) (defScope s__law_refused) .none kV8 dc8 pm8 an8 cd8 ct8), sl8⟩)
    (c8 : PySem.W.codeIn K cd8 "_law_refused" = true)
    (k8 : PySem.W.keepIn K (.ref f8) = true)
    (a9 : PySem.W.findIn K (.ref O0) "capacity" = some (some (.ref pp9)))
    (pg9 : PySem.W.specialIn K (.ref pp9) "__get__" = some (some (.builtin "property.__get__")))
    (pt9 : PySem.W.takesIn K (.ref pp9) = some true)
    (pr9 : PySem.W.recIn K pp9 "property" = some (.ref f9 :: rs9))
    (l9 : K.lookup f9 = some ⟨oc9, od9, .func (PySem.W.fnOf "capacity" "Format.capacity" (defArgs s_Format_capacity) (defBody s_Format_capacity) (defScope s_Format_capacity) .none kV9 dc9 pm9 an9 cd9 ct9), sl9⟩)
    (c9 : PySem.W.codeIn K cd9 "Format.capacity" = true)
    (k9 : PySem.W.keepIn K (.ref f9) = true)
    (a10 : PySem.W.findIn K (.ref O0) "__init__" = some (some (.ref f10)))
    (i10 : PySem.W.isFn K (.ref f10) = true)
    (l10 : K.lookup f10 = some ⟨oc10, od10, .func (PySem.W.fnOf "__init__" "Format.__init__" (defArgs s_Format___init__) (defBody s_Format___init__) (defScope s_Format___init__) .none kV10 dc10 pm10 an10 cd10 ct10), sl10⟩)
    (c10 : PySem.W.codeIn K cd10 "Format.__init__" = true)
    (k10 : PySem.W.keepIn K (.ref f10) = true)
    (mk0 : PySem.W.makesIn K O0 = true)
    (kc0O : PySem.W.keepIn K (.ref O0) = true)
    (a11 : PySem.W.nsIn K mainGlobals "law" = some (some (.ref f11)))
    (l11 : K.lookup f11 = some ⟨oc11, od11, .func (PySem.W.fnOf "law" "law" (defArgs s_law) (defBody s_law) (defScope s_law) .none kV11 dc11 pm11 an11 cd11 ct11), sl11⟩)
    (c11 : PySem.W.codeIn K cd11 "law" = true)
    (k11 : PySem.W.keepIn K (.ref f11) = true)
    (z0 : PySem.W.nsIn K mainGlobals "int" = some none)
    (z1 : PySem.W.nsIn K mainGlobals "isinstance" = some none)
    (z2 : PySem.W.nsIn K mainGlobals "len" = some none)
    (z3 : PySem.W.nsIn K mainGlobals "list" = some none)
    (z4 : PySem.W.nsIn K mainGlobals "max" = some none)
    (z5 : PySem.W.nsIn K mainGlobals "min" = some none)
    (z6 : PySem.W.nsIn K mainGlobals "range" = some none)
    (z7 : PySem.W.nsIn K mainGlobals "tuple" = some none)
    (ea0 : PySem.W.nsIn K mainGlobals "ArchiveError" = some (some (.ref C0)))
    (ek0 : PySem.W.keepIn K (.ref C0) = true)
    (es0 : PySem.W.subIn K (.ref C0) (.type "BaseException") = some true)
    (et0 : PySem.W.typeIn K (.ref C0) = some (.type "type"))
    (ei0 : PySem.W.isClsIn K C0 = true)
    (ev0 : PySem.W.subIn K (.ref C0) (.type "ValueError") = some true)
    (e10 : PySem.W.findIn K (.ref C0) "__getattribute__" = some (some (.builtin "BaseException.__getattribute__")))
    (e20 : PySem.W.findIn K (.ref C0) "__getattr__" = some none)
    (e30 : PySem.W.hasDictIn K C0 = true)
    (e40 : PySem.W.findIn K (.ref C0) "__class__" = some (some (.builtin "object.__class__")))
    (e50 : PySem.W.mroIn K C0 (.type "object") = some true)
    (ea1 : PySem.W.nsIn K mainGlobals "InvalidFormat" = some (some (.ref C1)))
    (ek1 : PySem.W.keepIn K (.ref C1) = true)
    (es1 : PySem.W.subIn K (.ref C1) (.type "BaseException") = some true)
    (et1 : PySem.W.typeIn K (.ref C1) = some (.type "type"))
    (ei1 : PySem.W.isClsIn K C1 = true)
    (ev1 : PySem.W.subIn K (.ref C1) (.type "ValueError") = some true)
    (e11 : PySem.W.findIn K (.ref C1) "__getattribute__" = some (some (.builtin "BaseException.__getattribute__")))
    (e21 : PySem.W.findIn K (.ref C1) "__getattr__" = some none)
    (e31 : PySem.W.hasDictIn K C1 = true)
    (e41 : PySem.W.findIn K (.ref C1) "__class__" = some (some (.builtin "object.__class__")))
    (e51 : PySem.W.mroIn K C1 (.type "object") = some true)
    (ea2 : PySem.W.nsIn K mainGlobals "InvalidSymbol" = some (some (.ref C2)))
    (ek2 : PySem.W.keepIn K (.ref C2) = true)
    (es2 : PySem.W.subIn K (.ref C2) (.type "BaseException") = some true)
    (et2 : PySem.W.typeIn K (.ref C2) = some (.type "type"))
    (ei2 : PySem.W.isClsIn K C2 = true)
    (ev2 : PySem.W.subIn K (.ref C2) (.type "ValueError") = some true)
    (e12 : PySem.W.findIn K (.ref C2) "__getattribute__" = some (some (.builtin "BaseException.__getattribute__")))
    (e22 : PySem.W.findIn K (.ref C2) "__getattr__" = some none)
    (e32 : PySem.W.hasDictIn K C2 = true)
    (e42 : PySem.W.findIn K (.ref C2) "__class__" = some (some (.builtin "object.__class__")))
    (e52 : PySem.W.mroIn K C2 (.type "object") = some true)
    (e6 : PySem.W.specialIn K (.builtin "object.__class__") "__get__" = some (some (.builtin "getset_descriptor.__get__")))
    (e7 : PySem.W.takesIn K (.builtin "object.__class__") = some true)
    (p0_0 : PySem.W.subIn K (.ref C0) (.ref C0) = some true)
    (p0_1 : PySem.W.subIn K (.ref C0) (.ref C1) = some false)
    (p0_2 : PySem.W.subIn K (.ref C0) (.ref C2) = some false)
    (p1_0 : PySem.W.subIn K (.ref C1) (.ref C0) = some true)
    (p1_1 : PySem.W.subIn K (.ref C1) (.ref C1) = some true)
    (p1_2 : PySem.W.subIn K (.ref C1) (.ref C2) = some false)
    (p2_0 : PySem.W.subIn K (.ref C2) (.ref C0) = some true)
    (p2_1 : PySem.W.subIn K (.ref C2) (.ref C1) = some false)
    (p2_2 : PySem.W.subIn K (.ref C2) (.ref C2) = some true)
    (ex0 : PySem.W.excIn K C0 [.type "ValueError", .type "Exception", .type "BaseException", .type "object"] "ValueError.__new__" = true)
    (ex1 : PySem.W.excIn K C1 [.type "ValueError", .type "Exception", .type "BaseException", .type "object"] "ValueError.__new__" = true)
    (ex2 : PySem.W.excIn K C2 [.type "ValueError", .type "Exception", .type "BaseException", .type "object"] "ValueError.__new__" = true)
    (kc0 : PySem.W.nsIn K mainGlobals "BORDER" = some (some u0))
    (kd0 : dOf K 1 u0 = some d_BORDER)
    (kc1 : PySem.W.nsIn K mainGlobals "CELLS_OF_SYMBOL" = some (some u1))
    (kd1 : dOf K 1 u1 = some d_CELLS_OF_SYMBOL)
    (kc2 : PySem.W.nsIn K mainGlobals "CODEWORD" = some (some u2))
    (kd2 : dOf K 1 u2 = some d_CODEWORD)
    (kc3 : PySem.W.nsIn K mainGlobals "GREATEST_SIDE" = some (some u3))
    (kd3 : dOf K 1 u3 = some d_GREATEST_SIDE)
    (kc4 : PySem.W.nsIn K mainGlobals "HEAD" = some (some u4))
    (kd4 : dOf K 1 u4 = some d_HEAD)
    (kc5 : PySem.W.nsIn K mainGlobals "LEAST_SIDE" = some (some u5))
    (kd5 : dOf K 1 u5 = some d_LEAST_SIDE)
    (kc6 : PySem.W.nsIn K mainGlobals "NUMBERS_OF_CHECKS" = some (some u6))
    (kd6 : dOf K 2 u6 = some d_NUMBERS_OF_CHECKS)
    (kf2 : kfree K [2] = true)
    : Txt K mg :=
  { d__law_cell := ⟨f0, _, fun_mk (st := s__law_cell) l0 c0 k0, PySem.W.mg_of X G a0⟩,
    d__law_form := ⟨f1, _, fun_mk (st := s__law_form) l1 c1 k1, PySem.W.mg_of X G a1⟩,
    d__law_words := ⟨f2, _, fun_mk (st := s__law_words) l2 c2 k2, PySem.W.mg_of X G a2⟩,
    d__law_place := ⟨f3, _, fun_mk (st := s__law_place) l3 c3 k3, PySem.W.mg_of X G a3⟩,
    d_Format_data_symbols := ⟨O0, pp4, f4, _, fun_mk (st := s_Format_data_symbols) l4 c4 k4, PySem.W.mg_of X G oa0, ⟨og0, oh0, op0, os0⟩, ⟨a4, pg4, pt4, _, pr4⟩⟩,
    d_Format_codewords := ⟨O0, pp5, f5, _, fun_mk (st := s_Format_codewords) l5 c5 k5, PySem.W.mg_of X G oa0, ⟨og0, oh0, op0, os0⟩, ⟨a5, pg5, pt5, _, pr5⟩⟩,
    d_place_cells := ⟨f6, _, fun_mk (st := s_place_cells) l6 c6 k6, PySem.W.mg_of X G a6⟩,
    d_Format_body_size := ⟨O0, pp7, f7, _, fun_mk (st := s_Format_body_size) l7 c7 k7, PySem.W.mg_of X G oa0, ⟨og0, oh0, op0, os0⟩, ⟨a7, pg7, pt7, _, pr7⟩⟩,
    d__law_refused := ⟨f8, _, fun_mk (st := s__law_refused) l8 c8 k8, PySem.W.mg_of X G a8⟩,
    d_Format_capacity := ⟨O0, pp9, f9, _, fun_mk (st := s_Format_capacity) l9 c9 k9, PySem.W.mg_of X G oa0, ⟨og0, oh0, op0, os0⟩, ⟨a9, pg9, pt9, _, pr9⟩⟩,
    d_Format___init__ := ⟨O0, f10, _, fun_mk (st := s_Format___init__) l10 c10 k10, PySem.W.mg_of X G oa0, ⟨mk0, a10, i10, kc0O⟩⟩,
    d_law := ⟨f11, _, fun_mk (st := s_law) l11 c11 k11, PySem.W.mg_of X G a11⟩,
    ob := ObT.of [("Format", ["side", "checks"], O0)] rfl ⟨⟨PySem.W.mg_of X G oa0, ⟨og0, oh0, op0, os0⟩, ⟨on0_0, on0_1, trivial⟩⟩, trivial⟩,
    b_int := PySem.W.mg_none_of X G z0,
    b_isinstance := PySem.W.mg_none_of X G z1,
    b_len := PySem.W.mg_none_of X G z2,
    b_list := PySem.W.mg_none_of X G z3,
    b_max := PySem.W.mg_none_of X G z4,
    b_min := PySem.W.mg_none_of X G z5,
    b_range := PySem.W.mg_none_of X G z6,
    b_tuple := PySem.W.mg_none_of X G z7,
    er := ErT.of [("ArchiveError", C0), ("InvalidFormat", C1), ("InvalidSymbol", C2)] rfl ⟨⟨PySem.W.mg_of X G ea0, ek0, es0, et0, ⟨e10, e20, es0, e30, e40, e6, e7, e50⟩, ei0, ev0⟩, ⟨PySem.W.mg_of X G ea1, ek1, es1, et1, ⟨e11, e21, es1, e31, e41, e6, e7, e51⟩, ei1, ev1⟩, ⟨PySem.W.mg_of X G ea2, ek2, es2, et2, ⟨e12, e22, es2, e32, e42, e6, e7, e52⟩, ei2, ev2⟩, trivial⟩ ⟨⟨p0_0, p0_1, p0_2, trivial⟩, ⟨p1_0, p1_1, p1_2, trivial⟩, ⟨p2_0, p2_1, p2_2, trivial⟩, trivial⟩,
    x_ArchiveError := fun ca h => by
      cases (PySem.W.mg_of X G ea0).symm.trans h
      exact ex0,
    x_InvalidFormat := fun ca h => by
      cases (PySem.W.mg_of X G ea1).symm.trans h
      exact ex1,
    x_InvalidSymbol := fun ca h => by
      cases (PySem.W.mg_of X G ea2).symm.trans h
      exact ex2,
    k_BORDER := kd_mk (PySem.W.mg_of X G kc0) kd0,
    k_CELLS_OF_SYMBOL := kd_mk (PySem.W.mg_of X G kc1) kd1,
    k_CODEWORD := kd_mk (PySem.W.mg_of X G kc2) kd2,
    k_GREATEST_SIDE := kd_mk (PySem.W.mg_of X G kc3) kd3,
    k_HEAD := kd_mk (PySem.W.mg_of X G kc4) kd4,
    k_LEAST_SIDE := kd_mk (PySem.W.mg_of X G kc5) kd5,
    k_NUMBERS_OF_CHECKS := kd_mk (PySem.W.mg_of X G kc6) kd6,
    kf_2 := kfree_of kf2 }
end Lw
namespace Lw
open PySem PySem.Spec PyProof.Rows L2 Dt
def cell (ns : List Int) (k : Nat) : Int := ns.getD k 0
theorem v_cell (ns : List Int) (k : Nat) : f__law_cell [script ns, .int k] = .ok (.int (cell ns k)) := by
  unfold f__law_cell
  rw [ev_run]
  by_cases h : k < ns.length
  · have e : atI (ns.map D.int) (k : Int) = some (.int (cell ns k)) := by
      rw [atI_nat' _ _ (by simpa using h)]; simp [cell, h]
    simp [t__law_cell, script, h, ixD_of _ _ e]
  · simp [t__law_cell, script, h, cell]
end Lw
namespace Lw
open PySem PySem.Spec PyProof.Rows L2 Dt
def isI (r : R D) (i : Int) : Bool := match r with | .ok (.int j) => decide (j = i) | _ => false
theorem isI_ok {r : R D} {i : Int} (h : isI r i = true) : r = .ok (.int i) := by
  unfold isI at h
  split at h
  · rw [of_decide_eq_true h]
  · cases h
theorem nr1' (n : Nat) (h : n ≤ 1000000) : nRange1 [.int (n : Int)] = .ok ((List.range n).map fun (j : Nat) => D.int ((j : Nat) : Int)) := nr1 n (Nat.le_trans h (by omega))
theorem args1 {f : List D → R (List D)} {fs : Dt.Env → R (List D)} {ρ : Dt.Env} {ds : List D} (h : fs ρ = .ok ds) : dArgs f fs ρ = f ds := by
  show (fs ρ).bind f = _
  rw [h]
  rfl
theorem mul1 (o : Option Nat) (x : D) (n : Int) (hx : x.rf = true) (hn : 0 ≤ n ∧ n ≤ 16777216) : fMul true (.lst o [x]) (.int n) = .ok (.lst (some 0) (List.replicate n.toNat x)) := by
  have e : ∀ n : Nat, (List.replicate n [x]).flatten = List.replicate n x := by
    intro n
    induction n with
    | zero => rfl
    | succ n ih => rw [List.replicate_succ, List.flatten_cons, ih, List.replicate_succ]; rfl
  show (if ck true [x] = true ∧ -9223372036854775808 ≤ n ∧ n < 9223372036854775808 ∧ [x].length * n.toNat ≤ 16777216 then R.ok (D.lst (some 0) (List.replicate n.toNat [x]).flatten) else .bad) = _
  rw [if_pos ⟨by show (x.rf && true) = true; rw [hx]; rfl, by omega, by omega, by simp; omega⟩, e]
theorem e_lst1 {fa : Dt.Env → R D} {ρ : Dt.Env} {d : D} (h : fa ρ = .ok d) : dLst (dCons fa dNil) ρ = .ok (.lst (some 0) [d.fr]) := by
  unfold dLst dCons
  rw [h]
  show (if allRf [d.fr] = true ∧ [d.fr].length ≤ 16777216 then R.ok (D.lst (some 0) [d.fr]) else .bad) = _
  rw [if_pos ⟨by show (d.fr.rf && true) = true; rw [D.rf_fr]; rfl, by show 1 ≤ 16777216; omega⟩]
theorem e_op {f : D → D → R D} {fa fb : Dt.Env → R D} {ρ : Dt.Env} {x y : D} {z : R D} (h1 : fa ρ = .ok x) (h2 : fb ρ = .ok y) (h : f x.fr y.fr = z) : dOp true true f fa fb ρ = z := by
  unfold dOp
  rw [h1, Dt.R.bind_ok, h2, Dt.R.bind_ok]
  exact h
theorem e_call1 {f : List D → R D} {fa : Dt.Env → R D} {ρ : Dt.Env} {x : D} {z : R D} (h1 : fa ρ = .ok x) (h : f [x.fr] = z) : dCall f (dCons fa dNil) ρ = z := by
  unfold dCall dCons
  rw [h1]
  exact h
theorem e_call2 {f : List D → R D} {fa fb : Dt.Env → R D} {ρ : Dt.Env} {x y : D} {z : R D} (h1 : fa ρ = .ok x) (h2 : fb ρ = .ok y) (h : f [x.fr, y.fr] = z) : dCall f (dCons fa (dCons fb dNil)) ρ = z := by
  unfold dCall dCons
  rw [h1, h2]
  exact h
theorem sf_of {i : Nat} {fa : Dt.Env → R D} {ρ : Dt.Env} {d : D} {t : DTS} (h : fa ρ = .ok d) : dSeq (dSetF i fa) t ρ = t (ρ.set i (some d.fr)) := by
  unfold dSeq
  rw [ev_setF, h]
  rfl
theorem ss_of {i : Nat} {fa : Dt.Env → R D} {ρ : Dt.Env} {d : D} {t : DTS} (h : fa ρ = .ok d) : dSeq (dSet i fa) t ρ = t (ρ.set i (some d)) := by
  unfold dSeq dSet
  rw [h]
  rfl
theorem ret_of {fa : Dt.Env → R D} {ρ : Dt.Env} {d : D} (h : fa ρ = .ok d) : (dRet fa ρ).res = .ok d := by
  unfold dRet
  rw [h]
  rfl
theorem foldl_map {α β : Type} (f : α → β) : ∀ (as : List α) (s : List β), as.foldl (fun s a => s ++ [f a]) s = s ++ as.map f
  | [], s => by simp
  | a :: as, s => by rw [List.foldl_cons, foldl_map f as]; simp
theorem e_opF {f : D → D → R D} {fa fb : Dt.Env → R D} {ρ : Dt.Env} {x y : D} {z : R D} (h1 : fa ρ = .ok x) (h2 : fb ρ = .ok y) (h : f x y.fr = z) : dOp false true f fa fb ρ = z := by
  unfold dOp
  rw [h1, Dt.R.bind_ok, h2, Dt.R.bind_ok]
  exact h
theorem tup2 {fa fb : Dt.Env → R D} {ρ : Dt.Env} {a b : D} (ha : fa ρ = .ok a) (hb : fb ρ = .ok b) : dTup (dCons fa (dCons fb dNil)) ρ = .ok (.tup [a.fr, b.fr]) := by
  unfold dTup dCons
  rw [ha, Dt.R.bind_ok, hb, Dt.R.bind_ok]
  show (if [a.fr, b.fr].length ≤ 16777216 then R.ok (D.tup [a.fr, b.fr]) else .bad) = _
  exact if_pos (by show 2 ≤ 16777216; omega)
theorem or_ff {fa fb : Dt.Env → R Bool} {ρ : Dt.Env} {x : R Bool} (h1 : fa ρ = .ok false) (h2 : fb ρ = x) : dOr fa fb ρ = x := by
  unfold dOr
  rw [h1]
  exact h2
theorem not_tru {fa : Dt.Env → R D} {ρ : Dt.Env} {b : Bool} (h : fa ρ = .ok (.bl b)) : dNot (dTru fa) ρ = .ok (!b) := by
  unfold dNot dTru
  rw [h]
  rfl
theorem b_of {fa : Dt.Env → R D} {ρ : Dt.Env} {b : Bool} (h : fa ρ = .ok (.bl b)) : dB fa ρ = .ok b := by
  unfold dB
  rw [h]
  rfl
theorem if_no {fc : Dt.Env → R Bool} {ρ : Dt.Env} {t u : DTS} (h : fc ρ = .ok false) : dSeq (dIf fc t dNx) u ρ = u ρ := by
  unfold dSeq dIf
  rw [h]
  rfl
theorem e_call3 {f : List D → R D} {fa fb fc : Dt.Env → R D} {ρ : Dt.Env} {x y w : D} {z : R D} (h1 : fa ρ = .ok x) (h2 : fb ρ = .ok y) (h3 : fc ρ = .ok w) (h : f [x.fr, y.fr, w.fr] = z) : dCall f (dCons fa (dCons fb (dCons fc dNil))) ρ = z := by
  unfold dCall dCons
  rw [h1, h2, h3]
  exact h
theorem and_t {fa fb : Dt.Env → R D} {ρ : Dt.Env} {z : R D} (h1 : fa ρ = .ok (.bl true)) (h2 : fb ρ = z) : dAndV fa fb ρ = z := by
  unfold dAndV
  rw [h1]
  exact h2
end Lw
namespace Lw
open PySem PySem.Spec PyProof.Rows L2 Dt
/-- squares of numbers -/
def rowI (n : Nat) (h : Nat → Int) : List D := (List.range n).map fun j => D.int (h j)
def rI (n : Nat) (h : Nat → Int) : D := .lst none (rowI n h)
def pgL (n : Nat) (f : Nat → Nat → Int) : List D := (List.range n).map fun i => rI n (f i)
def pgI (n : Nat) (f : Nat → Nat → Int) : D := .lst none (pgL n f)
theorem rowI_len (n : Nat) (h : Nat → Int) : (rowI n h).length = n := by simp [rowI]
theorem pgL_len (n : Nat) (f : Nat → Nat → Int) : (pgL n f).length = n := by simp [pgL]
theorem rowI_ints (n : Nat) (h : Nat → Int) : rowI n h = ((List.range n).map h).map D.int := by
  unfold rowI
  rw [List.map_map]
  rfl
theorem rowI_rf (n : Nat) (h : Nat → Int) : allRf (rowI n h) = true := by rw [rowI_ints]; exact allRf_ints _
theorem rowI_fz (n : Nat) (h : Nat → Int) : D.frzL (rowI n h) = rowI n h := by rw [rowI_ints]; exact frzL_ints _
theorem rI_fr (n : Nat) (h : Nat → Int) (o : Option Nat) : (D.lst o (rowI n h)).fr = rI n h := by
  cases o with
  | none => rfl
  | some k => exact congrArg (D.lst none) (rowI_fz n h)
theorem rI_fz (n : Nat) (h : Nat → Int) : (rI n h).frz = rI n h := congrArg (D.lst none) (rowI_fz n h)
theorem pgL_fz (n : Nat) (f : Nat → Nat → Int) : D.frzL (pgL n f) = pgL n f := by
  rw [D.frzL_eq]
  unfold pgL
  rw [List.map_map]
  exact List.map_congr_left fun i _ => rI_fz n (f i)
theorem allRf_map {α : Type} (mk : α → D) (h : ∀ a, (mk a).rf = true) : ∀ as : List α, allRf (as.map mk) = true
  | [] => rfl
  | a :: as => by
    show ((mk a).rf && allRf (as.map mk)) = true
    rw [h, allRf_map mk h as]
    rfl
theorem rI_rf (n : Nat) (h : Nat → Int) : (rI n h).rf = true := rfl
theorem pgL_rf (n : Nat) (f : Nat → Nat → Int) : allRf (pgL n f) = true := allRf_map _ (fun i => rI_rf n (f i)) _
theorem pgI_rf (n : Nat) (f : Nat → Nat → Int) : (pgI n f).rf = true := rfl
theorem pgI_fr (n : Nat) (f : Nat → Nat → Int) (o : Option Nat) : (D.lst o (pgL n f)).fr = pgI n f := by
  cases o with
  | none => rfl
  | some k => exact congrArg (D.lst none) (pgL_fz n f)
theorem pg_at (n : Nat) (f : Nat → Nat → Int) (i : Nat) (h : i < n) (o : Option Nat) : fIx true (.lst o (pgL n f)) (.int (i : Int)) = .ok (rI n (f i)) := by
  apply ix_lst
  · rw [atI_nat' _ _ (by rw [pgL_len]; exact h)]
    simp [pgL]
  · exact rI_rf n (f i)
theorem row_at (n : Nat) (h : Nat → Int) (i : Nat) (hi : i < n) : fIx true (rI n h) (.int (i : Int)) = .ok (.int (h i)) := by
  apply ix_lst
  · rw [atI_nat' _ _ (by rw [rowI_len]; exact hi)]
    simp [rowI]
  · rfl
theorem rowI_congr {n : Nat} {h g : Nat → Int} (e : ∀ j, j < n → h j = g j) : rowI n h = rowI n g := by
  unfold rowI
  exact List.map_congr_left fun j hj => by rw [e j (List.mem_range.mp hj)]
theorem pgL_congr {n : Nat} {f g : Nat → Nat → Int} (e : ∀ i j, i < n → j < n → f i j = g i j) : pgL n f = pgL n g := by
  unfold pgL
  exact List.map_congr_left fun i hi => by
    unfold rI
    rw [rowI_congr fun j hj => e i j (List.mem_range.mp hi) hj]
/-! ### the law's turns -/
def qt (n : Nat) (f : Nat → Nat → Int) : Nat → Nat → Int := fun i j => f (n - 1 - j) i
def rv (n : Nat) (f : Nat → Nat → Int) : Nat → Nat → Int := fun i j => f i (n - 1 - j)
def qtN (n : Nat) : Nat → (Nat → Nat → Int) → Nat → Nat → Int
  | 0, f => f
  | m + 1, f => qtN n m (qt n f)
def tf (n t : Nat) (f : Nat → Nat → Int) : Nat → Nat → Int := qtN n (t % 4) (if t > 3 then rv n f else f)
theorem rng_map (n : Nat) (h : n ≤ 1000000) : nRange1 [.int (n : Int)] = .ok ((List.range n).map fun (j : Nat) => D.int ((j : Nat) : Int)) := nr1 n (Nat.le_trans h (by omega))
theorem lc_same {tg : Tg} {fe : Dt.Env → R D} {vs : List Nat} {fi : Dt.Env → R (List D)} {ρ ρw : Dt.Env} {α : Type} (mk f : α → D) (as : List α) (hi : fi ρ = .ok (as.map mk)) (hw : wipeE ρ vs = ρw) (h : ∀ a ∈ as, ∃ ρ1, tg (mk a) ρw = some ρ1 ∧ fe ρ1 = .ok (f a)) (hl : as.length ≤ 16777216) :
    dLc vs fi tg dYes fe ρ = .ok (.lst (some 0) (as.map f)) := by
  unfold dLc
  rw [hi, Dt.R.bind_ok, hw, lc_map mk f as h hl]
  rfl
theorem dFor_of {fi : Dt.Env → R (List D)} {tg : Tg} {t u : DTS} {ρ ρ2 : Dt.Env} {ds : List D} (hi : fi ρ = .ok ds) (h : dForL tg t ds ρ = .nx ρ2) : dSeq (dFor fi tg t) u ρ = u ρ2 := by
  unfold dSeq
  rw [ev_for (ds := ds) _ _ _ _ hi, h]
  rfl
theorem if_yes {fc : Dt.Env → R Bool} {ρ : Dt.Env} {t u : DTS} (h : fc ρ = .ok true) : dSeq (dIf fc t dNx) u ρ = dSeq t u ρ := by
  unfold dSeq dIf
  rw [h]
  rfl
theorem seq_lst {xs : List D} (h : allRf xs = true) : seqD (.lst none xs) = .ok xs := by
  unfold seqD
  first | rfl | exact if_pos h
end Lw
namespace Lw
open PySem PySem.Spec PyProof.Rows L2 Dt
abbrev fmt (s c : Int) : D := .obj none "Format" ["side", "checks"] [.int s, .int c]
abbrev fmO (t : Nat) (s c : Int) : D := .obj (some t) "Format" ["side", "checks"] [.int s, .int c]
def fw (s : Int) : Int := (s - 4) * (s - 4) / 64
def fb (s c : Int) : Int := (fw s - 1) * (16 - c)
def fcap (s c : Int) : Int := (fb s c - 10) / 2
theorem v_words (s c : Int) (hs : -1000000000 ≤ s ∧ s ≤ 1000000000) : f_Format_codewords [fmt s c] = .ok (.int (fw s)) := by
  unfold f_Format_codewords
  rw [ev_run]
  have b : (-18446744073709551616 < s - 4 ∧ s - 4 < 18446744073709551616) := by omega
  simp [t_Format_codewords, fw, b]
theorem v_data (s c : Int) : f_Format_data_symbols [fmt s c] = .ok (.int (16 - c)) := by
  unfold f_Format_data_symbols
  rw [ev_run]
  simp [t_Format_data_symbols]
theorem v_body (s c : Int) (hs : -1000000000 ≤ s ∧ s ≤ 1000000000) (hc : -1000 ≤ c ∧ c ≤ 1000) : f_Format_body_size [fmt s c] = .ok (.int (fb s c)) := by
  unfold f_Format_body_size
  rw [ev_run]
  have b : (-18446744073709551616 < 16 - c ∧ 16 - c < 18446744073709551616) := by omega
  simp [t_Format_body_size, v_words s c hs, v_data, fb, b]
theorem v_cap (s c : Int) (hs : -1000000000 ≤ s ∧ s ≤ 1000000000) (hc : -1000 ≤ c ∧ c ≤ 1000) : f_Format_capacity [fmt s c] = .ok (.int (fcap s c)) := by
  unfold f_Format_capacity
  rw [ev_run]
  simp [t_Format_capacity, v_body s c hs hc, fcap]
def fok (s c : Int) : Prop := (16 ≤ s ∧ s ≤ 40) ∧ (c = 2 ∨ c = 4 ∨ c = 6 ∨ c = 8) ∧ 1 ≤ fcap s c
instance (s c : Int) : Decidable (fok s c) := by unfold fok; infer_instance
theorem in_checks (c : Int) : fNotIn (.int c) d_NUMBERS_OF_CHECKS.fr = .ok (.bl (!decide (c = 2 ∨ c = 4 ∨ c = 6 ∨ c = 8))) := by
  show fNotIn (.int c) (.tup [.int 2, .int 4, .int 6, .int 8]) = _
  unfold fNotIn dIn
  simp [allSc, D.sc]
  congr 3 <;> simp [eq_comm]
theorem v_format (s c : Int) (hs : -1000000000 ≤ s ∧ s ≤ 1000000000) (hc : -1000 ≤ c ∧ c ≤ 1000) : fnMake "Format" f_Format___init__ [.int s, .int c] = if fok s c then .ok (fmO 0 s c) else .ex ⟨"InvalidFormat", none⟩ := by
  unfold f_Format___init__
  by_cases h1 : (16 ≤ s ∧ s ≤ 40)
  · have a1 : ¬ s < 16 := by omega
    have a2 : ¬ 40 < s := by omega
    by_cases h2 : c = 2 ∨ c = 4 ∨ c = 6 ∨ c = 8
    · have vc := v_cap s c hs hc
      by_cases h3 : 1 ≤ fcap s c
      · rw [if_pos ⟨h1, h2, h3⟩]
        have a3 : ¬ fcap s c < 1 := by omega
        simp [t_Format___init__, r_Format___init___0, r_Format___init___1, r_Format___init___2, r_Format___init___3, a1, a2, in_checks, h2, vc, a3]
      · rw [if_neg fun z => h3 z.2.2]
        have a3 : fcap s c < 1 := by omega
        simp [t_Format___init__, r_Format___init___0, r_Format___init___1, r_Format___init___2, r_Format___init___3, a1, a2, in_checks, h2, vc, a3]
    · rw [if_neg fun z => h2 z.2.1]
      simp [t_Format___init__, r_Format___init___0, a1, a2, in_checks, h2]
  · rw [if_neg fun z => h1 z.1]
    by_cases a1 : s < 16
    · simp [t_Format___init__, r_Format___init___0, a1]
    · have a2 : 40 < s := by omega
      simp [t_Format___init__, r_Format___init___0, a1, a2]
end Lw
namespace Lw
open PySem PySem.Spec PyProof.Rows L2 Dt
theorem fin_fok : ∀ (i : Fin 25) (j : Fin 4), (i.val < 2 → j.val < 2) → fok (16 + i.val) (2 + 2 * j.val) := by decide +kernel
theorem fok_of {s c : Int} (h1 : 16 ≤ s ∧ s ≤ 40) (h2 : c = 2 ∨ c = 4 ∨ c = 6 ∨ c = 8) (h3 : s < 18 → c ≤ 4) : fok s c := by
  have h := fin_fok ⟨(s - 16).toNat, by omega⟩ ⟨((c - 2) / 2).toNat, by omega⟩ (by show (s - 16).toNat < 2 → ((c - 2) / 2).toNat < 2; omega)
  simp only at h
  rw [show (16 : Int) + (((s - 16).toNat : Nat) : Int) = s by omega, show (2 : Int) + 2 * ((((c - 2) / 2).toNat : Nat) : Int) = c by omega] at h
  exact h
theorem v_form (z : Int) : ∃ s c : Int, f__law_form [.int z] = .ok (.tup [.int s, .int c]) ∧ (16 ≤ s ∧ s ≤ 40) ∧ (c = 2 ∨ c = 4 ∨ c = 6 ∨ c = 8) ∧ fok s c := by
  unfold f__law_form
  rw [ev_run]
  have fin : ∀ s c : Int, (16 ≤ s ∧ s ≤ 22) → (c = 2 ∨ c = 4 ∨ c = 6 ∨ c = 8) → (s < 18 → c ≤ 4) → ∃ s' c' : Int, (r__law_form_3 [some (.int z), some (.int s), some (.int c)]).res = .ok (.tup [.int s', .int c']) ∧ (16 ≤ s' ∧ s' ≤ 40) ∧ (c' = 2 ∨ c' = 4 ∨ c' = 6 ∨ c' = 8) ∧ fok s' c' := by
    intro s c h1 h2 h3
    by_cases h : z / 28 % 40 = 7
    · refine ⟨23 + z / 1120 % 18, c, ?_, by omega, h2, fok_of (by omega) h2 (by omega)⟩
      simp [r__law_form_3, r__law_form_4, h]
    · refine ⟨s, c, ?_, by omega, h2, fok_of (by omega) h2 h3⟩
      simp [r__law_form_3, r__law_form_4, h]
  by_cases h : 16 + z % 7 < 18 ∧ 4 < 2 + 2 * (z / 7 % 4)
  · obtain ⟨s, c, e, r⟩ := fin (16 + z % 7) (2 + 2 * (z / 7 % 4) - 4) (by omega) (by omega) (by omega)
    refine ⟨s, c, ?_, r⟩
    rw [← e]
    simp [t__law_form, r__law_form_0, r__law_form_1, r__law_form_2, h.1, h.2]
  · obtain ⟨s, c, e, r⟩ := fin (16 + z % 7) (2 + 2 * (z / 7 % 4)) (by omega) (by omega) (by omega)
    refine ⟨s, c, ?_, r⟩
    rw [← e]
    by_cases h1 : 16 + z % 7 < 18
    · have h2 : ¬ 4 < 2 + 2 * (z / 7 % 4) := fun z => h ⟨h1, z⟩
      simp [t__law_form, r__law_form_0, r__law_form_1, r__law_form_2, h1, h2]
    · simp [t__law_form, r__law_form_0, r__law_form_1, r__law_form_2, h1]
theorem fcap_le {s c : Int} (h1 : 16 ≤ s ∧ s ≤ 40) (h2 : c = 2 ∨ c = 4 ∨ c = 6 ∨ c = 8) : fcap s c ≤ 200 ∧ fb s c ≤ 400 ∧ fw s ≤ 20 ∧ 2 ≤ fw s := by
  have h : ∀ (i : Fin 25) (j : Fin 4), fcap (16 + i.val) (2 + 2 * j.val) ≤ 200 ∧ fb (16 + i.val) (2 + 2 * j.val) ≤ 400 ∧ fw (16 + i.val) ≤ 20 ∧ 2 ≤ fw (16 + i.val) := by decide +kernel
  have h := h ⟨(s - 16).toNat, by omega⟩ ⟨((c - 2) / 2).toNat, by omega⟩
  simp only at h
  rw [show (16 : Int) + (((s - 16).toNat : Nat) : Int) = s by omega, show (2 : Int) + 2 * ((((c - 2) / 2).toNat : Nat) : Int) = c by omega] at h
  exact h
end Lw
namespace Lw
open PySem PySem.Spec PyProof.Rows L2 Dt
theorem e_ifE {fc : Dt.Env → R Bool} {fa fb : Dt.Env → R D} {ρ : Dt.Env} {b : Bool} (h : fc ρ = .ok b) : dIfE fc fa fb ρ = if b then fa ρ else fb ρ := by
  unfold dIfE
  rw [h]
  rfl
theorem frz_of {fa : Dt.Env → R D} {ρ : Dt.Env} {d : D} (h : fa ρ = .ok d) : dFrzE fa ρ = .ok d.fr := by
  rw [ev_frzE, h]
  rfl
theorem e_sub {fa fb : Dt.Env → R D} {ρ : Dt.Env} {a b : Nat} (ha : fa ρ = .ok (.int (a : Int))) (hb : fb ρ = .ok (.int (b : Int))) (h : b ≤ a) : dOp true true fSub fa fb ρ = .ok (.int ((a - b : Nat) : Int)) :=
  e_op ha hb (congrArg (fun z => R.ok (D.int z)) (by omega : (a : Int) - (b : Int) = ((a - b : Nat) : Int)))
theorem e_add {fa fb : Dt.Env → R D} {ρ : Dt.Env} {a b : Nat} (ha : fa ρ = .ok (.int (a : Int))) (hb : fb ρ = .ok (.int (b : Int))) : dOp true true (fAdd true true) fa fb ρ = .ok (.int ((a + b : Nat) : Int)) :=
  e_op ha hb (congrArg (fun z => R.ok (D.int z)) (by omega : (a : Int) + (b : Int) = ((a + b : Nat) : Int)))
theorem e_chain {f f' : D → D → R D} {fa fb fc : Dt.Env → R D} {ρ : Dt.Env} {a b c : D} {p q : Bool} (h1 : fa ρ = .ok a) (h2 : fb ρ = .ok b) (h3 : fc ρ = .ok c) (e1 : f a.fr b.fr = .ok (.bl p)) (e2 : f' b.fr c.fr = .ok (.bl q)) : dChain true true true f f' fa fb fc ρ = .ok (.bl (p && q)) := by
  unfold dChain
  rw [h1, Dt.R.bind_ok, h2, Dt.R.bind_ok, h3, Dt.R.bind_ok]
  show R.cn (f a.fr b.fr) (f' b.fr c.fr) = _
  rw [e1, e2]
  cases p <;> rfl
theorem e_call4 {fn : List D → R D} {fa fb fc fd : Dt.Env → R D} {ρ : Dt.Env} {a b c d : D} {z : R D} (h1 : fa ρ = .ok a) (h2 : fb ρ = .ok b) (h3 : fc ρ = .ok c) (h4 : fd ρ = .ok d) (h : fn [a.fr, b.fr, c.fr, d.fr] = z) : dCall fn (dCons fa (dCons fb (dCons fc (dCons fd dNil)))) ρ = z := by
  unfold dCall dCons
  rw [h1, h2, h3, h4]
  exact h
theorem e_orV {fa fb : Dt.Env → R D} {ρ : Dt.Env} {p q : Bool} (h1 : fa ρ = .ok (.bl p)) (h2 : fb ρ = .ok (.bl q)) : dOrV fa fb ρ = .ok (.bl (p || q)) := by
  rw [ev_orV, h1, h2]
  cases p <;> rfl
theorem e_and {fa fb : Dt.Env → R Bool} {ρ : Dt.Env} {p q : Bool} (h1 : fa ρ = .ok p) (h2 : fb ρ = .ok q) : dAnd fa fb ρ = .ok (p && q) := by
  unfold dAnd
  rw [h1, h2]
  cases p <;> rfl
theorem e_tru {i : Nat} {ρ : Dt.Env} {b : Bool} (h : ρ[i]? = some (some (.bl b))) : dTru (dVar i) ρ = .ok b := by
  rw [ev_tru, ev_var (d := .bl b) _ _ h rfl]
  rfl
theorem e_not {fa : Dt.Env → R Bool} {ρ : Dt.Env} {p : Bool} (h1 : fa ρ = .ok p) : dNot fa ρ = .ok (!p) := by
  unfold dNot
  rw [h1]
  rfl
theorem e_nI {fa : Dt.Env → R D} {ρ : Dt.Env} {p : Bool} (h : fa ρ = .ok (.bl p)) : dCall nInt (dCons fa dNil) ρ = .ok (.int (if p = true then 1 else 0)) := by
  refine e_call1 h ?_
  cases p <;> rfl
theorem e_md {fa fb : Dt.Env → R D} {ρ : Dt.Env} {a b : Int} (h1 : fa ρ = .ok (.int a)) (h2 : fb ρ = .ok (.int b)) (hb : 0 < b) : dOp true true fMod fa fb ρ = .ok (.int (a % b)) :=
  e_op h1 h2 (by
    show (if 0 < b then R.ok (D.int (a % b)) else .bad) = _
    exact if_pos hb)
theorem e_dv {fa fb : Dt.Env → R D} {ρ : Dt.Env} {a b : Int} (h1 : fa ρ = .ok (.int a)) (h2 : fb ρ = .ok (.int b)) (hb : 0 < b ∧ b < 18446744073709551616) : dOp true true fDiv fa fb ρ = .ok (.int (a / b)) :=
  e_op h1 h2 (by
    show (if 0 < b ∧ b < 18446744073709551616 then R.ok (D.int (a / b)) else .bad) = _
    exact if_pos hb)
theorem e_mu {fa fb : Dt.Env → R D} {ρ : Dt.Env} {a b : Int} (h1 : fa ρ = .ok (.int a)) (h2 : fb ρ = .ok (.int b)) (ha : -18446744073709551616 < a ∧ a < 18446744073709551616) : dOp true true (fMul true) fa fb ρ = .ok (.int (a * b)) :=
  e_op h1 h2 (by
    show fMul true (.int a) (.int b) = _
    rw [fmul_int, if_pos (.inl ha)])
theorem e_ad {fa fb : Dt.Env → R D} {ρ : Dt.Env} {a b : Int} (h1 : fa ρ = .ok (.int a)) (h2 : fb ρ = .ok (.int b)) : dOp true true (fAdd true true) fa fb ρ = .ok (.int (a + b)) := e_op h1 h2 rfl
theorem e_sb {fa fb : Dt.Env → R D} {ρ : Dt.Env} {a b : Int} (h1 : fa ρ = .ok (.int a)) (h2 : fb ρ = .ok (.int b)) : dOp true true fSub fa fb ρ = .ok (.int (a - b)) := e_op h1 h2 rfl
theorem e_cell {ns : List Int} (k : Nat) {z : D} (hz : z = .int (k : Int)) {ρ : Dt.Env} (h : ρ[0]? = some (some (script ns))) : dCall f__law_cell (dCons (dVar 0) (dCons (dC z) dNil)) ρ = .ok (.int (cell ns k)) := by
  subst hz
  exact e_call2 (x := script ns) (y := .int (k : Int)) (ev_var _ _ h rfl) rfl (v_cell ns k)
theorem if_yes2 {fc : Dt.Env → R Bool} {ρ : Dt.Env} {t e u : DTS} (h : fc ρ = .ok true) : dSeq (dIf fc t e) u ρ = dSeq t u ρ := by
  unfold dSeq dIf
  rw [h]
  rfl
theorem if_no2 {fc : Dt.Env → R Bool} {ρ : Dt.Env} {t e u : DTS} (h : fc ρ = .ok false) : dSeq (dIf fc t e) u ρ = dSeq e u ρ := by
  unfold dSeq dIf
  rw [h]
  rfl
def il (xs : List Int) : D := .lst none (xs.map D.int)
theorem il_fr (o : Option Nat) (xs : List Int) : (D.lst o (xs.map D.int)).fr = il xs := by
  cases o with
  | none => rfl
  | some k => exact congrArg (D.lst none) (frzL_ints xs)
theorem il_fr' (xs : List Int) : (il xs).fr = il xs := rfl
theorem il_at (xs : List Int) (i : Nat) (h : i < xs.length) (o : Option Nat) : fIx true (.lst o (xs.map D.int)) (.int (i : Int)) = .ok (.int (xs.getD i 0)) := by
  apply ix_lst
  · rw [atI_nat' _ _ (by rw [List.length_map]; exact h), List.getElem_map]
    simp [h]
  · rfl
theorem il_seq (xs : List Int) : seqD (il xs) = .ok (xs.map D.int) := by
  show (if allRf (xs.map D.int) = true then R.ok (xs.map D.int) else .bad) = _
  exact if_pos (allRf_ints xs)
theorem it_il {i : Nat} {ρ : Dt.Env} {xs : List Int} (h : ρ[i]? = some (some (il xs))) : dIter (dVar i) ρ = .ok (xs.map D.int) := by
  unfold dIter
  rw [ev_var (d := il xs) _ _ h rfl, Dt.R.bind_ok]
  exact il_seq xs
theorem len_il (xs : List Int) : nLen [il xs] = .ok (.int (xs.length : Int)) := by
  show nLen [.lst none (xs.map D.int)] = _
  rw [len_lst, List.length_map]
theorem add_il (xs ys : List Int) (h : xs.length + ys.length ≤ 16777216) : fAdd true true (il xs) (il ys) = .ok (.lst (some 0) ((xs ++ ys).map D.int)) := by
  show (if (allRf (xs.map D.int) && allRf (ys.map D.int)) = true ∧ (xs.map D.int).length + (ys.map D.int).length ≤ 16777216 then R.ok (D.lst (some 0) (xs.map D.int ++ ys.map D.int)) else .bad) = _
  rw [if_pos ⟨by rw [allRf_ints, allRf_ints]; rfl, by rw [List.length_map, List.length_map]; exact h⟩, List.map_append]
theorem ls_il (xs : List Int) : nList true [il xs] = .ok (.lst (some 0) (xs.map D.int)) := by
  show (if ck true (xs.map D.int) = true then R.ok (D.lst (some 0) (xs.map D.int)) else .bad) = _
  exact if_pos (allRf_ints xs)
theorem sl_il (xs : List Int) (l h : Option Int) (o : Option Nat) : fSl true (.lst o (xs.map D.int)) l h = .ok (.lst (some 0) ((cutL xs l h).map D.int)) := by
  show (if ck true (Dt.cutD (xs.map D.int) l h) = true then R.ok (D.lst (some 0) (Dt.cutD (xs.map D.int) l h)) else .bad) = _
  rw [cutD_map]
  exact if_pos (allRf_ints _)
theorem mul_il (x : Int) (n : Int) (h : 0 ≤ n ∧ n ≤ 16777216) : fMul true (il [x]) (.int n) = .ok (.lst (some 0) ((List.replicate n.toNat x).map D.int)) := by
  show fMul true (.lst none [.int x]) (.int n) = _
  rw [mul1 none (.int x) n rfl h, List.map_replicate]
theorem mul_il0 (x : Int) (n : Int) (h : -16777216 ≤ n ∧ n ≤ 16777216) : fMul true (il [x]) (.int n) = .ok (.lst (some 0) ((List.replicate n.toNat x).map D.int)) := by
  by_cases h0 : 0 ≤ n
  · exact mul_il x n ⟨h0, h.2⟩
  · have e : n.toNat = 0 := by omega
    rw [e]
    show (if ck true [D.int x] = true ∧ -9223372036854775808 ≤ n ∧ n < 9223372036854775808 ∧ [D.int x].length * n.toNat ≤ 16777216 then R.ok (D.lst (some 0) (List.replicate n.toNat [D.int x]).flatten) else .bad) = _
    rw [if_pos ⟨rfl, by omega, by omega, by rw [e]; simp⟩, e]
    rfl
theorem e_sl {fa : Dt.Env → R D} {fl fh : Dt.Env → R (Option Int)} {ρ : Dt.Env} {xs : List Int} {o : Option Nat} {l h : Option Int} (h1 : fa ρ = .ok (.lst o (xs.map D.int))) (h2 : fl ρ = .ok l) (h3 : fh ρ = .ok h) : dSl true fa fl fh ρ = .ok (.lst (some 0) ((cutL xs l h).map D.int)) := by
  unfold dSl
  rw [h1, Dt.R.bind_ok, h2, Dt.R.bind_ok, h3, Dt.R.bind_ok]
  show fSl true (D.lst o (xs.map D.int)).fr l h = _
  rw [il_fr]
  exact sl_il xs l h none
theorem e_part {fa : Dt.Env → R D} {ρ : Dt.Env} {i : Int} (h : fa ρ = .ok (.int i)) : dPart fa ρ = .ok (some i) := by
  unfold dPart
  rw [h]
  rfl
theorem e_lt {fa fb : Dt.Env → R D} {ρ : Dt.Env} {a b : Int} (h1 : fa ρ = .ok (.int a)) (h2 : fb ρ = .ok (.int b)) : dOp true true fLt fa fb ρ = .ok (.bl (decide (a < b))) := e_op h1 h2 rfl
theorem e_le {fa fb : Dt.Env → R D} {ρ : Dt.Env} {a b : Int} (h1 : fa ρ = .ok (.int a)) (h2 : fb ρ = .ok (.int b)) : dOp true true fLe fa fb ρ = .ok (.bl (decide (a ≤ b))) := e_op h1 h2 rfl
theorem e_gt {fa fb : Dt.Env → R D} {ρ : Dt.Env} {a b : Int} (h1 : fa ρ = .ok (.int a)) (h2 : fb ρ = .ok (.int b)) : dOp true true fGt fa fb ρ = .ok (.bl (decide (a > b))) := e_op h1 h2 rfl
theorem e_ge {fa fb : Dt.Env → R D} {ρ : Dt.Env} {a b : Int} (h1 : fa ρ = .ok (.int a)) (h2 : fb ρ = .ok (.int b)) : dOp true true fGe fa fb ρ = .ok (.bl (decide (a ≥ b))) := e_op h1 h2 rfl
theorem e_eq {fa fb : Dt.Env → R D} {ρ : Dt.Env} {a b : Int} (h1 : fa ρ = .ok (.int a)) (h2 : fb ρ = .ok (.int b)) : dOp true true fEq fa fb ρ = .ok (.bl (decide (a = b))) := e_op h1 h2 (feq_int a b)
theorem e_ne {fa fb : Dt.Env → R D} {ρ : Dt.Env} {a b : Int} (h1 : fa ρ = .ok (.int a)) (h2 : fb ρ = .ok (.int b)) : dOp true true fNe fa fb ρ = .ok (.bl (!decide (a = b))) := e_op h1 h2 (fne_int a b)
theorem e_or {fa fb : Dt.Env → R Bool} {ρ : Dt.Env} {p q : Bool} (h1 : fa ρ = .ok p) (h2 : fb ρ = .ok q) : dOr fa fb ρ = .ok (p || q) := by
  unfold dOr
  rw [h1, h2]
  cases p <;> rfl
theorem e_andV {fa fb : Dt.Env → R D} {ρ : Dt.Env} {p q : Bool} (h1 : fa ρ = .ok (.bl p)) (h2 : fb ρ = .ok (.bl q)) : dAndV fa fb ρ = .ok (.bl (p && q)) := by
  rw [ev_andV, h1, h2]
  cases p <;> rfl
theorem tru_of {fa : Dt.Env → R D} {ρ : Dt.Env} {d : D} {b : Bool} (h : fa ρ = .ok d) (hb : d.tru = some b) : dTru fa ρ = .ok b := by
  rw [ev_tru, h, Dt.R.bind_ok, hb]
theorem raise_of {C : String} {t : DTS} {ρ : Dt.Env} : dSeq (dRaise C) t ρ = .xc ⟨C, Option.none⟩ ρ := rfl
theorem ret_ex {fa : Dt.Env → R D} {ρ : Dt.Env} {x : XD} (h : fa ρ = .ex x) : (dRet fa ρ).res = .ex x := by
  unfold dRet
  rw [h]
  rfl
theorem len_of {i : Nat} {ρ : Dt.Env} {d : D} {n : Int} (h : ρ[i]? = some (some d)) (hr : d.rf = true) (e : nLen [d.fr] = .ok (.int n)) : dCall nLen (dCons (dVar i) dNil) ρ = .ok (.int n) := e_call1 (ev_var _ _ h hr) e
end Lw
namespace Lw
open PySem PySem.Spec PyProof.Rows L2 Dt
def setf (f : Nat → Nat → Int) (i j : Nat) (v : Int) : Nat → Nat → Int := fun a b => if a = i ∧ b = j then v else f a b
theorem rowI_set (n : Nat) (h : Nat → Int) (j : Nat) (v : Int) : (rowI n h).set j (.int v) = rowI n fun b => if b = j then v else h b := by
  apply List.ext_getElem
  · simp [rowI]
  · intro k h1 h2
    rw [List.getElem_set]
    by_cases e : j = k
    · subst e
      simp [rowI]
    · rw [if_neg e]
      simp [rowI]
      exact fun z => absurd z.symm e
theorem fz_of {i : Nat} {t : DTS} {ρ : Dt.Env} {d : D} (h : ρ[i]? = some (some d)) (ht : d.tg = 0) : dFrz i t ρ = t (ρ.set i (some d.frz)) := by
  unfold dFrz
  rw [h]
  exact if_pos ht
theorem ls_row {n : Nat} {h : Nat → Int} {i : Nat} {ρ : Dt.Env} (e : ρ[i]? = some (some (rI n h))) : dCall (nList true) (dCons (dVar i) dNil) ρ = .ok (.lst (some 0) (rowI n h)) :=
  e_call1 (x := rI n h) (z := .ok (.lst (some 0) (rowI n h))) (ev_var _ _ e (rI_rf n h)) (by
    rw [show (rI n h).fr = rI n h from rI_fr n h none]
    show (if ck true (rowI n h) = true then R.ok (D.lst (some 0) (rowI n h)) else .bad) = _
    exact if_pos (rowI_rf n h))
theorem e_opG {g1 g2 : Bool} {f : D → D → R D} {fa fb : Dt.Env → R D} {ρ : Dt.Env} {x y : D} {z : R D} (h1 : fa ρ = .ok x) (h2 : fb ρ = .ok y) (h : f (x.op g1) (y.op g2) = z) : dOp g1 g2 f fa fb ρ = z := by
  unfold dOp
  rw [h1, Dt.R.bind_ok, h2, Dt.R.bind_ok]
  exact h
theorem if_t {fc : Dt.Env → R Bool} {ρ : Dt.Env} {t u : DTS} (h : fc ρ = .ok true) : dIf fc t u ρ = t ρ := by
  unfold dIf
  rw [h]
  rfl
theorem if_f {fc : Dt.Env → R Bool} {ρ : Dt.Env} {t u : DTS} (h : fc ρ = .ok false) : dIf fc t u ρ = u ρ := by
  unfold dIf
  rw [h]
  rfl
theorem rng2 (a b : Nat) (ha : a ≤ 1000000) (hb : b ≤ 1000000) : nRange2 [.int (a : Int), .int (b : Int)] = .ok ((List.range' a (b - a)).map fun (j : Nat) => D.int ((j : Nat) : Int)) := by
  rw [nr2 _ _ (by omega) (by omega), show ((b : Int) - (a : Int)).toNat = b - a by omega, List.map_map, List.range'_eq_map_range, List.map_map]
  congr 1
theorem e_cons1 {fa : Dt.Env → R D} {ρ : Dt.Env} {x : D} (h : fa ρ = .ok x) : dCons fa dNil ρ = .ok [x.fr] := by
  unfold dCons
  rw [h]
  rfl
theorem e_cons2 {fa fb : Dt.Env → R D} {ρ : Dt.Env} {x y : D} (h : fa ρ = .ok x) (h2 : fb ρ = .ok y) : dCons fa (dCons fb dNil) ρ = .ok [x.fr, y.fr] := by
  unfold dCons
  rw [h, h2]
  rfl
theorem eq_ints (a b : Int) : fEq (.int a) (.int b) = .ok (.bl (decide (a = b))) := by simp
theorem ne_ints (a b : Int) : fNe (.int a) (.int b) = .ok (.bl (decide (a ≠ b))) := by simp
end Lw
namespace Lw
open PySem PySem.Spec PyProof.Rows L2 Dt
theorem v_lwords (s : Int) (hs : -1000000000 ≤ s ∧ s ≤ 1000000000) : f__law_words [.int s] = .ok (.int (fw s)) := by
  unfold f__law_words
  rw [ev_run]
  have b : (-18446744073709551616 < s - 4 ∧ s - 4 < 18446744073709551616) := by omega
  simp [t__law_words, fw, b]
def tD (c : Nat × Nat) : D := .tup [.int (c.1 : Int), .int (c.2 : Int)]
def cl (n q : Nat) : Nat × Nat := (2 + q / (n - 4), 2 + q % (n - 4))
theorem v_place (n p : Nat) (hn : 5 ≤ n ∧ n ≤ 1000) (hp : p ≤ 249000) : f__law_place [.int (n : Int), .int (p : Int)] = .ok (.lst (some 0) (((List.range' (4 * p) 4).map (cl n)).map tD)) := by
  unfold f__law_place
  rw [ev_run]
  show (dSeq _ _ [some (.int (n : Int)), some (.int (p : Int)), none, none]).res = _
  rw [sf_of (d := .int ((n - 4 : Nat) : Int)) (e_op (x := .int (n : Int)) (y := .int 4) rfl rfl (congrArg (fun z => R.ok (D.int z)) (by omega)))]
  show (dRet _ [some (.int (n : Int)), some (.int (p : Int)), some (.int ((n - 4 : Nat) : Int)), none]).res = _
  refine ret_of ?_
  rw [List.map_map]
  have m4 : dOp true true (fMul true) (dC (.int 4)) (dVar 1) [some (.int (n : Int)), some (.int (p : Int)), some (.int ((n - 4 : Nat) : Int)), none] = .ok (.int ((4 * p : Nat) : Int)) :=
    e_op (x := .int 4) (y := .int (p : Int)) rfl rfl (by show fMul true (.int 4) (.int (p : Int)) = _; rw [fmul_int, if_pos (.inl (by omega))]; exact congrArg (fun z => R.ok (D.int z)) (by omega))
  have i0 : dArgs nRange2 (dCons (dOp true true (fMul true) (dC (.int 4)) (dVar 1)) (dCons (dOp true true (fAdd true true) (dOp true true (fMul true) (dC (.int 4)) (dVar 1)) (dC (.int 4))) dNil)) [some (.int (n : Int)), some (.int (p : Int)), some (.int ((n - 4 : Nat) : Int)), none] = .ok ((List.range' (4 * p) 4).map fun (j : Nat) => D.int ((j : Nat) : Int)) := by
    have := rng2 (4 * p) (4 * p + 4) (by omega) (by omega)
    rw [show 4 * p + 4 - 4 * p = 4 by omega] at this
    refine (args1 (e_cons2 m4 (e_op (x := .int ((4 * p : Nat) : Int)) (y := .int 4) m4 rfl (show _ = R.ok (D.int ((4 * p + 4 : Nat) : Int)) from rfl)))).trans this
  refine lc_same (fun (j : Nat) => D.int ((j : Nat) : Int)) (tD ∘ cl n) (List.range' (4 * p) 4) i0 rfl (fun a _ => ⟨_, rfl, ?_⟩) (by rw [List.length_range']; omega)
  have hw : (0 : Int) < ((n - 4 : Nat) : Int) ∧ ((n - 4 : Nat) : Int) < 18446744073709551616 := by omega
  refine tup2 (a := .int ((2 + a / (n - 4) : Nat) : Int)) (b := .int ((2 + a % (n - 4) : Nat) : Int)) ?_ ?_
  · refine e_op (x := .int 2) (y := .int ((a / (n - 4) : Nat) : Int)) rfl (e_op (x := .int (a : Int)) (y := .int ((n - 4 : Nat) : Int)) rfl rfl ?_) rfl
    show (if (0 : Int) < ((n - 4 : Nat) : Int) ∧ ((n - 4 : Nat) : Int) < 18446744073709551616 then R.ok (D.int ((a : Int) / ((n - 4 : Nat) : Int))) else .bad) = _
    rw [if_pos hw, Int.natCast_ediv]
  · refine e_op (x := .int 2) (y := .int ((a % (n - 4) : Nat) : Int)) rfl (e_op (x := .int (a : Int)) (y := .int ((n - 4 : Nat) : Int)) rfl rfl ?_) rfl
    show (if (0 : Int) < ((n - 4 : Nat) : Int) then R.ok (D.int ((a : Int) % ((n - 4 : Nat) : Int))) else .bad) = _
    rw [if_pos hw.1, Int.natCast_emod]
def ws (n : Nat) : Nat := (n - 4) * (n - 4) / 64
theorem fw_ws (n : Nat) (hn : 5 ≤ n) : fw (n : Int) = ((ws n : Nat) : Int) := by
  unfold fw ws
  rw [Int.natCast_ediv, Int.natCast_mul, show ((n - 4 : Nat) : Int) = (n : Int) - 4 by omega]
  rfl
theorem ws_le {n : Nat} (hn : 5 ≤ n ∧ n ≤ 40) : ws n ≤ 20 := by
  unfold ws
  have : (n - 4) * (n - 4) ≤ 36 * 36 := Nat.mul_le_mul (by omega) (by omega)
  omega
theorem e_prop {C m : String} {f : List D → R D} {i : Nat} {ρ : Dt.Env} {s c z : Int} (h : ρ[i]? = some (some (fmt s c))) (hC : C = "Format") (hm : fIdx ["side", "checks"] m = none) (e : f [fmt s c] = .ok (.int z)) : dProp C m true f (dVar i) ρ = .ok (.int z) := by
  subst hC
  unfold dProp
  rw [ev_var (d := fmt s c) _ _ h rfl, Dt.R.bind_ok]
  have q : fnMethP "Format" m true f (fmt s c) [] = .ok (.int z) := by
    have e' : f [(fmt s c).fr] = .ok (.int z) := e
    rw [fnMethP_obj, if_pos ⟨rfl, hm⟩, e']
    rfl
  show (match fnMethP "Format" m true f (fmt s c) [] with | .ok r => R.ok r | _ => .bad) = _
  rw [q]
theorem pc_test (n : Nat) (c p : Int) (hn : 5 ≤ n ∧ n ≤ 40) : dOr (dB (dOp true true fLt (dVar 1) (dC (.int 0)))) (dB (dOp true true fGe (dVar 1) (dOp true true (fMul true) c_CODEWORD (dProp "Format" "codewords" true f_Format_codewords (dVar 0))))) [some (fmt (n : Int) c), some (.int p), none, none, none] = .ok (decide (p < 0) || decide (p ≥ 16 * ((ws n : Nat) : Int))) := by
  refine e_or (b_of (e_lt (a := p) (b := 0) rfl rfl)) (b_of (e_ge (a := p) (b := 16 * ((ws n : Nat) : Int)) rfl (e_mu (a := 16) (b := ((ws n : Nat) : Int)) rfl ?_ (by omega))))
  have := v_words (n : Int) c (by omega)
  rw [fw_ws n hn.1] at this
  exact e_prop (s := (n : Int)) (c := c) rfl rfl rfl this
theorem v_pcells (n p : Nat) (c : Int) (hn : 5 ≤ n ∧ n ≤ 40) (hp : p < 16 * ws n) : f_place_cells [fmt (n : Int) c, .int (p : Int)] = .ok (.lst (some 0) (((List.range' (4 * p) 4).map (cl n)).map tD)) := by
  have hw := ws_le hn
  unfold f_place_cells
  rw [ev_run]
  show (r_place_cells_0 [some (fmt (n : Int) c), some (.int (p : Int)), none, none, none]).res = _
  unfold r_place_cells_0
  rw [if_no ((pc_test n c p hn).trans (congrArg R.ok (by rw [decide_eq_false (by omega), decide_eq_false (by omega)]; rfl)))]
  unfold r_place_cells_1
  rw [sf_of (d := .int ((n - 4 : Nat) : Int)) (e_op (x := .int (n : Int)) (y := .int 4) rfl (e_mu (a := 2) (b := 2) rfl rfl (by omega)) (congrArg (fun z => R.ok (D.int z)) (by omega)))]
  unfold r_place_cells_2
  rw [sf_of (d := .int ((4 * p : Nat) : Int)) ((e_mu (a := 4) (b := (p : Int)) rfl rfl (by omega)).trans (congrArg (fun z => R.ok (D.int z)) (by omega)))]
  unfold r_place_cells_3
  show (dRet _ [some (fmt (n : Int) c), some (.int (p : Int)), some (.int ((n - 4 : Nat) : Int)), some (.int ((4 * p : Nat) : Int)), none]).res = _
  refine ret_of ?_
  rw [List.map_map]
  have i0 : dArgs nRange2 (dCons (dVar 3) (dCons (dOp true true (fAdd true true) (dVar 3) c_CELLS_OF_SYMBOL) dNil)) [some (fmt (n : Int) c), some (.int (p : Int)), some (.int ((n - 4 : Nat) : Int)), some (.int ((4 * p : Nat) : Int)), none] = .ok ((List.range' (4 * p) 4).map fun (j : Nat) => D.int ((j : Nat) : Int)) := by
    have := rng2 (4 * p) (4 * p + 4) (by omega) (by omega)
    rw [show 4 * p + 4 - 4 * p = 4 by omega] at this
    refine (args1 (e_cons2 (x := .int ((4 * p : Nat) : Int)) rfl (e_op (x := .int ((4 * p : Nat) : Int)) (y := .int 4) rfl rfl (show _ = R.ok (D.int ((4 * p + 4 : Nat) : Int)) from rfl)))).trans this
  refine lc_same (fun (j : Nat) => D.int ((j : Nat) : Int)) (tD ∘ cl n) (List.range' (4 * p) 4) i0 rfl (fun a _ => ⟨_, rfl, ?_⟩) (by rw [List.length_range']; omega)
  have hw : (0 : Int) < ((n - 4 : Nat) : Int) ∧ ((n - 4 : Nat) : Int) < 18446744073709551616 := by omega
  refine tup2 (a := .int ((2 + a / (n - 4) : Nat) : Int)) (b := .int ((2 + a % (n - 4) : Nat) : Int)) ?_ ?_
  · refine e_op (x := .int 2) (y := .int ((a / (n - 4) : Nat) : Int)) rfl (e_op (x := .int (a : Int)) (y := .int ((n - 4 : Nat) : Int)) rfl rfl ?_) rfl
    show (if (0 : Int) < ((n - 4 : Nat) : Int) ∧ ((n - 4 : Nat) : Int) < 18446744073709551616 then R.ok (D.int ((a : Int) / ((n - 4 : Nat) : Int))) else .bad) = _
    rw [if_pos hw, Int.natCast_ediv]
  · refine e_op (x := .int 2) (y := .int ((a % (n - 4) : Nat) : Int)) rfl (e_op (x := .int (a : Int)) (y := .int ((n - 4 : Nat) : Int)) rfl rfl ?_) rfl
    show (if (0 : Int) < ((n - 4 : Nat) : Int) then R.ok (D.int ((a : Int) % ((n - 4 : Nat) : Int))) else .bad) = _
    rw [if_pos hw.1, Int.natCast_emod]
theorem x_pcells (n : Nat) (c p : Int) (hn : 5 ≤ n ∧ n ≤ 40) (hp : p < 0 ∨ 16 * ((ws n : Nat) : Int) ≤ p) : f_place_cells [fmt (n : Int) c, .int p] = .ex ⟨"InvalidSymbol", none⟩ := by
  unfold f_place_cells
  rw [ev_run]
  show (r_place_cells_0 [some (fmt (n : Int) c), some (.int p), none, none, none]).res = _
  unfold r_place_cells_0
  rw [show ∀ (f : Dt.Env → R Bool) (t u v : DTS) (ρ : Dt.Env), f ρ = .ok true → dSeq (dIf f t u) v ρ = dSeq t v ρ from fun f t u v ρ h => if_yes2 h]
  · rfl
  · refine (pc_test n c p hn).trans (congrArg R.ok ?_)
    rcases hp with h | h
    · rw [decide_eq_true h]; rfl
    · rw [decide_eq_true (show p ≥ _ from h), Bool.or_true]
theorem try_xc {t h : DTS} {C : String} {x : XD} {i : Nat} {ρ ρ' ρ2 : Dt.Env} {d : D} (e : t ρ = .xc x ρ') (c1 : ecs.contains x.C = true) (c2 : isSubE x.C C = true) (hh : h (ρ'.set i (some x.toD)) = .rt d ρ2) (hd : d.noEx = true) : dTry ecs t C i h ρ = .rt d (ρ2.map fun _ => none) := by
  unfold dTry
  rw [e]
  show (if ecs.contains x.C = true then (if isSubE x.C C = true then leaveX i (h (ρ'.set i (some x.toD))) else .xc x ρ') else .bad) = _
  rw [if_pos c1, if_pos c2, hh]
  show (if d.noEx = true then Out.rt d (ρ2.map fun _ => none) else .bad) = _
  exact if_pos hd
theorem v_refused (n : Nat) (c p : Int) (hn : 5 ≤ n ∧ n ≤ 40) (hp : p < 0 ∨ 16 * ((ws n : Nat) : Int) ≤ p) : f__law_refused [fmt (n : Int) c, .int p] = .ok (.bl true) := by
  have e : (dSeq (dDo (dCall f_place_cells (dCons (dVar 0) (dCons (dVar 1) dNil)))) (dRet (dC (.bl false)))) [some (fmt (n : Int) c), some (.int p), none] = .xc ⟨"InvalidSymbol", none⟩ [some (fmt (n : Int) c), some (.int p), none] := by
    have : dCall f_place_cells (dCons (dVar 0) (dCons (dVar 1) dNil)) [some (fmt (n : Int) c), some (.int p), none] = .ex ⟨"InvalidSymbol", none⟩ := e_call2 (x := fmt (n : Int) c) (y := .int p) rfl rfl (x_pcells n c p hn hp)
    unfold dSeq dDo
    rw [this]
    rfl
  unfold f__law_refused
  rw [ev_run]
  show (dTry _ _ _ _ _ [some (fmt (n : Int) c), some (.int p), none]).res = _
  refine (congrArg Out.res (try_xc (d := .bl true) (ρ2 := [some (fmt (n : Int) c), some (.int p), some (XD.toD ⟨"InvalidSymbol", Option.none⟩)]) e (by decide) (by decide) ?_ rfl)).trans rfl
  rfl
end Lw
namespace Lw
open PySem PySem.Spec PyProof.Rows L2 Dt
theorem sg_of {tg : Tg} {fa : Dt.Env → R D} {t : DTS} {ρ ρ' : Dt.Env} {d : D} (h : fa ρ = .ok d) (ht : tg d.fr ρ = some ρ') : dSeq (dSetG tg fa) t ρ = t ρ' := by
  unfold dSeq
  rw [ev_setG, h, Out.of_ok, ht]
  rfl
theorem seq_nx {t u : DTS} {ρ ρ' : Dt.Env} (h : t ρ = .nx ρ') : dSeq t u ρ = u ρ' := by
  unfold dSeq
  rw [h]
  rfl
theorem ret_seq {fa : Dt.Env → R D} {u : DTS} {ρ : Dt.Env} {d : D} (h : fa ρ = .ok d) : (dSeq (dRet fa) u ρ).res = .ok d := by
  unfold dSeq dRet
  rw [h]
  rfl
def kc (c : Nat × Nat) : List Key := [.inl (c.1 : Int), .inl (c.2 : Int)]
theorem key_tD (c : Nat × Nat) : keyT [2] (tD c) = some (kc c) := rfl
theorem cl_inj {n q r : Nat} (h : kc (cl n q) = kc (cl n r)) : q = r := by
  have h1 : ((2 + q / (n - 4) : Nat) : Int) = ((2 + r / (n - 4) : Nat) : Int) := by
    have := congrArg (fun l : List Key => match l with | .inl a :: _ => a | _ => 0) h
    exact this
  have h2 : ((2 + q % (n - 4) : Nat) : Int) = ((2 + r % (n - 4) : Nat) : Int) := by
    have := congrArg (fun l : List Key => match l with | _ :: .inl a :: _ => a | _ => 0) h
    exact this
  have e1 : q / (n - 4) = r / (n - 4) := by omega
  have e2 : q % (n - 4) = r % (n - 4) := by omega
  rw [← Nat.div_add_mod q (n - 4), ← Nat.div_add_mod r (n - 4), e1, e2]
def ks (n m : Nat) : List (List Key) := (List.range m).map fun q => kc (cl n q)
def dc (n m : Nat) : D := .dct (some 0) (ks n m) (List.replicate m (.bl true))
theorem ks_len (n m : Nat) : (ks n m).length = m := by simp [ks]
theorem ks_not (n m : Nat) : ¬ kc (cl n m) ∈ ks n m := fun h => by
  obtain ⟨q, h1, h2⟩ := List.mem_map.mp h
  have := cl_inj h2
  have := List.mem_range.mp h1
  omega
theorem ks_succ (n m : Nat) : ks n m ++ [kc (cl n m)] = ks n (m + 1) := by
  unfold ks
  rw [List.range_succ, List.map_append]
  rfl
theorem ev_tput {ρ : Dt.Env} {ls : List Nat} {fp : Dt.Env → R Pl} {fb fa : Dt.Env → R D} {p : Pl} {t : Nat} {ks : List (List Key)} {xs : List D} {d j : D} {k : List Key} (hf : fa ρ = .ok d) (hp : fp ρ = .ok p) (hg : getP ρ p = some (.dct (some t) ks xs)) (hb : fb ρ = .ok j) (hk : keyT ls j = some k) (hl : ks.length < 16777216) (hn : ¬ k ∈ ks) :
    dTPut ls fp fb fa ρ = .nx (putP ρ p (.dct (some t) (ks ++ [k]) (xs ++ [d]))) := by
  unfold dTPut
  rw [hf]
  show Out.ofP (fp ρ) ρ _ = _
  rw [hp]
  show onDct ρ p _ = _
  unfold onDct
  rw [hg]
  show Out.of (fb ρ) ρ _ = _
  rw [hb]
  show (match keyT ls j with
    | some k => if ks.length < 16777216 then (if k ∈ ks then (if ks.Nodup then Out.nx (putP ρ p (.dct (some t) ks (xs.set (kIxT ks k) d))) else .bad) else .nx (putP ρ p (.dct (some t) (ks ++ [k]) (xs ++ [d])))) else .bad
    | none => .bad) = _
  rw [hk]
  show (if ks.length < 16777216 then _ else _) = _
  rw [if_pos hl, if_neg hn]
theorem e_opT {f : D → D → R D} {fa fb : Dt.Env → R D} {ρ : Dt.Env} {x y : D} {z : R D} (h1 : fa ρ = .ok x) (h2 : fb ρ = .ok y) (h : f x.fr y = z) : dOp true false f fa fb ρ = z := by
  unfold dOp
  rw [h1, Dt.R.bind_ok, h2, Dt.R.bind_ok]
  exact h
theorem min_tD (c : Nat × Nat) (h : 2 ≤ c.1 ∧ 2 ≤ c.2) : ∃ z : Int, nMinT [tD c] = .ok (.int z) ∧ 2 ≤ z := by
  refine ⟨minL [(c.1 : Int), (c.2 : Int)], rfl, ?_⟩
  have := minL_mem (ns := [(c.1 : Int), (c.2 : Int)]) (by simp)
  simp only [List.mem_cons, List.not_mem_nil, or_false] at this
  omega
theorem max_tD (c : Nat × Nat) (b : Int) (h : (c.1 : Int) ≤ b ∧ (c.2 : Int) ≤ b) : ∃ z : Int, nMaxT [tD c] = .ok (.int z) ∧ z ≤ b := by
  refine ⟨maxL [(c.1 : Int), (c.2 : Int)], rfl, ?_⟩
  have := maxL_mem (ns := [(c.1 : Int), (c.2 : Int)]) (by simp)
  simp only [List.mem_cons, List.not_mem_nil, or_false] at this
  omega
theorem cl_in {n m : Nat} (hn : 5 ≤ n ∧ n ≤ 40) (h : m < 64 * ws n) : (2 ≤ (cl n m).1 ∧ (cl n m).1 ≤ n - 3) ∧ 2 ≤ (cl n m).2 ∧ (cl n m).2 ≤ n - 3 := by
  have h1 : m < (n - 4) * (n - 4) := by unfold ws at h; omega
  have h2 : m / (n - 4) < n - 4 := Nat.div_lt_of_lt_mul h1
  have h3 : m % (n - 4) < n - 4 := Nat.mod_lt _ (by omega)
  unfold cl
  simp only
  generalize m / (n - 4) = u at h2 ⊢
  generalize m % (n - 4) = v at h3 ⊢
  omega
section
variable (ns : List Int) (n : Nat) (c : Int)
abbrev FR (m : Nat) (x4 x7 x8 : Option D) : Dt.Env := [some (script ns), some (fmt (n : Int) c), some (.int ((16 * ws n : Nat) : Int)), some (dc n m), x4, some (.int (n : Int)), some (.int c), x7, x8]
variable (hn : 5 ≤ n ∧ n ≤ 40)
include hn
theorem b0 (m : Nat) (x4 x7 : Option D) (h : m < 64 * ws n) : b_law_0 (FR ns n c m x4 x7 (some (tD (cl n m)))) = .nx (FR ns n c (m + 1) x4 x7 (some (tD (cl n m)))) := by
  have hw := ws_le hn
  obtain ⟨⟨a1, a2⟩, a3, a4⟩ := cl_in hn h
  obtain ⟨z1, m1, m2⟩ := min_tD (cl n m) ⟨a1, a3⟩
  obtain ⟨z2, m3, m4⟩ := max_tD (cl n m) ((n : Int) - 3) (by omega)
  have v8 : dVar 8 (FR ns n c m x4 x7 (some (tD (cl n m)))) = .ok (tD (cl n m)) := ev_var (d := tD (cl n m)) _ _ rfl rfl
  unfold b_law_0
  rw [if_no]
  · refine (ev_tput (p := (3, [])) (j := tD (cl n m)) rfl rfl rfl v8 (key_tD _) (by rw [ks_len]; omega) (ks_not n m)).trans ?_
    rw [ks_succ]
    rw [← List.replicate_succ']
    rfl
  · refine (e_or (p := false) (not_tru (b := true) (e_call2 (x := tD (cl n m)) (y := .ty "tuple") v8 rfl rfl)) (e_or (p := false) (b_of ?_) (e_or (p := false) (q := false) (b_of ?_) (b_of ?_)))).trans rfl
    · refine e_opT (x := tD (cl n m)) (y := dc n m) v8 rfl ?_
      show R.ok (D.bl (decide (kc (cl n m) ∈ ks n m))) = _
      rw [decide_eq_false (ks_not n m)]
    · refine (e_lt (a := z1) (b := 2) (e_call1 (x := tD (cl n m)) v8 m1) rfl).trans ?_
      rw [decide_eq_false (by omega)]
    · refine (e_gt (a := z2) (b := (n : Int) - 3) (e_call1 (x := tD (cl n m)) v8 m3) (e_sb (a := (n : Int)) (b := 3) rfl rfl)).trans ?_
      rw [decide_eq_false (by omega)]
theorem in_loop (x4 x7 : Option D) : ∀ (r a : Nat) (x8 : Option D), a + r ≤ 64 * ws n → ∃ x8', dForL (tName 8) b_law_0 (((List.range' a r).map (cl n)).map tD) (FR ns n c a x4 x7 x8) = .nx (FR ns n c (a + r) x4 x7 x8')
  | 0, a, x8, _ => ⟨x8, rfl⟩
  | r + 1, a, x8, h => by
    obtain ⟨y, q⟩ := in_loop x4 x7 r (a + 1) (some (tD (cl n a))) (by omega)
    refine ⟨y, ?_⟩
    rw [List.range'_succ, List.map_cons, List.map_cons, for_nx (ρ1 := FR ns n c a x4 x7 (some (tD (cl n a)))) rfl (b0 ns n c hn a x4 x7 (by omega)), q, show a + 1 + r = a + (r + 1) by omega]
theorem fz_td : ∀ cs : List (Nat × Nat), D.frzL (cs.map tD) = cs.map tD
  | [] => rfl
  | q :: cs => by
    rw [List.map_cons, frzL_cons, fz_td cs]
    rfl
theorem shp_td (k : Nat) : ∀ cs : List (Nat × Nat), D.shpL (cs.map tD) (k + 1) = true ∧ eqL (cs.map tD) (cs.map tD) = true
  | [] => by simp
  | q :: cs => by
    obtain ⟨h1, h2⟩ := shp_td k cs
    rw [List.map_cons, shpL_cons, eqL_cons, h1, h2]
    refine ⟨by unfold tD; rw [shp_tup]; simp, by unfold tD; rw [eqv_tup]; simp⟩
theorem b1 (p : Nat) (x7 x8 : Option D) (h : p < 16 * ws n) : ∃ x7' x8', b_law_1 (FR ns n c (4 * p) (some (.int (p : Int))) x7 x8) = .nx (FR ns n c (4 * (p + 1)) (some (.int (p : Int))) x7' x8') := by
  have hw := ws_le hn
  obtain ⟨cs, hcs⟩ : ∃ cs, (List.range' (4 * p) 4).map (cl n) = cs := ⟨_, rfl⟩
  have fzc : (D.lst (some 0) (cs.map tD)).fr = D.lst none (cs.map tD) := congrArg (D.lst none) (fz_td n hn cs)
  obtain ⟨y, q⟩ := in_loop ns n c hn (some (.int (p : Int))) (some (.lst none (cs.map tD))) 4 (4 * p) x8 (by omega)
  refine ⟨some (.lst none (cs.map tD)), y, ?_⟩
  unfold b_law_1
  have pc := v_pcells n p c hn h
  have pl := v_place n p (by omega) (by omega)
  rw [hcs] at pc pl q
  rw [sf_of (d := .lst (some 0) (cs.map tD)) (e_call2 (x := fmt (n : Int) c) (y := .int (p : Int)) rfl rfl pc), fzc]
  show dSeq _ _ (FR ns n c (4 * p) (some (.int (p : Int))) (some (.lst none (cs.map tD))) x8) = _
  rw [if_no]
  · refine (ev_for (ds := cs.map tD) _ _ _ (tName 8) ?_).trans q
    unfold dIter
    rw [ev_var (d := D.lst none (cs.map tD)) _ _ rfl rfl]
    show (if allRf (cs.map tD) = true then R.ok (cs.map tD) else .bad) = _
    exact if_pos (allRf_map tD (fun _ => rfl) cs)
  · refine (e_or (p := false) (q := false) (not_tru (b := true) (e_call2 (x := .lst none (cs.map tD)) (y := .ty "list") rfl rfl rfl)) (b_of ?_)).trans rfl
    refine e_op (x := .lst none (cs.map tD)) (y := .lst (some 0) (cs.map tD)) rfl (e_call2 (x := .int (n : Int)) (y := .int (p : Int)) rfl rfl pl) ?_
    rw [fzc]
    show fNe (D.lst none (cs.map tD)) (.lst none (cs.map tD)) = _
    obtain ⟨h1, h2⟩ := shp_td n hn 62 cs
    rw [fne_lst, h1, h2]
    rfl
theorem out_loop : ∀ (r p : Nat) (x4 x7 x8 : Option D), p + r = 16 * ws n → ∃ x4' x7' x8', dForL (tName 4) b_law_1 ((List.range' p r).map fun (j : Nat) => D.int (j : Int)) (FR ns n c (4 * p) x4 x7 x8) = .nx (FR ns n c (4 * (16 * ws n)) x4' x7' x8')
  | 0, p, x4, x7, x8, h => ⟨x4, x7, x8, by rw [show p = 16 * ws n by omega]; rfl⟩
  | r + 1, p, x4, x7, x8, h => by
    obtain ⟨y7, y8, e⟩ := b1 ns n c hn p x7 x8 (by omega)
    obtain ⟨z4, z7, z8, q⟩ := out_loop r (p + 1) (some (.int (p : Int))) y7 y8 (by omega)
    refine ⟨z4, z7, z8, ?_⟩
    rw [List.range'_succ, List.map_cons, for_nx (ρ1 := FR ns n c (4 * p) (some (.int (p : Int))) x7 x8) rfl e]
    exact q
theorem r5 : (r_law_5 (FR ns n c 0 none none none)).res = .ok (.bl true) := by
  have hw := ws_le hn
  obtain ⟨z4, z7, z8, q⟩ := out_loop ns n c hn (16 * ws n) 0 none none none (by omega)
  have it : dArgs nRange1 (dCons (dVar 2) dNil) (FR ns n c 0 none none none) = .ok ((List.range' 0 (16 * ws n)).map fun (j : Nat) => D.int (j : Int)) := by
    rw [← List.range_eq_range']
    exact (args1 (e_cons1 (x := .int ((16 * ws n : Nat) : Int)) rfl)).trans (nr1' (16 * ws n) (by omega))
  unfold r_law_5
  rw [seq_nx ((ev_for _ _ _ (tName 4) it).trans q)]
  unfold r_law_6
  refine ret_of ?_
  refine (e_eq (a := ((4 * (16 * ws n) : Nat) : Int)) (b := 4 * ((16 * ws n : Nat) : Int)) ?_ (e_mu (a := 4) (b := ((16 * ws n : Nat) : Int)) rfl rfl (by omega))).trans ?_
  · show nLenT [dc n (4 * (16 * ws n))] = _
    show R.ok (D.int ((ks n (4 * (16 * ws n))).length : Int)) = _
    rw [ks_len]
  · rw [decide_eq_true (by omega)]
end
theorem law_true (ns : List Int) (h : ns.length ≤ 63) : f_law [Dt.script ns] = .ok (.bl true) := by
  obtain ⟨s, c, e, h1, h2, h3⟩ := v_form (cell ns 0)
  obtain ⟨n, rfl⟩ : ∃ n : Nat, s = (n : Int) := ⟨s.toNat, by omega⟩
  have hn : 5 ≤ n ∧ n ≤ 40 := by omega
  have hw := ws_le hn
  unfold f_law
  rw [ev_run]
  show (r_law_0 [some (script ns), none, none, none, none, none, none, none, none]).res = _
  unfold r_law_0
  rw [sg_of (d := .tup [.int (n : Int), .int c]) (ρ' := [some (script ns), none, none, none, none, some (.int (n : Int)), some (.int c), none, none]) (e_call1 (x := .int (cell ns 0)) (e_call2 (x := script ns) (y := .int 0) rfl rfl (v_cell ns 0)) e) rfl]
  unfold r_law_1
  rw [sf_of (d := fmO 0 (n : Int) c) (e_call2 (x := .int (n : Int)) (y := .int c) rfl rfl ((v_format (n : Int) c (by omega) (by omega)).trans (if_pos h3)))]
  unfold r_law_2
  show (dSeq _ _ [some (script ns), some (fmt (n : Int) c), none, none, none, some (.int (n : Int)), some (.int c), none, none]).res = _
  rw [sf_of (d := .int ((16 * ws n : Nat) : Int)) ((e_mu (a := 16) (b := ((ws n : Nat) : Int)) rfl (e_call1 (x := .int (n : Int)) rfl ((v_lwords (n : Int) (by omega)).trans (congrArg (fun z => R.ok (D.int z)) (fw_ws n hn.1)))) (by omega)).trans (congrArg (fun z => R.ok (D.int z)) (by omega)))]
  unfold r_law_3
  show (dSeq _ _ [some (script ns), some (fmt (n : Int) c), some (.int ((16 * ws n : Nat) : Int)), none, none, some (.int (n : Int)), some (.int c), none, none]).res = _
  obtain ⟨ρ, hρ⟩ : ∃ ρ : Dt.Env, ρ = [some (script ns), some (fmt (n : Int) c), some (.int ((16 * ws n : Nat) : Int)), none, none, some (.int (n : Int)), some (.int c), none, none] := ⟨_, rfl⟩
  have ce : dCall f__law_cell (dCons (dVar 0) (dCons (dC (.int 1)) dNil)) ρ = .ok (.int (cell ns 1)) := by
    rw [hρ]
    exact e_call2 (x := script ns) (y := .int 1) rfl rfl (v_cell ns 1)
  have ct : dB (dOp true true fEq (dOp true true fMod (dCall f__law_cell (dCons (dVar 0) (dCons (dC (.int 1)) dNil))) (dC (.int 4))) (dC (.int 1))) ρ = .ok (decide (cell ns 1 % 4 = 1)) :=
    b_of (e_eq (a := cell ns 1 % 4) (b := 1) (e_md (a := cell ns 1) (b := 4) ce rfl (by omega)) rfl)
  have q9 : dOp true true fMod (dOp true true fDiv (dCall f__law_cell (dCons (dVar 0) (dCons (dC (.int 1)) dNil))) (dC (.int 4))) (dC (.int 9)) ρ = .ok (.int (cell ns 1 / 4 % 9)) :=
    e_md (a := cell ns 1 / 4) (b := 9) (e_dv (a := cell ns 1) (b := 4) ce rfl (by omega)) rfl (by omega)
  rw [← hρ]
  by_cases h4 : cell ns 1 % 4 = 1
  · rw [if_yes2 (ct.trans (congrArg R.ok (decide_eq_true h4)))]
    have r1 : dCall f__law_refused (dCons (dVar 1) (dCons (dOp true true fSub (dNeg (dC (.int 1))) (dOp true true fMod (dOp true true fDiv (dCall f__law_cell (dCons (dVar 0) (dCons (dC (.int 1)) dNil))) (dC (.int 4))) (dC (.int 9)))) dNil)) ρ = .ok (.bl true) :=
      e_call2 (x := fmt (n : Int) c) (y := .int (-1 - cell ns 1 / 4 % 9)) (by rw [hρ]; rfl) (e_sb (a := -1) (b := cell ns 1 / 4 % 9) rfl q9) (v_refused n c _ hn (.inl (by omega)))
    have r2 : dCall f__law_refused (dCons (dVar 1) (dCons (dOp true true (fAdd true true) (dVar 2) (dOp true true fMod (dOp true true fDiv (dCall f__law_cell (dCons (dVar 0) (dCons (dC (.int 1)) dNil))) (dC (.int 4))) (dC (.int 9)))) dNil)) ρ = .ok (.bl true) :=
      e_call2 (x := fmt (n : Int) c) (y := .int (((16 * ws n : Nat) : Int) + cell ns 1 / 4 % 9)) (by rw [hρ]; rfl) (e_ad (a := ((16 * ws n : Nat) : Int)) (b := cell ns 1 / 4 % 9) (by rw [hρ]; rfl) q9) (v_refused n c _ hn (.inr (by omega)))
    refine (ret_seq (d := .bl true) ?_)
    exact e_andV r1 r2
  · rw [if_no (ct.trans (congrArg R.ok (decide_eq_false h4)))]
    unfold r_law_4
    rw [ss_of (d := dc n 0) rfl, hρ]
    exact r5 ns n c hn
end Lw
open PySem PySem.W PyProof.Rows
set_option maxHeartbeats 0 in
theorem PySem.Challenge.cw_scanpages_k35_places_holds : PySem.Challenge.rw_scanpages_k35_places.Holds := by
  w_on; o_law; k_head; (case hw => w_witness2)
  k_fill
  refine L2.walk_of (l := PySem.Challenge.rw_scanpages_k35_places) (n := 63) (k := 9) (x := "_law_script") (CX := fun w => L2N.CX (PySem.Challenge.rw_scanpages_k35_places).prog w) (sp := fun w => Dt.spLaw _) rfl (by decide) rfl ⟨rfl, by decide, by decide⟩ (fun w h Y => PySem.W.kIn_of Y) ?F (fun _ _ a ns hl _ hS => ⟨a, ns, rfl, hS, hl, fun _ => rfl⟩) (fun _ _ _ _ _ h => Dt.cx_end h)
  case F =>
    intro w mg fa h KX G hmg
    refine' Dt.law_end (Lw.ok_law (Lw.txt_mk KX G ?oa0 ?og0 ?oh0 ?op0 ?os0 ?on0_0 ?on0_1 ?a0 ?l0 ?c0 ?k0 ?a1 ?l1 ?c1 ?k1 ?a2 ?l2 ?c2 ?k2 ?a3 ?l3 ?c3 ?k3 ?a4 ?pg4 ?pt4 ?pr4 ?l4 ?c4 ?k4 ?a5 ?pg5 ?pt5 ?pr5 ?l5 ?c5 ?k5 ?a6 ?l6 ?c6 ?k6 ?a7 ?pg7 ?pt7 ?pr7 ?l7 ?c7 ?k7 ?a8 ?l8 ?c8 ?k8 ?a9 ?pg9 ?pt9 ?pr9 ?l9 ?c9 ?k9 ?a10 ?i10 ?l10 ?c10 ?k10 ?mk0 ?kc0O ?a11 ?l11 ?c11 ?k11 ?z0 ?z1 ?z2 ?z3 ?z4 ?z5 ?z6 ?z7 ?ea0 ?ek0 ?es0 ?et0 ?ei0 ?ev0 ?e10 ?e20 ?e30 ?e40 ?e50 ?ea1 ?ek1 ?es1 ?et1 ?ei1 ?ev1 ?e11 ?e21 ?e31 ?e41 ?e51 ?ea2 ?ek2 ?es2 ?et2 ?ei2 ?ev2 ?e12 ?e22 ?e32 ?e42 ?e52 ?e6 ?e7 ?p0_0 ?p0_1 ?p0_2 ?p1_0 ?p1_1 ?p1_2 ?p2_0 ?p2_1 ?p2_2 ?ex0 ?ex1 ?ex2 ?kc0 ?kd0 ?kc1 ?kd1 ?kc2 ?kd2 ?kc3 ?kd3 ?kc4 ?kd4 ?kc5 ?kd5 ?kc6 ?kd6 ?kf2)) hmg Lw.law_true
    (case oa0 => k_is)
    (case og0 => k_is)
    (case oh0 => k_is)
    (case op0 => k_is)
    (case os0 => k_is)
    (case on0_0 => k_is)
    (case on0_1 => k_is)
    (case a0 => k_is)
    (case l0 => k_is)
    (case c0 => k_is)
    (case k0 => k_is)
    (case a1 => k_is)
    (case l1 => k_is)
    (case c1 => k_is)
    (case k1 => k_is)
    (case a2 => k_is)
    (case l2 => k_is)
    (case c2 => k_is)
    (case k2 => k_is)
    (case a3 => k_is)
    (case l3 => k_is)
    (case c3 => k_is)
    (case k3 => k_is)
    (case a4 => k_is)
    (case pg4 => first | rfl | k_is)
    (case pt4 => first | rfl | k_is)
    (case pr4 => first | rfl | k_is)
    (case l4 => k_is)
    (case c4 => k_is)
    (case k4 => k_is)
    (case a5 => k_is)
    (case pg5 => first | rfl | k_is)
    (case pt5 => first | rfl | k_is)
    (case pr5 => first | rfl | k_is)
    (case l5 => k_is)
    (case c5 => k_is)
    (case k5 => k_is)
    (case a6 => k_is)
    (case l6 => k_is)
    (case c6 => k_is)
    (case k6 => k_is)
    (case a7 => k_is)
    (case pg7 => first | rfl | k_is)
    (case pt7 => first | rfl | k_is)
    (case pr7 => first | rfl | k_is)
    (case l7 => k_is)
    (case c7 => k_is)
    (case k7 => k_is)
    (case a8 => k_is)
    (case l8 => k_is)
    (case c8 => k_is)
    (case k8 => k_is)
    (case a9 => k_is)
    (case pg9 => first | rfl | k_is)
    (case pt9 => first | rfl | k_is)
    (case pr9 => first | rfl | k_is)
    (case l9 => k_is)
    (case c9 => k_is)
    (case k9 => k_is)
    (case a10 => k_is)
    (case i10 => k_is)
    (case l10 => k_is)
    (case c10 => k_is)
    (case k10 => k_is)
    (case mk0 => k_is)
    (case kc0O => k_is)
    (case a11 => k_is)
    (case l11 => k_is)
    (case c11 => k_is)
    (case k11 => k_is)
    (case z0 => k_is)
    (case z1 => k_is)
    (case z2 => k_is)
    (case z3 => k_is)
    (case z4 => k_is)
    (case z5 => k_is)
    (case z6 => k_is)
    (case z7 => k_is)
    (case ea0 => k_is)
    (case ek0 => k_is)
    (case es0 => k_is)
    (case et0 => k_is)
    (case ei0 => k_is)
    (case ev0 => k_is)
    (case e10 => k_is)
    (case e20 => k_is)
    (case e30 => k_is)
    (case e40 => k_is)
    (case e50 => k_is)
    (case ea1 => k_is)
    (case ek1 => k_is)
    (case es1 => k_is)
    (case et1 => k_is)
    (case ei1 => k_is)
    (case ev1 => k_is)
    (case e11 => k_is)
    (case e21 => k_is)
    (case e31 => k_is)
    (case e41 => k_is)
    (case e51 => k_is)
    (case ea2 => k_is)
    (case ek2 => k_is)
    (case es2 => k_is)
    (case et2 => k_is)
    (case ei2 => k_is)
    (case ev2 => k_is)
    (case e12 => k_is)
    (case e22 => k_is)
    (case e32 => k_is)
    (case e42 => k_is)
    (case e52 => k_is)
    (case e6 => k_is)
    (case e7 => k_is)
    (case p0_0 => first | rfl | k_is)
    (case p0_1 => first | rfl | k_is)
    (case p0_2 => first | rfl | k_is)
    (case p1_0 => first | rfl | k_is)
    (case p1_1 => first | rfl | k_is)
    (case p1_2 => first | rfl | k_is)
    (case p2_0 => first | rfl | k_is)
    (case p2_1 => first | rfl | k_is)
    (case p2_2 => first | rfl | k_is)
    (case ex0 => k_exc)
    (case ex1 => k_exc)
    (case ex2 => k_exc)
    (case kc0 => k_is)
    (case kd0 => first | rfl | kernel_rfl)
    (case kc1 => k_is)
    (case kd1 => first | rfl | kernel_rfl)
    (case kc2 => k_is)
    (case kd2 => first | rfl | kernel_rfl)
    (case kc3 => k_is)
    (case kd3 => first | rfl | kernel_rfl)
    (case kc4 => k_is)
    (case kd4 => first | rfl | kernel_rfl)
    (case kc5 => k_is)
    (case kd5 => first | rfl | kernel_rfl)
    (case kc6 => k_is)
    (case kd6 => first | rfl | kernel_rfl)
    (case kf2 => first | rfl | kernel_rfl)
