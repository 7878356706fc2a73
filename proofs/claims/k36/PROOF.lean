import PyProof.Rows.All
import Wide.All
import OpenK.AllK
import Wide.FinOn
import PySem.Challenge.RW_ledtowish_k36_desk_twins
import HandS.ForMost
import HandS.ForExc
import HandS.IsInst
import HandS.Wide
import KE.KDictKeyed
import KE.KeyNested
import HandS.NoneIn
import HandS.Style
import HandS.Zip
import HandS.Rev
import HandS.TupAny
import HandS.Deep
import HandS.SortInts
import HandS.Conv
import HandS.More
import PyProof.EnumMake
import PyProof.Draws
import KE.SortKeyHeap
import HandS.SortKw
import PyProof.DictRoadsH
import PyProof.DictFindH
import KE.KDictWalk
import KE.KDictCopyH
import PyProof.SumAnyB
import HandS.ExcInit
import HandS.ExcIs
import KE.KExcIs
import HandS.ExcField
import HandS.ExcValue
import HandS.Small
import HandS.Text
import KE.KDictSum
import HandS.TupMul
import HandS.Strs
import HandS.Dict
import PyProof.FactsAll.list_3
import KE.KEqDict
import KE.KDictPairs
import PyProof.StrLawsOccR
import PyProof.StrLawsChain
import PyProof.StrLawsTight
section
set_option Elab.async false
set_option linter.all false
set_option maxRecDepth 100000
set_option maxHeartbeats 1000000
namespace VL
open PySem PySem.Spec PyProof.Rows L2

/-! ### data -/
abbrev D := PyData
abbrev St := L2.St
/-- the fixed part: what the top has written, the world, where the error classes stand -/
structure VC where
  K : PySem.W.Frag
  w : World
  xa : Str → Option Addr

def dOb (a : Addr) (o : Obj) : HO := .ext fun h => h.get? a = some o
mutual
def nk : D → NestedKey
  | .none => .none
  | .bool b => .num (if b then 1 else 0)
  | .int i => .num i
  | .str x => .text x
  | .list l => .tup (nks l)
  | .tuple l => .tup (nks l)
  | .dict _ => .none
def nks : List D → List NestedKey
  | [] => []
  | d :: ds => nk d :: nks ds
end

mutual
def keyD : D → Bool
  | .none => true
  | .bool _ => true
  | .int _ => true
  | .str _ => true
  | .list _ => false
  | .tuple l => keyDs l
  | .dict _ => false
def keyDs : List D → Bool
  | [] => true
  | d :: ds => keyD d && keyDs ds
end
/-- an error as a value: its class, its word -/
structure Exn where
  cls : Str
  word : Option Str
def wD : Option Str → D
  | some x => .str x
  | none => .none
/-- an error stands among data as what no dict can be: two entries of one key -/
def exL (x : Exn) : List (D × D) := [(.none, .str x.cls), (.none, wD x.word)]
def exK : List (D × D) → Bool
  | (.none, _) :: _ => true
  | _ => false
def exv (a : Addr) (C : Value) (d : Option Addr) : HO := .ext fun h => ∃ (oe : Obj) (vs : Array Value), h.get? a = some oe ∧ Zc C d oe ∧ oe.data = .fields vs
/-- at a: the error x -/
def WdAt (Z : Hp) (o : Option Str) (d : Option Addr) : Prop := match o with
  | some y => ∃ b, d = some b ∧ Z b = some (.xd [("word", .str y)])
  | none => d = none
def ErAt (c : VC) (Z : Hp) (a : Addr) (x : Exn) : Prop := ∃ (C : Addr) (d : Option Addr), ¬ x.cls = "Desk" ∧ c.xa x.cls = some C ∧ Z a = some (exv a (.ref C) d) ∧ WdAt Z x.word d
/-- at a: a bare object of the class that x names (a desk) -/
def ObAt (c : VC) (Z : Hp) (a : Addr) (x : Exn) : Prop := x.cls = "Desk" ∧ x.word = none ∧ ∃ (C dx : Addr) (fs : List (Str × V)), c.xa x.cls = some C ∧ Z a = some (.ins C dx fs) ∧ ∀ m : Str, ¬ m = "numbers" → ¬ m = "wished" → fs.lookup m = none
def ExAt (c : VC) (Z : Hp) (a : Addr) (x : Exn) : Prop := ErAt c Z a x ∨ ObAt c Z a x
theorem WdAt.mono {Z Z' : Hp} {o : Option Str} {d : Option Addr} (e : Same Z Z') (h : WdAt Z o d) : WdAt Z' o d := by
  cases o with
  | none => exact h
  | some y => obtain ⟨b, h1, h2⟩ := h; exact ⟨b, h1, e _ _ h2⟩
theorem ExAt.mono {c : VC} {Z Z' : Hp} {a : Addr} {x : Exn} (e : Same Z Z') (h : ExAt c Z a x) : ExAt c Z' a x := by
  rcases h with ⟨C, d, hd, h1, h2, h3⟩ | ⟨hd, h0, C, dx, fs, h1, h2, h3⟩
  · exact .inl ⟨C, d, hd, h1, e _ _ h2, h3.mono e⟩
  · exact .inr ⟨hd, h0, C, dx, fs, h1, e _ _ h2, h3⟩
def topStr : D → Bool
  | .str _ => true
  | _ => false
/-- what may be a key -/
def kOk (d : D) : Bool := keyD d && !topStr d && decide ((nk d).depth ≤ 8)
def isBl : D → Bool
  | .bool _ => true
  | _ => false
/-- a choice: not empty, all of it True and False -/
def isCh (l : List D) : Bool := !l.isEmpty && l.all isBl
/-- an object without attributes of its own stands at a -/
def NdT (K : PySem.W.Frag) (Z : Hp) (a : Addr) : Prop := (∃ o u, Z a = some (.frz o u) ∧ o.dict = none) ∨ ∃ o, K.lookup a = some o ∧ o.dict = none
theorem NdT.mono {K : PySem.W.Frag} {Z Z' : Hp} {a : Addr} (e : Same Z Z') (h : NdT K Z a) : NdT K Z' a := by
  rcases h with ⟨o, u, h, g⟩ | h
  · exact .inl ⟨o, u, e _ _ h, g⟩
  · exact .inr h
mutual
/-- v stands for the data d, all of it within Z -/
inductive Rp (c : VC) (Z : Hp) : V → D → Prop
  | non : Rp c Z .non .none
  | bl (b : Bool) : Rp c Z (.bl b) (.bool b)
  | int (i : Int) : Rp c Z (.int i) (.int i)
  | str (x : Str) : Rp c Z (.str x) (.str x)
  | tup {a : Addr} {xs : List V} {ds : List D} : SqT c.K Z a xs → RpL c Z xs ds → (isCh ds = true → NdT c.K Z a) → Rp c Z (.ref a) (.tuple ds)
  | lst {a : Addr} {xs : List V} {ds : List D} : SqL c.K Z a xs → RpL c Z xs ds → Rp c Z (.ref a) (.list ds)
  | dct {a : Addr} {o : Obj} {es : Array DictEntry} {ep : Nat} {l : List (D × D)} : (Z a = some (dOb a o) ∨ c.K.lookup a = some o) → o.ExactDict → o.data = .dict es ep → (a == sysModules) = false →
      RpE c Z es.toList l → (l.map fun p => nk p.1).Nodup → Rp c Z (.ref a) (.dict l)
  | ex {a : Addr} {x : Exn} : ExAt c Z a x → Rp c Z (.ref a) (.dict (exL x))
inductive RpL (c : VC) (Z : Hp) : List V → List D → Prop
  | nil : RpL c Z [] []
  | cons {v : V} {d : D} {vs : List V} {ds : List D} : Rp c Z v d → RpL c Z vs ds → RpL c Z (v :: vs) (d :: ds)
inductive RpE (c : VC) (Z : Hp) : List DictEntry → List (D × D) → Prop
  | nil : RpE c Z [] []
  | cons {en : DictEntry} {es : List DictEntry} {k d : D} {r : List (D × D)} {vk v : V} : RelV vk en.key → Rp c Z vk k → kOk k = true → en.hash = (nk k).hash c.w → RelV v en.val → Rp c Z v d → RpE c Z es r → RpE c Z (en :: es) ((k, d) :: r)
end

theorem SqT.mono {K : PySem.W.Frag} {H H' : Hp} {a : Addr} {xs : List V} (e : Same H H') (h : SqT K H a xs) : SqT K H' a xs := by
  rcases h with (h | ⟨o, h⟩) | h
  · exact .inl (.inl (e _ _ h))
  · exact .inl (.inr ⟨o, e _ _ h⟩)
  · exact .inr h
theorem Rd.mono {H H' : Hp} {a : Addr} {u : HO} (e : Same H H') (h : Rd H a u) : Rd H' a u := by
  rcases h with h | ⟨o, h⟩
  · exact .inl (e _ _ h)
  · exact .inr ⟨o, e _ _ h⟩
mutual
theorem Rp.mono {c : VC} {Z Z' : Hp} (e : Same Z Z') : ∀ {v : V} {d : D}, Rp c Z v d → Rp c Z' v d
  | _, _, .non => .non
  | _, _, .bl b => .bl b
  | _, _, .int i => .int i
  | _, _, .str x => .str x
  | _, _, .tup h l k => .tup (SqT.mono e h) (RpL.mono e l) fun z => (k z).mono e
  | _, _, .lst h l => .lst (e.seq h) (RpL.mono e l)
  | _, _, .dct h x y z l n => .dct (h.imp (e _ _) id) x y z (RpE.mono e l) n
  | _, _, .ex h => .ex (h.mono e)
theorem RpL.mono {c : VC} {Z Z' : Hp} (e : Same Z Z') : ∀ {v : List V} {d : List D}, RpL c Z v d → RpL c Z' v d
  | _, _, .nil => .nil
  | _, _, .cons h l => .cons (Rp.mono e h) (RpL.mono e l)
theorem RpE.mono {c : VC} {Z Z' : Hp} (e : Same Z Z') : ∀ {v : List DictEntry} {d : List (D × D)}, RpE c Z v d → RpE c Z' v d
  | _, _, .nil => .nil
  | _, _, .cons h k o x y z l => .cons h (Rp.mono e k) o x y (Rp.mono e z) (RpE.mono e l)
end
/-- a new tuple, without attributes -/
theorem Rp.tupF {c : VC} {Z : Hp} {a : Addr} {o : Obj} {xs : List V} {ds : List D} (h : Z a = some (.frz o (.tup xs))) (g : o.dict = none) (l : RpL c Z xs ds) : Rp c Z (.ref a) (.tuple ds) :=
  .tup (.inl (.inr ⟨o, h⟩)) l fun _ => .inl ⟨o, _, h, g⟩
theorem RpL.length {c : VC} {Z : Hp} : ∀ {vs : List V} {ds : List D}, RpL c Z vs ds → vs.length = ds.length
  | _, _, .nil => rfl
  | _, _, .cons _ t => by simp [RpL.length t]
theorem RpL.get {c : VC} {Z : Hp} : ∀ {vs : List V} {ds : List D} {i : Nat} {v : V}, RpL c Z vs ds → vs[i]? = some v → ∃ d, ds[i]? = some d ∧ Rp c Z v d
  | _, _, _, _, .nil, e => by simp at e
  | _, _, 0, _, .cons r _, e => by simp at e; subst e; exact ⟨_, rfl, r⟩
  | _, _, i + 1, v, .cons _ t, e => by
    obtain ⟨u, h1, h2⟩ := RpL.get (i := i) (v := v) t (by simpa using e)
    exact ⟨u, by simpa using h1, h2⟩
theorem RpL.get' {c : VC} {Z : Hp} : ∀ {vs : List V} {ds : List D} {i : Nat} {d : D}, RpL c Z vs ds → ds[i]? = some d → ∃ v, vs[i]? = some v ∧ Rp c Z v d
  | _, _, _, _, .nil, e => by simp at e
  | _, _, 0, _, .cons r _, e => by simp at e; subst e; exact ⟨_, rfl, r⟩
  | _, _, i + 1, v, .cons _ t, e => by
    obtain ⟨u, h1, h2⟩ := RpL.get' (i := i) (d := v) t (by simpa using e)
    exact ⟨u, by simpa using h1, h2⟩
theorem RpL.append {c : VC} {Z : Hp} : ∀ {vs ws : List V} {ds es : List D}, RpL c Z vs ds → RpL c Z ws es → RpL c Z (vs ++ ws) (ds ++ es)
  | _, _, _, _, .nil, s => s
  | _, _, _, _, .cons r t, s => .cons r (RpL.append t s)
theorem RpL.take {c : VC} {Z : Hp} : ∀ {vs : List V} {ds : List D} (n : Nat), RpL c Z vs ds → RpL c Z (vs.take n) (ds.take n)
  | _, _, 0, _ => .nil
  | _, _, _ + 1, .nil => .nil
  | _, _, n + 1, .cons r t => .cons r (RpL.take n t)
theorem RpL.drop {c : VC} {Z : Hp} : ∀ {vs : List V} {ds : List D} (n : Nat), RpL c Z vs ds → RpL c Z (vs.drop n) (ds.drop n)
  | _, _, 0, r => r
  | _, _, _ + 1, .nil => .nil
  | _, _, n + 1, .cons _ t => RpL.drop n t

/-! ### ownership trees -/
inductive OT where
  | sh (d : D)
  | lst (l : List OT)
  | dct (l : List (D × D))
  | mv
mutual
def OT.d : OT → D
  | .sh d => d
  | .lst l => .list (OT.ds l)
  | .dct l => .dict l
  | .mv => .none
def OT.ds : List OT → List D
  | [] => []
  | t :: ts => t.d :: OT.ds ts
end
@[simp] theorem ds_map (l : List D) : OT.ds (l.map .sh) = l := by
  induction l with
  | nil => rfl
  | cons d ds ih => simp [OT.ds, OT.d, ih]
abbrev Ev := List OT

mutual
/-- v stands for the tree t; F: the objects that it owns, outside of Z -/
inductive Own (c : VC) (Z H : Hp) : V → OT → List Addr → Prop
  | sh {v : V} {d : D} : Rp c Z v d → Own c Z H v (.sh d) []
  | lst {p : Addr} {xs : List V} {ts : List OT} {F : List Addr} : H p = some (.lst xs) → OwnL c Z H xs ts F → Own c Z H (.ref p) (.lst ts) (p :: F)
  | dct {p : Addr} {o : Obj} {es : Array DictEntry} {ep : Nat} {l : List (D × D)} : H p = some (dOb p o) → o.ExactDict → o.data = .dict es ep → (p == sysModules) = false →
      RpE c Z es.toList l → (l.map fun p => nk p.1).Nodup → Own c Z H (.ref p) (.dct l) [p]
inductive OwnL (c : VC) (Z H : Hp) : List V → List OT → List Addr → Prop
  | nil : OwnL c Z H [] [] []
  | cons {v : V} {t : OT} {vs : List V} {ts : List OT} {F G : List Addr} : Own c Z H v t F → OwnL c Z H vs ts G → OwnL c Z H (v :: vs) (t :: ts) (F ++ G)
end
inductive OwnS (c : VC) (Z H : Hp) : St → Ev → List Addr → Prop
  | nil : OwnS c Z H [] [] []
  | mv {o : Option V} {σ : St} {ρ : Ev} {G : List Addr} : OwnS c Z H σ ρ G → OwnS c Z H (o :: σ) (.mv :: ρ) G
  | cons {v : V} {t : OT} {σ : St} {ρ : Ev} {F G : List Addr} : Own c Z H v t F → OwnS c Z H σ ρ G → OwnS c Z H (some v :: σ) (t :: ρ) (F ++ G)

section
variable {c : VC} {Z Z' H H' : Hp}
mutual
theorem Own.frame (e : Same Z Z') : ∀ {v : V} {t : OT} {F : List Addr}, Own c Z H v t F → (∀ p ∈ F, ∀ o, H p = some o → H' p = some o) → Own c Z' H' v t F
  | _, _, _, .sh h, _ => .sh (h.mono e)
  | _, _, _, .lst h l, k => .lst (k _ (by simp) _ h) (OwnL.frame e l fun p hp => k p (by simp [hp]))
  | _, _, _, .dct h x y z l n, k => .dct (k _ (by simp) _ h) x y z (l.mono e) n
theorem OwnL.frame (e : Same Z Z') : ∀ {v : List V} {t : List OT} {F : List Addr}, OwnL c Z H v t F → (∀ p ∈ F, ∀ o, H p = some o → H' p = some o) → OwnL c Z' H' v t F
  | _, _, _, .nil, _ => .nil
  | _, _, _, .cons h l, k => .cons (Own.frame e h fun p hp => k p (by simp [hp])) (OwnL.frame e l fun p hp => k p (by simp [hp]))
end
theorem OwnS.frame (e : Same Z Z') : ∀ {v : St} {t : Ev} {F : List Addr}, OwnS c Z H v t F → (∀ p ∈ F, ∀ o, H p = some o → H' p = some o) → OwnS c Z' H' v t F
  | _, _, _, .nil, _ => .nil
  | _, _, _, .mv l, k => .mv (OwnS.frame e l k)
  | _, _, _, .cons h l, k => .cons (Own.frame e h fun p hp => k p (by simp [hp])) (OwnS.frame e l fun p hp => k p (by simp [hp]))
mutual
theorem Own.there : ∀ {v : V} {t : OT} {F : List Addr}, Own c Z H v t F → ∀ p ∈ F, ∃ o, H p = some o
  | _, _, _, .sh h, p, hp => by simp at hp
  | _, _, _, .lst h l, p, hp => by
    rcases List.mem_cons.mp hp with e | hp
    · subst e; exact ⟨_, h⟩
    · exact OwnL.there l p hp
  | _, _, _, .dct h _ _ _ _ _, p, hp => by
    have e := List.mem_singleton.mp hp
    subst e; exact ⟨_, h⟩
theorem OwnL.there : ∀ {v : List V} {t : List OT} {F : List Addr}, OwnL c Z H v t F → ∀ p ∈ F, ∃ o, H p = some o
  | _, _, _, .nil, p, hp => by simp at hp
  | _, _, _, .cons h l, p, hp => (List.mem_append.mp hp).elim (Own.there h p) (OwnL.there l p)
end
theorem OwnS.there : ∀ {v : St} {t : Ev} {F : List Addr}, OwnS c Z H v t F → ∀ p ∈ F, ∃ o, H p = some o
  | _, _, _, .nil, p, hp => by simp at hp
  | _, _, _, .mv l, p, hp => OwnS.there l p hp
  | _, _, _, .cons h l, p, hp => (List.mem_append.mp hp).elim (Own.there h p) (OwnS.there l p)
/-! read as data -/
mutual
theorem Own.flat (e : Same Z H) : ∀ {v : V} {t : OT} {F : List Addr}, Own c Z H v t F → Rp c H v t.d
  | _, _, _, .sh h => h.mono e
  | _, _, _, .lst h l => by rw [OT.d]; exact .lst (SqL.of h) (OwnL.flat e l)
  | _, _, _, .dct h x y z l n => by rw [OT.d]; exact .dct (.inl h) x y z (l.mono e) n
theorem OwnL.flat (e : Same Z H) : ∀ {v : List V} {t : List OT} {F : List Addr}, OwnL c Z H v t F → RpL c H v (OT.ds t)
  | _, _, _, .nil => by rw [OT.ds]; exact .nil
  | _, _, _, .cons h l => by rw [OT.ds]; exact .cons (Own.flat e h) (OwnL.flat e l)
end
/-- given away into the frozen part -/
def frz (Z H : Hp) (F : List Addr) : Hp := fun p => if p ∈ F then H p else Z p
theorem frz_same (e : Same Z H) (F : List Addr) : Same Z (frz Z H F) := fun p o h => by
  unfold frz
  split
  · exact e p o h
  · exact h
theorem frz_same' (e : Same Z H) (F : List Addr) : Same (frz Z H F) H := fun p o h => by
  unfold frz at h
  split at h
  · exact h
  · exact e p o h
theorem frz_new {F : List Addr} {p : Addr} (h : frz Z H F p ≠ none) : Z p ≠ none ∨ p ∈ F := by
  unfold frz at h
  split at h
  · exact .inr (by assumption)
  · exact .inl h
theorem frz_none {F : List Addr} {p : Addr} (h : Z p = none) (h2 : p ∉ F) : frz Z H F p = none := by
  unfold frz
  rw [if_neg h2, h]
theorem Own.freeze (e : Same Z H) {v : V} {t : OT} {F : List Addr} (h : Own c Z H v t F) : Rp c (frz Z H F) v t.d := by
  have h2 : Own c (frz Z H F) (frz Z H F) v t F := h.frame (frz_same e F) fun p hp o q => by
    unfold frz
    rw [if_pos hp]
    exact q
  exact h2.flat (Same.refl _)
theorem OwnL.freeze (e : Same Z H) {v : List V} {t : List OT} {F : List Addr} (h : OwnL c Z H v t F) : RpL c (frz Z H F) v (OT.ds t) := by
  have h2 : OwnL c (frz Z H F) (frz Z H F) v t F := h.frame (frz_same e F) fun p hp o q => by
    unfold frz
    rw [if_pos hp]
    exact q
  exact h2.flat (Same.refl _)
theorem OwnL.of_rp : ∀ {vs : List V} {ds : List D}, RpL c Z vs ds → OwnL c Z H vs (ds.map .sh) []
  | _, _, .nil => .nil
  | _, _, .cons h l => .cons (F := []) (.sh h) (OwnL.of_rp l)
/-- the items, all shared -/
def shs : List OT → Option (List D)
  | [] => some []
  | .sh d :: ts => (shs ts).map (d :: ·)
  | _ :: _ => none
@[simp] theorem shs_map (l : List D) : shs (l.map .sh) = some l := by
  induction l with
  | nil => rfl
  | cons d ds ih => simp [shs, ih]
theorem shs_eq : ∀ {ts : List OT} {ds : List D}, shs ts = some ds → ts = ds.map .sh
  | [], ds, h => by simp [shs] at h; subst h; rfl
  | .sh d :: ts, ds, h => by
    cases e : shs ts with
    | none => simp [shs, e] at h
    | some r =>
      simp [shs, e] at h
      subst h
      simp [shs_eq e]
  | .lst _ :: _, _, h => by simp [shs] at h
  | .dct _ :: _, _, h => by simp [shs] at h
  | .mv :: _, _, h => by simp [shs] at h
theorem OwnL.shs {vs : List V} {ds : List D} : ∀ {F : List Addr}, OwnL c Z H vs (ds.map .sh) F → RpL c Z vs ds ∧ F = [] := by
  induction ds generalizing vs with
  | nil => intro F h; cases h; exact ⟨.nil, rfl⟩
  | cons d ds ih =>
    intro F h
    cases h with
    | cons h l =>
      cases h with
      | sh h =>
        obtain ⟨a, b⟩ := ih l
        exact ⟨.cons h a, by rw [b]; rfl⟩
theorem OwnL.length : ∀ {vs : List V} {ts : List OT} {F : List Addr}, OwnL c Z H vs ts F → vs.length = ts.length
  | _, _, _, .nil => rfl
  | _, _, _, .cons _ l => by simp [OwnL.length l]
theorem OwnS.length : ∀ {vs : St} {ts : Ev} {F : List Addr}, OwnS c Z H vs ts F → vs.length = ts.length
  | _, _, _, .nil => rfl
  | _, _, _, .mv l => by simp [OwnS.length l]
  | _, _, _, .cons _ l => by simp [OwnS.length l]
/-- taken out of a slot -/
theorem OwnS.takeOut : ∀ {σ : St} {ρ : Ev} {F : List Addr} {i : Nat} {t : OT}, OwnS c Z H σ ρ F → ρ[i]? = some t → t ≠ .mv → ∃ v Ft G, σ[i]? = some (some v) ∧ Own c Z H v t Ft ∧ OwnS c Z H σ (ρ.set i .mv) G ∧ F.Perm (Ft ++ G)
  | _, _, _, _, _, .nil, e, _ => by simp at e
  | _, _, _, 0, _, .mv l, e, n => by simp at e; subst e; exact absurd rfl n
  | _, _, _, 0, _, .cons h l, e, n => by
    simp at e; subst e
    exact ⟨_, _, _, rfl, h, .mv l, List.Perm.refl _⟩
  | _, _, _, i + 1, t, .mv l, e, n => by
    obtain ⟨v, Ft, G, a, b, k, p⟩ := OwnS.takeOut (i := i) l (by simpa using e) n
    exact ⟨v, Ft, G, by simpa using a, b, .mv k, p⟩
  | _, _, _, i + 1, t, .cons (F := F1) h l, e, n => by
    obtain ⟨v, Ft, G, a, b, k, p⟩ := OwnS.takeOut (i := i) l (by simpa using e) n
    refine ⟨v, Ft, F1 ++ G, by simpa using a, b, .cons h k, ?_⟩
    have q : (F1 ++ (Ft ++ G)).Perm (Ft ++ (F1 ++ G)) := by
      rw [← List.append_assoc, ← List.append_assoc]
      exact List.Perm.append_right _ List.perm_append_comm
    exact (List.Perm.append_left _ p).trans q
/-- forgotten -/
theorem OwnS.drop : ∀ {σ : St} {ρ : Ev} {F : List Addr} (i : Nat), OwnS c Z H σ ρ F → ∃ Ft G, OwnS c Z H σ (ρ.set i .mv) G ∧ F.Perm (Ft ++ G)
  | _, _, _, _, .nil => ⟨[], [], .nil, .refl _⟩
  | _, _, _, 0, .mv l => ⟨[], _, .mv l, .refl _⟩
  | _, _, _, 0, .cons h l => ⟨_, _, .mv l, .refl _⟩
  | _, _, _, i + 1, .mv l => by
    obtain ⟨Ft, G, k, p⟩ := OwnS.drop i l
    exact ⟨Ft, G, .mv k, p⟩
  | _, _, _, i + 1, .cons (F := F1) h l => by
    obtain ⟨Ft, G, k, p⟩ := OwnS.drop i l
    refine ⟨Ft, F1 ++ G, .cons h k, ?_⟩
    have q : (F1 ++ (Ft ++ G)).Perm (Ft ++ (F1 ++ G)) := by
      rw [← List.append_assoc, ← List.append_assoc]
      exact List.Perm.append_right _ List.perm_append_comm
    exact (List.Perm.append_left _ p).trans q
/-- any value at a slot that holds nothing -/
theorem OwnS.anyAt : ∀ {σ : St} {ρ : Ev} {F : List Addr} {i : Nat} (o : Option V), OwnS c Z H σ ρ F → ρ[i]? = some .mv → OwnS c Z H (σ.set i o) ρ F
  | _, _, _, _, _, .nil, e => by simp at e
  | _, _, _, 0, _, .mv l, _ => .mv l
  | _, _, _, 0, _, .cons h l, e => by simp at e; subst e; cases h
  | _, _, _, i + 1, o, .mv l, e => .mv (OwnS.anyAt o l (by simpa using e))
  | _, _, _, i + 1, o, .cons h l, e => .cons h (OwnS.anyAt o l (by simpa using e))
/-- put into a slot that holds nothing -/
theorem OwnS.putIn : ∀ {σ : St} {ρ : Ev} {F Ft : List Addr} {i : Nat} {v : V} {t : OT}, OwnS c Z H σ ρ F → ρ[i]? = some .mv → Own c Z H v t Ft → ∃ F', OwnS c Z H (σ.set i (some v)) (ρ.set i t) F' ∧ F'.Perm (Ft ++ F)
  | _, _, _, _, _, _, _, .nil, e, _ => by simp at e
  | _, _, _, _, 0, _, _, .mv l, _, h => ⟨_, .cons h l, .refl _⟩
  | _, _, _, _, 0, _, _, .cons h l, e, _ => by simp at e; subst e; cases h
  | _, _, _, _, i + 1, _, _, .mv l, e, h => by
    obtain ⟨F', k, p⟩ := OwnS.putIn (i := i) l (by simpa using e) h
    exact ⟨F', .mv k, p⟩
  | _, _, _, Ft, i + 1, _, _, .cons (F := F1) (G := G1) h1 l, e, h => by
    obtain ⟨F', k, p⟩ := OwnS.putIn (i := i) l (by simpa using e) h
    refine ⟨F1 ++ F', .cons h1 k, ?_⟩
    have q : (F1 ++ (Ft ++ G1)).Perm (Ft ++ (F1 ++ G1)) := by
      rw [← List.append_assoc, ← List.append_assoc]
      exact List.Perm.append_right _ List.perm_append_comm
    exact (List.Perm.append_left _ p).trans q
/-- .. whose own value stands there still -/
theorem OwnS.putBack {σ : St} {ρ : Ev} {F Ft : List Addr} {i : Nat} {v : V} {t : OT} (h : OwnS c Z H σ ρ F) (e : ρ[i]? = some .mv) (hv : σ[i]? = some (some v)) (k : Own c Z H v t Ft) : ∃ F', OwnS c Z H σ (ρ.set i t) F' ∧ F'.Perm (Ft ++ F) := by
  obtain ⟨F', a, b⟩ := h.putIn e k
  have q : σ.set i (some v) = σ := by
    apply List.ext_getElem?
    intro j
    by_cases hj : i = j
    · subst hj
      have hl : i < σ.length := (List.getElem?_eq_some_iff.mp hv).1
      rw [List.getElem?_set_self hl, hv]
    · rw [List.getElem?_set_ne hj]
  rw [q] at a
  exact ⟨F', a, b⟩
end

/-! ### the state of a def's body -/
structure Ok (c : VC) (Z H : Hp) (σ : St) (ρ : Ev) (F : List Addr) : Prop where
  same : Same Z H
  own : OwnS c Z H σ ρ F
  nd : F.Nodup
  sep : ∀ p ∈ F, Z p = none
/-- what may have changed: the objects at F, new ones -/
structure After (Z H : Hp) (F : List Addr) (Z' H' : Hp) (F' : List Addr) : Prop where
  same : Same Z Z'
  keep : ∀ p o, H p = some o → p ∉ F → H' p = some o
  foot : ∀ p ∈ F', p ∈ F ∨ H p = none
  newZ : ∀ p, Z' p ≠ none → Z p ≠ none ∨ p ∈ F ∨ H p = none
theorem After.refl (Z H : Hp) (F : List Addr) : After Z H F Z H F := ⟨Same.refl _, fun _ _ h _ => h, fun _ h => .inl h, fun _ h => .inl h⟩
theorem not_none {α : Type} {o : Option α} (h : ¬ o = none) : ∃ x, o = some x := by
  cases o with
  | none => exact absurd rfl h
  | some x => exact ⟨x, rfl⟩
theorem After.trans {Z H Z1 H1 Z2 H2 : Hp} {F F1 F2 : List Addr} (a : After Z H F Z1 H1 F1) (b : After Z1 H1 F1 Z2 H2 F2) : After Z H F Z2 H2 F2 := by
  have nf : ∀ p o, H p = some o → p ∉ F → p ∉ F1 := fun p o h n q => by
    rcases a.foot p q with z | z
    · exact n z
    · rw [h] at z; cases z
  have back : ∀ p, H1 p = none → p ∈ F ∨ H p = none := fun p z => by
    by_cases hp : p ∈ F
    · exact .inl hp
    · by_cases hn : H p = none
      · exact .inr hn
      · obtain ⟨o, ho⟩ := not_none hn
        rw [a.keep p o ho hp] at z
        cases z
  refine ⟨a.same.trans b.same, fun p o h n => b.keep p o (a.keep p o h n) (nf p o h n), fun p hp => ?_, fun p hp => ?_⟩
  · rcases b.foot p hp with z | z
    · exact a.foot p z
    · exact back p z
  · rcases b.newZ p hp with z | z | z
    · exact a.newZ p z
    · exact .inr (a.foot p z)
    · exact .inr (back p z)
/-- a frame beside: what is owned elsewhere stands -/
theorem After.frame {c : VC} {Z H Z' H' : Hp} {F F' G : List Addr} {v : V} {t : OT} (a : After Z H F Z' H' F') (h : Own c Z H v t G) (n : ∀ p ∈ G, p ∉ F) : Own c Z' H' v t G :=
  h.frame a.same fun p hp o q => a.keep p o q (n p hp)
theorem After.frameL {c : VC} {Z H Z' H' : Hp} {F F' G : List Addr} {v : List V} {t : List OT} (a : After Z H F Z' H' F') (h : OwnL c Z H v t G) (n : ∀ p ∈ G, p ∉ F) : OwnL c Z' H' v t G :=
  h.frame a.same fun p hp o q => a.keep p o q (n p hp)
theorem After.frameS {c : VC} {Z H Z' H' : Hp} {F F' G : List Addr} {σ : St} {ρ : Ev} (a : After Z H F Z' H' F') (h : OwnS c Z H σ ρ G) (n : ∀ p ∈ G, p ∉ F) : OwnS c Z' H' σ ρ G :=
  h.frame a.same fun p hp o q => a.keep p o q (n p hp)
/-- a footprint beside stays unfrozen and apart -/
theorem After.sepF {Z H Z' H' : Hp} {F F' G : List Addr} (a : After Z H F Z' H' F') (there : ∀ p ∈ G, ∃ o, H p = some o) (n : ∀ p ∈ G, p ∉ F) (z : ∀ p ∈ G, Z p = none) : (∀ p ∈ G, Z' p = none) ∧ ∀ p ∈ G, p ∉ F' := by
  refine ⟨fun p hp => ?_, fun p hp q => ?_⟩
  · cases e : Z' p with
    | none => rfl
    | some o =>
      rcases a.newZ p (by rw [e]; exact fun q => nomatch q) with y | y | y
      · exact absurd (z p hp) y
      · exact absurd y (n p hp)
      · obtain ⟨o', h'⟩ := there p hp
        rw [h'] at y; cases y
  · rcases a.foot p q with y | y
    · exact n p hp y
    · obtain ⟨o', h'⟩ := there p hp
      rw [h'] at y; cases y
/-- a wider footprint -/
theorem After.widen {Z H Z' H' : Hp} {F F' G G' : List Addr} (a : After Z H F Z' H' F') (h : ∀ p ∈ F, p ∈ G) (h' : ∀ p ∈ G', p ∈ G ∨ p ∈ F') : After Z H G Z' H' G' :=
  ⟨a.same, fun p o q n => a.keep p o q fun z => n (h p z), fun p hp => by
    rcases h' p hp with z | z
    · exact .inl z
    · exact (a.foot p z).imp (h p) id, fun p hp => (a.newZ p hp).imp id fun z => z.imp (h p) id⟩
end VL

end

section
set_option Elab.async false
set_option linter.all false
set_option maxRecDepth 100000
set_option maxHeartbeats 1000000
namespace VL
open PySem PySem.Spec PyProof.Rows L2

/-! ### outcomes -/
/-- what is wished of an error at the slots -/
abbrev XS := St → XK
inductive Res (α : Type) where
  | bad
  | ok (a : α) (ρ : Ev)
  | exc (x : Exn) (ρ : Ev)
def Res.bind {α β : Type} (r : Res α) (k : α → Ev → Res β) : Res β :=
  match r with
  | .bad => .bad
  | .ok a ρ => k a ρ
  | .exc x ρ => .exc x ρ
@[simp] theorem Res.bind_ok {α β : Type} (a : α) (ρ : Ev) (k : α → Ev → Res β) : (Res.ok a ρ).bind k = k a ρ := rfl
@[simp] theorem Res.bind_bad {α β : Type} (k : α → Ev → Res β) : (Res.bad : Res α).bind k = .bad := rfl
@[simp] theorem Res.bind_exc {α β : Type} (x : Exn) (ρ : Ev) (k : α → Ev → Res β) : (Res.exc x ρ : Res α).bind k = .exc x ρ := rfl
def Res.of {α : Type} (o : Option α) (ρ : Ev) : Res α :=
  match o with
  | none => .bad
  | some a => .ok a ρ
@[simp] theorem Res.of_some {α : Type} (a : α) (ρ : Ev) : Res.of (some a) ρ = .ok a ρ := rfl
@[simp] theorem Res.of_none {α : Type} (ρ : Ev) : Res.of (none : Option α) ρ = .bad := rfl

/-- an exception's class and its own dict -/
def ExR (c : VC) (Z H : Hp) (x : Exn) (cls : Value) (dx : Option Addr) : Prop :=
  ∃ C, c.xa x.cls = some C ∧ cls = .ref C ∧ WdAt Z x.word dx

/-! ### expressions -/
def rV (c : VC) (E : XS) (pu : Bool) (Z H : Hp) (σ : St) (ρ : Ev) (F : List Addr) (r : Res OT) (Q : VK) : Prop :=
  match r with
  | .bad => False
  | .ok t ρ' => ∀ v H' Z' F' Ft, Ok c Z' H' σ ρ' F' → Own c Z' H' v t Ft → (Ft ++ F').Nodup → (∀ p ∈ Ft, Z' p = none) → After Z H F Z' H' (Ft ++ F') → (pu = true → Same H H' ∧ ρ' = ρ) → Q v H'
  | .exc x ρ' => ∀ cls d H' Z' F', Ok c Z' H' σ ρ' F' → ExR c Z' H' x cls d → After Z H F Z' H' F' → E σ cls d H'
def tV (c : VC) (E : XS) (pu : Bool) (f : Ev → Res OT) : TE := fun σ H Q => ∃ Z ρ F, Ok c Z H σ ρ F ∧ rV c E pu Z H σ ρ F (f ρ) Q

/-- a value that is read soon -/
inductive PH where
  | val (d : D)
  | slot (i : Nat)
  | nest (t : OT)
  | bad
def PHr (c : VC) (Z H : Hp) (σ : St) (h : PH) (v : V) : Prop :=
  match h with
  | .val d => Rp c Z v d
  | .slot i => σ[i]? = some (some v)
  | .nest t => ∃ F, Own c Z H v t F
  | .bad => True
def PH.un (h : PH) (pu : Bool) : PH :=
  match h with
  | .nest t => if pu then .nest t else .bad
  | h => h
@[simp] theorem PH.un_val (d : D) (b : Bool) : (PH.val d).un b = .val d := rfl
@[simp] theorem PH.un_slot (d : Nat) (b : Bool) : (PH.slot d).un b = .slot d := rfl
@[simp] theorem PH.un_nest (d : OT) : (PH.nest d).un true = .nest d := rfl
@[simp] theorem PH.un_true (h : PH) : h.un true = h := by cases h <;> rfl
def slotAt (ρ : Ev) (i : Nat) : Option OT :=
  match ρ[i]? with
  | some (.sh d) => some (.sh d)
  | some (.lst l) => some (.lst l)
  | some (.dct l) => some (.dct l)
  | _ => none
theorem slotAt_eq {ρ : Ev} {i : Nat} {t : OT} (h : slotAt ρ i = some t) : ρ[i]? = some t ∧ t ≠ .mv := by
  unfold slotAt at h
  split at h <;> first | (cases h) | skip
  all_goals (rename_i e; exact ⟨e, fun z => nomatch z⟩)
def PH.get (h : PH) (ρ : Ev) : Option OT :=
  match h with
  | .val d => some (.sh d)
  | .slot i => slotAt ρ i
  | .nest t => some t
  | .bad => none
@[simp] theorem PH.get_val (d : D) (ρ : Ev) : (PH.val d).get ρ = some (.sh d) := rfl
@[simp] theorem PH.get_slot (i : Nat) (ρ : Ev) : (PH.slot i).get ρ = slotAt ρ i := rfl
@[simp] theorem PH.get_nest (t : OT) (ρ : Ev) : (PH.nest t).get ρ = some t := rfl
def rP (c : VC) (E : XS) (pu : Bool) (Z H : Hp) (σ : St) (ρ : Ev) (F : List Addr) (r : Res PH) (Q : VK) : Prop :=
  match r with
  | .bad => False
  | .ok h ρ' => ∀ v H' Z' F', Ok c Z' H' σ ρ' F' → PHr c Z' H' σ h v → After Z H F Z' H' F' → (pu = true → Same H H' ∧ ρ' = ρ) → Q v H'
  | .exc x ρ' => ∀ cls d H' Z' F', Ok c Z' H' σ ρ' F' → ExR c Z' H' x cls d → After Z H F Z' H' F' → E σ cls d H'
def tP (c : VC) (E : XS) (pu : Bool) (f : Ev → Res PH) : TE := fun σ H Q => ∃ Z ρ F, Ok c Z H σ ρ F ∧ rP c E pu Z H σ ρ F (f ρ) Q
def rT (c : VC) (E : XS) (pu : Bool) (Z H : Hp) (σ : St) (ρ : Ev) (F : List Addr) (r : Res Bool) (Q : Bool → Hp → Prop) : Prop :=
  match r with
  | .bad => False
  | .ok b ρ' => ∀ H' Z' F', Ok c Z' H' σ ρ' F' → After Z H F Z' H' F' → (pu = true → Same H H' ∧ ρ' = ρ) → Q b H'
  | .exc x ρ' => ∀ cls d H' Z' F', Ok c Z' H' σ ρ' F' → ExR c Z' H' x cls d → After Z H F Z' H' F' → E σ cls d H'
def tT (c : VC) (E : XS) (pu : Bool) (f : Ev → Res Bool) : TT := fun σ H Q => ∃ Z ρ F, Ok c Z H σ ρ F ∧ rT c E pu Z H σ ρ F (f ρ) Q
inductive PHrs (c : VC) (Z H : Hp) (σ : St) : List PH → List V → Prop
  | nil : PHrs c Z H σ [] []
  | cons {h : PH} {v : V} {hs : List PH} {vs : List V} : PHr c Z H σ h v → PHrs c Z H σ hs vs → PHrs c Z H σ (h :: hs) (v :: vs)
def rPs (c : VC) (E : XS) (pu : Bool) (Z H : Hp) (σ : St) (ρ : Ev) (F : List Addr) (r : Res (List PH)) (Q : List V → Hp → Prop) : Prop :=
  match r with
  | .bad => False
  | .ok hs ρ' => ∀ vs H' Z' F', Ok c Z' H' σ ρ' F' → PHrs c Z' H' σ hs vs → After Z H F Z' H' F' → (pu = true → Same H H' ∧ ρ' = ρ) → Q vs H'
  | .exc x ρ' => ∀ cls d H' Z' F', Ok c Z' H' σ ρ' F' → ExR c Z' H' x cls d → After Z H F Z' H' F' → E σ cls d H'
def tPs (c : VC) (E : XS) (pu : Bool) (f : Ev → Res (List PH)) : TA := fun σ H Q => ∃ Z ρ F, Ok c Z H σ ρ F ∧ rPs c E pu Z H σ ρ F (f ρ) Q

abbrev cc (X : Cx) (xa : Str → Option Addr) : VC := ⟨X.K, X.w, xa⟩
abbrev VE (X : Cx) (xa : Str → Option Addr) (E : XS) (pu : Bool) (e : Expr) (f : Ev → Res OT) : Prop := PE X e (tV (cc X xa) E pu f)
abbrev VP (X : Cx) (xa : Str → Option Addr) (E : XS) (pu : Bool) (e : Expr) (f : Ev → Res PH) : Prop := PE X e (tP (cc X xa) E pu f)
abbrev VT (X : Cx) (xa : Str → Option Addr) (E : XS) (pu : Bool) (e : Expr) (f : Ev → Res Bool) : Prop := PT X e (tT (cc X xa) E pu f)
abbrev VPs (X : Cx) (xa : Str → Option Addr) (E : XS) (pu : Bool) (e : List Expr) (f : Ev → Res (List PH)) : Prop := PA X e (tPs (cc X xa) E pu f)

theorem _root_.L2.PE.imp {X : Cx} {e : Expr} {t t' : TE} (h : PE X e t) (k : ∀ σ H Q, t' σ H Q → t σ H Q) : PE X e t' := ⟨fun pins s σ H Q I q => h.run pins s σ H Q I (k σ H Q q)⟩
theorem _root_.L2.PT.imp {X : Cx} {e : Expr} {t t' : TT} (h : PT X e t) (k : ∀ σ H Q, t' σ H Q → t σ H Q) : PT X e t' := ⟨fun pins s σ H Q I q => h.run pins s σ H Q I (k σ H Q q)⟩
theorem _root_.L2.PW.imp {X : Cx} {e : Expr} {t t' : TT} (h : PW X e t) (k : ∀ σ H Q, t' σ H Q → t σ H Q) : PW X e t' := ⟨fun wh pins s σ H Q I q => h.run wh pins s σ H Q I (k σ H Q q)⟩
theorem _root_.L2.PA.imp {X : Cx} {e : List Expr} {t t' : TA} (h : PA X e t) (k : ∀ σ H Q, t' σ H Q → t σ H Q) : PA X e t' := ⟨fun pos pins s σ H Q I q => h.run pos pins s σ H Q I (k σ H Q q)⟩
theorem _root_.L2.PS.imp {X : Cx} {e : Stmt} {t t' : TS} (h : PS X e t) (k : ∀ D σ H, t' D σ H → t D σ H) : PS X e t' := ⟨fun pins s σ H D I q => h.run pins s σ H D I (k D σ H q)⟩
theorem _root_.L2.PSs.imp {X : Cx} {e : List Stmt} {t t' : TS} (h : PSs X e t) (k : ∀ D σ H, t' D σ H → t D σ H) : PSs X e t' := ⟨fun pins s σ H D I q => h.run pins s σ H D I (k D σ H q)⟩

section
variable {c : VC} {E : XS} {pu pu' : Bool} {Z H Z1 H1 : Hp} {σ : St} {ρ ρ1 : Ev} {F F1 : List Addr}
/-- from a later state on -/
theorem rV.later {r : Res OT} {Q : VK} (h : rV c E pu Z H σ ρ F r Q) (a : After Z H F Z1 H1 F1) (hp : pu = true → pu' = true ∧ Same H H1 ∧ ρ1 = ρ) : rV c E pu' Z1 H1 σ ρ1 F1 r Q := by
  cases r with
  | bad => exact h
  | ok t ρ' => exact fun v H' Z' F' Ft o w n z b q => h v H' Z' F' Ft o w n z (a.trans b) fun e => let ⟨h1, h2, h3⟩ := hp e; ⟨h2.trans (q h1).1, (q h1).2.trans h3⟩
  | exc x ρ' => exact fun cls d H' Z' F' o x b => h cls d H' Z' F' o x (a.trans b)
theorem rP.later {r : Res PH} {Q : VK} (h : rP c E pu Z H σ ρ F r Q) (a : After Z H F Z1 H1 F1) (hp : pu = true → pu' = true ∧ Same H H1 ∧ ρ1 = ρ) : rP c E pu' Z1 H1 σ ρ1 F1 r Q := by
  cases r with
  | bad => exact h
  | ok t ρ' => exact fun v H' Z' F' o w b q => h v H' Z' F' o w (a.trans b) fun e => let ⟨h1, h2, h3⟩ := hp e; ⟨h2.trans (q h1).1, (q h1).2.trans h3⟩
  | exc x ρ' => exact fun cls d H' Z' F' o x b => h cls d H' Z' F' o x (a.trans b)
theorem rT.later {r : Res Bool} {Q : Bool → Hp → Prop} (h : rT c E pu Z H σ ρ F r Q) (a : After Z H F Z1 H1 F1) (hp : pu = true → pu' = true ∧ Same H H1 ∧ ρ1 = ρ) : rT c E pu' Z1 H1 σ ρ1 F1 r Q := by
  cases r with
  | bad => exact h
  | ok t ρ' => exact fun H' Z' F' o b q => h H' Z' F' o (a.trans b) fun e => let ⟨h1, h2, h3⟩ := hp e; ⟨h2.trans (q h1).1, (q h1).2.trans h3⟩
  | exc x ρ' => exact fun cls d H' Z' F' o x b => h cls d H' Z' F' o x (a.trans b)
theorem rPs.later {r : Res (List PH)} {Q : List V → Hp → Prop} (h : rPs c E pu Z H σ ρ F r Q) (a : After Z H F Z1 H1 F1) (hp : pu = true → pu' = true ∧ Same H H1 ∧ ρ1 = ρ) : rPs c E pu' Z1 H1 σ ρ1 F1 r Q := by
  cases r with
  | bad => exact h
  | ok t ρ' => exact fun v H' Z' F' o w b q => h v H' Z' F' o w (a.trans b) fun e => let ⟨h1, h2, h3⟩ := hp e; ⟨h2.trans (q h1).1, (q h1).2.trans h3⟩
  | exc x ρ' => exact fun cls d H' Z' F' o x b => h cls d H' Z' F' o x (a.trans b)

/-- a result that stands at once, or newly made -/
def NewR (c : VC) (Z H : Hp) (t : OT) (Q : VK) : Prop :=
  ∀ v H' Z' Ft, Same H H' → Same Z Z' → Same Z' H' → (∀ p, Z' p ≠ none → Z p ≠ none ∨ H p = none) → Own c Z' H' v t Ft → Ft.Nodup → (∀ p ∈ Ft, Z' p = none ∧ H p = none) → Q v H'
theorem Ok.new {Z' H' : Hp} {Ft : List Addr} {t : OT} {v : V} (ok : Ok c Z H σ ρ F) (s1 : Same H H') (s2 : Same Z Z') (s3 : Same Z' H') (nz : ∀ p, Z' p ≠ none → Z p ≠ none ∨ H p = none) (w : Own c Z' H' v t Ft) (n : Ft.Nodup) (sp : ∀ p ∈ Ft, Z' p = none ∧ H p = none) :
    Ok c Z' H' σ ρ F ∧ (Ft ++ F).Nodup ∧ (∀ p ∈ Ft, Z' p = none) ∧ After Z H F Z' H' (Ft ++ F) := by
  refine ⟨⟨s3, ok.own.frame s2 fun p _ o q => s1 p o q, ok.nd, fun p hp => ?_⟩, ?_, fun p hp => (sp p hp).1, ⟨s2, fun p o q _ => s1 p o q, fun p hp => ?_, fun p hp => ?_⟩⟩
  · cases e : Z' p with
    | none => rfl
    | some o =>
      rcases nz p (by rw [e]; exact fun q => nomatch q) with y | y
      · exact absurd (ok.sep p hp) y
      · obtain ⟨o', h'⟩ := ok.own.there p hp
        rw [h'] at y; cases y
  · refine List.nodup_append.mpr ⟨n, ok.nd, fun p hp q hq e => ?_⟩
    subst e
    obtain ⟨o', h'⟩ := ok.own.there p hq
    rw [(sp p hp).2] at h'; cases h'
  · rcases List.mem_append.mp hp with z | z
    · exact .inr (sp p z).2
    · exact .inl z
  · rcases nz p hp with z | z
    · exact .inl z
    · exact .inr (.inr z)
theorem Ok.newR {t : OT} {Q : VK} (ok : Ok c Z H σ ρ F) (h : rV c E pu Z H σ ρ F (.ok t ρ) Q) : NewR c Z H t Q := fun v H' Z' Ft s1 s2 s3 nz w n sp => by
  obtain ⟨o, nd, sep, a⟩ := ok.new s1 s2 s3 nz w n sp
  exact h v H' Z' F Ft o w nd sep a fun _ => ⟨s1, rfl⟩
theorem NewR.now {d : D} {v : V} {Q : VK} (h : NewR c Z H (.sh d) Q) (s : Same Z H) (r : Rp c Z v d) : Q v H := h v H Z [] (Same.refl _) (Same.refl _) s (fun _ z => .inl z) (.sh r) List.nodup_nil fun _ z => nomatch z
theorem same_upd {Z : Hp} {p : Addr} {o : HO} (n : Z p = none) : Same Z (upd Z p o) := fun b u h => by
  rw [upd_ne (ne_of_none h n)]
  exact h
theorem upd_mono {Z H : Hp} {p : Addr} {o : HO} (s : Same Z H) : Same (upd Z p o) (upd H p o) := fun b u h => by
  by_cases e : b = p
  · subst e
    rw [upd_same] at h
    rw [upd_same]; exact h
  · rw [upd_ne e] at h
    rw [upd_ne e]
    exact s b u h
/-- a new frozen object -/
theorem NewR.shNew {d : D} {p : Addr} {o : HO} {Q : VK} (h : NewR c Z H (.sh d) Q) (s : Same Z H) (n : H p = none) (r : Rp c (upd Z p o) (.ref p) d) : Q (.ref p) (upd H p o) := by
  refine h (.ref p) (upd H p o) (upd Z p o) [] (same_upd n) (same_upd (s.free n)) (upd_mono s) (fun b hb => ?_) (.sh r) List.nodup_nil fun _ z => nomatch z
  by_cases e : b = p
  · subst e; exact .inr n
  · rw [upd_ne e] at hb
    exact .inl hb
/-- a new owned list of shared items -/
theorem NewR.lstNew {ds : List D} {p : Addr} {xs : List V} {Q : VK} (h : NewR c Z H (.lst (ds.map .sh)) Q) (s : Same Z H) (n : H p = none) (r : RpL c Z xs ds) : Q (.ref p) (upd H p (.lst xs)) := by
  refine h (.ref p) (upd H p (.lst xs)) Z [p] (same_upd n) (Same.refl _) (s.trans (same_upd n)) (fun b hb => .inl hb) (.lst upd_same (OwnL.of_rp r)) (by simp) fun q hq => ?_
  have e := List.mem_singleton.mp hq
  subst e
  exact ⟨s.free n, n⟩
end

/-! ### operands -/
section
variable {X : Cx} {xa : Str → Option Addr} {E : XS} {pu p1 p2 : Bool} {e a b : Expr} {es : List Expr}
/-- any expression as an operand: what it makes is frozen -/
def fPh (f : Ev → Res OT) : Ev → Res PH := fun ρ => (f ρ).bind fun t ρ' => .ok (.val t.d) ρ'
theorem Ok.frozen {c : VC} {Z' H' : Hp} {σ : St} {ρ' : Ev} {F' Ft : List Addr} {v : V} {t : OT} (o : Ok c Z' H' σ ρ' F') (w : Own c Z' H' v t Ft) (n : (Ft ++ F').Nodup) (sp : ∀ p ∈ Ft, Z' p = none) :
    Ok c (frz Z' H' Ft) H' σ ρ' F' ∧ Rp c (frz Z' H' Ft) v t.d ∧ ∀ {Z H : Hp} {F : List Addr}, After Z H F Z' H' (Ft ++ F') → After Z H F (frz Z' H' Ft) H' F' := by
  obtain ⟨n1, n2, n3⟩ := List.nodup_append.mp n
  refine ⟨⟨frz_same' o.same Ft, o.own.frame (frz_same o.same Ft) fun p _ o q => q, o.nd, fun p hp => frz_none (o.sep p hp) fun z => n3 p z p hp rfl⟩, w.freeze o.same, fun a => ⟨a.same.trans (frz_same o.same Ft), a.keep, fun p hp => a.foot p (List.mem_append_right _ hp), fun p hp => ?_⟩⟩
  rcases frz_new hp with z | z
  · exact a.newZ p z
  · exact .inr (a.foot p (List.mem_append_left _ z))
theorem vp_of {f : Ev → Res OT} (h : VE X xa E pu e f) : VP X xa E pu e (fPh f) := h.imp fun σ H Q q => by
  obtain ⟨Z, ρ, F, ok, q⟩ := q
  refine ⟨Z, ρ, F, ok, ?_⟩
  unfold fPh at q
  cases r : f ρ with
  | bad => rw [r] at q; exact q
  | ok t ρ' =>
    rw [r] at q
    intro v H' Z' F' Ft o w n sp a hp
    obtain ⟨o2, r2, a2⟩ := o.frozen w n sp
    exact q v H' _ F' o2 r2 (a2 a) hp
  | exc x ρ' => rw [r] at q; exact q
/-- a name as an operand: it is read where it stands -/
def fPv (i : Nat) : Ev → Res PH := fun ρ => match slotAt ρ i with
  | some _ => .ok (.slot i) ρ
  | none => .bad
theorem vp_name {i : Nat} {x : Str} {pos : Pos} (h : PE X (.Name x pos) (tVar i)) : VP X xa E true (.Name x pos) (fPv i) := h.imp fun σ H Q q => by
  obtain ⟨Z, ρ, F, ok, q⟩ := q
  unfold fPv at q
  cases e : slotAt ρ i with
  | none => rw [e] at q; exact q.elim
  | some t =>
    rw [e] at q
    obtain ⟨h1, h2⟩ := slotAt_eq e
    obtain ⟨v, Ft, G, hv, _⟩ := ok.own.takeOut h1 h2
    exact ⟨v, hv, q v H Z F ok hv (After.refl _ _ _) fun _ => ⟨Same.refl _, rfl⟩⟩
theorem PHr.read {c : VC} {Z H : Hp} {σ : St} {ρ : Ev} {F : List Addr} {h : PH} {v : V} {t : OT} (ok : Ok c Z H σ ρ F) (r : PHr c Z H σ h v) (e : h.get ρ = some t) : ∃ Ft, Own c Z H v t Ft := by
  cases h with
  | val d => cases e; exact ⟨[], .sh r⟩
  | slot i =>
    obtain ⟨h1, h2⟩ := slotAt_eq e
    obtain ⟨v', Ft, G, hv, w, _⟩ := ok.own.takeOut h1 h2
    have r' : σ[i]? = some (some v) := r
    rw [r'] at hv
    cases hv
    exact ⟨Ft, w⟩
  | nest t' => cases e; exact r
  | bad => cases e
theorem PHr.stay {c : VC} {Z H Z' H' : Hp} {σ : St} {h : PH} {v : V} (r : PHr c Z H σ h v) (s : Same Z Z') (pu : Bool) (k : pu = true → Same H H') : PHr c Z' H' σ (h.un pu) v := by
  cases h with
  | val d => exact Rp.mono s r
  | slot i => exact r
  | nest t =>
    cases pu with
    | false => trivial
    | true =>
      obtain ⟨F, w⟩ := r
      exact ⟨F, w.frame s fun p _ o q => k rfl p o q⟩
  | bad => trivial
theorem PHrs.stay {c : VC} {Z H Z' H' : Hp} {σ : St} {hs : List PH} {vs : List V} (r : PHrs c Z H σ hs vs) (s : Same Z Z') (pu : Bool) (k : pu = true → Same H H') : PHrs c Z' H' σ (hs.map (·.un pu)) vs := by
  induction r with
  | nil => exact .nil
  | cons r _ ih => exact .cons (r.stay s pu k) ih

/-! ### a list of operands -/
def fPsNil : Ev → Res (List PH) := fun ρ => .ok [] ρ
def fPsCons (p2 : Bool) (f : Ev → Res PH) (g : Ev → Res (List PH)) : Ev → Res (List PH) := fun ρ => (f ρ).bind fun h ρ1 => (g ρ1).bind fun hs ρ2 => .ok (h.un p2 :: hs) ρ2
theorem vps_nil : VPs X xa E true [] fPsNil := PA.imp pa_nil fun σ H Q ⟨Z, ρ, F, ok, q⟩ => q [] H Z F ok .nil (After.refl _ _ _) fun _ => ⟨Same.refl _, rfl⟩
theorem vps_cons {f : Ev → Res PH} {g : Ev → Res (List PH)} (h1 : VP X xa E p1 e f) (h2 : VPs X xa E p2 es g) (hs : starEach (e :: es) X.env = (false, eval e X.env) :: starEach es X.env := by rfl) :
    VPs X xa E (p1 && p2) (e :: es) (fPsCons p2 f g) := (pa_cons h1 h2 hs).imp fun σ H Q ⟨Z, ρ, F, ok, q⟩ => by
  refine ⟨Z, ρ, F, ok, ?_⟩
  unfold fPsCons at q
  cases r : f ρ with
  | bad => rw [r] at q; exact q
  | exc x ρ' => rw [r] at q; exact q
  | ok h ρ1 =>
    rw [r] at q
    intro v H1 Z1 F1 o1 w1 a1 k1
    refine ⟨Z1, ρ1, F1, o1, ?_⟩
    have q1 : rPs (cc X xa) E p2 Z1 H1 σ ρ1 F1 ((g ρ1).bind fun hs ρ2 => .ok (h.un p2 :: hs) ρ2) Q := rPs.later q a1 fun z => by
      rw [Bool.and_eq_true] at z
      exact ⟨z.2, k1 z.1⟩
    cases r2 : g ρ1 with
    | bad => rw [r2] at q1; exact q1
    | exc x ρ' => rw [r2] at q1; exact q1
    | ok hs ρ2 =>
      rw [r2] at q1
      intro vs H2 Z2 F2 o2 w2 a2 k2
      exact q1 (v :: vs) H2 Z2 F2 o2 (.cons (w1.stay a2.same p2 fun z => (k2 z).1) w2) a2 k2

/-! ### built-in operations -/
inductive Rds (c : VC) (Z H : Hp) : List V → List OT → Prop
  | nil : Rds c Z H [] []
  | cons {v : V} {t : OT} {vs : List V} {ts : List OT} {F : List Addr} : Own c Z H v t F → Rds c Z H vs ts → Rds c Z H (v :: vs) (t :: ts)
def gets : List PH → Ev → Option (List OT)
  | [], _ => some []
  | h :: hs, ρ => match h.get ρ, gets hs ρ with
    | some t, some ts => some (t :: ts)
    | _, _ => none
theorem gets_rds {c : VC} {Z H : Hp} {σ : St} {ρ : Ev} {F : List Addr} (ok : Ok c Z H σ ρ F) : ∀ {hs : List PH} {vs : List V} {ts : List OT}, PHrs c Z H σ hs vs → gets hs ρ = some ts → Rds c Z H vs ts
  | _, _, _, .nil, e => by cases e; exact .nil
  | _, _, ts, .cons (h := h) (hs := hs) r rs, e => by
    unfold gets at e
    cases e1 : h.get ρ with
    | none => rw [e1] at e; cases e
    | some t =>
      cases e2 : gets hs ρ with
      | none => rw [e1, e2] at e; cases e
      | some ts' =>
        rw [e1, e2] at e
        cases e
        obtain ⟨Ft, w⟩ := r.read ok e1
        exact .cons w (gets_rds ok rs e2)
def Prim (c : VC) (r : List V → Hp → VK → Prop) (g : List OT → Option OT) : Prop :=
  ∀ Z H vs ts t Q, Same Z H → Rds c Z H vs ts → g ts = some t → NewR c Z H t Q → r vs H Q
def Prim2 (c : VC) (r : R2) (g : OT → OT → Option OT) : Prop :=
  ∀ Z H v1 v2 t1 t2 F1 F2 t Q, Same Z H → Own c Z H v1 t1 F1 → Own c Z H v2 t2 F2 → g t1 t2 = some t → NewR c Z H t Q → r v1 v2 H Q
def Prim1 (c : VC) (r : V → Hp → VK → Prop) (g : OT → Option OT) : Prop :=
  ∀ Z H v1 t1 F1 t Q, Same Z H → Own c Z H v1 t1 F1 → g t1 = some t → NewR c Z H t Q → r v1 H Q
def fOp2 (g : OT → OT → Option OT) (p2 : Bool) (f1 f2 : Ev → Res PH) : Ev → Res OT := fun ρ => (f1 ρ).bind fun h1 ρ1 => (f2 ρ1).bind fun h2 ρ2 =>
  match (h1.un p2).get ρ2, h2.get ρ2 with
  | some t1, some t2 => Res.of (g t1 t2) ρ2
  | _, _ => .bad
def fOp1 (g : OT → Option OT) (f1 : Ev → Res PH) : Ev → Res OT := fun ρ => (f1 ρ).bind fun h1 ρ1 =>
  match h1.get ρ1 with
  | some t1 => Res.of (g t1) ρ1
  | _ => .bad
def fOps (g : List OT → Option OT) (f : Ev → Res (List PH)) : Ev → Res OT := fun ρ => (f ρ).bind fun hs ρ1 =>
  match gets hs ρ1 with
  | some ts => Res.of (g ts) ρ1
  | none => .bad
theorem tOp2 {r : R2} {g : OT → OT → Option OT} (hg : Prim2 (cc X xa) r g) {f1 f2 : Ev → Res PH} {σ : St} {H : Hp} {Q : VK}
    (q : tV (cc X xa) E (p1 && p2) (fOp2 g p2 f1 f2) σ H Q) : tOp r (tP (cc X xa) E p1 f1) (tP (cc X xa) E p2 f2) σ H Q := by
  obtain ⟨Z, ρ, F, ok, q⟩ := q
  refine ⟨Z, ρ, F, ok, ?_⟩
  unfold fOp2 at q
  cases r1 : f1 ρ with
  | bad => rw [r1] at q; exact q
  | exc x ρ' => rw [r1] at q; exact q
  | ok h1 ρ1 =>
    rw [r1] at q
    intro v1 H1 Z1 F1 o1 w1 a1 k1
    refine ⟨Z1, ρ1, F1, o1, ?_⟩
    have q1 := rV.later (pu' := p2) q a1 fun z => by
      rw [Bool.and_eq_true] at z
      exact ⟨z.2, k1 z.1⟩
    rw [Res.bind_ok] at q1
    cases r2 : f2 ρ1 with
    | bad => rw [r2] at q1; exact q1
    | exc x ρ' => rw [r2] at q1; exact q1
    | ok h2 ρ2 =>
      rw [r2] at q1
      intro v2 H2 Z2 F2 o2 w2 a2 k2
      have q2 := rV.later (pu' := true) q1 a2 fun z => ⟨rfl, k2 z⟩
      rw [Res.bind_ok] at q2
      cases e1 : (h1.un p2).get ρ2 with
      | none => rw [e1] at q2; exact q2.elim
      | some t1 =>
        cases e2 : h2.get ρ2 with
        | none => rw [e1, e2] at q2; exact q2.elim
        | some t2 =>
          rw [e1, e2] at q2
          obtain ⟨G1, x1⟩ := (w1.stay a2.same p2 fun z => (k2 z).1).read o2 e1
          obtain ⟨G2, x2⟩ := w2.read o2 e2
          cases e3 : g t1 t2 with
          | none =>
            have q3 : rV (cc X xa) E true Z2 H2 σ ρ2 F2 (Res.of (g t1 t2) ρ2) Q := q2
            rw [e3] at q3; exact q3.elim
          | some t =>
            have q3 : rV (cc X xa) E true Z2 H2 σ ρ2 F2 (Res.of (g t1 t2) ρ2) Q := q2
            rw [e3] at q3
            exact hg Z2 H2 v1 v2 t1 t2 G1 G2 t Q o2.same x1 x2 e3 (o2.newR q3)
theorem ve_op {op : Operator} {r : R2} {g : OT → OT → Option OT} {f1 f2 : Ev → Res PH} {pos : Pos} (ho : OpR X (binaryOp op) r) (hg : Prim2 (cc X xa) r g) (h1 : VP X xa E p1 a f1) (h2 : VP X xa E p2 b f2) :
    VE X xa E (p1 && p2) (.BinOp a op b pos) (fOp2 g p2 f1 f2) := (pe_op ho h1 h2).imp fun σ H Q q => tOp2 hg q
theorem ve_cmp {op : CmpOp} {r : R2} {g : OT → OT → Option OT} {f1 f2 : Ev → Res PH} {pos : Pos} (ho : OpR X (compareOp op) r) (hg : Prim2 (cc X xa) r g) (h1 : VP X xa E p1 a f1) (h2 : VP X xa E p2 b f2)
    (hm : behindInMarks op b = false) : VE X xa E (p1 && p2) (.Compare a [op] [b] pos) (fOp2 g p2 f1 f2) := (pe_cmpR ho h1 h2 hm).imp fun σ H Q q => tOp2 hg q
theorem ve_ix {r : R2} {g : OT → OT → Option OT} {f1 f2 : Ev → Res PH} {pos : Pos} (ho : IxR X r) (hg : Prim2 (cc X xa) r g) (h1 : VP X xa E p1 a f1) (h2 : VP X xa E p2 b f2)
    (hs : PlainIx b) : VE X xa E (p1 && p2) (.Subscript a b pos) (fOp2 g p2 f1 f2) := (pe_ix ho h1 h2 hs).imp fun σ H Q q => tOp2 hg q
theorem ve_un {op : UnaryOp} {r : V → Hp → VK → Prop} {g : OT → Option OT} {f : Ev → Res PH} {pos : Pos} (ho : UnR X (unaryOp op) r) (hg : Prim1 (cc X xa) r g) (h : VP X xa E pu a f) :
    VE X xa E pu (.UnaryOp op a pos) (fOp1 g f) := (pe_un ho h).imp fun σ H Q ⟨Z, ρ, F, ok, q⟩ => by
  refine ⟨Z, ρ, F, ok, ?_⟩
  unfold fOp1 at q
  cases r1 : f ρ with
  | bad => rw [r1] at q; exact q
  | exc x ρ' => rw [r1] at q; exact q
  | ok h1 ρ1 =>
    rw [r1] at q
    intro v1 H1 Z1 F1 o1 w1 a1 k1
    have q1 := rV.later (pu' := true) q a1 fun z => ⟨rfl, k1 z⟩
    rw [Res.bind_ok] at q1
    cases e1 : h1.get ρ1 with
    | none => rw [e1] at q1; exact q1.elim
    | some t1 =>
      rw [e1] at q1
      obtain ⟨G1, x1⟩ := w1.read o1 e1
      cases e3 : g t1 with
      | none =>
        have q3 : rV (cc X xa) E true Z1 H1 σ ρ1 F1 (Res.of (g t1) ρ1) Q := q1
        rw [e3] at q3; exact q3.elim
      | some t =>
        have q3 : rV (cc X xa) E true Z1 H1 σ ρ1 F1 (Res.of (g t1) ρ1) Q := q1
        rw [e3] at q3
        exact hg Z1 H1 v1 t1 G1 t Q o1.same x1 e3 (o1.newR q3)
theorem tOps {r : List V → Hp → VK → Prop} {g : List OT → Option OT} (hg : Prim (cc X xa) r g) {f : Ev → Res (List PH)} {σ : St} {H : Hp} {Q : VK}
    (q : tV (cc X xa) E pu (fOps g f) σ H Q) : tCB r (tPs (cc X xa) E pu f) σ H Q := by
  obtain ⟨Z, ρ, F, ok, q⟩ := q
  refine ⟨Z, ρ, F, ok, ?_⟩
  unfold fOps at q
  cases r1 : f ρ with
  | bad => rw [r1] at q; exact q
  | exc x ρ' => rw [r1] at q; exact q
  | ok h1 ρ1 =>
    rw [r1] at q
    intro v1 H1 Z1 F1 o1 w1 a1 k1
    have q1 := rV.later (pu' := true) q a1 fun z => ⟨rfl, k1 z⟩
    rw [Res.bind_ok] at q1
    cases e1 : gets h1 ρ1 with
    | none => rw [e1] at q1; exact q1.elim
    | some ts =>
      rw [e1] at q1
      have x1 := gets_rds o1 w1 e1
      cases e3 : g ts with
      | none =>
        have q3 : rV (cc X xa) E true Z1 H1 σ ρ1 F1 (Res.of (g ts) ρ1) Q := q1
        rw [e3] at q3; exact q3.elim
      | some t =>
        have q3 : rV (cc X xa) E true Z1 H1 σ ρ1 F1 (Res.of (g ts) ρ1) Q := q1
        rw [e3] at q3
        exact hg Z1 H1 v1 ts t Q o1.same x1 e3 (o1.newR q3)
theorem ve_callB {id : String} {r : List V → Hp → VK → Prop} {g : List OT → Option OT} {f : Ev → Res (List PH)} {x : Str} {p pos : Pos} (hc : CallR X (.builtin id) r) (hg : Prim (cc X xa) r g) (hgl : Gl X x) (hm : X.mg x = none) (hv : bootBuiltins x = some (.builtin id))
    (ha : VPs X xa E pu (e :: es) f) (hn : x ≠ "__name__" := by decide) (hdb : (x == ("__debug__" : Str)) = false := by decide) (he : starEach (e :: es) X.env = (false, eval e X.env) :: starEach es X.env := by rfl) (hpl : (backTo pos (starEach es X.env)).any (·.1) = false := by rfl) :
    VE X xa E pu (.Call (.Name x p) (e :: es) [] pos) (fOps g f) := (pe_callB hc hgl hm hv ha hn hdb he hpl).imp fun σ H Q q => tOps hg q
theorem ve_callTy {T : String} {r : List V → Hp → VK → Prop} {g : List OT → Option OT} {f : Ev → Res (List PH)} {x : Str} {p pos : Pos} (hc : CallR X (.type T) r) (hg : Prim (cc X xa) r g) (hgl : Gl X x) (hm : X.mg x = none) (hv : bootBuiltins x = some (.type T))
    (ha : VPs X xa E pu (e :: es) f) (hn : x ≠ "__name__" := by decide) (hdb : (x == ("__debug__" : Str)) = false := by decide) (he : starEach (e :: es) X.env = (false, eval e X.env) :: starEach es X.env := by rfl) (hpl : (backTo pos (starEach es X.env)).any (·.1) = false := by rfl) :
    VE X xa E pu (.Call (.Name x p) (e :: es) [] pos) (fOps g f) := (pe_callTy hc hgl hm hv ha hn hdb he hpl).imp fun σ H Q q => tOps hg q
end
end VL

end

section
set_option Elab.async false
set_option linter.all false
set_option maxRecDepth 100000
set_option maxHeartbeats 1000000
namespace VL
open PySem PySem.Spec PyProof.Rows L2

section
variable {X : Cx} {xa : Str → Option Addr} {E : XS} {pu p1 p2 : Bool} {e a b : Expr} {es : List Expr} {pos : Pos}

/-! ### names, constants -/
/-- a name as a value: shared data is copied, what the slot owns is moved -/
def fVar (i : Nat) : Ev → Res OT := fun ρ => match ρ[i]? with
  | some (.sh d) => .ok (.sh d) ρ
  | some (.lst l) => .ok (.lst l) (ρ.set i .mv)
  | some (.dct l) => .ok (.dct l) (ρ.set i .mv)
  | _ => .bad
theorem Ok.moved {c : VC} {Z H : Hp} {σ : St} {ρ : Ev} {F : List Addr} {i : Nat} {t : OT} (ok : Ok c Z H σ ρ F) (h : ρ[i]? = some t) (n : t ≠ .mv) :
    ∃ v Ft G, σ[i]? = some (some v) ∧ Own c Z H v t Ft ∧ Ok c Z H σ (ρ.set i .mv) G ∧ (Ft ++ G).Nodup ∧ (∀ p ∈ Ft, Z p = none) ∧ F.Perm (Ft ++ G) := by
  obtain ⟨v, Ft, G, hv, w, k, p⟩ := ok.own.takeOut h n
  have nd := (p.nodup_iff).mp ok.nd
  exact ⟨v, Ft, G, hv, w, ⟨ok.same, k, (List.nodup_append.mp nd).2.1, fun q hq => ok.sep q (p.mem_iff.mpr (List.mem_append_right _ hq))⟩, nd, fun q hq => ok.sep q (p.mem_iff.mpr (List.mem_append_left _ hq)), p⟩
theorem After.perm {Z H : Hp} {F F' : List Addr} (p : F.Perm F') : After Z H F Z H F' := ⟨Same.refl _, fun _ _ h _ => h, fun q hq => .inl (p.mem_iff.mpr hq), fun _ h => .inl h⟩
theorem ve_name {i : Nat} {x : Str} {pos : Pos} (h : PE X (.Name x pos) (tVar i)) : VE X xa E false (.Name x pos) (fVar i) := h.imp fun σ H Q q => by
  obtain ⟨Z, ρ, F, ok, q⟩ := q
  unfold fVar at q
  have go : ∀ t, ρ[i]? = some t → t ≠ .mv → rV (cc X xa) E false Z H σ ρ F (.ok t (ρ.set i .mv)) Q → tVar i σ H Q := fun t h1 h2 q => by
    obtain ⟨v, Ft, G, hv, w, o, nd, sp, p⟩ := ok.moved h1 h2
    exact ⟨v, hv, q v H Z G Ft o w nd sp (After.perm p) fun z => nomatch z⟩
  split at q
  · rename_i d hd
    obtain ⟨v, Ft, G, hv, w, o, nd, sp, p⟩ := ok.moved hd (fun z => nomatch z)
    cases w with
    | sh r => exact ⟨v, hv, q v H Z F [] ok (.sh r) ok.nd (fun _ z => nomatch z) (After.refl _ _ _) fun z => nomatch z⟩
  · rename_i l hd
    exact go _ hd (fun z => nomatch z) q
  · rename_i l hd
    exact go _ hd (fun z => nomatch z) q
  · exact q.elim
def fC (d : D) : Ev → Res OT := fun ρ => .ok (.sh d) ρ
theorem tC_ok {c : VC} {v : V} {d : D} (hr : ∀ Z, Rp c Z v d) {σ : St} {H : Hp} {Q : VK} (q : tV c E true (fC d) σ H Q) : tC v σ H Q := by
  obtain ⟨Z, ρ, F, ok, q⟩ := q
  exact q v H Z F [] ok (.sh (hr Z)) ok.nd (fun _ z => nomatch z) (After.refl _ _ _) fun _ => ⟨Same.refl _, rfl⟩
theorem ve_int {i j pos} : VE X xa E true (.Constant (.int i) j pos) (fC (.int i)) := pe_int.imp fun _ _ _ q => tC_ok (fun _ => .int i) q
theorem ve_bl {b j pos} : VE X xa E true (.Constant (.bool b) j pos) (fC (.bool b)) := pe_bl.imp fun _ _ _ q => tC_ok (fun _ => .bl b) q
theorem ve_non {j pos} : VE X xa E true (.Constant .none j pos) (fC .none) := pe_non.imp fun _ _ _ q => tC_ok (fun _ => .non) q
theorem ve_str {x j pos} : VE X xa E true (.Constant (.str x) j pos) (fC (.str x)) := pe_str.imp fun _ _ _ q => tC_ok (fun _ => .str x) q
theorem ve_glob {x : Str} {v : V} {u : Value} {d : D} {pos : Pos} (hg : Gl X x) (hm : X.mg x = some u) (r : RelV v u) (hr : ∀ Z, Rp (cc X xa) Z v d) (hd : (x == ("__debug__" : Str)) = false := by decide) :
    VE X xa E true (.Name x pos) (fC d) := (pe_glob hg hm r hd).imp fun _ _ _ q => tC_ok hr q

/-! ### tests -/
def fB (f : Ev → Res OT) : Ev → Res Bool := fun ρ => (f ρ).bind fun t ρ' => match t with
  | .sh (.bool b) => .ok b ρ'
  | _ => .bad
theorem tB_of {c : VC} {f : Ev → Res OT} {σ : St} {H : Hp} {Q : Bool → Hp → Prop} (q : tT c E pu (fB f) σ H Q) : tV c E pu f σ H fun x H' => ∃ k, x = .bl k ∧ Q k H' := by
  obtain ⟨Z, ρ, F, ok, q⟩ := q
  refine ⟨Z, ρ, F, ok, ?_⟩
  unfold fB at q
  cases r : f ρ with
  | bad => rw [r] at q; exact q
  | exc x ρ' => rw [r] at q; exact q
  | ok t ρ' =>
    rw [r, Res.bind_ok] at q
    intro v H' Z' F' Ft o w n sp af hp
    split at q
    · cases w with
      | sh w =>
        cases w
        exact ⟨_, rfl, q H' Z' F' o af hp⟩
    · exact q.elim
theorem vt_cmp {op : CmpOp} {r : R2} {g : OT → OT → Option OT} {f1 f2 : Ev → Res PH} {pos : Pos} (ho : OpR X (compareOp op) r) (hg : Prim2 (cc X xa) r g) (h1 : VP X xa E p1 a f1) (h2 : VP X xa E p2 b f2)
    (hm : behindInMarks op b = false) : VT X xa E (p1 && p2) (.Compare a [op] [b] pos) (fB (fOp2 g p2 f1 f2)) := (pt_cmpR ho h1 h2 hm).imp fun σ H Q q => tOp2 hg (tB_of q)
theorem vt_val {f : Ev → Res OT} (h : VE X xa E pu e f) (he : ∀ whole, isTrue e X.env whole = (do let v ← whole; standAt e.pos; holding [v] (truthy v)) := by intro _; rfl) : VT X xa E pu e (fB f) := (pt_val h he).imp fun σ H Q q => tB_of q
def fNot (f : Ev → Res Bool) : Ev → Res Bool := fun ρ => (f ρ).bind fun b ρ' => .ok (!b) ρ'
theorem vt_not {f : Ev → Res Bool} (h : VT X xa E pu a f) : VT X xa E pu (.UnaryOp .Not a pos) (fNot f) := (pt_not h).imp fun σ H Q ⟨Z, ρ, F, ok, q⟩ => by
  refine ⟨Z, ρ, F, ok, ?_⟩
  unfold fNot at q
  cases r : f ρ with
  | bad => rw [r] at q; exact q
  | exc x ρ' => rw [r] at q; exact q
  | ok t ρ' => rw [r] at q; exact q
abbrev VW (X : Cx) (xa : Str → Option Addr) (E : XS) (pu : Bool) (e : Expr) (f : Ev → Res Bool) : Prop := PW X e (tT (cc X xa) E pu f)
theorem vw_and1 {f : Ev → Res Bool} (h : VT X xa E pu a f) : VW X xa E pu (.BoolOp .And [a] pos) f := pw_and1 h
theorem vw_or1 {f : Ev → Res Bool} (h : VT X xa E pu a f) : VW X xa E pu (.BoolOp .Or [a] pos) f := pw_or1 h
def fAnd (f g : Ev → Res Bool) : Ev → Res Bool := fun ρ => (f ρ).bind fun b ρ' => if b = true then g ρ' else .ok false ρ'
def fOr (f g : Ev → Res Bool) : Ev → Res Bool := fun ρ => (f ρ).bind fun b ρ' => if b = true then .ok true ρ' else g ρ'
theorem vw_and {f g : Ev → Res Bool} (h1 : VT X xa E p1 a f) (h2 : VW X xa E p2 (.BoolOp .And (b :: es) pos) g) : VW X xa E (p1 && p2) (.BoolOp .And (a :: b :: es) pos) (fAnd f g) := (pw_and h1 h2).imp fun σ H Q ⟨Z, ρ, F, ok, q⟩ => by
  refine ⟨Z, ρ, F, ok, ?_⟩
  unfold fAnd at q
  cases r : f ρ with
  | bad => rw [r] at q; exact q
  | exc x ρ' => rw [r] at q; exact q
  | ok t ρ' =>
    rw [r] at q
    intro H' Z' F' o af hp
    cases t with
    | true =>
      rw [if_pos rfl]
      refine ⟨Z', ρ', F', o, rT.later q af fun z => ?_⟩
      rw [Bool.and_eq_true] at z
      exact ⟨z.2, hp z.1⟩
    | false =>
      rw [if_neg Bool.false_ne_true]
      exact q H' Z' F' o af fun z => by
        rw [Bool.and_eq_true] at z
        exact hp z.1
theorem vw_or {f g : Ev → Res Bool} (h1 : VT X xa E p1 a f) (h2 : VW X xa E p2 (.BoolOp .Or (b :: es) pos) g) : VW X xa E (p1 && p2) (.BoolOp .Or (a :: b :: es) pos) (fOr f g) := (pw_or h1 h2).imp fun σ H Q ⟨Z, ρ, F, ok, q⟩ => by
  refine ⟨Z, ρ, F, ok, ?_⟩
  unfold fOr at q
  cases r : f ρ with
  | bad => rw [r] at q; exact q
  | exc x ρ' => rw [r] at q; exact q
  | ok t ρ' =>
    rw [r] at q
    intro H' Z' F' o af hp
    cases t with
    | false =>
      rw [if_neg Bool.false_ne_true]
      refine ⟨Z', ρ', F', o, rT.later q af fun z => ?_⟩
      rw [Bool.and_eq_true] at z
      exact ⟨z.2, hp z.1⟩
    | true =>
      rw [if_pos rfl]
      exact q H' Z' F' o af fun z => by
        rw [Bool.and_eq_true] at z
        exact hp z.1
theorem vt_w {f : Ev → Res Bool} (h : VW X xa E pu e f) : VT X xa E pu e f := PW.pt h
/-- .. as values -/
def fAndV (f g : Ev → Res OT) : Ev → Res OT := fun ρ => (fB f ρ).bind fun b ρ' => if b = true then g ρ' else .ok (.sh (.bool false)) ρ'
def fOrV (f g : Ev → Res OT) : Ev → Res OT := fun ρ => (fB f ρ).bind fun b ρ' => if b = true then .ok (.sh (.bool true)) ρ' else g ρ'
def fNotV (f : Ev → Res OT) : Ev → Res OT := fun ρ => (fB f ρ).bind fun b ρ' => .ok (.sh (.bool (!b))) ρ'
theorem ve_one {op} {f : Ev → Res OT} (h : VE X xa E pu a f) : VE X xa E pu (.BoolOp op [a] pos) f := pe_one h
/-- a bool behind an expression -/
theorem tV_bool {c : VC} {f : Ev → Res OT} {k : Bool → Ev → Res OT} {σ : St} {H : Hp} {Q R : VK} (q : tV c E pu' (fun ρ => (fB f ρ).bind k) σ H Q)
    (hk : ∀ b ρ1 H1 Z1 F1, Ok c Z1 H1 σ ρ1 F1 → rV c E (pu' && pu) Z1 H1 σ ρ1 F1 (k b ρ1) Q → R (.bl b) H1) (hp : pu' = true → pu = true) : tV c E pu f σ H R := by
  obtain ⟨Z, ρ, F, ok, q⟩ := q
  refine ⟨Z, ρ, F, ok, ?_⟩
  unfold fB at q
  dsimp only at q
  cases r : f ρ with
  | bad => rw [r] at q; exact q
  | exc x ρ' => rw [r] at q; exact q
  | ok t ρ' =>
    rw [r, Res.bind_ok] at q
    intro v H' Z' F' Ft o w n sp af h
    split at q
    · cases w with
      | sh w =>
        cases w
        refine hk _ ρ' H' Z' F' o (rV.later q af fun z => ?_)
        have z' := hp z
        exact ⟨by rw [z, z']; rfl, h z'⟩
    · exact q.elim
theorem ve_and {f g : Ev → Res OT} (h1 : VE X xa E p1 a f) (h2 : VE X xa E p2 (.BoolOp .And (b :: es) pos) g) : VE X xa E (p1 && p2) (.BoolOp .And (a :: b :: es) pos) (fAndV f g) := (pe_and h1 h2).imp fun σ H Q q =>
  tV_bool (pu' := p1 && p2) (k := fun b ρ' => if b = true then g ρ' else .ok (.sh (.bool false)) ρ') q (fun b ρ1 H1 Z1 F1 o q => ⟨b, rfl, by
    cases b with
    | true =>
      rw [if_pos rfl]
      refine ⟨Z1, ρ1, F1, o, ?_⟩
      exact rV.later q (After.refl _ _ _) fun z => ⟨by cases p1 <;> cases p2 <;> simp_all, Same.refl _, rfl⟩
    | false =>
      rw [if_neg Bool.false_ne_true]
      exact q _ H1 Z1 F1 [] o (.sh (.bl false)) o.nd (fun _ z => nomatch z) (After.refl _ _ _) fun _ => ⟨Same.refl _, rfl⟩⟩) (fun z => (Bool.and_eq_true_iff.mp z).1)
theorem ve_or {f g : Ev → Res OT} (h1 : VE X xa E p1 a f) (h2 : VE X xa E p2 (.BoolOp .Or (b :: es) pos) g) : VE X xa E (p1 && p2) (.BoolOp .Or (a :: b :: es) pos) (fOrV f g) := (pe_or h1 h2).imp fun σ H Q q =>
  tV_bool (pu' := p1 && p2) (k := fun b ρ' => if b = true then .ok (.sh (.bool true)) ρ' else g ρ') q (fun b ρ1 H1 Z1 F1 o q => ⟨b, rfl, by
    cases b with
    | false =>
      rw [if_neg Bool.false_ne_true]
      refine ⟨Z1, ρ1, F1, o, ?_⟩
      exact rV.later q (After.refl _ _ _) fun z => ⟨by cases p1 <;> cases p2 <;> simp_all, Same.refl _, rfl⟩
    | true =>
      rw [if_pos rfl]
      exact q _ H1 Z1 F1 [] o (.sh (.bl true)) o.nd (fun _ z => nomatch z) (After.refl _ _ _) fun _ => ⟨Same.refl _, rfl⟩⟩) (fun z => (Bool.and_eq_true_iff.mp z).1)
theorem ve_not {f : Ev → Res OT} (h : VE X xa E pu a f) : VE X xa E pu (.UnaryOp .Not a pos) (fNotV f) := (pe_not h).imp fun σ H Q q =>
  tV_bool (pu' := pu) (k := fun b ρ' => .ok (.sh (.bool (!b))) ρ') q (fun b ρ1 H1 Z1 F1 o q => ⟨b, rfl, q _ H1 Z1 F1 [] o (.sh (.bl (!b))) o.nd (fun _ z => nomatch z) (After.refl _ _ _) fun _ => ⟨Same.refl _, rfl⟩⟩) id
def fIf {α : Type} (t : Ev → Res Bool) (f g : Ev → Res α) : Ev → Res α := fun ρ => (t ρ).bind fun b ρ' => if b = true then f ρ' else g ρ'
theorem ve_ifExp {c : Expr} {t : Ev → Res Bool} {f g : Ev → Res OT} {p0 : Bool} (h0 : VT X xa E p0 c t) (h1 : VE X xa E p1 a f) (h2 : VE X xa E p2 b g) : VE X xa E false (.IfExp c a b pos) (fIf t f g) := (pe_ifExp h0 h1 h2).imp fun σ H Q ⟨Z, ρ, F, ok, q⟩ => by
  refine ⟨Z, ρ, F, ok, ?_⟩
  unfold fIf at q
  cases r : t ρ with
  | bad => rw [r] at q; exact q
  | exc x ρ' => rw [r] at q; exact q
  | ok d ρ' =>
    rw [r] at q
    intro H' Z' F' o af hp
    cases d with
    | true =>
      rw [if_pos rfl]
      exact ⟨Z', ρ', F', o, rV.later q af fun z => nomatch z⟩
    | false =>
      rw [if_neg Bool.false_ne_true]
      exact ⟨Z', ρ', F', o, rV.later q af fun z => nomatch z⟩

/-! ### tuples, lists written -/
def gTupN : List OT → Option OT := fun ts => match shs ts with
  | some ds => if ds.length ≤ 1000000 then some (.sh (.tuple ds)) else none
  | none => none
def gLstN : List OT → Option OT := fun ts => match shs ts with
  | some ds => if ds.length ≤ 1000000 then some (.lst (ds.map .sh)) else none
  | none => none
theorem Rds.shs {c : VC} {Z H : Hp} {vs : List V} {ds : List D} (r : Rds c Z H vs (ds.map .sh)) : RpL c Z vs ds := by
  induction ds generalizing vs with
  | nil => cases r; exact .nil
  | cons d ds ih =>
    cases r with
    | cons w r =>
      cases w with
      | sh w => exact .cons w (ih r)
theorem million_line {n : Nat} (h : n ≤ 1000000) : n ≤ sizeLine := by rw [sizeLine_eq]; omega
theorem pe_tupF {X : Cx} {es : List Expr} {t : TA} {x1 : Nat} {pos : Pos} (h : PA X es t) : PE X (.Tuple es x1 pos) fun σ H Q => t σ H fun xs H1 => xs.length ≤ sizeLine ∧ ∀ p o, H1 p = none → o.dict = none → Q (.ref p) (upd H1 p (.frz o (.tup xs))) :=
  ⟨fun pins s σ H Q I hq => wpAny_Tuple_spliced <| thn (h.run pos pins s σ H _ I hq) fun us z ⟨xs, G, J, rv, hl, q⟩ => by
    refine ⟨rv.length ▸ hl, .ref z.heap.objs.size, upd G z.heap.objs.size (.frz { cls := .type "tuple", data := .seq us.toArray } (.tup xs)), ?_, rfl, q _ _ (J.hok.fresh (Nat.le_refl _)) rfl⟩
    have new : (z.heap.push { cls := .type "tuple", data := .seq us.toArray }).get? z.heap.objs.size = some { cls := .type "tuple", data := .seq us.toArray } := Heap.get?_push_size _ rfl
    exact J.laid (t' := z.toks) (fun b u e => Heap.get?_push_of_some _ e) (Nat.le_refl _) ⟨new, hl, us, rv, _, new, rfl, _, rfl⟩⟩
theorem prim_tup {c : VC} : Prim c (fun xs H Q => xs.length ≤ sizeLine ∧ ∀ p o, H p = none → o.dict = none → Q (.ref p) (upd H p (.frz o (.tup xs)))) gTupN := by
  intro Z H vs ts t Q s r e n
  unfold gTupN at e
  split at e
  · rename_i ds hd
    split at e
    · rename_i hl
      cases e
      have e1 := shs_eq hd
      subst e1
      have r' := r.shs
      refine ⟨by rw [r'.length]; exact million_line hl, fun p o hp hd => n.shNew s hp ?_⟩
      exact .tupF upd_same hd (r'.mono (same_upd (s.free hp)))
    · cases e
  · cases e
theorem prim_lst {c : VC} : Prim c (fun xs H Q => xs.length ≤ sizeLine ∧ ∀ p, H p = none → Q (.ref p) (upd H p (.lst xs))) gLstN := by
  intro Z H vs ts t Q s r e n
  unfold gLstN at e
  split at e
  · rename_i ds hd
    split at e
    · rename_i hl
      cases e
      have e1 := shs_eq hd
      subst e1
      have r' := r.shs
      exact ⟨by rw [r'.length]; exact million_line hl, fun p hp => n.lstNew s hp r'⟩
    · cases e
  · cases e
theorem ve_tup {x1} {f : Ev → Res (List PH)} (h : VPs X xa E pu es f) : VE X xa E pu (.Tuple es x1 pos) (fOps gTupN f) := (pe_tupF h).imp fun σ H Q q => tOps prim_tup q
theorem ve_lst {f : Ev → Res (List PH)} (h : VPs X xa E pu es f) : VE X xa E pu (.List es pos) (fOps gLstN f) := (pe_lst h).imp fun σ H Q q => tOps prim_lst q

/-! ### arguments: values, or slots that are lent -/
abbrev Arg := OT × Option Nat
inductive Owners (σ : St) : List Arg → List V → Prop
  | nil : Owners σ [] []
  | cons {a : Arg} {v : V} {as : List Arg} {vs : List V} : (∀ i, a.2 = some i → σ[i]? = some (some v)) → Owners σ as vs → Owners σ (a :: as) (v :: vs)
def rA (c : VC) (E : XS) (Z H : Hp) (σ : St) (F : List Addr) (r : Res (List Arg)) (Q : List V → Hp → Prop) : Prop :=
  match r with
  | .bad => False
  | .ok as ρ' => ∀ vs H' Z' F' Fs, Ok c Z' H' σ ρ' F' → OwnL c Z' H' vs (as.map (·.1)) Fs → (Fs ++ F').Nodup → (∀ p ∈ Fs, Z' p = none) → Owners σ as vs → After Z H F Z' H' (Fs ++ F') → Q vs H'
  | .exc x ρ' => ∀ cls d H' Z' F', Ok c Z' H' σ ρ' F' → ExR c Z' H' x cls d → After Z H F Z' H' F' → E σ cls d H'
def tA (c : VC) (E : XS) (f : Ev → Res (List Arg)) : TA := fun σ H Q => ∃ Z ρ F, Ok c Z H σ ρ F ∧ rA c E Z H σ F (f ρ) Q
abbrev VA (X : Cx) (xa : Str → Option Addr) (E : XS) (es : List Expr) (f : Ev → Res (List Arg)) : Prop := PA X es (tA (cc X xa) E f)
theorem rA.later {c : VC} {Z H Z1 H1 : Hp} {σ : St} {F F1 : List Addr} {r : Res (List Arg)} {Q : List V → Hp → Prop} (h : rA c E Z H σ F r Q) (a : After Z H F Z1 H1 F1) : rA c E Z1 H1 σ F1 r Q := by
  cases r with
  | bad => exact h
  | ok t ρ' => exact fun vs H' Z' F' Fs o w n sp ow b => h vs H' Z' F' Fs o w n sp ow (a.trans b)
  | exc x ρ' => exact fun cls d H' Z' F' o x b => h cls d H' Z' F' o x (a.trans b)
def fANil : Ev → Res (List Arg) := fun ρ => .ok [] ρ
theorem va_nil : VA X xa E [] fANil := PA.imp pa_nil fun σ H Q ⟨Z, ρ, F, ok, q⟩ => q [] H Z F [] ok .nil ok.nd (fun _ z => nomatch z) .nil (After.refl _ _ _)
/-- one argument: a tree with an owner or none -/
def rA1 (c : VC) (E : XS) (Z H : Hp) (σ : St) (F : List Addr) (r : Res Arg) (Q : VK) : Prop :=
  match r with
  | .bad => False
  | .ok a ρ' => ∀ v H' Z' F' Ft, Ok c Z' H' σ ρ' F' → Own c Z' H' v a.1 Ft → (Ft ++ F').Nodup → (∀ p ∈ Ft, Z' p = none) → (∀ i, a.2 = some i → σ[i]? = some (some v)) → After Z H F Z' H' (Ft ++ F') → Q v H'
  | .exc x ρ' => ∀ cls d H' Z' F', Ok c Z' H' σ ρ' F' → ExR c Z' H' x cls d → After Z H F Z' H' F' → E σ cls d H'
def tA1 (c : VC) (E : XS) (f : Ev → Res Arg) : TE := fun σ H Q => ∃ Z ρ F, Ok c Z H σ ρ F ∧ rA1 c E Z H σ F (f ρ) Q
abbrev VA1 (X : Cx) (xa : Str → Option Addr) (E : XS) (e : Expr) (f : Ev → Res Arg) : Prop := PE X e (tA1 (cc X xa) E f)
def fArgE (f : Ev → Res OT) : Ev → Res Arg := fun ρ => (f ρ).bind fun t ρ' => .ok (t, none) ρ'
theorem va_of {f : Ev → Res OT} (h : VE X xa E pu e f) : VA1 X xa E e (fArgE f) := h.imp fun σ H Q ⟨Z, ρ, F, ok, q⟩ => by
  refine ⟨Z, ρ, F, ok, ?_⟩
  unfold fArgE at q
  cases r : f ρ with
  | bad => rw [r] at q; exact q
  | exc x ρ' => rw [r] at q; exact q
  | ok t ρ' =>
    rw [r] at q
    exact fun v H' Z' F' Ft o w n sp af _ => q v H' Z' F' Ft o w n sp (fun i z => nomatch z) af
def fArgV (i : Nat) : Ev → Res Arg := fun ρ => match ρ[i]? with
  | some (.sh d) => .ok (.sh d, none) ρ
  | some (.lst l) => .ok (.lst l, some i) (ρ.set i .mv)
  | some (.dct l) => .ok (.dct l, some i) (ρ.set i .mv)
  | _ => .bad
theorem va_name {i : Nat} {x : Str} {pos : Pos} (h : PE X (.Name x pos) (tVar i)) : VA1 X xa E (.Name x pos) (fArgV i) := h.imp fun σ H Q q => by
  obtain ⟨Z, ρ, F, ok, q⟩ := q
  unfold fArgV at q
  have go : ∀ t, ρ[i]? = some t → t ≠ .mv → rA1 (cc X xa) E Z H σ F (.ok (t, some i) (ρ.set i .mv)) Q → tVar i σ H Q := fun t h1 h2 q => by
    obtain ⟨v, Ft, G, hv, w, o, nd, sp, p⟩ := ok.moved h1 h2
    exact ⟨v, hv, q v H Z G Ft o w nd sp (fun j z => by cases z; exact hv) (After.perm p)⟩
  split at q
  · rename_i d hd
    obtain ⟨v, Ft, G, hv, w, o, nd, sp, p⟩ := ok.moved hd (fun z => nomatch z)
    cases w with
    | sh r => exact ⟨v, hv, q v H Z F [] ok (.sh r) ok.nd (fun _ z => nomatch z) (fun _ z => nomatch z) (After.refl _ _ _)⟩
  · rename_i l hd
    exact go _ hd (fun z => nomatch z) q
  · rename_i l hd
    exact go _ hd (fun z => nomatch z) q
  · exact q.elim
def fACons (f : Ev → Res Arg) (g : Ev → Res (List Arg)) : Ev → Res (List Arg) := fun ρ => (f ρ).bind fun a ρ1 => (g ρ1).bind fun as ρ2 => .ok (a :: as) ρ2
theorem va_cons {f : Ev → Res Arg} {g : Ev → Res (List Arg)} (h1 : VA1 X xa E e f) (h2 : VA X xa E es g) (hs : starEach (e :: es) X.env = (false, eval e X.env) :: starEach es X.env := by rfl) :
    VA X xa E (e :: es) (fACons f g) := (pa_cons h1 h2 hs).imp fun σ H Q ⟨Z, ρ, F, ok, q⟩ => by
  refine ⟨Z, ρ, F, ok, ?_⟩
  unfold fACons at q
  cases r : f ρ with
  | bad => rw [r] at q; exact q
  | exc x ρ' => rw [r] at q; exact q
  | ok a ρ1 =>
    rw [r] at q
    intro v H1 Z1 F1 Ft o1 w1 n1 sp1 ow1 a1
    obtain ⟨m1, m2, m3⟩ := List.nodup_append.mp n1
    refine ⟨Z1, ρ1, F1, o1, ?_⟩
    rw [Res.bind_ok] at q
    cases r2 : g ρ1 with
    | bad => rw [r2] at q; exact q
    | exc x ρ' =>
      rw [r2] at q
      exact fun cls d H' Z' F' o xr a2 => q cls d H' Z' F' o xr (a1.trans (a2.widen (fun p hp => List.mem_append_right _ hp) fun p hp => .inr hp))
    | ok as ρ2 =>
      rw [r2] at q
      intro vs H2 Z2 F2 Fs o2 w2 n2 sp2 ow2 a2
      have apart : ∀ p ∈ Ft, p ∉ F1 := fun p hp hq => m3 p hp p hq rfl
      obtain ⟨s1, s2⟩ := a2.sepF w1.there apart sp1
      refine q (v :: vs) H2 Z2 F2 (Ft ++ Fs) o2 (.cons (a2.frame w1 apart) w2) ?_ (fun p hp => (List.mem_append.mp hp).elim (s1 p) (sp2 p)) (.cons ow1 ow2) ?_
      · rw [List.append_assoc]
        exact List.nodup_append.mpr ⟨m1, n2, fun p hp r hr e => s2 p hp (e ▸ hr)⟩
      · refine a1.trans (a2.widen (fun p hp => List.mem_append_right _ hp) fun p hp => ?_)
        rw [List.append_assoc] at hp
        exact (List.mem_append.mp hp).imp (fun z => List.mem_append_left _ z) id
/-- a list written of trees that are moved in -/
def fLstO (f : Ev → Res (List Arg)) : Ev → Res OT := fun ρ => (f ρ).bind fun as ρ' => if as.length ≤ 1000000 then .ok (.lst (as.map (·.1))) ρ' else .bad
theorem ve_lstO {f : Ev → Res (List Arg)} (h : VA X xa E es f) : VE X xa E false (.List es pos) (fLstO f) := (pe_lst h).imp fun σ H Q ⟨Z, ρ, F, ok, q⟩ => by
  refine ⟨Z, ρ, F, ok, ?_⟩
  unfold fLstO at q
  cases r : f ρ with
  | bad => rw [r] at q; exact q
  | exc x ρ' => rw [r] at q; exact q
  | ok as ρ1 =>
    rw [r, Res.bind_ok] at q
    intro vs H1 Z1 F1 Fs o1 w1 n1 sp1 ow1 a1
    split at q
    · rename_i hl
      have el : vs.length = as.length := by rw [w1.length, List.length_map]
      refine ⟨by rw [el]; exact million_line hl, fun p hp => ?_⟩
      have np : ∀ q' o, H1 q' = some o → q' ≠ p := fun q' o e z => by rw [z, hp] at e; cases e
      have kp : ∀ b o, H1 b = some o → upd H1 p (.lst vs) b = some o := same_upd hp
      obtain ⟨m1, m2, m3⟩ := List.nodup_append.mp n1
      have pF : p ∉ Fs ++ F1 := fun z => by
        rcases List.mem_append.mp z with z | z
        · obtain ⟨o, ho⟩ := w1.there p z
          rw [hp] at ho; cases ho
        · obtain ⟨o, ho⟩ := o1.own.there p z
          rw [hp] at ho; cases ho
      refine q (.ref p) _ Z1 F1 (p :: Fs) ⟨o1.same.trans (same_upd hp), o1.own.frame (Same.refl _) fun b _ o e => kp b o e, o1.nd, o1.sep⟩ (.lst upd_same (w1.frame (Same.refl _) fun b _ o e => kp b o e)) (List.nodup_cons.mpr ⟨pF, n1⟩) (fun b hb => ?_) (a1.trans ⟨Same.refl _, fun b o e _ => kp b o e, fun b hb => ?_, fun b hb => .inl hb⟩) fun z => nomatch z
      · rcases List.mem_cons.mp hb with z | z
        · rw [z]; exact o1.same.free hp
        · exact sp1 b z
      · rcases List.mem_cons.mp (show b ∈ p :: (Fs ++ F1) from hb) with z | z
        · rw [z]; exact .inr hp
        · exact .inl z
    · exact q.elim

/-! ### defs -/
inductive FRes where
  | bad
  | ok (t : OT) (as : List OT)
  | exc (x : Exn) (as : List OT)
def rF (c : VC) (Z H : Hp) (vs : List V) (Fa : List Addr) (r : FRes) (Q : VK) (E : XK) : Prop :=
  match r with
  | .bad => False
  | .ok t as' => ∀ v H' Z' Fa' Ft, Ok c Z' H' (vs.map some) as' Fa' → Own c Z' H' v t Ft → (Ft ++ Fa').Nodup → (∀ p ∈ Ft, Z' p = none) → After Z H Fa Z' H' (Ft ++ Fa') → Q v H'
  | .exc x as' => ∀ cls d H' Z' Fa', Ok c Z' H' (vs.map some) as' Fa' → ExR c Z' H' x cls d → After Z H Fa Z' H' Fa' → E cls d H'
/-- the promise of a def that means F -/
def spF (c : VC) (n : Nat) (F : List OT → FRes) : Sp := fun vs H Q E => vs.length = n ∧ ∃ Z as Fa, Same Z H ∧ OwnL c Z H vs as Fa ∧ Fa.Nodup ∧ (∀ p ∈ Fa, Z p = none) ∧ rF c Z H vs Fa (F as) Q E
def back : List Arg → List OT → Ev → Ev
  | a :: r, t :: ts, ρ => match a.2 with
    | some i => back r ts (ρ.set i t)
    | none => back r ts ρ
  | _, _, ρ => ρ
@[simp] theorem back_nil (ts : List OT) (ρ : Ev) : back [] ts ρ = ρ := by cases ts <;> rfl
@[simp] theorem back_none (t0 t : OT) (r : List Arg) (ts : List OT) (ρ : Ev) : back ((t0, none) :: r) (t :: ts) ρ = back r ts ρ := rfl
@[simp] theorem back_some (t0 t : OT) (i : Nat) (r : List Arg) (ts : List OT) (ρ : Ev) : back ((t0, some i) :: r) (t :: ts) ρ = back r ts (ρ.set i t) := rfl
theorem back_own {c : VC} {Z H : Hp} {σ : St} : ∀ {as : List Arg} {vs : List V} {ts : List OT} {ρ : Ev} {F G : List Addr}, Owners σ as vs → OwnS c Z H (vs.map some) ts G → OwnS c Z H σ ρ F → (G ++ F).Nodup →
    ∃ F', OwnS c Z H σ (back as ts ρ) F' ∧ F'.Nodup ∧ ∀ p ∈ F', p ∈ G ∨ p ∈ F
  | _, _, ts, ρ, F, G, .nil, h, k, n => by
    rw [back_nil]
    exact ⟨F, k, (List.nodup_append.mp n).2.1, fun p hp => .inr hp⟩
  | _, _, _, ρ, F, _, .cons (a := a) ho rs, .mv (G := G) h, k, n => by
    obtain ⟨t0, o⟩ := a
    cases o with
    | none =>
      rw [back_none]
      exact back_own rs h k n
    | some i =>
      rw [back_some]
      obtain ⟨Fx, G1, k1, p1⟩ := k.drop i
      have n1 : (G ++ G1).Nodup := by
        obtain ⟨m1, m2, m3⟩ := List.nodup_append.mp n
        have m4 := (p1.nodup_iff).mp m2
        exact List.nodup_append.mpr ⟨m1, (List.nodup_append.mp m4).2.1, fun p hp q hq e => m3 p hp q (p1.mem_iff.mpr (List.mem_append_right _ hq)) e⟩
      obtain ⟨F', a1, a2, a3⟩ := back_own rs h k1 n1
      exact ⟨F', a1, a2, fun p hp => (a3 p hp).imp id fun z => p1.mem_iff.mpr (List.mem_append_right _ z)⟩
  | _, _, _, ρ, F, _, .cons (a := a) (v := v) ho rs, .cons (t := t) (F := F1) (G := G) w h, k, n => by
    obtain ⟨t0, o⟩ := a
    obtain ⟨m1, m2, m3⟩ := List.nodup_append.mp n
    obtain ⟨m4, m5, m6⟩ := List.nodup_append.mp m1
    cases o with
    | none =>
      rw [back_none]
      obtain ⟨F', a1, a2, a3⟩ := back_own rs h k (List.nodup_append.mpr ⟨m5, m2, fun p hp q hq e => m3 p (List.mem_append_right _ hp) q hq e⟩)
      exact ⟨F', a1, a2, fun p hp => (a3 p hp).imp (fun z => List.mem_append_right _ z) id⟩
    | some i =>
      rw [back_some]
      obtain ⟨Fx, G1, k1, p1⟩ := k.drop i
      have hv := ho i rfl
      have hi : i < ρ.length := by
        rw [← k.length]
        exact (List.getElem?_eq_some_iff.mp hv).1
      have hm : (ρ.set i .mv)[i]? = some .mv := by rw [List.getElem?_set_self hi]
      obtain ⟨F2, k2, p2⟩ := k1.putBack hm hv w
      rw [List.set_set] at k2
      have sub : ∀ q ∈ G1, q ∈ F := fun q hq => p1.mem_iff.mpr (List.mem_append_right _ hq)
      have n2 : (G ++ F2).Nodup := by
        have m7 := (p1.nodup_iff).mp m2
        have nF2 : F2.Nodup := (p2.nodup_iff).mpr (List.nodup_append.mpr ⟨m4, (List.nodup_append.mp m7).2.1, fun p hp q hq e => m3 p (List.mem_append_left _ hp) q (sub q hq) e⟩)
        refine List.nodup_append.mpr ⟨m5, nF2, fun p hp q hq e => ?_⟩
        subst e
        rcases List.mem_append.mp (p2.mem_iff.mp hq) with z | z
        · exact m6 p z p hp rfl
        · exact m3 p (List.mem_append_right _ hp) p (sub p z) rfl
      obtain ⟨F', a1, a2, a3⟩ := back_own rs h k2 n2
      refine ⟨F', a1, a2, fun p hp => ?_⟩
      rcases a3 p hp with z | z
      · exact .inl (List.mem_append_right _ z)
      · rcases List.mem_append.mp (p2.mem_iff.mp z) with z | z
        · exact .inl (List.mem_append_left _ z)
        · exact .inr (sub p z)
def fCall (F : List OT → FRes) (f : Ev → Res (List Arg)) : Ev → Res OT := fun ρ => (f ρ).bind fun as ρ1 =>
  match F (as.map (·.1)) with
  | .bad => .bad
  | .ok t ts => .ok t (back as ts ρ1)
  | .exc x ts => .exc x (back as ts ρ1)
theorem tCall_ok {n : Nat} {F : List OT → FRes} {f : Ev → Res (List Arg)} {σ : St} {H : Hp} {Q : VK} {c : VC} (hl : ∀ as, F as ≠ .bad → as.length = n)
    (q : tV c E false (fCall F f) σ H Q) : tA c E f σ H fun vs H1 => spF c n F vs H1 Q (E σ) := by
  obtain ⟨Z, ρ, F0, ok, q⟩ := q
  refine ⟨Z, ρ, F0, ok, ?_⟩
  unfold fCall at q
  cases r : f ρ with
  | bad => rw [r] at q; exact q
  | exc x ρ' => rw [r] at q; exact q
  | ok as ρ1 =>
    rw [r, Res.bind_ok] at q
    intro vs H1 Z1 F1 Fs o1 w1 n1 sp1 ow1 a1
    obtain ⟨m1, m2, m3⟩ := List.nodup_append.mp n1
    have hne : F (as.map (·.1)) ≠ .bad := fun z => by rw [z] at q; exact q
    refine ⟨by rw [w1.length]; exact hl _ hne, Z1, as.map (·.1), Fs, o1.same, w1, m1, sp1, ?_⟩
    have apart : ∀ p ∈ F1, p ∉ Fs := fun p hp hq => m3 p hq p hp rfl
    cases r2 : F (as.map (·.1)) with
    | bad => exact absurd r2 hne
    | ok t ts =>
      rw [r2] at q
      intro v H2 Z2 Fa Ft o2 w2 n2 sp2 a2
      obtain ⟨s1, s2⟩ := a2.sepF o1.own.there apart o1.sep
      obtain ⟨k1, k2, k3⟩ := List.nodup_append.mp n2
      have nGF : (Fa ++ F1).Nodup := List.nodup_append.mpr ⟨k2, m2, fun p hp r hr e => s2 r hr (List.mem_append_right _ (e ▸ hp))⟩
      obtain ⟨F', b1, b2, b3⟩ := back_own ow1 o2.own (a2.frameS o1.own apart) nGF
      refine q v H2 Z2 F' Ft ⟨o2.same, b1, b2, fun p hp => (b3 p hp).elim (o2.sep p) (s1 p)⟩ w2 ?_ sp2 (a1.trans (a2.widen (fun p hp => List.mem_append_left _ hp) fun p hp => ?_)) fun z => nomatch z
      · refine List.nodup_append.mpr ⟨k1, b2, fun p hp r hr e => ?_⟩
        subst e
        rcases b3 p hr with z | z
        · exact k3 p hp p z rfl
        · exact s2 p z (List.mem_append_left _ hp)
      · rcases List.mem_append.mp hp with z | z
        · exact .inr (List.mem_append_left _ z)
        · rcases b3 p z with y | y
          · exact .inr (List.mem_append_right _ y)
          · exact .inl (List.mem_append_right _ y)
    | exc x ts =>
      rw [r2] at q
      intro cls d H2 Z2 Fa o2 xr a2
      obtain ⟨s1, s2⟩ := a2.sepF o1.own.there apart o1.sep
      have nGF : (Fa ++ F1).Nodup := List.nodup_append.mpr ⟨o2.nd, m2, fun p hp r hr e => s2 r hr (e ▸ hp)⟩
      obtain ⟨F', b1, b2, b3⟩ := back_own ow1 o2.own (a2.frameS o1.own apart) nGF
      refine q cls d H2 Z2 F' ⟨o2.same, b1, b2, fun p hp => (b3 p hp).elim (o2.sep p) (s1 p)⟩ xr (a1.trans (a2.widen (fun p hp => List.mem_append_left _ hp) fun p hp => ?_))
      rcases b3 p hp with y | y
      · exact .inr y
      · exact .inl (List.mem_append_right _ y)
/-- what a def means, said once: its address, its parameters, how it binds, its meaning -/
structure FD (X : Cx) (xa : Str → Option Addr) (x : Str) (n : Nat) (F : List OT → FRes) : Prop where
  len : ∀ as, F as ≠ .bad → as.length = n
  ex : ∃ (k : Nat) (f : Addr) (fd : FuncData) (ps : List Str), FnOk X.prog X.w X.K X.mg X.base (L2.CX X.prog X.w) k f fd ps (spF (cc X xa) n F) ∧ Room k X.A ∧ X.mg x = some (.ref f) ∧ PySem.W.keepIn X.K (.ref f) = true ∧ Binds X.K fd ps []
theorem ve_call {x : Str} {n : Nat} {F : List OT → FRes} {f : Ev → Res (List Arg)} {p : Pos} (h : FD X xa x n F) (hx : ∀ σ, PassesAt (L2.CX X.prog X.w) X σ (E σ)) (hg : Gl X x) (ha : VA X xa E (e :: es) f)
    (hdb : (x == ("__debug__" : Str)) = false := by decide) (he : starEach (e :: es) X.env = (false, eval e X.env) :: starEach es X.env := by rfl) (hpl : (backTo pos (starEach es X.env)).any (·.1) = false := by rfl) :
    VE X xa E false (.Call (.Name x p) (e :: es) [] pos) (fCall F f) := by
  obtain ⟨hl, k, fa, fd, ps, G, hr, hm, hk, hb⟩ := h
  exact (pe_callS G hr hg hm hk hb hx ha hdb he hpl).imp fun σ H Q q => tCall_ok hl q
end
end VL

end

section
set_option Elab.async false
set_option linter.all false
set_option maxRecDepth 100000
set_option maxHeartbeats 1000000
namespace VL
open PySem PySem.Spec PyProof.Rows L2

/-! ### statements -/
inductive Out where
  | bad
  | nx (ρ : Ev)
  | rt (t : OT) (ρ : Ev)
  | bk (ρ : Ev)
  | ct (ρ : Ev)
  | exc (x : Exn) (ρ : Ev)
def Kept (kp : List Nat) (σ σ' : St) : Prop := σ'.length = σ.length ∧ ∀ i ∈ kp, σ'[i]? = σ[i]?
theorem Kept.refl (kp : List Nat) (σ : St) : Kept kp σ σ := ⟨rfl, fun _ _ => rfl⟩
theorem Kept.trans {kp : List Nat} {a b c : St} (h : Kept kp a b) (k : Kept kp b c) : Kept kp a c := ⟨k.1.trans h.1, fun i hi => (k.2 i hi).trans (h.2 i hi)⟩
theorem Kept.less {kp kp' : List Nat} {a b : St} (h : Kept kp' a b) (s : ∀ i ∈ kp, i ∈ kp') : Kept kp a b := ⟨h.1, fun i hi => h.2 i (s i hi)⟩
def rS (c : VC) (E : XS) (kp : List Nat) (Z H : Hp) (σ : St) (F : List Addr) (o : Out) (D : Ends) : Prop :=
  match o with
  | .bad => False
  | .nx ρ' => ∀ σ' H' Z' F', Ok c Z' H' σ' ρ' F' → After Z H F Z' H' F' → Kept kp σ σ' → D.nx σ' H'
  | .bk ρ' => ∀ σ' H' Z' F', Ok c Z' H' σ' ρ' F' → After Z H F Z' H' F' → Kept kp σ σ' → D.bk σ' H'
  | .ct ρ' => ∀ σ' H' Z' F', Ok c Z' H' σ' ρ' F' → After Z H F Z' H' F' → Kept kp σ σ' → D.ct σ' H'
  | .rt t ρ' => ∀ v σ' H' Z' F' Ft, Ok c Z' H' σ' ρ' F' → Own c Z' H' v t Ft → (Ft ++ F').Nodup → (∀ p ∈ Ft, Z' p = none) → After Z H F Z' H' (Ft ++ F') → Kept kp σ σ' → D.rt v H'
  | .exc x ρ' => ∀ cls d σ' H' Z' F', Ok c Z' H' σ' ρ' F' → ExR c Z' H' x cls d → After Z H F Z' H' F' → Kept kp σ σ' → E σ' cls d H'
def tS (c : VC) (E : XS) (kp : List Nat) (f : Ev → Out) : TS := fun D σ H => ∃ Z ρ F, Ok c Z H σ ρ F ∧ rS c E kp Z H σ F (f ρ) D
abbrev VS (X : Cx) (xa : Str → Option Addr) (E : XS) (kp : List Nat) (st : Stmt) (f : Ev → Out) : Prop := PS X st (tS (cc X xa) E kp f)
abbrev VSs (X : Cx) (xa : Str → Option Addr) (E : XS) (kp : List Nat) (st : List Stmt) (f : Ev → Out) : Prop := PSs X st (tS (cc X xa) E kp f)

section
variable {c : VC} {E : XS} {kp kp' : List Nat} {Z H Z1 H1 : Hp} {σ σ1 : St} {F F1 : List Addr}
theorem rS.later {o : Out} {D : Ends} (h : rS c E kp Z H σ F o D) (a : After Z H F Z1 H1 F1) (k : Kept kp σ σ1) : rS c E kp Z1 H1 σ1 F1 o D := by
  cases o with
  | bad => exact h
  | nx ρ' => exact fun σ' H' Z' F' o b q => h σ' H' Z' F' o (a.trans b) (k.trans q)
  | bk ρ' => exact fun σ' H' Z' F' o b q => h σ' H' Z' F' o (a.trans b) (k.trans q)
  | ct ρ' => exact fun σ' H' Z' F' o b q => h σ' H' Z' F' o (a.trans b) (k.trans q)
  | rt t ρ' => exact fun v σ' H' Z' F' Ft o w n sp b q => h v σ' H' Z' F' Ft o w n sp (a.trans b) (k.trans q)
  | exc x ρ' => exact fun cls d σ' H' Z' F' o x b q => h cls d σ' H' Z' F' o x (a.trans b) (k.trans q)
end
/-- an expression ahead of what follows -/
def eS {α : Type} (r : Res α) (k : α → Ev → Out) : Out :=
  match r with
  | .bad => .bad
  | .ok a ρ => k a ρ
  | .exc x ρ => .exc x ρ
@[simp] theorem eS_ok {α : Type} (a : α) (ρ : Ev) (k : α → Ev → Out) : eS (Res.ok a ρ) k = k a ρ := rfl
@[simp] theorem eS_bad {α : Type} (k : α → Ev → Out) : eS (Res.bad : Res α) k = .bad := rfl
@[simp] theorem eS_exc {α : Type} (x : Exn) (ρ : Ev) (k : α → Ev → Out) : eS (Res.exc x ρ : Res α) k = .exc x ρ := rfl

section
variable {X : Cx} {xa : Str → Option Addr} {E : XS} {kp : List Nat} {pu : Bool} {e : Expr} {st : Stmt} {sts : List Stmt} {pos : Pos}
def fNx : Ev → Out := fun ρ => .nx ρ
def fSeq (f g : Ev → Out) : Ev → Out := fun ρ => match f ρ with
  | .nx ρ' => g ρ'
  | o => o
theorem vss_nil : VSs X xa E kp [] fNx := PSs.imp pss_nil fun D σ H ⟨Z, ρ, F, ok, q⟩ => q σ H Z F ok (After.refl _ _ _) (Kept.refl _ _)
theorem vss_one {f : Ev → Out} (h : VS X xa E kp st f) : VSs X xa E kp [st] f := pss_one h
theorem vss_cons {f g : Ev → Out} (h1 : VS X xa E kp st f) (h2 : VSs X xa E kp sts g) : VSs X xa E kp (st :: sts) (fSeq f g) := (pss_cons h1 h2).imp fun D σ H ⟨Z, ρ, F, ok, q⟩ => by
  refine ⟨Z, ρ, F, ok, ?_⟩
  unfold fSeq at q
  cases r : f ρ with
  | nx ρ' =>
    rw [r] at q
    exact fun σ' H' Z' F' o a k => ⟨Z', ρ', F', o, q.later a k⟩
  | bad => rw [r] at q; exact q
  | bk ρ' => rw [r] at q; exact q
  | ct ρ' => rw [r] at q; exact q
  | rt t ρ' => rw [r] at q; exact q
  | exc x ρ' => rw [r] at q; exact q
theorem vs_pass : VS X xa E kp (.Pass pos) fNx := PS.imp ps_pass fun D σ H ⟨Z, ρ, F, ok, q⟩ => q σ H Z F ok (After.refl _ _ _) (Kept.refl _ _)
theorem vs_break : VS X xa E kp (.Break pos) (fun ρ => .bk ρ) := PS.imp ps_break fun D σ H ⟨Z, ρ, F, ok, q⟩ => q σ H Z F ok (After.refl _ _ _) (Kept.refl _ _)
theorem vs_continue : VS X xa E kp (.Continue pos) (fun ρ => .ct ρ) := PS.imp ps_continue fun D σ H ⟨Z, ρ, F, ok, q⟩ => q σ H Z F ok (After.refl _ _ _) (Kept.refl _ _)
/-- code that is never come to -/
def fNever : Ev → Out := fun _ => .bad
theorem vs_never : VS X xa E kp st fNever := PS.imp ps_never fun D σ H ⟨Z, ρ, F, ok, q⟩ => q
theorem vss_never : VSs X xa E kp sts fNever := PSs.imp pss_never fun D σ H ⟨Z, ρ, F, ok, q⟩ => q
/-- from an expression's meaning to a statement's -/
theorem rV_of {c : VC} {Z H : Hp} {σ : St} {ρ : Ev} {F : List Addr} {r : Res OT} {k : OT → Ev → Out} {D : Ends} {Q : VK} (q : rS c E kp Z H σ F (eS r k) D)
    (h : ∀ t ρ' v H' Z' F' Ft, Ok c Z' H' σ ρ' F' → Own c Z' H' v t Ft → (Ft ++ F').Nodup → (∀ p ∈ Ft, Z' p = none) → After Z H F Z' H' (Ft ++ F') → rS c E kp Z H σ F (k t ρ') D → Q v H') : rV c E pu Z H σ ρ F r Q := by
  cases r with
  | bad => exact q
  | exc x ρ' => exact fun cls d H' Z' F' o xr a => q cls d σ H' Z' F' o xr a (Kept.refl _ _)
  | ok t ρ' => exact fun v H' Z' F' Ft o w n sp a _ => h t ρ' v H' Z' F' Ft o w n sp a q
def fExpr (f : Ev → Res OT) : Ev → Out := fun ρ => eS (f ρ) fun _ ρ' => .nx ρ'
theorem After.less {Z H Z' H' : Hp} {F G F' : List Addr} (a : After Z H F Z' H' (G ++ F')) : After Z H F Z' H' F' := ⟨a.same, a.keep, fun p hp => a.foot p (List.mem_append_right _ hp), a.newZ⟩
theorem vs_expr {f : Ev → Res OT} (h : VE X xa E pu e f) (hs : swapsWith e none pos.line X.env = pure false := by rfl) : VS X xa E kp (.Expr e pos) (fExpr f) := (ps_expr h hs).imp fun D σ H ⟨Z, ρ, F, ok, q⟩ =>
  ⟨Z, ρ, F, ok, rV_of q fun t ρ' v H' Z' F' Ft o w n sp a q => q σ H' Z' F' o a.less (Kept.refl _ _)⟩
def fRet (f : Ev → Res OT) : Ev → Out := fun ρ => eS (f ρ) fun t ρ' => .rt t ρ'
theorem vs_ret {f : Ev → Res OT} (h : VE X xa E pu e f) : VS X xa E kp (.Return (some e) pos) (fRet f) := (ps_ret h).imp fun D σ H ⟨Z, ρ, F, ok, q⟩ =>
  ⟨Z, ρ, F, ok, rV_of q fun t ρ' v H' Z' F' Ft o w n sp a q => q v σ H' Z' F' Ft o w n sp a (Kept.refl _ _)⟩
theorem vs_retN : VS X xa E kp (.Return none pos) (fun ρ => .rt (.sh .none) ρ) := PS.imp ps_retN fun D σ H ⟨Z, ρ, F, ok, q⟩ => q .non σ H Z F [] ok (.sh .non) ok.nd (fun _ z => nomatch z) (After.refl _ _ _) (Kept.refl _ _)
def fIfS (t : Ev → Res Bool) (f g : Ev → Out) : Ev → Out := fun ρ => eS (t ρ) fun b ρ' => if b = true then f ρ' else g ρ'
theorem rT_of {c : VC} {Z H : Hp} {σ : St} {ρ : Ev} {F : List Addr} {r : Res Bool} {k : Bool → Ev → Out} {D : Ends} {Q : Bool → Hp → Prop} (q : rS c E kp Z H σ F (eS r k) D)
    (h : ∀ t ρ' H' Z' F', Ok c Z' H' σ ρ' F' → After Z H F Z' H' F' → rS c E kp Z H σ F (k t ρ') D → Q t H') : rT c E pu Z H σ ρ F r Q := by
  cases r with
  | bad => exact q
  | exc x ρ' => exact fun cls d H' Z' F' o xr a => q cls d σ H' Z' F' o xr a (Kept.refl _ _)
  | ok t ρ' => exact fun H' Z' F' o a _ => h t ρ' H' Z' F' o a q
theorem vs_if {t : Ev → Res Bool} {f g : Ev → Out} {b1 b2 : List Stmt} (h0 : VT X xa E pu e t) (h1 : VSs X xa E kp b1 f) (h2 : VSs X xa E kp b2 g) : VS X xa E kp (.If e b1 b2 pos) (fIfS t f g) := (ps_if h0 h1 h2).imp fun D σ H ⟨Z, ρ, F, ok, q⟩ =>
  ⟨Z, ρ, F, ok, rT_of q fun b ρ' H' Z' F' o a q => by
    cases b with
    | true =>
      rw [if_pos rfl] at q ⊢
      exact ⟨Z', ρ', F', o, q.later a (Kept.refl _ _)⟩
    | false =>
      rw [if_neg Bool.false_ne_true] at q ⊢
      exact ⟨Z', ρ', F', o, q.later a (Kept.refl _ _)⟩⟩

/-! ### stores to names -/
theorem OwnS.assign {c : VC} {Z H : Hp} {σ : St} {ρ : Ev} {F Ft : List Addr} {v : V} {t : OT} (i : Nat) (h : OwnS c Z H σ ρ F) (w : Own c Z H v t Ft) (n : (Ft ++ F).Nodup) :
    ∃ F', OwnS c Z H (σ.set i (some v)) (ρ.set i t) F' ∧ F'.Nodup ∧ ∀ p ∈ F', p ∈ Ft ∨ p ∈ F := by
  obtain ⟨m1, m2, m3⟩ := List.nodup_append.mp n
  by_cases hi : i < ρ.length
  · obtain ⟨Fx, G, k, p⟩ := h.drop i
    have hm : (ρ.set i .mv)[i]? = some .mv := by rw [List.getElem?_set_self hi]
    obtain ⟨F', k2, p2⟩ := k.putIn hm w
    rw [List.set_set] at k2
    have sub : ∀ q ∈ G, q ∈ F := fun q hq => p.mem_iff.mpr (List.mem_append_right _ hq)
    have nG := (List.nodup_append.mp ((p.nodup_iff).mp m2)).2.1
    refine ⟨F', k2, (p2.nodup_iff).mpr (List.nodup_append.mpr ⟨m1, nG, fun p hp q hq e => m3 p hp q (sub q hq) e⟩), fun q hq => ?_⟩
    exact (List.mem_append.mp (p2.mem_iff.mp hq)).imp id (sub q)
  · have e1 : ρ.set i t = ρ := List.set_eq_of_length_le (by omega)
    have e2 : σ.set i (some v) = σ := List.set_eq_of_length_le (by rw [h.length]; omega)
    rw [e1, e2]
    exact ⟨F, h, m2, fun p hp => .inr hp⟩
theorem Ok.assign {c : VC} {Z H : Hp} {σ : St} {ρ : Ev} {F Ft : List Addr} {v : V} {t : OT} (i : Nat) (o : Ok c Z H σ ρ F) (w : Own c Z H v t Ft) (n : (Ft ++ F).Nodup) (sp : ∀ p ∈ Ft, Z p = none) :
    ∃ F', Ok c Z H (σ.set i (some v)) (ρ.set i t) F' ∧ ∀ p ∈ F', p ∈ Ft ++ F := by
  obtain ⟨F', k, n', s⟩ := OwnS.assign i o.own w n
  exact ⟨F', ⟨o.same, k, n', fun p hp => (s p hp).elim (sp p) (o.sep p)⟩, fun p hp => List.mem_append.mpr (s p hp)⟩
theorem kept_set {i : Nat} {σ : St} {v : Option V} (h : i ∉ kp) : Kept kp σ (σ.set i v) := ⟨List.length_set, fun j hj => by
  rw [List.getElem?_set_ne]
  intro e
  subst e
  exact h hj⟩
theorem After.to {Z H Z' H' : Hp} {F F' G : List Addr} (a : After Z H F Z' H' G) (h : ∀ p ∈ F', p ∈ G) : After Z H F Z' H' F' := ⟨a.same, a.keep, fun p hp => a.foot p (h p hp), a.newZ⟩
def fSet (i : Nat) (f : Ev → Res OT) : Ev → Out := fun ρ => eS (f ρ) fun t ρ' => .nx (ρ'.set i t)
theorem vs_set {i : Nat} {x : Str} {f : Ev → Res OT} {pos' : Pos} (hN : X.N.Nodup) (hi : X.N[i]? = some x) (hx : Loc X.env.scope x) (hk : i ∉ kp) (h : VE X xa E pu e f) (hs : swapsWith e (some (.Name x pos')) pos.line X.env = pure false := by rfl)
    (hf : X.fn x = true ∨ X.env.scope.names.lookup x = some .local := by first | exact .inl rfl | exact .inr rfl | assumption) : VS X xa E kp (.Assign [.Name x pos'] e pos) (fSet i f) := (ps_set hN hi hx h hs hf).imp fun D σ H ⟨Z, ρ, F, ok, q⟩ =>
  ⟨Z, ρ, F, ok, rV_of q fun t ρ' v H' Z' F' Ft o w n sp a q => by
    obtain ⟨F2, o2, s2⟩ := o.assign i w n sp
    exact q _ H' Z' F2 o2 (a.to s2) (kept_set hk)⟩
/-- x op= e -/
def fAug (g : OT → OT → Option OT) (i : Nat) (f : Ev → Res PH) : Ev → Out := fun ρ => eS (f ρ) fun h ρ' => match slotAt ρ' i, h.get ρ' with
  | some t1, some t2 => (match g t1 t2 with
    | some t => .nx (ρ'.set i t)
    | none => .bad)
  | _, _ => .bad
def fAugS (g : OT → OT → Option OT) (i : Nat) (f : Ev → Res PH) : Ev → Out := fun ρ => match slotAt ρ i with
  | some _ => fAug g i f ρ
  | none => .bad
theorem vs_aug {i : Nat} {x : Str} {op : Operator} {r : R2} {g : OT → OT → Option OT} {f : Ev → Res PH} {pos' : Pos} (ho : OpR X (inplaceOp op) r) (hg : Prim2 (cc X xa) r g) (hN : X.N.Nodup) (hi : X.N[i]? = some x) (hx : Loc X.env.scope x) (hk : i ∉ kp) (h : VP X xa E pu e f)
    (hf : X.fn x = true ∨ X.env.scope.names.lookup x = some .local := by first | exact .inl rfl | exact .inr rfl | assumption) : VS X xa E kp (.AugAssign (.Name x pos') op e pos) (fAugS g i f) := (ps_aug hN hi hx h (fun pins s σ H x y v u Q I rx ry q => augR ho I rx ry q) hf).imp fun D σ H ⟨Z, ρ, F, ok, q⟩ => by
  unfold fAugS at q
  cases e0 : slotAt ρ i with
  | none => rw [e0] at q; exact q.elim
  | some t0 =>
    rw [e0] at q
    obtain ⟨h1, h2⟩ := slotAt_eq e0
    obtain ⟨x0, F0, G0, hv, _⟩ := ok.own.takeOut h1 h2
    refine ⟨x0, hv, Z, ρ, F, ok, ?_⟩
    have q1 : rS (cc X xa) E kp Z H σ F (fAug g i f ρ) D := q
    unfold fAug at q1
    cases r1 : f ρ with
    | bad => rw [r1] at q1; exact q1
    | exc x ρ' =>
      rw [r1] at q1
      exact fun cls d H' Z' F' o xr a => q1 cls d σ H' Z' F' o xr a (Kept.refl _ _)
    | ok h ρ1 =>
      rw [r1, eS_ok] at q1
      intro y H1 Z1 F1 o1 w1 a1 k1
      cases e1 : slotAt ρ1 i with
      | none => rw [e1] at q1; exact q1.elim
      | some t1 =>
        cases e2 : h.get ρ1 with
        | none => rw [e1, e2] at q1; exact q1.elim
        | some t2 =>
          have q2 : rS (cc X xa) E kp Z H σ F (match g t1 t2 with
            | some t => .nx (ρ1.set i t)
            | none => .bad) D := by rw [e1, e2] at q1; exact q1
          obtain ⟨h3, h4⟩ := slotAt_eq e1
          obtain ⟨x1, F3, G3, hv1, w3, _⟩ := o1.own.takeOut h3 h4
          rw [hv] at hv1
          cases hv1
          obtain ⟨F4, w4⟩ := w1.read o1 e2
          cases e3 : g t1 t2 with
          | none => rw [e3] at q2; exact q2.elim
          | some t =>
            rw [e3] at q2
            refine hg Z1 H1 x0 y t1 t2 F3 F4 t _ o1.same w3 w4 e3 fun z H2 Z2 Ft s1 s2 s3 nz w n sp => ?_
            obtain ⟨o2, n2, sp2, a2⟩ := o1.new s1 s2 s3 nz w n sp
            obtain ⟨F5, o5, s5⟩ := o2.assign i w n2 sp2
            exact q2 _ H2 Z2 F5 o5 ((a1.trans a2).to s5) (kept_set hk)

/-! ### targets -/
def rG (c : VC) (kp : List Nat) (Z H : Hp) (σ : St) (F : List Addr) (o : Option Ev) (Q : St → Hp → Prop) : Prop :=
  match o with
  | none => False
  | some ρ' => ∀ σ' F', Ok c Z H σ' ρ' F' → (∀ p ∈ F', p ∈ F) → Kept kp σ σ' → Q σ' H
/-- a target of a frozen value: what it does to the slots -/
def tG (c : VC) (kp : List Nat) (g : D → Ev → Option Ev) : TG := fun v σ H Q => ∃ Z ρ F d, Ok c Z H σ ρ F ∧ Rp c Z v d ∧ rG c kp Z H σ F (g d ρ) Q
def tGs (c : VC) (kp : List Nat) (g : List D → Ev → Option Ev) : TGs := fun vs σ H Q => ∃ Z ρ F ds, Ok c Z H σ ρ F ∧ RpL c Z vs ds ∧ rG c kp Z H σ F (g ds ρ) Q
abbrev VG (X : Cx) (xa : Str → Option Addr) (kp : List Nat) (tg : Expr) (g : D → Ev → Option Ev) : Prop := PG X tg (tG (cc X xa) kp g)
abbrev VGs (X : Cx) (xa : Str → Option Addr) (kp : List Nat) (tg : List Expr) (g : List D → Ev → Option Ev) : Prop := PGs X tg (tGs (cc X xa) kp g)
theorem _root_.L2.PG.imp {X : Cx} {e : Expr} {t t' : TG} (h : PG X e t) (k : ∀ v σ H Q, t' v σ H Q → t v σ H Q) : PG X e t' := ⟨fun pins s σ H v u Q I r q => h.run pins s σ H v u Q I r (k v σ H Q q)⟩
theorem _root_.L2.PGs.imp {X : Cx} {e : List Expr} {t t' : TGs} (h : PGs X e t) (k : ∀ v σ H Q, t' v σ H Q → t v σ H Q) : PGs X e t' := ⟨fun pins s σ H v u Q I r q => h.run pins s σ H v u Q I r (k v σ H Q q)⟩
def gNm (i : Nat) : D → Ev → Option Ev := fun d ρ => some (ρ.set i (.sh d))
theorem vg_name {i : Nat} {x : Str} (hN : X.N.Nodup) (hi : X.N[i]? = some x) (hx : Loc X.env.scope x) (hk : i ∉ kp) (hf : X.fn x = true ∨ X.env.scope.names.lookup x = some .local := by first | exact .inl rfl | exact .inr rfl | assumption) : VG X xa kp (.Name x pos) (gNm i) :=
  (pg_name hN hi hx hf).imp fun v σ H Q ⟨Z, ρ, F, d, ok, r, q⟩ => by
    obtain ⟨F2, o2, s2⟩ := ok.assign (t := .sh d) i (.sh r) ok.nd (fun _ z => nomatch z)
    exact q _ F2 o2 s2 (kept_set hk)
def gsNil : List D → Ev → Option Ev
  | [], ρ => some ρ
  | _, _ => none
def gsCons (g : D → Ev → Option Ev) (k : List D → Ev → Option Ev) : List D → Ev → Option Ev
  | d :: ds, ρ => (g d ρ).bind (k ds)
  | [], _ => none
theorem vgs_nil : VGs X xa kp [] gsNil := pgs_nil.imp fun v σ H Q ⟨Z, ρ, F, ds, ok, r, q⟩ => by
  cases r with
  | nil => exact ⟨rfl, q σ F ok (fun _ h => h) (Kept.refl _ _)⟩
  | cons _ _ => exact q.elim
theorem vgs_cons {es : List Expr} {g : D → Ev → Option Ev} {k : List D → Ev → Option Ev} (h1 : VG X xa kp e g) (h2 : VGs X xa kp es k) (hs : (assignEach (e :: es) X.env).map (·.2) = assign e X.env :: (assignEach es X.env).map (·.2) := by rfl) :
    VGs X xa kp (e :: es) (gsCons g k) := (pgs_cons h1 h2 hs).imp fun v σ H Q ⟨Z, ρ, F, ds, ok, r, q⟩ => by
  cases r with
  | nil => exact q.elim
  | @cons v d vs ds r rs =>
    refine ⟨v, vs, rfl, Z, ρ, F, d, ok, r, ?_⟩
    have q1 : rG (cc X xa) kp Z H σ F ((g d ρ).bind (k ds)) Q := q
    cases e1 : g d ρ with
    | none => rw [e1] at q1; exact q1
    | some ρ1 =>
      rw [e1, Option.bind_some] at q1
      intro σ1 F1 o1 s1 k1
      refine ⟨Z, ρ1, F1, ds, o1, rs, ?_⟩
      cases e2 : k ds ρ1 with
      | none => rw [e2] at q1; exact q1
      | some ρ2 =>
        rw [e2] at q1
        exact fun σ2 F2 o2 s2 k2 => q1 σ2 F2 o2 (fun p hp => s1 p (s2 p hp)) (k1.trans k2)
/-- (a, b, ..) = a tuple, or a list -/
def gTp (n : Nat) (k : List D → Ev → Option Ev) : D → Ev → Option Ev
  | .tuple ds, ρ => if ds.length = n then k ds ρ else none
  | .list ds, ρ => if ds.length = n then k ds ρ else none
  | _, _ => none
theorem pg_seq {es : List Expr} {k : Nat} {t : TGs} {n : Nat} (hc : X.calm = true) (h : PGs X es t)
    (hn : (assignEach es X.env).length = n := by rfl) (hst : (assignEach es X.env).findIdx? (·.1) = none := by rfl) : PG X (.Tuple es k pos) (fun v σ H Q => gTup X.K n t v σ H Q ∨ gUnl X.K n t v σ H Q) :=
  ⟨fun pins s σ H v u Q I r q => q.elim (fun q => (pg_tup hc h hn hst).run pins s σ H v u Q I r q) fun q => (pg_unl hc h hn hst).run pins s σ H v u Q I r q⟩
theorem vg_tup {es : List Expr} {k : Nat} {g : List D → Ev → Option Ev} {n : Nat} (hc : X.calm = true) (h : VGs X xa kp es g)
    (hn : (assignEach es X.env).length = n := by rfl) (hst : (assignEach es X.env).findIdx? (·.1) = none := by rfl) : VG X xa kp (.Tuple es k pos) (gTp n g) := (pg_seq hc h hn hst).imp fun v σ H Q ⟨Z, ρ, F, d, ok, r, q⟩ => by
  cases r with
  | @tup a xs ds hq l _ =>
    by_cases hl : ds.length = n
    · have q1 : rG (cc X xa) kp Z H σ F (if ds.length = n then g ds ρ else none) Q := q
      rw [if_pos hl] at q1
      exact .inl ⟨a, xs, rfl, SqT.mono ok.same hq, l.length.trans hl, Z, ρ, F, ds, ok, l, q1⟩
    · have q1 : rG (cc X xa) kp Z H σ F (if ds.length = n then g ds ρ else none) Q := q
      rw [if_neg hl] at q1
      exact q1.elim
  | @lst a xs ds hq l =>
    by_cases hl : ds.length = n
    · have q1 : rG (cc X xa) kp Z H σ F (if ds.length = n then g ds ρ else none) Q := q
      rw [if_pos hl] at q1
      exact .inr ⟨a, xs, rfl, ok.same.seq hq, l.length.trans hl, Z, ρ, F, ds, ok, l, q1⟩
    · have q1 : rG (cc X xa) kp Z H σ F (if ds.length = n then g ds ρ else none) Q := q
      rw [if_neg hl] at q1
      exact q1.elim
  | _ => exact q.elim
/-- target = value, the value frozen -/
def fAsg (g : D → Ev → Option Ev) (f : Ev → Res OT) : Ev → Out := fun ρ => eS (f ρ) fun t ρ' => match g t.d ρ' with
  | some ρ2 => .nx ρ2
  | none => .bad
theorem vs_asg {tg : Expr} {f : Ev → Res OT} {g : D → Ev → Option Ev} (h : VE X xa E pu e f) (hg : VG X xa kp tg g) (hs : swapsWithSole [tg] e pos.line X.env = pure false := by rfl) (hw : swappedStores [tg] e X.env = pure none := by rfl)
    (h1 : (assignEach [tg] X.env).map (·.2) = [assign tg X.env] := by rfl) : VS X xa E kp (.Assign [tg] e pos) (fAsg g f) := (ps_asg h hg hs hw h1).imp fun D σ H ⟨Z, ρ, F, ok, q⟩ =>
  ⟨Z, ρ, F, ok, rV_of q fun t ρ' v H' Z' F' Ft o w n sp a q => by
    obtain ⟨o2, r2, a2⟩ := o.frozen w n sp
    refine ⟨_, ρ', F', t.d, o2, r2, ?_⟩
    cases e1 : g t.d ρ' with
    | none => rw [e1] at q; exact q
    | some ρ2 =>
      rw [e1] at q
      exact fun σ3 F3 o3 s3 k3 => q σ3 H' _ F3 o3 ((a2 a).to s3) k3⟩

/-! ### the def -/
def outs (kp : List Nat) : Nat → Nat → Ev → List OT
  | _, 0, _ => []
  | j, n + 1, t :: ρ => (if j ∈ kp then t else .mv) :: outs kp (j + 1) n ρ
  | j, n + 1, [] => .mv :: outs kp (j + 1) n []
def fDef (n m : Nat) (kp : List Nat) (f : Ev → Out) : List OT → FRes := fun as =>
  if as.length = n then match f (as ++ List.replicate m .mv) with
    | .rt t ρ => .ok t (outs kp 0 n ρ)
    | .nx ρ => .ok (.sh .none) (outs kp 0 n ρ)
    | .exc x ρ => .exc x (outs kp 0 n ρ)
    | _ => .bad
  else .bad
theorem fDef_len {n m : Nat} {kp : List Nat} {f : Ev → Out} (as : List OT) (h : fDef n m kp f as ≠ .bad) : as.length = n := by
  unfold fDef at h
  split at h
  · assumption
  · exact absurd rfl h
theorem OwnS.of_l {c : VC} {Z H : Hp} : ∀ {vs : List V} {ts : List OT} {F : List Addr}, OwnL c Z H vs ts F → OwnS c Z H (vs.map some) ts F
  | _, _, _, .nil => .nil
  | _, _, _, .cons h l => .cons h (OwnS.of_l l)
theorem OwnS.pad {c : VC} {Z H : Hp} (k : Nat) : ∀ {σ : St} {ρ : Ev} {F : List Addr}, OwnS c Z H σ ρ F → OwnS c Z H (σ ++ List.replicate k none) (ρ ++ List.replicate k .mv) F
  | _, _, _, .nil => by
    show OwnS c Z H (List.replicate k none) (List.replicate k .mv) []
    induction k with
    | zero => exact .nil
    | succ k ih => exact .mv ih
  | _, _, _, .mv l => .mv (OwnS.pad k l)
  | _, _, _, .cons h l => .cons h (OwnS.pad k l)
/-- the parameters' slots at the end -/
theorem OwnS.outs {c : VC} {Z H : Hp} {kp : List Nat} : ∀ {n j : Nat} {vs : List V} {σ : St} {ρ : Ev} {F : List Addr}, OwnS c Z H σ ρ F → vs.length = n → (∀ i, j + i ∈ kp → i < n → σ[i]? = (vs.map some)[i]?) →
    ∃ F', OwnS c Z H (vs.map some) (outs kp j n ρ) F' ∧ F'.Sublist F
  | 0, j, vs, σ, ρ, F, h, hl, k => by
    cases vs with
    | nil => exact ⟨[], by unfold VL.outs; exact .nil, List.nil_sublist _⟩
    | cons v vs => cases hl
  | n + 1, j, [], σ, ρ, F, h, hl, k => by cases hl
  | n + 1, j, v :: vs, _, _, _, .nil, hl, k => by
    obtain ⟨F', a, b⟩ := OwnS.outs (n := n) (j := j + 1) (vs := vs) (kp := kp) (OwnS.nil (c := c) (Z := Z) (H := H)) (by simpa using hl) fun i hi hn => by
      have z := k (i + 1) (by rw [Nat.add_assoc, Nat.add_comm 1 i] at hi; exact hi) (by omega)
      simpa using z
    exact ⟨F', by unfold VL.outs; exact .mv a, b⟩
  | n + 1, j, v :: vs, _, _, _, .mv l, hl, k => by
    obtain ⟨F', a, b⟩ := OwnS.outs (n := n) (j := j + 1) (vs := vs) (kp := kp) l (by simpa using hl) fun i hi hn => by
      have z := k (i + 1) (by rw [Nat.add_assoc, Nat.add_comm 1 i] at hi; exact hi) (by omega)
      simpa using z
    refine ⟨F', ?_, b⟩
    unfold VL.outs
    split <;> exact .mv a
  | n + 1, j, v :: vs, _, _, _, .cons (F := F1) (v := v0) w l, hl, k => by
    obtain ⟨F', a, b⟩ := OwnS.outs (n := n) (j := j + 1) (vs := vs) (kp := kp) l (by simpa using hl) fun i hi hn => by
      have z := k (i + 1) (by rw [Nat.add_assoc, Nat.add_comm 1 i] at hi; exact hi) (by omega)
      simpa using z
    by_cases hj : j ∈ kp
    · have z := k 0 (by simpa using hj) (by omega)
      have ev : v0 = v := by simpa using z
      subst ev
      refine ⟨F1 ++ F', ?_, List.Sublist.append (List.Sublist.refl _) b⟩
      unfold VL.outs
      rw [if_pos hj]
      exact .cons w a
    · refine ⟨F', ?_, b.trans (List.sublist_append_right _ _)⟩
      unfold VL.outs
      rw [if_neg hj]
      exact .mv a
end

/-- what a body may lean on -/
structure Bd (X : Cx) (E : XS) (k : Nat) : Prop where
  hr : Room k X.A
  hx : ∀ σ, PassesAt (L2.CX X.prog X.w) X σ (E σ)
  hp : PassesOwn (model X.prog X.w) X.A X.env X.xe
  hc : X.calm = true
  tk : Takes X (fun cls d σ H => E σ cls d H)
section
variable {P : Program} {w : World} {K : PySem.W.Frag} {mg : Str → Option Value} {base : Heap} {xa : Str → Option Addr}
theorem bd_of {N : List Str} {qual : Str} {sc : Scope} {f : Addr} {cdv : Value} {A : Around} {outer : List Env} {s : Shared} {H : Hp} {E : XK} {k : Nat} (hr : Room k (A.deeper (envOfC qual sc s.heap.objs.size f cdv))) :
    Bd (cxOf (L2.CX P w) P w K mg base N qual sc f cdv A outer s H E) (fun _ => E) k := by
  have tk : Takes (cxOf (L2.CX P w) P w K mg base N qual sc f cdv A outer s H E) (fun cls d _ H => E cls d H) := takes_of rfl rfl rfl rfl
  exact ⟨hr, fun σ => passAt tk σ, passes_of (K := fun e s'' => L2.CX P w outer H s E e s'') (E₁ := fun e' s'' => L2.CX P w outer H s E e' s'') rfl, rfl, tk⟩
/-- THE RULE for a def -/
theorem def_ok {x qual : Str} {st : Stmt} {f : Addr} {fd : FuncData} {N ps : List Str} {k n m : Nat} {kp : List Nat} {fb : Ev → Out} (Fu : Fun K x qual st f fd) (S : FnScope N ps (defScope st)) (hn : ps.length = n) (hm : N.length = n + m)
    (hb : ∀ (cdv : Value) (A : Around) (outer : List Env) (s : Shared) (H : Hp) (E : XK), Bd (cxOf (L2.CX P w) P w K mg base N qual (defScope st) f cdv A outer s H E) (fun _ => E) k →
      VSs (cxOf (L2.CX P w) P w K mg base N qual (defScope st) f cdv A outer s H E) xa (fun _ => E) kp (defBody st) fb) :
    FnOk P w K mg base (L2.CX P w) (k + 1) f fd ps (spF ⟨K, w, xa⟩ n (fDef n m kp fb)) := by
  refine Fu.okX S (fun vs H Q E h => by rw [hn]; exact h.1) fun cdv A outer s H vs Q E hr h => ⟨_, hb cdv A outer s H E (bd_of hr), ?_⟩
  obtain ⟨hl, Z, as, Fa, sm, ow, nd, sp, q⟩ := h
  have e1 : L2.start N vs = vs.map some ++ List.replicate m none := by
    unfold L2.start
    rw [hm, hl, Nat.add_sub_cancel_left]
  have la : as.length = n := by rw [← ow.length]; exact hl
  rw [e1]
  show tS ⟨K, w, xa⟩ (fun _ => E) kp fb _ _ _
  refine ⟨Z, as ++ List.replicate m .mv, Fa, ⟨sm, (OwnS.of_l ow).pad m, nd, sp⟩, ?_⟩
  unfold fDef at q
  rw [if_pos la] at q
  have keptOf : ∀ {σ' : St}, Kept kp (vs.map some ++ List.replicate m none) σ' → ∀ i, 0 + i ∈ kp → i < n → σ'[i]? = (vs.map some)[i]? := fun {σ'} kk i hi hn => by
    rw [Nat.zero_add] at hi
    rw [kk.2 i hi, List.getElem?_append_left (by rw [List.length_map]; omega)]
  cases r : fb (as ++ List.replicate m .mv) with
  | bad => rw [r] at q; exact q
  | bk ρ => rw [r] at q; exact q.elim
  | ct ρ => rw [r] at q; exact q.elim
  | nx ρ =>
    rw [r] at q
    intro σ' H' Z' F' o a kk
    obtain ⟨F2, b1, b2⟩ := o.own.outs (kp := kp) (j := 0) hl (keptOf kk)
    exact q .non H' Z' F2 [] ⟨o.same, b1, b2.nodup o.nd, fun p hp => o.sep p (b2.subset hp)⟩ (.sh .non) (b2.nodup o.nd) (fun _ z => nomatch z) (a.to fun p hp => b2.subset hp)
  | rt t ρ =>
    rw [r] at q
    intro v σ' H' Z' F' Ft o w n2 s2 a kk
    obtain ⟨F2, b1, b2⟩ := o.own.outs (kp := kp) (j := 0) hl (keptOf kk)
    have sl : (Ft ++ F2).Sublist (Ft ++ F') := List.Sublist.append (List.Sublist.refl _) b2
    exact q v H' Z' F2 Ft ⟨o.same, b1, b2.nodup o.nd, fun p hp => o.sep p (b2.subset hp)⟩ w (sl.nodup n2) s2 (a.to fun p hp => sl.subset hp)
  | exc x ρ =>
    rw [r] at q
    intro cls d σ' H' Z' F' o xr a kk
    obtain ⟨F2, b1, b2⟩ := o.own.outs (kp := kp) (j := 0) hl (keptOf kk)
    exact q cls d H' Z' F2 ⟨o.same, b1, b2.nodup o.nd, fun p hp => o.sep p (b2.subset hp)⟩ xr (a.to fun p hp => b2.subset hp)
end
end VL

end

section
set_option Elab.async false
set_option linter.all false
set_option maxRecDepth 100000
set_option maxHeartbeats 1000000
namespace VL
open PySem PySem.Spec PyProof.Rows L2

/-! ### what is walked -/
structure Walk (c : VC) (J : It) (Z H : Hp) (L : List Addr) (its : List D) : Prop where
  go : ∀ i Z' H', i < its.length → Same Z Z' → Same Z' H' → (∀ p ∈ L, ∀ o, H p = some o → H' p = some o) → J.go i H' ∧ ∀ x Hx, J.yld i H' x Hx →
    ∃ Zx d, its[i]? = some d ∧ Same H' Hx ∧ Same Z' Zx ∧ Same Zx Hx ∧ (∀ p, Zx p ≠ none → Z' p ≠ none ∨ H' p = none) ∧ Rp c Zx x d
  stop : ∀ Z' H', Same Z Z' → Same Z' H' → (∀ p ∈ L, ∀ o, H p = some o → H' p = some o) → J.stop its.length H'
theorem walk_list {c : VC} {Z H : Hp} {a : Addr} {xs : List V} {ds : List D} (hq : SqL c.K Z a xs) (r : RpL c Z xs ds) : Walk c (Itl c.K a) Z H [] ds where
  go := fun i Z' H' hi s1 s2 _ => by
    have q : SqL c.K H' a xs := s2.seq (s1.seq hq)
    have hx : i < xs.length := by rw [r.length]; exact hi
    refine ⟨⟨xs, xs[i], q, by simp [hx]⟩, fun x Hx y => ?_⟩
    obtain ⟨e, y⟩ := y
    subst e
    obtain ⟨d, hd, rd⟩ := r.get (y xs q)
    exact ⟨Z', d, hd, Same.refl _, Same.refl _, s2, fun p h => .inl h, rd.mono s1⟩
  stop := fun Z' H' s1 s2 _ => ⟨xs, s2.seq (s1.seq hq), by rw [r.length]; exact Nat.le_refl _⟩
theorem walk_tup {c : VC} {Z H : Hp} {a : Addr} {xs : List V} {ds : List D} (hq : SqT c.K Z a xs) (r : RpL c Z xs ds) : Walk c (Itt c.K a) Z H [] ds where
  go := fun i Z' H' hi s1 s2 _ => by
    have q : SqT c.K H' a xs := SqT.mono s2 (SqT.mono s1 hq)
    have hx : i < xs.length := by rw [r.length]; exact hi
    refine ⟨⟨xs, xs[i], q, by simp [hx]⟩, fun x Hx y => ?_⟩
    obtain ⟨e, y⟩ := y
    subst e
    obtain ⟨d, hd, rd⟩ := r.get (y xs q)
    exact ⟨Z', d, hd, Same.refl _, Same.refl _, s2, fun p h => .inl h, rd.mono s1⟩
  stop := fun Z' H' s1 s2 _ => ⟨xs, SqT.mono s2 (SqT.mono s1 hq), by rw [r.length]; exact Nat.le_refl _⟩
theorem walk_own {c : VC} {Z H : Hp} {p : Addr} {xs : List V} {ds : List D} (hq : H p = some (.lst xs)) (r : RpL c Z xs ds) : Walk c (Itl c.K p) Z H [p] ds where
  go := fun i Z' H' hi s1 s2 k => by
    have q : SqL c.K H' p xs := SqL.of (k p (by simp) _ hq)
    have hx : i < xs.length := by rw [r.length]; exact hi
    refine ⟨⟨xs, xs[i], q, by simp [hx]⟩, fun x Hx y => ?_⟩
    obtain ⟨e, y⟩ := y
    subst e
    obtain ⟨d, hd, rd⟩ := r.get (y xs q)
    exact ⟨Z', d, hd, Same.refl _, Same.refl _, s2, fun p h => .inl h, rd.mono s1⟩
  stop := fun Z' H' s1 s2 k => ⟨xs, SqL.of (k p (by simp) _ hq), by rw [r.length]; exact Nat.le_refl _⟩
def rngD (lo : Int) (n : Nat) : List D := (List.range n).map fun (i : Nat) => PyData.int (lo + (i : Int))
theorem rngD_length (lo : Int) (n : Nat) : (rngD lo n).length = n := by simp [rngD]
theorem walk_range {c : VC} {Z H : Hp} (lo : Int) (n : Nat) : Walk c (Itr lo n) Z H [] (rngD lo n) where
  go := fun i Z' H' hi s1 s2 _ => by
    rw [rngD_length] at hi
    refine ⟨hi, fun x Hx y => ?_⟩
    obtain ⟨e, y⟩ := y
    subst e y
    exact ⟨Z', _, by simp [rngD, hi], Same.refl _, Same.refl _, s2, fun p h => .inl h, .int _⟩
  stop := fun Z' H' s1 s2 _ => by rw [rngD_length]; exact Nat.le_refl _
def signs (x : Str) : List D := x.cps.toList.map fun c => PyData.str ⟨#[c]⟩
theorem walk_str {c : VC} {Z H : Hp} (x : Str) : Walk c (Its x) Z H [] (signs x) where
  go := fun i Z' H' hi s1 s2 _ => by
    have hi' : i < x.cps.size := by simpa [signs] using hi
    refine ⟨hi', fun v Hx y => ?_⟩
    obtain ⟨e, cp, hc, hv⟩ := y
    subst e hv
    exact ⟨Z', .str ⟨#[cp]⟩, by simp [signs, hc], Same.refl _, Same.refl _, s2, fun p h => .inl h, .str _⟩
  stop := fun Z' H' s1 s2 _ => by simp [signs, Its]

abbrev Its' := List D × Option Nat
def lockR (c : VC) (Z H : Hp) (σ : St) (L : List Addr) (its : List D) (lk : Option Nat) : Prop :=
  match lk with
  | none => L = []
  | some i => ∃ v, σ[i]? = some (some v) ∧ Own c Z H v (.lst (its.map .sh)) L
def rI (c : VC) (E : XS) (Z H : Hp) (σ : St) (F : List Addr) (r : Res Its') (R : It → Hp → Prop) : Prop :=
  match r with
  | .bad => False
  | .ok (its, lk) ρ' => ∀ J H' Z' F' L, Ok c Z' H' σ ρ' F' → Walk c J Z' H' L its → (L ++ F').Nodup → (∀ p ∈ L, Z' p = none) → lockR c Z' H' σ L its lk → After Z H F Z' H' (L ++ F') → R J H'
  | .exc x ρ' => ∀ cls d H' Z' F', Ok c Z' H' σ ρ' F' → ExR c Z' H' x cls d → After Z H F Z' H' F' → E σ cls d H'
def tI (c : VC) (E : XS) (f : Ev → Res Its') : TI := fun σ H R => ∃ Z ρ F, Ok c Z H σ ρ F ∧ rI c E Z H σ F (f ρ) R
abbrev VI (X : Cx) (xa : Str → Option Addr) (E : XS) (tg iter : Expr) (f : Ev → Res Its') : Prop := PI X tg iter (tI (cc X xa) E f)
theorem _root_.L2.PI.imp {X : Cx} {tg e : Expr} {t t' : TI} (h : PI X tg e t) (k : ∀ σ H Q, t' σ H Q → t σ H Q) : PI X tg e t' := ⟨fun pins s σ H Q I q => h.run pins s σ H Q I (k σ H Q q)⟩
/-- a list, a tuple, a text -/
def iSeq (K : PySem.W.Frag) (tl : TE) : TI := fun σ H R => tl σ H fun x H1 => (∃ a, x = .ref a ∧ (∃ xs, SqL K H1 a xs) ∧ R (Itl K a) H1) ∨ (∃ a, x = .ref a ∧ (∃ xs, SqT K H1 a xs) ∧ R (Itt K a) H1) ∨ ∃ z, x = .str z ∧ R (Its z) H1
section
variable {X : Cx} {xa : Str → Option Addr} {E : XS} {kp : List Nat} {pu : Bool} {tg e : Expr} {pos : Pos}
/-- any value's walk, by how its value is walked -/
theorem pi_seq {l : Expr} {tl : TE} (hl : PE X l tl) : PI X tg l (iSeq X.K tl) := by
  refine ⟨fun pins s σ H R I h => ?_⟩
  refine thn (hl.run pins s σ H _ I h) fun v s1 ⟨x, H1, I1, r1, q1⟩ => ?_
  rcases q1 with ⟨a, e, ⟨xs, hq⟩, q⟩ | ⟨a, e, ⟨xs, hq⟩, q⟩ | ⟨z, e, q⟩
  · subst e
    cases r1
    obtain ⟨its, rv, p, hz⟩ := I1.list hq
    refine wpAny_pyIter_list p.isList ?_
    refine ⟨s1.heap.objs.size, [s1.heap.objs.size], _, _, H1, rfl, I1.kept (t' := s1.toks) fun b o e => Heap.get?_push_of_some _ e, turn_list a _, ⟨_, Heap.get?_push_size _ rfl, rfl, rfl⟩, fun b hb => ?_, q⟩
    have e : b = s1.heap.objs.size := by simpa using hb
    subst e
    exact I1.fpOk (Nat.le_refl _) (I1.hok.fresh (Nat.le_refl _))
  · subst e
    cases r1
    obtain ⟨its, rv, p, hz⟩ := I1.tuple hq
    refine wpAny_pyIter_tuple (show s1.heap.IsTuple a its.toArray from p) ?_
    refine ⟨s1.heap.objs.size, [s1.heap.objs.size], _, _, H1, rfl, I1.kept (t' := s1.toks) fun b o e => Heap.get?_push_of_some _ e, turn_tuple a _, ⟨_, Heap.get?_push_size _ rfl, rfl, rfl⟩, fun b hb => ?_, q⟩
    have e : b = s1.heap.objs.size := by simpa using hb
    subst e
    exact I1.fpOk (Nat.le_refl _) (I1.hok.fresh (Nat.le_refl _))
  · subst e
    obtain ⟨t, rfl⟩ := r1
    cases ha : z.cps.all (· < 128)
    · exact PySem.wpAny_pyIter_wide ha (pi_one (tk := s1.toks) I1 _ (turn_str _ z t "str_iterator" (.inr rfl)) ⟨_, Heap.get?_push_size _ rfl, rfl, rfl⟩ q)
    · exact PySem.wpAny_pyIter_ascii ha (pi_one (tk := s1.toks) I1 _ (turn_str _ z t "str_ascii_iterator" (.inl rfl)) ⟨_, Heap.get?_push_size _ rfl, rfl, rfl⟩ q)
/-- the items of a value that is walked; the slot that is locked meanwhile -/
def itemsOf (h : PH) (ρ : Ev) : Res Its' :=
  match h.get ρ with
  | some (.sh (.list ds)) => .ok (ds, none) ρ
  | some (.sh (.tuple ds)) => .ok (ds, none) ρ
  | some (.sh (.str x)) => .ok (signs x, none) ρ
  | some (.lst ts) => match h, shs ts with
    | .slot i, some ds => .ok (ds, some i) (ρ.set i .mv)
    | _, _ => .bad
  | _ => .bad
def fSeqI (f : Ev → Res PH) : Ev → Res Its' := fun ρ => (f ρ).bind itemsOf
theorem vi_seq {l : Expr} {f : Ev → Res PH} (h : VP X xa E pu l f) : VI X xa E tg l (fSeqI f) := (pi_seq h).imp fun σ H R ⟨Z, ρ, F, ok, q⟩ => by
  refine ⟨Z, ρ, F, ok, ?_⟩
  unfold fSeqI at q
  cases r : f ρ with
  | bad => rw [r] at q; exact q
  | exc x ρ' => rw [r] at q; exact q
  | ok h ρ1 =>
    rw [r, Res.bind_ok] at q
    intro v H1 Z1 F1 o1 w1 a1 _
    unfold itemsOf at q
    split at q
    · rename_i ds hd
      obtain ⟨Ft, w⟩ := w1.read o1 hd
      cases w with
      | sh w =>
        cases w with
        | @lst a xs _ hq l =>
          exact .inl ⟨a, rfl, ⟨xs, o1.same.seq hq⟩, q _ H1 Z1 F1 [] o1 (walk_list hq l) o1.nd (fun _ z => nomatch z) rfl a1⟩
    · rename_i ds hd
      obtain ⟨Ft, w⟩ := w1.read o1 hd
      cases w with
      | sh w =>
        cases w with
        | @tup a xs _ hq l _ =>
          exact .inr (.inl ⟨a, rfl, ⟨xs, SqT.mono o1.same hq⟩, q _ H1 Z1 F1 [] o1 (walk_tup hq l) o1.nd (fun _ z => nomatch z) rfl a1⟩)
    · rename_i x hd
      obtain ⟨Ft, w⟩ := w1.read o1 hd
      cases w with
      | sh w =>
        cases w
        exact .inr (.inr ⟨x, rfl, q _ H1 Z1 F1 [] o1 (walk_str x) o1.nd (fun _ z => nomatch z) rfl a1⟩)
    · rename_i ts hd
      split at q
      · rename_i i ds hds
        have e1 := shs_eq hds
        subst e1
        obtain ⟨h1, h2⟩ := slotAt_eq hd
        obtain ⟨v2, Ft, G, hv, w, o2, n2, sp2, p2⟩ := o1.moved h1 h2
        have w1' : σ[i]? = some (some v) := w1
        rw [w1'] at hv
        cases hv
        cases w with
        | @lst p xs _ F2 hq l =>
          obtain ⟨r1, e2⟩ := l.shs
          subst e2
          exact .inl ⟨p, rfl, ⟨xs, SqL.of hq⟩, q _ H1 Z1 G [p] o2 (walk_own hq r1) n2 sp2 ⟨_, w1', .lst hq l⟩ (a1.trans (After.perm p2))⟩
      · exact q.elim
    · exact q.elim
def fRng1 (f : Ev → Res (List PH)) : Ev → Res Its' := fun ρ => (f ρ).bind fun hs ρ1 => match gets hs ρ1 with
  | some [.sh (.int n)] => if -4000000000 ≤ n ∧ n < 4000000000 then .ok (rngD 0 n.toNat, none) ρ1 else .bad
  | _ => .bad
def fRng2 (f : Ev → Res (List PH)) : Ev → Res Its' := fun ρ => (f ρ).bind fun hs ρ1 => match gets hs ρ1 with
  | some [.sh (.int m), .sh (.int n)] => if -4000000000 ≤ m ∧ m < 4000000000 ∧ -4000000000 ≤ n ∧ n < 4000000000 then .ok (rngD m (n - m).toNat, none) ρ1 else .bad
  | _ => .bad
theorem vi_range1 {a : Expr} {f : Ev → Res (List PH)} {p : Pos} (hg : Gl X "range") (hm : X.mg "range" = none) (h : VPs X xa E pu [a] f) (hs : starEach [a] X.env = [(false, eval a X.env)] := by rfl) :
    VI X xa E tg (.Call (.Name "range" p) [a] [] pos) (fRng1 f) := (pi_range1 hg hm h hs).imp fun σ H R ⟨Z, ρ, F, ok, q⟩ => by
  refine ⟨Z, ρ, F, ok, ?_⟩
  unfold fRng1 at q
  cases r : f ρ with
  | bad => rw [r] at q; exact q
  | exc x ρ' => rw [r] at q; exact q
  | ok h ρ1 =>
    rw [r, Res.bind_ok] at q
    intro vs H1 Z1 F1 o1 w1 a1 _
    split at q
    · rename_i n hd
      have w := gets_rds o1 w1 hd
      cases w with
      | cons w w2 =>
        cases w2
        cases w with
        | sh w =>
          cases w
          split at q
          · rename_i hn
            exact ⟨n, rfl, by omega, by omega, q _ H1 Z1 F1 [] o1 (walk_range 0 n.toNat) o1.nd (fun _ z => nomatch z) rfl a1⟩
          · exact q.elim
    all_goals exact q.elim
theorem vi_range2 {a b : Expr} {f : Ev → Res (List PH)} {p : Pos} (hg : Gl X "range") (hm : X.mg "range" = none) (h : VPs X xa E pu [a, b] f) (hs : starEach [a, b] X.env = [(false, eval a X.env), (false, eval b X.env)] := by rfl) (hs2 : starEach [b] X.env = [(false, eval b X.env)] := by rfl) :
    VI X xa E tg (.Call (.Name "range" p) [a, b] [] pos) (fRng2 f) := (pi_range2 hg hm h hs hs2).imp fun σ H R ⟨Z, ρ, F, ok, q⟩ => by
  refine ⟨Z, ρ, F, ok, ?_⟩
  unfold fRng2 at q
  cases r : f ρ with
  | bad => rw [r] at q; exact q
  | exc x ρ' => rw [r] at q; exact q
  | ok h ρ1 =>
    rw [r, Res.bind_ok] at q
    intro vs H1 Z1 F1 o1 w1 a1 _
    split at q
    · rename_i m n hd
      have w := gets_rds o1 w1 hd
      cases w with
      | cons w w2 =>
        cases w2 with
        | cons w2 w3 =>
          cases w3
          cases w with
          | sh w =>
            cases w
            cases w2 with
            | sh w2 =>
              cases w2
              split at q
              · rename_i hn
                exact ⟨m, n, rfl, by omega, q _ H1 Z1 F1 [] o1 (walk_range m (n - m).toNat) o1.nd (fun _ z => nomatch z) rfl a1⟩
              · exact q.elim
    all_goals exact q.elim

/-! ### for -/
def fLoop (g : D → Ev → Option Ev) (fb : Ev → Out) : List D → Ev → Out
  | [], ρ => .nx ρ
  | d :: ds, ρ => match g d ρ with
    | none => .bad
    | some ρ1 => match fb ρ1 with
      | .nx ρ2 => fLoop g fb ds ρ2
      | .ct ρ2 => fLoop g fb ds ρ2
      | .bk ρ2 => .nx ρ2
      | o => o
def unl (lk : Option Nat) (ds : List D) (o : Out) : Out :=
  match lk with
  | none => o
  | some i => match o with
    | .nx ρ => .nx (ρ.set i (.lst (ds.map .sh)))
    | .rt t ρ => .rt t (ρ.set i (.lst (ds.map .sh)))
    | .exc x ρ => .exc x (ρ.set i (.lst (ds.map .sh)))
    | _ => .bad
@[simp] theorem unl_none (ds : List D) (o : Out) : unl none ds o = o := rfl
def fFor (fi : Ev → Res Its') (g : D → Ev → Option Ev) (fb : Ev → Out) : Ev → Out := fun ρ => eS (fi ρ) fun p ρ1 => unl p.2 p.1 (fLoop g fb p.1 ρ1)
theorem set_self {σ : St} {i : Nat} {v : V} (hv : σ[i]? = some (some v)) : σ.set i (some v) = σ := by
  apply List.ext_getElem?
  intro j
  by_cases hj : i = j
  · subst hj
    have hl : i < σ.length := (List.getElem?_eq_some_iff.mp hv).1
    rw [List.getElem?_set_self hl, hv]
  · rw [List.getElem?_set_ne hj]
/-- the locked list comes back -/
theorem Ok.unlock {c : VC} {Z H : Hp} {σ : St} {ρ : Ev} {F L : List Addr} {i : Nat} {v : V} {t : OT} (o : Ok c Z H σ ρ F) (hv : σ[i]? = some (some v)) (w : Own c Z H v t L) (n : (L ++ F).Nodup) (sp : ∀ p ∈ L, Z p = none) :
    ∃ F', Ok c Z H σ (ρ.set i t) F' ∧ ∀ p ∈ F', p ∈ L ++ F := by
  obtain ⟨F', o2, s2⟩ := o.assign i w n sp
  rw [set_self hv] at o2
  exact ⟨F', o2, s2⟩
/-- what a loop that has come to o wants -/
theorem rS.unl {c : VC} {kp' : List Nat} {Z H Z1 H1 : Hp} {σ : St} {F F1 L : List Addr} {its : List D} {lk : Option Nat} {o : Out} {D : Ends} (q : rS c E kp Z H σ F (unl lk its o) D) (hb : ∀ ρ, o ≠ .bk ρ) (hc : ∀ ρ, o ≠ .ct ρ)
    (a : After Z H F Z1 H1 (L ++ F1)) (n : (L ++ F1).Nodup) (sp : ∀ p ∈ L, Z1 p = none) (hl : lockR c Z1 H1 σ L its lk) (h1 : ∀ i ∈ kp, i ∈ kp') (h2 : ∀ i, lk = some i → i ∈ kp') : rS c E kp' Z1 H1 σ F1 o D := by
  cases lk with
  | none =>
    have e : L = [] := hl
    subst e
    have q1 := rS.later (σ1 := σ) q a (Kept.refl _ _)
    cases o with
    | bad => exact q1
    | nx ρ' => exact fun σ' H' Z' F' o b k => q1 σ' H' Z' F' o b (k.less h1)
    | bk ρ' => exact fun σ' H' Z' F' o b k => q1 σ' H' Z' F' o b (k.less h1)
    | ct ρ' => exact fun σ' H' Z' F' o b k => q1 σ' H' Z' F' o b (k.less h1)
    | rt t ρ' => exact fun v σ' H' Z' F' Ft o w n sp b k => q1 v σ' H' Z' F' Ft o w n sp b (k.less h1)
    | exc x ρ' => exact fun cls d σ' H' Z' F' o x b k => q1 cls d σ' H' Z' F' o x b (k.less h1)
  | some i =>
    obtain ⟨v, hv, w⟩ := hl
    have hi := h2 i rfl
    obtain ⟨n1, n2, n3⟩ := List.nodup_append.mp n
    have apart : ∀ p ∈ L, p ∉ F1 := fun p hp hq => n3 p hp p hq rfl
    have wid : ∀ {Z' H' : Hp} {F' : List Addr}, After Z1 H1 F1 Z' H' F' → After Z H F Z' H' (L ++ F') := fun {Z' H' F'} b => a.trans (b.widen (fun p hp => List.mem_append_right _ hp) fun p hp => (List.mem_append.mp hp).imp (fun z => List.mem_append_left _ z) id)
    cases o with
    | bad => exact q
    | bk ρ' => exact absurd rfl (hb ρ')
    | ct ρ' => exact absurd rfl (hc ρ')
    | nx ρ' =>
      intro σ' H' Z' F' o b k
      obtain ⟨s1, s2⟩ := b.sepF w.there apart sp
      obtain ⟨F2, o2, sub⟩ := o.unlock (by rw [k.2 i hi]; exact hv) (b.frame w apart) (List.nodup_append.mpr ⟨n1, o.nd, fun p hp r hr e => s2 p hp (e ▸ hr)⟩) s1
      exact q σ' H' Z' F2 o2 ((wid b).to sub) (k.less h1)
    | rt t ρ' =>
      intro u σ' H' Z' F' Ft o w2 n2 sp2 b k
      obtain ⟨s1, s2⟩ := b.sepF w.there apart sp
      obtain ⟨F2, o2, sub⟩ := o.unlock (by rw [k.2 i hi]; exact hv) (b.frame w apart) (List.nodup_append.mpr ⟨n1, o.nd, fun p hp r hr e => s2 p hp (List.mem_append_right _ (e ▸ hr))⟩) s1
      obtain ⟨m1, m2, m3⟩ := List.nodup_append.mp n2
      refine q u σ' H' Z' F2 Ft o2 w2 (List.nodup_append.mpr ⟨m1, o2.nd, fun p hp r hr e => ?_⟩) sp2 ((wid b).to fun p hp => ?_) (k.less h1)
      · subst e
        rcases List.mem_append.mp (sub p hr) with z | z
        · exact s2 p z (List.mem_append_left _ hp)
        · exact m3 p hp p z rfl
      · rcases List.mem_append.mp hp with z | z
        · exact List.mem_append_right _ (List.mem_append_left _ z)
        · rcases List.mem_append.mp (sub p z) with y | y
          · exact List.mem_append_left _ y
          · exact List.mem_append_right _ (List.mem_append_right _ y)
    | exc x ρ' =>
      intro cls d σ' H' Z' F' o xr b k
      obtain ⟨s1, s2⟩ := b.sepF w.there apart sp
      obtain ⟨F2, o2, sub⟩ := o.unlock (by rw [k.2 i hi]; exact hv) (b.frame w apart) (List.nodup_append.mpr ⟨n1, o.nd, fun p hp r hr e => s2 p hp (e ▸ hr)⟩) s1
      exact q cls d σ' H' Z' F2 o2 xr ((wid b).to sub) (k.less h1)
theorem fLoop_nbk {g : D → Ev → Option Ev} {fb : Ev → Out} : ∀ (ds : List D) (ρ : Ev), (∀ ρ', fLoop g fb ds ρ ≠ .bk ρ') ∧ ∀ ρ', fLoop g fb ds ρ ≠ .ct ρ'
  | [], ρ => ⟨fun _ z => (nomatch z), fun _ z => (nomatch z)⟩
  | d :: ds, ρ => by
    unfold fLoop
    cases g d ρ with
    | none => exact ⟨fun _ z => (nomatch z), fun _ z => (nomatch z)⟩
    | some ρ1 =>
      dsimp only
      cases fb ρ1 with
      | nx ρ2 => exact fLoop_nbk ds ρ2
      | ct ρ2 => exact fLoop_nbk ds ρ2
      | bad => exact ⟨fun _ z => (nomatch z), fun _ z => (nomatch z)⟩
      | bk ρ2 => exact ⟨fun _ z => (nomatch z), fun _ z => (nomatch z)⟩
      | rt t ρ2 => exact ⟨fun _ z => (nomatch z), fun _ z => (nomatch z)⟩
      | exc x ρ2 => exact ⟨fun _ z => (nomatch z), fun _ z => (nomatch z)⟩
theorem vs_for {k : Nat} {iter : Expr} {body : List Stmt} {kp' : List Nat} {fi : Ev → Res Its'} {g : D → Ev → Option Ev} {fb : Ev → Out} (B : Bd X E k) (li : Option Nat) (hi : VI X xa E tg iter fi) (hg : VG X xa kp' tg g) (hb : VSs X xa E kp' body fb)
    (h1 : ∀ i ∈ kp, i ∈ kp') (h2 : ∀ i, li = some i → i ∈ kp') (h3 : ∀ ρ p ρ', fi ρ = .ok p ρ' → p.2 = none ∨ p.2 = li) (hs : ∀ x, foldedSetIterable iter X.env x = pure x := by intro _; rfl) :
    VS X xa E kp (.For tg iter body [] pos) (fFor fi g fb) := (ps_for B.hp B.hc hi hg hb hs).imp fun D σ H ⟨Z, ρ, F, ok, q⟩ => by
  refine ⟨Z, ρ, F, ok, ?_⟩
  unfold fFor at q
  cases r : fi ρ with
  | bad => rw [r] at q; exact q
  | exc x ρ' =>
    rw [r] at q
    exact fun cls d H' Z' F' o xr a => q cls d σ H' Z' F' o xr a (Kept.refl _ _)
  | ok p ρ1 =>
    obtain ⟨its, lk⟩ := p
    rw [r, eS_ok] at q
    intro J H1 Z1 F1 L o1 W n1 sp1 hl a1
    have nb := fLoop_nbk (g := g) (fb := fb) its ρ1
    have hlk : ∀ i, lk = some i → i ∈ kp' := fun i e => by
      rcases h3 ρ _ _ r with z | z
      · rw [show lk = none from z] at e; cases e
      · exact h2 i (z.symm.trans e)
    have q1 : rS (cc X xa) E kp' Z1 H1 σ F1 (fLoop g fb its ρ1) D := rS.unl (kp' := kp') q nb.1 nb.2 a1 n1 sp1 hl h1 hlk
    obtain ⟨O, hO⟩ : ∃ O, fLoop g fb its ρ1 = O := ⟨_, rfl⟩
    rw [hO] at q1
    have oL : fLoop g fb (its.drop 0) ρ1 = O := hO
    have wL : ∀ p ∈ L, ∃ o, H1 p = some o := by
      cases lk with
      | none =>
        have e : L = [] := hl
        rw [e]
        exact fun _ z => nomatch z
      | some i =>
        obtain ⟨v, _, w⟩ := hl
        exact w.there
    have apart : ∀ p ∈ L, p ∉ F1 := fun p hp hq => (List.nodup_append.mp n1).2.2 p hp p hq rfl
    refine ⟨fun i m σ' H' => m = its.length - i ∧ i ≤ its.length ∧ ∃ Z' ρ' F', Ok (cc X xa) Z' H' σ' ρ' F' ∧ After Z1 H1 F1 Z' H' F' ∧ Kept kp' σ σ' ∧ fLoop g fb (its.drop i) ρ' = O,
      ⟨its.length, by simp, Nat.zero_le _, Z1, ρ1, F1, o1, After.refl _ _ _, Kept.refl _ _, oL⟩, ?_⟩
    rintro i m σ' H' ⟨rfl, hil, Z', ρ', F', o', a', k', e'⟩
    have keepL : ∀ p ∈ L, ∀ o, H1 p = some o → H' p = some o := fun p hp o ho => a'.keep p o ho (apart p hp)
    by_cases hlt : i < its.length
    · obtain ⟨go, yl⟩ := W.go i Z' H' hlt a'.same o'.same keepL
      refine .inr ⟨go, fun σ2 H2 => ∃ Z2 ρ2 F2, Ok (cc X xa) Z2 H2 σ2 ρ2 F2 ∧ After Z1 H1 F1 Z2 H2 F2 ∧ Kept kp' σ σ2 ∧ fLoop g fb (its.drop (i + 1)) ρ2 = O, fun σ2 H2 h => ⟨its.length - (i + 1), by omega, rfl, hlt, h⟩, fun x Hx y => ?_⟩
      obtain ⟨Zx, d, hd, s1, s2, s3, nz, rx⟩ := yl x Hx y
      have ed : its.drop i = d :: its.drop (i + 1) := by
        rw [List.drop_eq_getElem_cons hlt]
        have : its[i] = d := by
          have z := List.getElem?_eq_getElem hlt
          rw [z] at hd
          exact Option.some.inj hd
        rw [this]
      obtain ⟨ox, _, _, ax⟩ := o'.new (t := .sh d) (Ft := []) s1 s2 s3 nz (.sh rx) List.nodup_nil (fun _ z => nomatch z)
      rw [ed] at e'
      unfold fLoop at e'
      refine ⟨Zx, ρ', F', d, ox, rx, ?_⟩
      cases e1 : g d ρ' with
      | none =>
        rw [e1] at e'
        rw [← e'] at q1
        exact q1
      | some ρ2 =>
        rw [e1] at e'
        dsimp only at e'
        intro σ3 F3 o3 sub3 k3
        refine ⟨Zx, ρ2, F3, o3, ?_⟩
        have a3 : After Z1 H1 F1 Zx Hx F3 := (a'.trans ax).to sub3
        have kk3 : Kept kp' σ σ3 := k'.trans k3
        cases e2 : fb ρ2 with
        | bad =>
          rw [e2] at e'
          rw [← e'] at q1
          exact q1
        | nx ρ4 =>
          rw [e2] at e'
          exact fun σ4 H4 Z4 F4 o4 a4 k4 => ⟨Z4, ρ4, F4, o4, a3.trans a4, kk3.trans k4, e'⟩
        | ct ρ4 =>
          rw [e2] at e'
          exact fun σ4 H4 Z4 F4 o4 a4 k4 => ⟨Z4, ρ4, F4, o4, a3.trans a4, kk3.trans k4, e'⟩
        | bk ρ4 =>
          rw [e2] at e'
          rw [← e'] at q1
          exact fun σ4 H4 Z4 F4 o4 a4 k4 => q1 σ4 H4 Z4 F4 o4 (a3.trans a4) (kk3.trans k4)
        | rt t ρ4 =>
          rw [e2] at e'
          rw [← e'] at q1
          exact fun v σ4 H4 Z4 F4 Ft o4 w n sp a4 k4 => q1 v σ4 H4 Z4 F4 Ft o4 w n sp (a3.trans a4) (kk3.trans k4)
        | exc x ρ4 =>
          rw [e2] at e'
          rw [← e'] at q1
          exact fun cls dd σ4 H4 Z4 F4 o4 xr a4 k4 => q1 cls dd σ4 H4 Z4 F4 o4 xr (a3.trans a4) (kk3.trans k4)
    · have ei : i = its.length := by omega
      subst ei
      refine .inl ⟨W.stop Z' H' a'.same o'.same keepL, ?_⟩
      rw [List.drop_length] at e'
      unfold fLoop at e'
      rw [← e'] at q1
      exact q1 σ' H' Z' F' o' a' k'

/-! ### while -/
def fWhile (ft : Ev → Res Bool) (fb : Ev → Out) : Nat → Ev → Out
  | 0, _ => .bad
  | n + 1, ρ => eS (ft ρ) fun b ρ1 => if b = true then (match fb ρ1 with
      | .nx ρ2 => fWhile ft fb n ρ2
      | .ct ρ2 => fWhile ft fb n ρ2
      | .bk ρ2 => .nx ρ2
      | o => o) else .nx ρ1
theorem vs_while {k : Nat} {cnd : Expr} {body : List Stmt} {ft : Ev → Res Bool} {fb : Ev → Out} (B : Bd X E k) (n : Nat) (hc : VT X xa E pu cnd ft) (hb : VSs X xa E kp body fb) : VS X xa E kp (.While cnd body [] pos) (fWhile ft fb n) := (ps_while B.hp hc hb).imp fun D σ H ⟨Z, ρ, F, ok, q⟩ => by
  obtain ⟨O, hO⟩ : ∃ O, fWhile ft fb n ρ = O := ⟨_, rfl⟩
  rw [hO] at q
  refine ⟨fun m σ' H' => ∃ Z' ρ' F', Ok (cc X xa) Z' H' σ' ρ' F' ∧ After Z H F Z' H' F' ∧ Kept kp σ σ' ∧ fWhile ft fb m ρ' = O, ⟨n, Z, ρ, F, ok, After.refl _ _ _, Kept.refl _ _, hO⟩, ?_⟩
  rintro m σ' H' ⟨Z', ρ', F', o', a', k', e'⟩
  refine ⟨Z', ρ', F', o', ?_⟩
  cases m with
  | zero =>
    unfold fWhile at e'
    rw [← e'] at q
    exact q.elim
  | succ m =>
    unfold fWhile at e'
    cases e1 : ft ρ' with
    | bad =>
      rw [e1] at e'
      rw [← e'] at q
      exact q.elim
    | exc x ρ1 =>
      rw [e1] at e'
      rw [← e'] at q
      exact fun cls d H1 Z1 F1 o1 xr a1 => q cls d σ' H1 Z1 F1 o1 xr (a'.trans a1) k'
    | ok b ρ1 =>
      rw [e1, eS_ok] at e'
      intro H1 Z1 F1 o1 a1 _
      cases b with
      | false =>
        rw [if_neg Bool.false_ne_true] at e' ⊢
        rw [← e'] at q
        exact q σ' H1 Z1 F1 o1 (a'.trans a1) k'
      | true =>
        rw [if_pos rfl] at e' ⊢
        refine ⟨fun σ2 H2 => ∃ Z2 ρ2 F2, Ok (cc X xa) Z2 H2 σ2 ρ2 F2 ∧ After Z H F Z2 H2 F2 ∧ Kept kp σ σ2 ∧ fWhile ft fb m ρ2 = O, fun σ2 H2 h => ⟨m, Nat.lt_succ_self m, h⟩, Z1, ρ1, F1, o1, ?_⟩
        cases e2 : fb ρ1 with
        | bad =>
          rw [e2] at e'
          rw [← e'] at q
          exact q
        | nx ρ4 =>
          rw [e2] at e'
          exact fun σ4 H4 Z4 F4 o4 a4 k4 => ⟨Z4, ρ4, F4, o4, (a'.trans a1).trans a4, k'.trans k4, e'⟩
        | ct ρ4 =>
          rw [e2] at e'
          exact fun σ4 H4 Z4 F4 o4 a4 k4 => ⟨Z4, ρ4, F4, o4, (a'.trans a1).trans a4, k'.trans k4, e'⟩
        | bk ρ4 =>
          rw [e2] at e'
          rw [← e'] at q
          exact fun σ4 H4 Z4 F4 o4 a4 k4 => q σ4 H4 Z4 F4 o4 ((a'.trans a1).trans a4) (k'.trans k4)
        | rt t ρ4 =>
          rw [e2] at e'
          rw [← e'] at q
          exact fun v σ4 H4 Z4 F4 Ft o4 w n sp a4 k4 => q v σ4 H4 Z4 F4 Ft o4 w n sp ((a'.trans a1).trans a4) (k'.trans k4)
        | exc x ρ4 =>
          rw [e2] at e'
          rw [← e'] at q
          exact fun cls dd σ4 H4 Z4 F4 o4 xr a4 k4 => q cls dd σ4 H4 Z4 F4 o4 xr ((a'.trans a1).trans a4) (k'.trans k4)
end
end VL

end

section
set_option Elab.async false
set_option linter.all false
set_option maxRecDepth 100000
set_option maxHeartbeats 1000000
namespace VL
open PySem PySem.Spec PyProof.Rows L2

/-! ### list comprehensions -/
def clr : List Nat → Ev → Ev
  | [], ρ => ρ
  | v :: vs, ρ => (clr vs ρ).set v .mv
def rst (ρ1 : Ev) : List Nat → Ev → Ev
  | [], ρ => ρ
  | v :: vs, ρ => match ρ1[v]? with
    | some (.sh d) => (rst ρ1 vs ρ).set v (.sh d)
    | _ => rst ρ1 vs ρ
def fComp1 (vs : List Nat) (g : D → Ev → Option Ev) (ft : Ev → Res Bool) (fe : Ev → Res OT) : List D → Ev → List D → Res (List D)
  | [], ρ, acc => .ok acc ρ
  | d :: ds, ρ, acc => match g d ρ with
    | none => .bad
    | some ρ2 => match ft ρ2 with
      | .ok true ρ3 => (match fe ρ3 with
        | .ok t ρ4 => fComp1 vs g ft fe ds (clr vs ρ4) (acc ++ [t.d])
        | _ => .bad)
      | .ok false ρ3 => fComp1 vs g ft fe ds (clr vs ρ3) acc
      | _ => .bad
def unlk (lk : Option Nat) (ds : List D) (ρ : Ev) : Ev :=
  match lk with
  | none => ρ
  | some i => ρ.set i (.lst (ds.map .sh))
@[simp] theorem unlk_none (ds : List D) (ρ : Ev) : unlk none ds ρ = ρ := rfl
def fComp (vs : List Nat) (fi : Ev → Res Its') (g : D → Ev → Option Ev) (ft : Ev → Res Bool) (fe : Ev → Res OT) : Ev → Res OT := fun ρ => (fi ρ).bind fun p ρ1 =>
  if p.1.length ≤ 1000000 then (fComp1 vs g ft fe p.1 (clr vs ρ1) []).bind fun ds ρ2 => .ok (.lst (ds.map .sh)) (unlk p.2 p.1 (rst ρ1 vs ρ2)) else .bad
def fYes : Ev → Res Bool := fun ρ => .ok true ρ

section
variable {c : VC} {Z H : Hp}
theorem OwnS.clr {σ : St} {ρ : Ev} {F : List Addr} (h : OwnS c Z H σ ρ F) (n : F.Nodup) : ∀ vs : List Nat, ∃ F', OwnS c Z H (wipe σ vs) (clr vs ρ) F' ∧ F'.Nodup ∧ ∀ p ∈ F', p ∈ F
  | [] => ⟨F, h, n, fun _ z => z⟩
  | v :: vs => by
    obtain ⟨F', a, b, k⟩ := OwnS.clr h n vs
    obtain ⟨Fx, G, a2, p2⟩ := a.drop v
    have n2 := (p2.nodup_iff).mp b
    refine ⟨G, ?_, (List.nodup_append.mp n2).2.1, fun q hq => k q (p2.mem_iff.mpr (List.mem_append_right _ hq))⟩
    show OwnS c Z H ((wipe σ vs).set v none) ((VL.clr vs ρ).set v .mv) G
    by_cases hv : v < (VL.clr vs ρ).length
    · exact a2.anyAt none (by rw [List.getElem?_set_self hv])
    · have e : (wipe σ vs).set v none = wipe σ vs := List.set_eq_of_length_le (by rw [a.length]; omega)
      rw [e]
      exact a2
theorem clr_at : ∀ (vs : List Nat) (ρ : Ev) (v : Nat), v ∈ vs → v < (clr vs ρ).length → (clr vs ρ)[v]? = some .mv
  | [], _, _, h, _ => by simp at h
  | w :: vs, ρ, v, h, hl => by
    have hl' : v < (clr vs ρ).length := by simpa [clr] using hl
    by_cases e : w = v
    · subst e
      show ((clr vs ρ).set w .mv)[w]? = _
      rw [List.getElem?_set_self hl']
    · show ((clr vs ρ).set w .mv)[v]? = _
      rw [List.getElem?_set_ne e]
      exact clr_at vs ρ v ((List.mem_cons.mp h).resolve_left (fun z => e z.symm)) hl'
theorem OwnS.unwipe {σ : St} {ρ : Ev} {F : List Addr} : ∀ vs : List Nat, (∀ v ∈ vs, v < ρ.length → ρ[v]? = some .mv) → OwnS c Z H (wipe σ vs) ρ F → OwnS c Z H σ ρ F
  | [], _, h => h
  | v :: vs, hm, h => by
    refine OwnS.unwipe vs (fun w hw => hm w (List.mem_cons_of_mem _ hw)) ?_
    have h' : OwnS c Z H ((wipe σ vs).set v none) ρ F := h
    have hl : ((wipe σ vs).set v none).length = ρ.length := h'.length
    rw [List.length_set] at hl
    by_cases hv : v < ρ.length
    · have hv2 : v < (wipe σ vs).length := by omega
      have k := h'.anyAt ((wipe σ vs)[v]) (hm v (by simp) hv)
      rw [List.set_set, List.set_getElem_self] at k
      exact k
    · have e : (wipe σ vs).set v none = wipe σ vs := List.set_eq_of_length_le (by omega)
      rw [e] at h'
      exact h'
theorem OwnS.rst {σ : St} {ρ ρ1 : Ev} {F : List Addr} (h : OwnS c Z H σ ρ F) (n : F.Nodup) : ∀ vs : List Nat, (∀ v ∈ vs, ∀ d, ρ1[v]? = some (.sh d) → ∃ u, σ[v]? = some (some u) ∧ Rp c Z u d) → ∃ F', OwnS c Z H σ (rst ρ1 vs ρ) F' ∧ F'.Nodup ∧ ∀ p ∈ F', p ∈ F
  | [], _ => ⟨F, h, n, fun _ z => z⟩
  | v :: vs, hm => by
    obtain ⟨F', a, b, k⟩ := OwnS.rst h n vs fun w hw => hm w (List.mem_cons_of_mem _ hw)
    unfold VL.rst
    split
    · rename_i d hd
      obtain ⟨u, hu, r⟩ := hm v (by simp) d hd
      obtain ⟨F2, a2, b2, k2⟩ := OwnS.assign (t := .sh d) v a (.sh r) b
      rw [set_self hu] at a2
      exact ⟨F2, a2, b2, fun p hp => k p ((k2 p hp).resolve_left (fun z => nomatch z))⟩
    · exact ⟨F', a, b, k⟩
theorem OwnS.shAt {σ : St} {ρ : Ev} {F : List Addr} {i : Nat} {d : D} (h : OwnS c Z H σ ρ F) (e : ρ[i]? = some (.sh d)) : ∃ u, σ[i]? = some (some u) ∧ Rp c Z u d := by
  obtain ⟨v, Ft, G, hv, w, _⟩ := h.takeOut e (fun z => nomatch z)
  cases w with
  | sh w => exact ⟨v, hv, w⟩
theorem wipe_eq {σ σ2 : St} (hl : σ2.length = σ.length) : ∀ (vs : List Nat), (∀ i, i ∉ vs → σ2[i]? = σ[i]?) → wipe σ2 vs = wipe σ vs := fun vs h => by
  apply List.ext_getElem?
  intro j
  by_cases hj : j ∈ vs
  · have at_ : ∀ (τ : St) (ws : List Nat), j ∈ ws → j < τ.length → (wipe τ ws)[j]? = some none := fun τ ws => by
      induction ws with
      | nil => intro z; simp at z
      | cons w ws ih =>
        intro z hz
        unfold wipe
        by_cases e : w = j
        · subst e
          rw [List.getElem?_set_self (by rw [wipe_length]; exact hz)]
        · rw [List.getElem?_set_ne e]
          exact ih ((List.mem_cons.mp z).resolve_left (fun q => e q.symm)) hz
    by_cases hz : j < σ.length
    · rw [at_ σ2 vs hj (by omega), at_ σ vs hj hz]
    · rw [List.getElem?_eq_none (by rw [wipe_length]; omega), List.getElem?_eq_none (by rw [wipe_length]; omega)]
  · rw [wipe_out hj, wipe_out hj]
    exact h j hj
end

section
variable {X : Cx} {xa : Str → Option Addr} {E : XS} {pu : Bool} {tg e : Expr} {pos : Pos}
abbrev EN : XS := fun _ _ _ _ => False
/-- the context of a comprehension's block -/
abbrev bx (X : Cx) (scope : Scope) (s : Shared) (H : Hp) (C : Addr) (cl : List (Str × Addr)) (fp : List Addr) : Cx := X.blk s H scope (compEnvC scope cl C X.env) fp
abbrev VTs (X : Cx) (xa : Str → Option Addr) (E : XS) (pu : Bool) (es : List Expr) (f : Ev → Res Bool) : Prop := PTs X es (tT (cc X xa) E pu f)
theorem vts_nil : VTs X xa E true [] fYes := ⟨fun pins s σ H Q I ⟨Z, ρ, F, ok, q⟩ => pts_nil.run pins s σ H Q I (q H Z F ok (After.refl _ _ _) fun _ => ⟨Same.refl _, rfl⟩)⟩
theorem vts_one {c : Expr} {f : Ev → Res Bool} (h : VT X xa E pu c f) : VTs X xa E pu [c] f := pts_one h

theorem tLc_ok {fi : Ev → Res Its'} {g : D → Ev → Option Ev} {ft : Ev → Res Bool} {fe : Ev → Res OT} {vs kp : List Nat} {p1 p2 : Bool} {σ : St} {H : Hp} {Q : VK} {c : VC} (hk : ∀ i, i ∉ vs → i < σ.length → i ∈ kp)
    (q : tV c E false (fComp vs fi g ft fe) σ H Q) : tLc (tI c E fi) (tG c kp g) (tT c EN p1 ft) (tV c EN p2 fe) vs σ H Q := by
  obtain ⟨Z, ρ, F, ok, q⟩ := q
  refine ⟨Z, ρ, F, ok, ?_⟩
  unfold fComp at q
  cases r : fi ρ with
  | bad => rw [r] at q; exact q
  | exc x ρ' => rw [r] at q; exact q
  | ok p ρ1 =>
    obtain ⟨its, lk⟩ := p
    rw [r, Res.bind_ok] at q
    dsimp only at q
    by_cases hsz : its.length ≤ 1000000
    · rw [if_pos hsz] at q
      intro J H1 Z1 F1 L o1 W n1 sp1 hl a1 D hD
      obtain ⟨Fc, c1, c2, c3⟩ := OwnS.clr o1.own o1.nd vs
      have wL : ∀ p ∈ L, ∃ o, H1 p = some o := by
        cases lk with
        | none =>
          have e : L = [] := hl
          rw [e]
          exact fun _ z => nomatch z
        | some i =>
          obtain ⟨v, _, w⟩ := hl
          exact w.there
      have apart : ∀ p ∈ L, p ∉ F1 := fun p hp hq => (List.nodup_append.mp n1).2.2 p hp p hq rfl
      have DF : D ∉ F1 := fun z => by
        obtain ⟨o, ho⟩ := o1.own.there D z
        rw [hD] at ho; cases ho
      have DL : D ∉ L := fun z => by
        obtain ⟨o, ho⟩ := wL D z
        rw [hD] at ho; cases ho
      have ZD : Z1 D = none := o1.same.free hD
      obtain ⟨O, hO⟩ : ∃ O, fComp1 vs g ft fe its (clr vs ρ1) [] = O := ⟨_, rfl⟩
      rw [hO] at q
      refine ⟨fun i m H' => m = its.length - i ∧ i ≤ its.length ∧ ∃ Z' ρ0 F' xs ds, Ok c Z' H' (wipe σ vs) (clr vs ρ0) F' ∧ H' D = some (.lst xs) ∧ D ∉ F' ∧ Z' D = none ∧ RpL c Z' xs ds ∧ ds.length ≤ i ∧
        After Z1 (upd H1 D (.lst [])) (D :: F1) Z' H' (D :: F') ∧ fComp1 vs g ft fe (its.drop i) (clr vs ρ0) ds = O,
        ⟨its.length, by simp, Nat.zero_le _, Z1, ρ1, Fc, [], [], ⟨o1.same.trans (same_upd hD), c1.frame (Same.refl _) fun p _ o e => same_upd hD p o e, c2, fun p hp => o1.sep p (c3 p hp)⟩, upd_same, fun z => DF (c3 D z), ZD, .nil, Nat.le_refl _,
          ⟨Same.refl _, fun p o e _ => e, fun p hp => ?_, fun p hp => .inl hp⟩, hO⟩, ?_⟩
      · rcases List.mem_cons.mp hp with z | z
        · exact .inl (by rw [z]; simp)
        · exact .inl (List.mem_cons_of_mem _ (c3 p z))
      rintro i m H' ⟨rfl, hil, Z', ρ0, F', xs, ds, o', hx, dF, zD, rx, ln, a', e'⟩
      have keepL : ∀ p ∈ L, ∀ o, H1 p = some o → H' p = some o := fun p hp o ho => a'.keep p o (by
          have ne : p ≠ D := fun z => DL (by rw [← z]; exact hp)
          rw [upd_ne ne]
          exact ho) fun z => by
        rcases List.mem_cons.mp z with y | y
        · exact DL (y ▸ hp)
        · exact apart p hp y
      by_cases hlt : i < its.length
      · obtain ⟨go, yl⟩ := W.go i Z' H' hlt a'.same o'.same keepL
        refine .inr ⟨go, fun H2 => ∃ Z2 ρ2 F2 xs2 ds2, Ok c Z2 H2 (wipe σ vs) (clr vs ρ2) F2 ∧ H2 D = some (.lst xs2) ∧ D ∉ F2 ∧ Z2 D = none ∧ RpL c Z2 xs2 ds2 ∧ ds2.length ≤ i + 1 ∧
          After Z1 (upd H1 D (.lst [])) (D :: F1) Z2 H2 (D :: F2) ∧ fComp1 vs g ft fe (its.drop (i + 1)) (clr vs ρ2) ds2 = O, fun H2 h => ⟨its.length - (i + 1), by omega, rfl, hlt, h⟩, fun x Hx y => ?_⟩
        obtain ⟨Zx, d, hd, s1, s2, s3, nz, rx2⟩ := yl x Hx y
        have ed : its.drop i = d :: its.drop (i + 1) := by
          rw [List.drop_eq_getElem_cons hlt]
          have : its[i] = d := by
            have z := List.getElem?_eq_getElem hlt
            rw [z] at hd
            exact Option.some.inj hd
          rw [this]
        obtain ⟨ox, _, _, ax⟩ := o'.new (t := .sh d) (Ft := []) s1 s2 s3 nz (.sh rx2) List.nodup_nil (fun _ z => nomatch z)
        have ax' : After Z' H' F' Zx Hx F' := ax
        have zxD : Zx D = none := by
          cases e : Zx D with
          | none => rfl
          | some o =>
            rcases nz D (by rw [e]; exact fun q => nomatch q) with z | z
            · exact absurd zD z
            · rw [hx] at z; cases z
        rw [ed] at e'
        unfold fComp1 at e'
        refine ⟨Zx, clr vs ρ0, F', d, ox, rx2, ?_⟩
        cases e1 : g d (clr vs ρ0) with
        | none =>
          rw [e1] at e'
          rw [← e'] at q
          exact q
        | some ρ2 =>
          rw [e1] at e'
          dsimp only at e'
          intro σ3 F3 o3 sub3 k3
          have wq : wipe σ3 vs = wipe σ vs := by
            have e2 := wipe_eq (σ := wipe σ vs) (σ2 := σ3) k3.1 vs fun j hj => by
              by_cases hjl : j < σ.length
              · exact k3.2 j (hk j hj hjl)
              · rw [List.getElem?_eq_none (by rw [k3.1, wipe_length]; omega), List.getElem?_eq_none (by rw [wipe_length]; omega)]
            rw [e2]
            -- wipe is idempotent
            refine wipe_eq (wipe_length _ _) vs fun j hj => wipe_out hj
          refine ⟨wq, Zx, ρ2, F3, o3, ?_⟩
          cases e2 : ft ρ2 with
          | bad =>
            rw [e2] at e'
            rw [← e'] at q
            exact q.elim
          | exc x ρ3 =>
            rw [e2] at e'
            rw [← e'] at q
            exact q.elim
          | ok b ρ3 =>
            rw [e2] at e'
            intro H4 Z4 F4 o4 a4 _
            have a4' : After Z' H' F' Z4 H4 F4 := (ax'.to sub3).trans a4
            have zD4 : Z4 D = none ∧ D ∉ F4 := by
              obtain ⟨u1, u2⟩ := a4'.sepF (G := [D]) (fun p hp => by rw [List.mem_singleton.mp hp]; exact ⟨_, hx⟩) (fun p hp => by rw [List.mem_singleton.mp hp]; exact dF) (fun p hp => by rw [List.mem_singleton.mp hp]; exact zD)
              exact ⟨u1 D (by simp), u2 D (by simp)⟩
            have hx4 : H4 D = some (.lst xs) := a4'.keep D _ hx dF
            cases b with
            | false =>
              rw [if_neg Bool.false_ne_true]
              dsimp only at e'
              obtain ⟨F5, d1, d2, d3⟩ := OwnS.clr o4.own o4.nd vs
              rw [wq] at d1
              refine ⟨Z4, ρ3, F5, xs, ds, ⟨o4.same, d1, d2, fun p hp => o4.sep p (d3 p hp)⟩, hx4, fun z => zD4.2 (d3 D z), zD4.1, rx.mono a4'.same, by omega, ?_, e'⟩
              refine a'.trans (a4'.widen (fun p hp => List.mem_cons_of_mem _ hp) fun p hp => ?_)
              rcases List.mem_cons.mp hp with z | z
              · exact .inl (by rw [z]; simp)
              · exact .inr (d3 p z)
            | true =>
              rw [if_pos rfl]
              dsimp only at e'
              refine ⟨Z4, ρ3, F4, o4, ?_⟩
              cases e3 : fe ρ3 with
              | bad =>
                rw [e3] at e'
                rw [← e'] at q
                exact q
              | exc x ρ3 =>
                rw [e3] at e'
                rw [← e'] at q
                exact q.elim
              | ok t ρ4 =>
                rw [e3] at e'
                dsimp only at e'
                intro yv H5 Z5 F5 Ft o5 w5 n5 sp5 a5 _
                obtain ⟨o6, r6, a6⟩ := o5.frozen w5 n5 sp5
                have a7 : After Z' H' F' (frz Z5 H5 Ft) H5 F5 := a4'.trans (a6 a5)
                obtain ⟨u1, u2⟩ := a7.sepF (G := [D]) (fun p hp => by rw [List.mem_singleton.mp hp]; exact ⟨_, hx⟩) (fun p hp => by rw [List.mem_singleton.mp hp]; exact dF) (fun p hp => by rw [List.mem_singleton.mp hp]; exact zD)
                have zD5 := u1 D (by simp)
                have dF5 := u2 D (by simp)
                have hx5 : H5 D = some (.lst xs) := a7.keep D _ hx dF
                have rx5 := rx.mono a7.same
                refine ⟨xs, hx5, ?_, ?_⟩
                · rw [rx.length, sizeLine_eq]
                  omega
                obtain ⟨F8, d1, d2, d3⟩ := OwnS.clr o6.own o6.nd vs
                rw [wq] at d1
                have ne : ∀ p ∈ F8, p ≠ D := fun p hp z => dF5 (z ▸ d3 p hp)
                refine ⟨frz Z5 H5 Ft, ρ4, F8, xs ++ [yv], ds ++ [t.d], ⟨fun p o hp => ?_, d1.frame (Same.refl _) fun p hp o ho => by rw [upd_ne (ne p hp)]; exact ho, d2, fun p hp => o6.sep p (d3 p hp)⟩, upd_same, fun z => dF5 (d3 D z), zD5,
                  rx5.append (.cons r6 .nil), by rw [List.length_append, List.length_singleton]; omega, ?_, e'⟩
                · rw [upd_ne (fun z => by rw [z, zD5] at hp; cases hp)]
                  exact o6.same p o hp
                · refine a'.trans ⟨a7.same, fun p o hp n => ?_, fun p hp => ?_, fun p hp => ?_⟩
                  · rw [upd_ne (fun z => n (by rw [z]; simp))]
                    exact a7.keep p o hp fun z => n (List.mem_cons_of_mem _ z)
                  · rcases List.mem_cons.mp hp with z | z
                    · exact .inl (by rw [z]; simp)
                    · exact (a7.foot p (d3 p z)).imp (List.mem_cons_of_mem _) id
                  · exact (a7.newZ p hp).imp id fun z => z.imp (List.mem_cons_of_mem _) id
      · have ei : i = its.length := by omega
        subst ei
        refine .inl ⟨W.stop Z' H' a'.same o'.same keepL, ?_⟩
        rw [List.drop_length] at e'
        unfold fComp1 at e'
        rw [← e', Res.bind_ok] at q
        -- the slots as they were
        have u1 := OwnS.unwipe vs (fun v hv hl => clr_at vs ρ0 v hv hl) o'.own
        obtain ⟨F2, b1, b2, b3⟩ := OwnS.rst (ρ1 := ρ1) u1 o'.nd vs fun v hv d hd => by
          obtain ⟨u, hu, ru⟩ := o1.own.shAt hd
          exact ⟨u, hu, ru.mono a'.same⟩
        have o2 : Ok c Z' H' σ (rst ρ1 vs (clr vs ρ0)) F2 := ⟨o'.same, b1, b2, fun p hp => o'.sep p (b3 p hp)⟩
        have aD : After Z H F Z' H' (D :: (L ++ F2)) := by
          have e1 : After Z1 H1 F1 Z1 (upd H1 D (.lst [])) (D :: F1) := ⟨Same.refl _, fun p o e _ => same_upd hD p o e, fun p hp => by
            rcases List.mem_cons.mp hp with z | z
            · exact .inr (by rw [z]; exact hD)
            · exact .inl z, fun p hp => .inl hp⟩
          have e2 := e1.trans a'
          exact a1.trans (e2.widen (fun p hp => List.mem_append_right _ hp) fun p hp => by
            rcases List.mem_cons.mp hp with z | z
            · exact .inr (by rw [z]; simp)
            · rcases List.mem_append.mp z with y | y
              · exact .inl (List.mem_append_left _ y)
              · exact .inr (List.mem_cons_of_mem _ (b3 p y)))
        have wD : Own c Z' H' (.ref D) (.lst (ds.map .sh)) [D] := .lst hx (OwnL.of_rp rx)
        have dF2 : D ∉ F2 := fun z => dF (b3 D z)
        cases lk with
        | none =>
          have e : L = [] := hl
          subst e
          exact q (.ref D) H' Z' F2 [D] o2 wD (List.nodup_cons.mpr ⟨dF2, o2.nd⟩) (fun p hp => by rw [List.mem_singleton.mp hp]; exact zD) aD fun z => nomatch z
        | some j =>
          obtain ⟨v, hv, w⟩ := hl
          have e1 : After Z1 H1 F1 Z' H' (D :: F') := ⟨a'.same, fun p o e n => a'.keep p o (same_upd hD p o e) fun z => (List.mem_cons.mp z).elim (fun y => by rw [y, hD] at e; cases e) n, fun p hp => by
            rcases a'.foot p hp with z | z
            · rcases List.mem_cons.mp z with y | y
              · exact .inr (by rw [y]; exact hD)
              · exact .inl y
            · by_cases y : p = D
              · exact .inr (by rw [y]; exact hD)
              · rw [upd_ne y] at z
                exact .inr z, fun p hp => by
            rcases a'.newZ p hp with z | z | z
            · exact .inl z
            · rcases List.mem_cons.mp z with y | y
              · exact .inr (.inr (by rw [y]; exact hD))
              · exact .inr (.inl y)
            · by_cases y : p = D
              · exact .inr (.inr (by rw [y]; exact hD))
              · rw [upd_ne y] at z
                exact .inr (.inr z)⟩
          obtain ⟨t1, t2⟩ := e1.sepF w.there apart sp1
          have w' := e1.frame w apart
          have nL := (List.nodup_append.mp n1).1
          obtain ⟨F3, o3, s3⟩ := o2.unlock hv w' (List.nodup_append.mpr ⟨nL, b2, fun p hp r hr e => t2 p hp (List.mem_cons_of_mem _ (b3 p (e ▸ hr)) |> fun z => z)⟩) t1
          refine q (.ref D) H' Z' F3 [D] o3 wD (List.nodup_cons.mpr ⟨fun z => ?_, o3.nd⟩) (fun p hp => by rw [List.mem_singleton.mp hp]; exact zD) (aD.to fun p hp => ?_) fun z => nomatch z
          · rcases List.mem_append.mp (s3 D z) with y | y
            · exact DL y
            · exact dF2 y
          · rcases List.mem_cons.mp (show p ∈ D :: F3 from hp) with z | z
            · rw [z]; simp
            · exact List.mem_cons_of_mem _ (s3 p z)
    · rw [if_neg hsz] at q
      exact q.elim
theorem ve_lc {iter elt : Expr} {ifs : List Expr} {scope : Scope} {own : List (Str × Nat)} {kp : List Nat} {fi : Ev → Res Its'} {g : D → Ev → Option Ev} {ft : Ev → Res Bool} {fe : Ev → Res OT} {p1 p2 : Bool} (hc : X.calm = true) (hN : X.N.Nodup) (hi : VI X xa E tg iter fi) (ok : BlkOk X.N X.env.scope scope own)
    (hk : ∀ i, i ∉ own.map (·.2) → i < X.N.length → i ∈ kp)
    (hg : ∀ (s : Shared) (H : Hp) (C : Addr) (cl : List (Str × Addr)) (fp : List Addr), VG (bx X scope s H C cl fp) xa kp tg g)
    (ht : ∀ (s : Shared) (H : Hp) (C : Addr) (cl : List (Str × Addr)) (fp : List Addr), VTs (bx X scope s H C cl fp) xa EN p1 ifs ft)
    (he : ∀ (s : Shared) (H : Hp) (C : Addr) (cl : List (Str × Addr)) (fp : List Addr), VE (bx X scope s H C cl fp) xa EN p2 elt fe) (hs : ∀ x, foldedSetIterable iter X.env x = pure x := by intro _; rfl) :
    VE X xa E false (.ListComp elt [⟨tg, iter, ifs, 0⟩] scope pos) (fComp (own.map (·.2)) fi g ft fe) :=
  ⟨fun pins s σ H Q I q => (pe_lc hc hN hi ok hg ht he hs).run pins s σ H Q I (tLc_ok (fun i h1 h2 => hk i h1 (by rw [← I.len]; exact h2)) q)⟩
/-- y = [..] -/
theorem vs_setLc {i : Nat} {y : Str} {py spos : Pos} {iter elt : Expr} {ifs : List Expr} {scope : Scope} {own : List (Str × Nat)} {kp kp0 : List Nat} {fi : Ev → Res Its'} {g : D → Ev → Option Ev} {ft : Ev → Res Bool} {fe : Ev → Res OT} {p1 p2 : Bool} (hc : X.calm = true) (hN : X.N.Nodup) (hy : X.N[i]? = some y) (hyl : X.env.scope.names.lookup y = some .local) (hk0 : i ∉ kp0)
    (hsw : swapsWith (.ListComp elt [⟨tg, iter, ifs, 0⟩] scope pos) (some (.Name y py)) spos.line X.env = pure true) (hi : VI X xa E tg iter fi) (ok : BlkOk X.N X.env.scope scope own)
    (hk : ∀ i, i ∉ own.map (·.2) → i < X.N.length → i ∈ kp)
    (hg : ∀ (s : Shared) (H : Hp) (C : Addr) (cl : List (Str × Addr)) (fp : List Addr), VG (bx X scope s H C cl fp) xa kp tg g)
    (ht : ∀ (s : Shared) (H : Hp) (C : Addr) (cl : List (Str × Addr)) (fp : List Addr), VTs (bx X scope s H C cl fp) xa EN p1 ifs ft)
    (he : ∀ (s : Shared) (H : Hp) (C : Addr) (cl : List (Str × Addr)) (fp : List Addr), VE (bx X scope s H C cl fp) xa EN p2 elt fe) (hs : ∀ x, foldedSetIterable iter X.env x = pure x := by intro _; rfl) :
    VS X xa E kp0 (.Assign [.Name y py] (.ListComp elt [⟨tg, iter, ifs, 0⟩] scope pos) spos) (fSet i (fComp (own.map (·.2)) fi g ft fe)) :=
  ⟨fun pins s σ H D I ⟨Z, ρ, F, ok0, q⟩ => (ps_setLc hc hN hy hyl hsw hi ok hg ht he hs).run pins s σ H D I (tLc_ok (fun i h1 h2 => hk i h1 (by rw [← I.len]; exact h2)) ⟨Z, ρ, F, ok0, rV_of q fun t ρ' v H' Z' F' Ft o w n sp a q => by
    obtain ⟨F2, o2, s2⟩ := o.assign i w n sp
    exact q _ H' Z' F2 o2 (a.to s2) (kept_set hk0)⟩)⟩
end
end VL

end

section
set_option Elab.async false
set_option linter.all false
set_option maxRecDepth 100000
set_option maxHeartbeats 1000000
namespace VL
open PySem PySem.Spec PyProof.Rows L2

/-! ### reading -/
def lItems : OT → Option (List D)
  | .sh (.list l) => some l
  | .lst ts => shs ts
  | _ => none
def tItems : OT → Option (List D)
  | .sh (.tuple l) => some l
  | _ => none
def qItems : OT → Option (List D)
  | .sh (.tuple l) => some l
  | .sh (.list l) => some l
  | .lst ts => shs ts
  | _ => none
section
variable {c : VC} {Z H : Hp}
theorem lst_read {v : V} {t : OT} {F : List Addr} {ds : List D} (s : Same Z H) (w : Own c Z H v t F) (e : lItems t = some ds) : ∃ a xs, v = .ref a ∧ SqL c.K H a xs ∧ RpL c Z xs ds := by
  cases w with
  | sh r =>
    cases r with
    | @lst a xs _ h l => cases e; exact ⟨a, xs, rfl, s.seq h, l⟩
    | _ => cases e
  | @lst p xs ts F h l =>
    have e1 := shs_eq (show shs ts = some ds from e)
    subst e1
    exact ⟨p, xs, rfl, SqL.of h, l.shs.1⟩
  | dct => cases e
theorem tup_read {v : V} {t : OT} {F : List Addr} {ds : List D} (s : Same Z H) (w : Own c Z H v t F) (e : tItems t = some ds) : ∃ a xs, v = .ref a ∧ SqT c.K H a xs ∧ RpL c Z xs ds ∧ t = .sh (.tuple ds) ∧ Rp c Z v (.tuple ds) := by
  cases w with
  | sh r =>
    cases r with
    | @tup a xs _ h l k => cases e; exact ⟨a, xs, rfl, SqT.mono s h, l, rfl, .tup h l k⟩
    | _ => cases e
  | lst => cases e
  | dct => cases e
theorem q_read {v : V} {t : OT} {F : List Addr} {ds : List D} (s : Same Z H) (w : Own c Z H v t F) (e : qItems t = some ds) : ∃ a xs, v = .ref a ∧ (SqL c.K H a xs ∨ SqT c.K H a xs) ∧ RpL c Z xs ds := by
  cases w with
  | sh r =>
    cases r with
    | @lst a xs _ h l => cases e; exact ⟨a, xs, rfl, .inl (s.seq h), l⟩
    | @tup a xs _ h l _ => cases e; exact ⟨a, xs, rfl, .inr (SqT.mono s h), l⟩
    | _ => cases e
  | @lst p xs ts F h l =>
    have e1 := shs_eq (show shs ts = some ds from e)
    subst e1
    exact ⟨p, xs, rfl, .inl (SqL.of h), l.shs.1⟩
  | dct => cases e
theorem int_read {v : V} {F : List Addr} {i : Int} (w : Own c Z H v (.sh (.int i)) F) : v = .int i := by
  cases w with
  | sh r => cases r; rfl
theorem str_read {v : V} {F : List Addr} {i : Str} (w : Own c Z H v (.sh (.str i)) F) : v = .str i := by
  cases w with
  | sh r => cases r; rfl
theorem bool_read {v : V} {F : List Addr} {i : Bool} (w : Own c Z H v (.sh (.bool i)) F) : v = .bl i := by
  cases w with
  | sh r => cases r; rfl
theorem NewR.int {i : Int} {Q : VK} (s : Same Z H) (n : NewR c Z H (.sh (.int i)) Q) : Q (.int i) H := n.now s (.int i)
theorem NewR.str {i : Str} {Q : VK} (s : Same Z H) (n : NewR c Z H (.sh (.str i)) Q) : Q (.str i) H := n.now s (.str i)
theorem NewR.bool {i : Bool} {Q : VK} (s : Same Z H) (n : NewR c Z H (.sh (.bool i)) Q) : Q (.bl i) H := n.now s (.bl i)
end

/-! ### + -/
/-- two tuples: an empty one gives the other one itself -/
def rCatF (K : PySem.W.Frag) : R2 := fun x y H Q => ∃ a b xs ys, x = .ref a ∧ y = .ref b ∧ SqT K H a xs ∧ SqT K H b ys ∧ xs.length + ys.length ≤ sizeLine ∧
  (xs = [] → Q (.ref b) H) ∧ (xs ≠ [] → ys = [] → Q (.ref a) H) ∧ (xs ≠ [] → ys ≠ [] → ∀ p o, H p = none → o.dict = none → Q (.ref p) (upd H p (.frz o (.tup (xs ++ ys)))))
theorem op_catF {X : Cx} : OpR X (binaryOp .Add) (rCatF X.K) := by
  intro pins s σ H x y v u Q I rx ry ⟨a, b, xs, ys, ex, ey, sa, sb, hz, q0, q1, q2⟩
  subst ex ey
  cases rx
  cases ry
  obtain ⟨i1, v1, t1, _⟩ := I.tuple sa
  obtain ⟨i2, v2, t2, _⟩ := I.tuple sb
  by_cases hx : xs = []
  · cases hx
    cases v1
    exact cat_tup0 t1 t2 ⟨.ref b, H, I, rfl, q0 rfl⟩
  · refine HT.cat_tup t1 t2 (mt v1.nil_iff.mp hx) (fun z => ⟨.ref a, H, I, rfl, q1 hx (v2.nil_iff.mp z)⟩) (fun z => ?_) (v1.length ▸ v2.length ▸ hz)
    have new : (s.heap.push { cls := .type "tuple", data := .seq (i1 ++ i2).toArray }).get? s.heap.objs.size = some { cls := .type "tuple", data := .seq (i1 ++ i2).toArray } := Heap.get?_push_size _ rfl
    exact ⟨.ref s.heap.objs.size, upd H s.heap.objs.size (.frz { cls := .type "tuple", data := .seq (i1 ++ i2).toArray } (.tup (xs ++ ys))),
      I.laid (t' := s.toks) (fun b u e => Heap.get?_push_of_some _ e) (Nat.le_refl _) ⟨new, by rw [List.length_append]; exact hz, _, v1.append v2, _, new, rfl, _, rfl⟩,
      rfl, q2 hx (mt v2.nil_iff.mpr z) _ _ (I.hok.fresh (Nat.le_refl _)) rfl⟩
def rCatR (K : PySem.W.Frag) : R2 := fun x y H Q => ∃ l b xs zs, x = .ref l ∧ y = .ref b ∧ SqL K H l xs ∧ SqL K H b zs ∧ xs.length + zs.length ≤ sizeLine ∧ ∀ p, H p = none → Q (.ref p) (upd H p (.lst (xs ++ zs)))
theorem op_catR {X : Cx} : OpR X (binaryOp .Add) (rCatR X.K) := by
  intro pins s σ H x y v u Q I rx ry h
  obtain ⟨l, b, xs, zs, rfl, rfl, hH, hB, hz, q⟩ := h
  cases rx
  cases ry
  obtain ⟨its, r, p1, z⟩ := I.list hH
  obtain ⟨its2, r2, p2, z2⟩ := I.list hB
  have hl := r.length
  have hl2 := r2.length
  obtain ⟨⟨cls, dd, data, sl⟩, ho, hc, n, hd⟩ := p1.isList
  obtain ⟨⟨cls2, dd2, data2, sl2⟩, ho2, hc2, n2, hd2⟩ := p2.isList
  simp only at hc hd hc2 hd2
  subst hc hd hc2 hd2
  refine concat_meets ⟨_, ho, rfl⟩ ⟨_, ho2, rfl⟩ noFill_list_add seq_list_add PySem.F.slot_list_add PySem.F.entry_list_add (PySem.F.args_list_add_2 _ _) (list_addW l b its.toArray its2.toArray n n2 dd dd2 sl sl2 (by rw [List.size_toArray, List.size_toArray]; omega)) ⟨ho, ho2, ?_⟩
  have ea : its.toArray ++ its2.toArray = (its ++ its2).toArray := by simp
  rw [ea]
  exact ⟨.ref _, _, I.lnew (t' := s.toks) (r.append r2) (by rw [List.length_append]; omega), rfl, q _ I.fresh⟩
def gAdd (t1 t2 : OT) : Option OT :=
  match t1, t2 with
  | .sh (.int i), .sh (.int j) => some (.sh (.int (i + j)))
  | .sh (.str a), .sh (.str b) => if a.length + b.length ≤ 1000000 then some (.sh (.str (a ++ b))) else none
  | .sh (.tuple a), .sh (.tuple b) => if a.length + b.length ≤ 1000000 then some (.sh (.tuple (a ++ b))) else none
  | t1, t2 => match lItems t1, lItems t2 with
    | some a, some b => if a.length + b.length ≤ 1000000 then some (.lst ((a ++ b).map .sh)) else none
    | _, _ => none
def rAddA (K : PySem.W.Frag) : R2 := fun x y H Q => rI0 (fun i j => .int (i + j)) x y H Q ∨ (∃ i j, x = .str i ∧ y = .str j ∧ i.length + j.length ≤ sizeLine ∧ Q (.str (i ++ j)) H) ∨ rCatF K x y H Q ∨ rCatR K x y H Q
theorem op_addA {X : Cx} : OpR X (binaryOp .Add) (rAddA X.K) := op_add.or (op_add_str.or (op_catF.or op_catR))
theorem prim_add {c : VC} : Prim2 c (rAddA c.K) gAdd := by
  intro Z H v1 v2 t1 t2 F1 F2 t Q s w1 w2 e n
  unfold gAdd at e
  split at e
  · cases e
    exact .inl ⟨_, _, int_read w1, int_read w2, n.int s⟩
  · split at e
    · cases e
      rename_i h
      exact .inr (.inl ⟨_, _, str_read w1, str_read w2, million_line h, n.str s⟩)
    · cases e
  · split at e
    · cases e
      rename_i a b h
      obtain ⟨p1, xs, rfl, q1, r1, _, k1⟩ := tup_read s w1 (ds := a) rfl
      obtain ⟨p2, ys, rfl, q2, r2, _, k2⟩ := tup_read s w2 (ds := b) rfl
      refine .inr (.inr (.inl ⟨p1, p2, xs, ys, rfl, rfl, q1, q2, by rw [r1.length, r2.length]; exact million_line h, fun z => ?_, fun _ z => ?_, fun _ _ p o hp hd => n.shNew s hp (.tupF upd_same hd ((r1.append r2).mono (same_upd (s.free hp))))⟩))
      · have e1 : a = [] := by
          cases a with
          | nil => rfl
          | cons _ _ => rw [z] at r1; cases r1
        subst e1
        exact n.now s k2
      · have e1 : b = [] := by
          cases b with
          | nil => rfl
          | cons _ _ => rw [z] at r2; cases r2
        subst e1
        rw [List.append_nil] at n
        exact n.now s k1
    · cases e
  · split at e
    · split at e
      · cases e
        rename_i a b h1 h2 h
        obtain ⟨p1, xs, rfl, q1, r1⟩ := lst_read s w1 h1
        obtain ⟨p2, ys, rfl, q2, r2⟩ := lst_read s w2 h2
        exact .inr (.inr (.inr ⟨p1, p2, xs, ys, rfl, rfl, q1, q2, by rw [r1.length, r2.length]; exact million_line h, fun p hp => n.lstNew s hp (r1.append r2)⟩))
      · cases e
    · cases e
/-! ### ints -/
def gII (f : Int → Int → Option Int) (t1 t2 : OT) : Option OT :=
  match t1, t2 with
  | .sh (.int i), .sh (.int j) => (f i j).map fun k => .sh (.int k)
  | _, _ => none
@[simp] theorem gII_int (f : Int → Int → Option Int) (i j : Int) : gII f (.sh (.int i)) (.sh (.int j)) = (f i j).map fun k => .sh (.int k) := rfl
theorem prim_ii {c : VC} {f : Int → Int → Option Int} {C : Int → Int → Prop} {g : Int → Int → V} (h : ∀ i j k, f i j = some k → C i j ∧ g i j = .int k) : Prim2 c (L2.rI C g) (gII f) := by
  intro Z H v1 v2 t1 t2 F1 F2 t Q s w1 w2 e n
  unfold gII at e
  split at e
  · rename_i i j
    cases e1 : f i j with
    | none => rw [e1] at e; cases e
    | some k =>
      rw [e1] at e
      cases e
      obtain ⟨h1, h2⟩ := h i j k e1
      exact ⟨i, j, int_read w1, int_read w2, h1, by rw [h2]; exact n.int s⟩
  · cases e
theorem prim_ii0 {c : VC} {f : Int → Int → Int} : Prim2 c (rI0 fun i j => .int (f i j)) (gII fun i j => some (f i j)) := by
  intro Z H v1 v2 t1 t2 F1 F2 t Q s w1 w2 e n
  unfold gII at e
  split at e
  · rename_i i j
    cases e
    exact ⟨i, j, int_read w1, int_read w2, n.int s⟩
  · cases e
abbrev gSub : OT → OT → Option OT := gII fun i j => some (i - j)
def mulOk (i j : Int) : Prop := (-18446744073709551616 < i ∧ i < 18446744073709551616) ∨ (-18446744073709551616 < j ∧ j < 18446744073709551616) ∨ i.natAbs.log2 + j.natAbs.log2 < 1000000
instance (i j : Int) : Decidable (mulOk i j) := by unfold mulOk; infer_instance
abbrev gMul : OT → OT → Option OT := gII fun i j => if mulOk i j then some (i * j) else none
theorem op_mulA {X : Cx} : OpR X (binaryOp .Mult) (L2.rI mulOk fun i j => .int (i * j)) := opI fun i j _ _ _ _ _ hc q => mul_int q (by
  rcases hc with h | h | h
  · exact CMul.ok (.inl ⟨by omega, by omega⟩)
  · exact CMul.ok (.inr ⟨by omega, by omega⟩)
  · exact CMulW.ok h)
theorem prim_mul {c : VC} : Prim2 c (L2.rI mulOk fun i j => .int (i * j)) gMul := prim_ii fun i j k h => by
  split at h
  · cases h; exact ⟨by assumption, rfl⟩
  · cases h
theorem iop_mulA {X : Cx} : OpR X (inplaceOp .Mult) (L2.rI mulOk fun i j => .int (i * j)) := opI fun i j _ _ _ _ _ hc q => imul_int q (by
  rcases hc with h | h | h
  · exact CMul.ok (.inl ⟨by omega, by omega⟩)
  · exact CMul.ok (.inr ⟨by omega, by omega⟩)
  · exact CMulW.ok h)
def divOk (j : Int) : Prop := (j ≠ 0 ∧ j.natAbs < 1073741824) ∨ (0 < j ∧ j.natAbs.log2 < 9000)
instance (j : Int) : Decidable (divOk j) := by unfold divOk; infer_instance
abbrev gFdiv : OT → OT → Option OT := gII fun i j => if divOk j then some (i.fdiv j) else none
def rFdivA : R2 := fun x y H Q => L2.rI CDivN (fun i j => .int (i.fdiv j)) x y H Q ∨ L2.rI CDivW (fun i j => .int (i / j)) x y H Q
theorem op_fdivA {X : Cx} : OpR X (binaryOp .FloorDiv) rFdivA := op_fdivN.or op_fdivW
theorem prim_fdiv {c : VC} : Prim2 c rFdivA gFdiv := by
  intro Z H v1 v2 t1 t2 F1 F2 t Q s w1 w2 e n
  unfold gFdiv gII at e
  split at e
  · rename_i i j
    dsimp only at e
    by_cases h : divOk j
    · rw [if_pos h] at e
      cases e
      rcases h with h | h
      · exact .inl ⟨i, j, int_read w1, int_read w2, h, n.int s⟩
      · refine .inr ⟨i, j, int_read w1, int_read w2, h, ?_⟩
        have e1 : i / j = i.fdiv j := (Int.fdiv_eq_ediv_of_nonneg _ (Int.le_of_lt h.1)).symm
        show Q (.int (i / j)) H
        rw [e1]
        exact n.int s
    · rw [if_neg h] at e
      cases e
  · cases e
abbrev gMod : OT → OT → Option OT := gII fun i j => if j ≠ 0 then some (i.fmod j) else none
theorem prim_mod {c : VC} : Prim2 c (L2.rI (fun _ j => j ≠ 0) fun i j => .int (i.fmod j)) gMod := prim_ii fun i j k h => by
  split at h
  · cases h; exact ⟨by assumption, rfl⟩
  · cases h
instance (i j : Int) : Decidable (CPow i j) := by unfold CPow; infer_instance
abbrev gPow : OT → OT → Option OT := gII fun i j => if CPow i j then some (i ^ j.toNat) else none
theorem prim_pow {c : VC} : Prim2 c (L2.rI CPow fun i j => .int (i ^ j.toNat)) gPow := prim_ii fun i j k h => by
  split at h
  · cases h; exact ⟨by assumption, rfl⟩
  · cases h
abbrev gShl : OT → OT → Option OT := gII fun i j => if CPow i j then some (i * 2 ^ j.toNat) else none
theorem prim_shl {c : VC} : Prim2 c (L2.rI CPow fun i j => .int (i * 2 ^ j.toNat)) gShl := prim_ii fun i j k h => by
  split at h
  · cases h; exact ⟨by assumption, rfl⟩
  · cases h
abbrev gShr : OT → OT → Option OT := gII fun i j => if 0 ≤ j then some (i / 2 ^ j.toNat) else none
theorem prim_shr {c : VC} : Prim2 c (L2.rI (fun _ j => 0 ≤ j) fun i j => .int (i / 2 ^ j.toNat)) gShr := prim_ii fun i j k h => by
  split at h
  · cases h; exact ⟨by assumption, rfl⟩
  · cases h
abbrev gAndI : OT → OT → Option OT := gII fun i j => some (Builtin.bitAnd i j)
def gNeg (t : OT) : Option OT :=
  match t with
  | .sh (.int i) => some (.sh (.int (-i)))
  | _ => none
theorem prim_neg {c : VC} : Prim1 c (rU fun i => .int (-i)) gNeg := by
  intro Z H v1 t1 F1 t Q s w e n
  unfold gNeg at e
  split at e
  · cases e
    exact ⟨_, int_read w, n.int s⟩
  · cases e
def gCmp (f : Int → Int → Bool) (t1 t2 : OT) : Option OT :=
  match t1, t2 with
  | .sh (.int i), .sh (.int j) => some (.sh (.bool (f i j)))
  | _, _ => none
@[simp] theorem gCmp_int (f : Int → Int → Bool) (i j : Int) : gCmp f (.sh (.int i)) (.sh (.int j)) = some (.sh (.bool (f i j))) := rfl
theorem prim_cmp {c : VC} {f : Int → Int → Bool} : Prim2 c (rI0 fun i j => .bl (f i j)) (gCmp f) := by
  intro Z H v1 v2 t1 t2 F1 F2 t Q s w1 w2 e n
  unfold gCmp at e
  split at e
  · cases e
    exact ⟨_, _, int_read w1, int_read w2, n.bool s⟩
  · cases e
abbrev gLt : OT → OT → Option OT := gCmp fun i j => decide (i < j)
abbrev gLe : OT → OT → Option OT := gCmp fun i j => decide (i ≤ j)
abbrev gGt : OT → OT → Option OT := gCmp fun i j => decide (j < i)
abbrev gGe : OT → OT → Option OT := gCmp fun i j => decide (j ≤ i)
/-! ### ==, is None -/
mutual
theorem Rp.dp {c : VC} {H : Hp} : ∀ {v : V} {d : D}, Rp c H v d → d.canLay0 = true → Dp c.K H v d
  | _, _, .non, _ => .non
  | _, _, .bl b, _ => .bl b
  | _, _, .int i, _ => .int i
  | _, _, .str x, _ => .str x
  | _, _, .tup h l _, e => .tup h (RpL.dp l (by simpa [PyData.canLay0] using e))
  | _, _, .lst h l, e => .lst h (RpL.dp l (by simpa [PyData.canLay0] using e))
  | _, _, .dct .., e => by simp [PyData.canLay0] at e
theorem RpL.dp {c : VC} {H : Hp} : ∀ {v : List V} {d : List D}, RpL c H v d → PyData.canLayAll0 d = true → DpAll c.K H v d
  | _, _, .nil, _ => .nil
  | _, _, .cons h l, e => by
    rw [PyData.canLayAll0, Bool.and_eq_true] at e
    exact .cons (h.dp e.1) (l.dp e.2)
end
def eqOk (d1 d2 : D) : Bool :=
  match d1, d2 with
  | .int _, .int _ => true
  | .str _, .str _ => true
  | .bool _, .bool _ => true
  | d1, d2 => SeqAt.shaped d1 && SeqAt.shaped d2
def gEq (t1 t2 : OT) : Option OT := if eqOk t1.d t2.d = true then some (.sh (.bool (PyData.eqv t1.d t2.d))) else none
def gNe (t1 t2 : OT) : Option OT := if eqOk t1.d t2.d = true then some (.sh (.bool (!PyData.eqv t1.d t2.d))) else none
def rEqA (K : PySem.W.Frag) : R2 := fun x y H Q => rEq x y H Q ∨ rEqD K x y H Q
def rNeA (K : PySem.W.Frag) : R2 := fun x y H Q => rNe x y H Q ∨ rNeD K x y H Q
theorem op_eqA {X : Cx} (hu : X.A.units + 64 < cLine) : OpR X (compareOp .Eq) (rEqA X.K) := op_eq.or (op_eqD hu)
theorem op_neA {X : Cx} (hu : X.A.units + 64 < cLine) : OpR X (compareOp .NotEq) (rNeA X.K) := op_ne.or (op_neD hu)
theorem eqOk_cases {c : VC} {H : Hp} {v1 v2 : V} {d1 d2 : D} (r1 : Rp c H v1 d1) (r2 : Rp c H v2 d2) (e : eqOk d1 d2 = true) : (scal v1 v2 = true ∧ decide (v1 = v2) = PyData.eqv d1 d2) ∨ (Dp c.K H v1 d1 ∧ Dp c.K H v2 d2 ∧ SeqAt.shaped d1 = true ∧ SeqAt.shaped d2 = true) := by
  have go : (SeqAt.shaped d1 && SeqAt.shaped d2) = true → (Dp c.K H v1 d1 ∧ Dp c.K H v2 d2 ∧ SeqAt.shaped d1 = true ∧ SeqAt.shaped d2 = true) := fun e => by
    rw [Bool.and_eq_true] at e
    exact ⟨r1.dp (SeqAt.canLay_of_shaped e.1), r2.dp (SeqAt.canLay_of_shaped e.2), e.1, e.2⟩
  unfold eqOk at e
  split at e
  · cases r1; cases r2
    exact .inl ⟨rfl, by rw [dec_int]; simp only [PyData.eqv]⟩
  · cases r1; cases r2
    exact .inl ⟨rfl, by rw [dec_str]; simp only [PyData.eqv]⟩
  · cases r1; cases r2
    exact .inl ⟨rfl, by rw [dec_bl]; simp only [PyData.eqv]⟩
  · exact .inr (go e)
theorem prim_eq {c : VC} : Prim2 c (rEqA c.K) gEq := by
  intro Z H v1 v2 t1 t2 F1 F2 t Q s w1 w2 e n
  unfold gEq at e
  split at e
  · cases e
    rename_i h
    rcases eqOk_cases (w1.flat s) (w2.flat s) h with ⟨h1, h2⟩ | ⟨h1, h2, h3, h4⟩
    · exact .inl ⟨h1, by rw [h2]; exact n.bool s⟩
    · exact .inr ⟨_, _, h1, h2, h3, h4, n.bool s⟩
  · cases e
theorem prim_ne {c : VC} : Prim2 c (rNeA c.K) gNe := by
  intro Z H v1 v2 t1 t2 F1 F2 t Q s w1 w2 e n
  unfold gNe at e
  split at e
  · cases e
    rename_i h
    rcases eqOk_cases (w1.flat s) (w2.flat s) h with ⟨h1, h2⟩ | ⟨h1, h2, h3, h4⟩
    · exact .inl ⟨h1, by rw [h2]; exact n.bool s⟩
    · exact .inr ⟨_, _, h1, h2, h3, h4, n.bool s⟩
  · cases e
def isN : D → Bool
  | .none => true
  | _ => false
def gIs (b : Bool) (t1 t2 : OT) : Option OT :=
  match t2 with
  | .sh .none => some (.sh (.bool (isN t1.d == b)))
  | _ => none
theorem prim_is {c : VC} : Prim2 c (fun x y H Q => y = .non ∧ Q (.bl (decide (x = .non))) H) (gIs true) := by
  intro Z H v1 v2 t1 t2 F1 F2 t Q s w1 w2 e n
  unfold gIs at e
  split at e
  · cases e
    refine ⟨by cases w2 with | sh r => cases r; rfl, ?_⟩
    have e1 : decide (v1 = .non) = (isN t1.d == true) := by
      have r := w1.flat s
      generalize t1.d = d at r
      cases r <;> simp [isN]
    rw [e1]
    exact n.bool s
  · cases e
theorem prim_isNot {c : VC} : Prim2 c (fun x y H Q => y = .non ∧ Q (.bl (!decide (x = .non))) H) (gIs false) := by
  intro Z H v1 v2 t1 t2 F1 F2 t Q s w1 w2 e n
  unfold gIs at e
  split at e
  · cases e
    refine ⟨by cases w2 with | sh r => cases r; rfl, ?_⟩
    have e1 : (!decide (v1 = .non)) = (isN t1.d == false) := by
      have r := w1.flat s
      generalize t1.d = d at r
      cases r <;> simp [isN]
    rw [e1]
    exact n.bool s
  · cases e
/-! ### subscripts -/
def gIx (t1 t2 : OT) : Option OT :=
  match t2 with
  | .sh (.int i) => (match t1 with
    | .sh (.list l) => (atI l i).map .sh
    | .sh (.tuple l) => (atI l i).map .sh
    | .sh (.str x) => if x.length ≤ 1000000 then (atI x.cps.toList i).map fun c => .sh (.str ⟨#[c]⟩) else none
    | .lst ts => (match atI ts i with
      | some (.sh d) => some (.sh d)
      | _ => none)
    | _ => none)
  | _ => none
theorem atI_rp {c : VC} {Z : Hp} {xs : List V} {ds : List D} {i : Int} {d : D} (r : RpL c Z xs ds) (e : atI ds i = some d) : ∃ v, atI xs i = some v ∧ Rp c Z v d := by
  unfold atI at e ⊢
  rw [r.length]
  cases h : ixN ds.length i with
  | none => rw [h] at e; cases e
  | some j =>
    rw [h, Option.bind_some] at e
    obtain ⟨v, hv, k⟩ := r.get' e
    exact ⟨v, by rw [Option.bind_some]; exact hv, k⟩
theorem OwnL.get {c : VC} {Z H : Hp} : ∀ {vs : List V} {ts : List OT} {F : List Addr} {i : Nat} {t : OT}, OwnL c Z H vs ts F → ts[i]? = some t → ∃ v Ft, vs[i]? = some v ∧ Own c Z H v t Ft
  | _, _, _, _, _, .nil, e => by simp at e
  | _, _, _, 0, _, .cons h _, e => by simp at e; subst e; exact ⟨_, _, rfl, h⟩
  | _, _, _, i + 1, t, .cons _ l, e => by
    obtain ⟨v, Ft, a, b⟩ := OwnL.get (i := i) (t := t) l (by simpa using e)
    exact ⟨v, Ft, by simpa using a, b⟩
theorem atI_own {c : VC} {Z H : Hp} {xs : List V} {ts : List OT} {F : List Addr} {i : Int} {t : OT} (r : OwnL c Z H xs ts F) (e : atI ts i = some t) : ∃ v Ft, atI xs i = some v ∧ Own c Z H v t Ft := by
  unfold atI at e ⊢
  rw [r.length]
  cases h : ixN ts.length i with
  | none => rw [h] at e; cases e
  | some j =>
    rw [h, Option.bind_some] at e
    obtain ⟨v, Ft, hv, k⟩ := r.get e
    exact ⟨v, Ft, by rw [Option.bind_some]; exact hv, k⟩
theorem prim_ix {c : VC} : Prim2 c (rIx c.K) gIx := by
  intro Z H v1 v2 t1 t2 F1 F2 t Q s w1 w2 e n
  unfold gIx at e
  split at e
  · rename_i i
    have e2 := int_read w2
    subst e2
    split at e
    · rename_i l
      cases h : atI l i with
      | none => rw [h] at e; cases e
      | some d =>
        rw [h] at e
        cases e
        obtain ⟨a, xs, rfl, q, r⟩ := lst_read s w1 (ds := l) rfl
        obtain ⟨v, hv, k⟩ := atI_rp r h
        exact .inl ⟨a, xs, i, v, rfl, rfl, q, hv, n.now s k⟩
    · rename_i l
      cases h : atI l i with
      | none => rw [h] at e; cases e
      | some d =>
        rw [h] at e
        cases e
        obtain ⟨a, xs, rfl, q, r, _⟩ := tup_read s w1 (ds := l) rfl
        obtain ⟨v, hv, k⟩ := atI_rp r h
        exact .inr (.inl ⟨a, xs, i, v, rfl, rfl, q, hv, n.now s k⟩)
    · rename_i x
      split at e
      · rename_i hl
        cases h : atI x.cps.toList i with
        | none => rw [h] at e; cases e
        | some cp =>
          rw [h] at e
          cases e
          exact .inr (.inr ⟨x, i, cp, str_read w1, rfl, million_line hl, h, n.str s⟩)
      · cases e
    · rename_i ts
      split at e
      · rename_i d h
        cases e
        cases w1 with
        | @lst p xs _ F hq l =>
          obtain ⟨v, Ft, hv, k⟩ := atI_own l h
          cases k with
          | sh k => exact .inl ⟨p, xs, i, v, rfl, rfl, SqL.of hq, hv, n.now s k⟩
      · cases e
    · cases e
  · cases e
/-- an item that is itself owned, read soon -/
def fPix (p2 : Bool) (f1 f2 : Ev → Res PH) : Ev → Res PH := fun ρ => (f1 ρ).bind fun h1 ρ1 => (f2 ρ1).bind fun h2 ρ2 =>
  match (h1.un p2).get ρ2, h2.get ρ2 with
  | some (.lst ts), some (.sh (.int i)) => (match atI ts i with
    | some (.sh d) => .ok (.val d) ρ2
    | some .mv => .bad
    | some t => .ok (.nest t) ρ2
    | none => .bad)
  | some t1, some t2 => (match gIx t1 t2 with
    | some (.sh d) => .ok (.val d) ρ2
    | _ => .bad)
  | _, _ => .bad
section
variable {X : Cx} {xa : Str → Option Addr} {E : XS} {pu p1 p2 : Bool} {e a b : Expr} {es : List Expr} {pos : Pos}
theorem vp_ix {f1 f2 : Ev → Res PH} (h1 : VP X xa E p1 a f1) (h2 : VP X xa E p2 b f2) (hs : PlainIx b) : VP X xa E (p1 && p2) (.Subscript a b pos) (fPix p2 f1 f2) := (pe_ix ix_seq h1 h2 hs).imp fun σ H Q ⟨Z, ρ, F, ok, q⟩ => by
  refine ⟨Z, ρ, F, ok, ?_⟩
  unfold fPix at q
  cases r1 : f1 ρ with
  | bad => rw [r1] at q; exact q
  | exc x ρ' => rw [r1] at q; exact q
  | ok h1 ρ1 =>
    rw [r1] at q
    intro v1 H1 Z1 F1 o1 w1 a1 k1
    refine ⟨Z1, ρ1, F1, o1, ?_⟩
    have q1 := rP.later (pu' := p2) q a1 fun z => by
      rw [Bool.and_eq_true] at z
      exact ⟨z.2, k1 z.1⟩
    rw [Res.bind_ok] at q1
    cases r2 : f2 ρ1 with
    | bad => rw [r2] at q1; exact q1
    | exc x ρ' => rw [r2] at q1; exact q1
    | ok h2 ρ2 =>
      rw [r2] at q1
      intro v2 H2 Z2 F2 o2 w2 a2 k2
      have q2 := rP.later (pu' := true) q1 a2 fun z => ⟨rfl, k2 z⟩
      rw [Res.bind_ok] at q2
      cases e1 : (h1.un p2).get ρ2 with
      | none => rw [e1] at q2; exact q2.elim
      | some t1 =>
        cases e2 : h2.get ρ2 with
        | none => rw [e1, e2] at q2; cases t1 <;> exact q2.elim
        | some t2 =>
          rw [e1, e2] at q2
          obtain ⟨G1, x1⟩ := (w1.stay a2.same p2 fun z => (k2 z).1).read o2 e1
          obtain ⟨G2, x2⟩ := w2.read o2 e2
          have gen : ∀ d, gIx t1 t2 = some (.sh d) → rP (cc X xa) E true Z2 H2 σ ρ2 F2 (.ok (.val d) ρ2) Q → rIx X.K v1 v2 H2 Q := fun d hd q3 =>
            prim_ix Z2 H2 v1 v2 t1 t2 G1 G2 _ Q o2.same x1 x2 hd fun v H' Z' Ft s1 s2 s3 nz w n sp => by
              obtain ⟨o3, n3, sp3, a3⟩ := o2.new s1 s2 s3 nz w n sp
              cases w with
              | sh w => exact q3 v H' Z' F2 o3 w a3 fun _ => ⟨s1, rfl⟩
          split at q2
          · rename_i ts i et1 et2
            cases et1
            cases et2
            split at q2
            · rename_i d hd
              exact gen d (by unfold gIx; simp only [hd]) q2
            · exact q2.elim
            · rename_i t' hn1 hn2 hd
              have ev := int_read x2
              subst ev
              cases x1 with
              | @lst p xs _ F hq l =>
                obtain ⟨v, Ft, hv, k⟩ := atI_own l hd
                exact .inl ⟨p, xs, i, v, rfl, rfl, SqL.of hq, hv, q2 v H2 Z2 F2 o2 ⟨Ft, k⟩ (After.refl _ _ _) fun _ => ⟨Same.refl _, rfl⟩⟩
            · exact q2.elim
          · rename_i t1' t2' hn et1 et2
            cases et1
            cases et2
            split at q2
            · rename_i d hd
              exact gen d hd q2
            · exact q2.elim
          · exact q2.elim
/-! ### slices -/
def cut {α : Type} (xs : List α) (lo hi : Option Int) : List α := (xs.drop (HT.sIx xs.length 0 lo)).take (HT.sIx xs.length xs.length hi - HT.sIx xs.length 0 lo)
def gSl (t : OT) (lo hi : Option Int) : Option OT :=
  match t with
  | .sh (.tuple l) => some (.sh (.tuple (cut l lo hi)))
  | .sh (.str x) => if x.length ≤ 1000000 then some (.sh (.str (cutS x lo hi))) else none
  | t => (lItems t).map fun l => .lst ((cut l lo hi).map .sh)
def rSlF (K : PySem.W.Frag) : V → Option Int → Option Int → Hp → VK → Prop := fun x lo hi H Q => ∃ a xs, x = .ref a ∧ SqT K H a xs ∧
  (HT.sIx xs.length 0 lo = 0 ∧ HT.sIx xs.length xs.length hi = xs.length → Q (.ref a) H) ∧ (¬ (HT.sIx xs.length 0 lo = 0 ∧ HT.sIx xs.length xs.length hi = xs.length) → ∀ p o, H p = none → o.dict = none → Q (.ref p) (upd H p (.frz o (.tup (cutV xs lo hi)))))
theorem sl_tupF {X : Cx} : SlR X (rSlF X.K) := by
  intro pins s σ H x v vl vu lo hi sl Q I rx hs pl pu ⟨a, xs, ex, hx, q1, q2⟩
  subst ex
  cases rx
  obtain ⟨its, rv, tt, hz⟩ := I.tuple hx
  have len : its.toArray.size = xs.length := List.size_toArray.trans rv.length.symm
  refine ⟨"tuple", _, PyProof.Rows.slot_tuple_getitem.lookup, tt.typeIs, ?_⟩
  by_cases hw : HT.sIx xs.length 0 lo = 0 ∧ HT.sIx xs.length xs.length hi = xs.length
  · exact getItem_tuple_whole tt hs pl pu (len.symm ▸ hw) ⟨.ref a, H, I, rfl, q1 hw⟩
  · refine HT.getItem_tuple_cut tt hs pl pu (len.symm ▸ hw) ?_ (len.symm ▸ hz)
    rw [len]
    have new : (s.heap.push { cls := .type "tuple", data := .seq ((its.drop (HT.sIx xs.length 0 lo)).take (HT.sIx xs.length xs.length hi - HT.sIx xs.length 0 lo)).toArray }).get? s.heap.objs.size = _ := Heap.get?_push_size _ rfl
    exact ⟨.ref s.heap.objs.size, upd H s.heap.objs.size (.frz { cls := .type "tuple", data := .seq ((its.drop (HT.sIx xs.length 0 lo)).take (HT.sIx xs.length xs.length hi - HT.sIx xs.length 0 lo)).toArray } (.tup (cutV xs lo hi))),
      I.laid (t' := s.toks) (fun b u e => Heap.get?_push_of_some _ e) (Nat.le_refl _) ⟨new, Nat.le_trans (cutV_length xs lo hi) hz, _, (rv.drop _).take _, _, new, rfl, _, rfl⟩,
      rfl, q2 hw _ _ (I.hok.fresh (Nat.le_refl _)) rfl⟩
def rSlAll (K : PySem.W.Frag) : V → Option Int → Option Int → Hp → VK → Prop := fun x lo hi H Q => rSlF K x lo hi H Q ∨ rSlS x lo hi H Q ∨ rSlL K x lo hi H Q
theorem sl_all {X : Cx} : SlR X (rSlAll X.K) := sl_tupF.or (sl_str.or sl_list)
theorem cut_rp {c : VC} {Z : Hp} {xs : List V} {ds : List D} (r : RpL c Z xs ds) (lo hi : Option Int) : RpL c Z (cutV xs lo hi) (cut ds lo hi) := by
  unfold cutV cut
  rw [r.length]
  exact (r.drop _).take _
theorem cut_all {α : Type} (xs : List α) (lo hi : Option Int) (h1 : HT.sIx xs.length 0 lo = 0) (h2 : HT.sIx xs.length xs.length hi = xs.length) : cut xs lo hi = xs := by
  unfold cut
  rw [h1, h2]
  simp
theorem slice_prim {c : VC} {Z H : Hp} {v : V} {t t' : OT} {F : List Addr} {lo hi : Option Int} {Q : VK} (s : Same Z H) (w : Own c Z H v t F) (e : gSl t lo hi = some t') (n : NewR c Z H t' Q) : rSlAll c.K v lo hi H Q := by
  unfold gSl at e
  split at e
  · rename_i l
    cases e
    obtain ⟨a, xs, rfl, q, r, _, k⟩ := tup_read s w (ds := l) rfl
    refine .inl ⟨a, xs, rfl, q, fun ⟨h1, h2⟩ => ?_, fun _ p o hp hd => n.shNew s hp (.tupF upd_same hd ((cut_rp r lo hi).mono (same_upd (s.free hp))))⟩
    rw [cut_all l lo hi (by rw [← r.length]; exact h1) (by rw [← r.length]; exact h2)] at n
    exact n.now s k
  · rename_i x
    split at e
    · cases e
      rename_i hl
      exact .inr (.inl ⟨x, str_read w, million_line hl, n.str s⟩)
    · cases e
  · cases h : lItems t with
    | none => rw [h] at e; cases e
    | some l =>
      rw [h] at e
      cases e
      obtain ⟨a, xs, rfl, q, r⟩ := lst_read s w h
      exact .inr (.inr ⟨a, xs, rfl, q, fun p hp => n.lstNew s hp (cut_rp r lo hi)⟩)
/-- a part of a slice -/
def rO (c : VC) (E : XS) (pu : Bool) (Z H : Hp) (σ : St) (ρ : Ev) (F : List Addr) (r : Res (Option Int)) (Q : Option Int → Hp → Prop) : Prop :=
  match r with
  | .bad => False
  | .ok h ρ' => ∀ H' Z' F', Ok c Z' H' σ ρ' F' → After Z H F Z' H' F' → (pu = true → Same H H' ∧ ρ' = ρ) → Q h H'
  | .exc x ρ' => ∀ cls d H' Z' F', Ok c Z' H' σ ρ' F' → ExR c Z' H' x cls d → After Z H F Z' H' F' → E σ cls d H'
def tO (c : VC) (E : XS) (pu : Bool) (f : Ev → Res (Option Int)) : TO := fun σ H Q => ∃ Z ρ F, Ok c Z H σ ρ F ∧ rO c E pu Z H σ ρ F (f ρ) Q
abbrev VO (X : Cx) (xa : Str → Option Addr) (E : XS) (pu : Bool) (e : Option Expr) (f : Ev → Res (Option Int)) : Prop := PO X e (tO (cc X xa) E pu f)
theorem _root_.L2.PO.imp {X : Cx} {e : Option Expr} {t t' : TO} (h : PO X e t) (k : ∀ σ H Q, t' σ H Q → t σ H Q) : PO X e t' := ⟨fun pins s σ H Q I q => h.run pins s σ H Q I (k σ H Q q)⟩
theorem rO.later {c : VC} {Z H Z1 H1 : Hp} {σ : St} {ρ ρ1 : Ev} {F F1 : List Addr} {pu' : Bool} {r : Res (Option Int)} {Q : Option Int → Hp → Prop} (h : rO c E pu Z H σ ρ F r Q) (a : After Z H F Z1 H1 F1) (hp : pu = true → pu' = true ∧ Same H H1 ∧ ρ1 = ρ) : rO c E pu' Z1 H1 σ ρ1 F1 r Q := by
  cases r with
  | bad => exact h
  | ok t ρ' => exact fun H' Z' F' o b q => h H' Z' F' o (a.trans b) fun e => let ⟨h1, h2, h3⟩ := hp e; ⟨h2.trans (q h1).1, (q h1).2.trans h3⟩
  | exc x ρ' => exact fun cls d H' Z' F' o x b => h cls d H' Z' F' o x (a.trans b)
def fONone : Ev → Res (Option Int) := fun ρ => .ok none ρ
theorem vo_none : VO X xa E true none fONone := PO.imp po_none fun σ H Q ⟨Z, ρ, F, ok, q⟩ => q H Z F ok (After.refl _ _ _) fun _ => ⟨Same.refl _, rfl⟩
def fOSome (f : Ev → Res OT) : Ev → Res (Option Int) := fun ρ => (f ρ).bind fun t ρ' => match t with
  | .sh (.int i) => .ok (some i) ρ'
  | _ => .bad
theorem vo_some {f : Ev → Res OT} (h : VE X xa E pu e f) : VO X xa E pu (some e) (fOSome f) := (po_some h).imp fun σ H Q ⟨Z, ρ, F, ok, q⟩ => by
  refine ⟨Z, ρ, F, ok, ?_⟩
  unfold fOSome at q
  cases r : f ρ with
  | bad => rw [r] at q; exact q
  | exc x ρ' => rw [r] at q; exact q
  | ok t ρ' =>
    rw [r, Res.bind_ok] at q
    intro v H' Z' F' Ft o w n sp af hp
    split at q
    · exact ⟨_, int_read w, q H' Z' F' o (af.to fun p hp => List.mem_append_right _ hp) hp⟩
    · exact q.elim
def fSl (p2 : Bool) (f : Ev → Res PH) (fl fh : Ev → Res (Option Int)) : Ev → Res OT := fun ρ => (f ρ).bind fun h ρ1 => (fl ρ1).bind fun lo ρ2 => (fh ρ2).bind fun hi ρ3 =>
  match (h.un p2).get ρ3 with
  | some t => Res.of (gSl t lo hi) ρ3
  | none => .bad
theorem ve_slice {p3 : Bool} {lo hi : Option Expr} {f : Ev → Res PH} {fl fh : Ev → Res (Option Int)} {q2 : Pos} (h : VP X xa E p1 e f) (hl : VO X xa E p2 lo fl) (hh : VO X xa E p3 hi fh) : VE X xa E false (.Subscript e (.Slice lo hi none q2) pos) (fSl (p2 && p3) f fl fh) := (pe_slice sl_all h hl hh).imp fun σ H Q ⟨Z, ρ, F, ok, q⟩ => by
  refine ⟨Z, ρ, F, ok, ?_⟩
  unfold fSl at q
  cases r1 : f ρ with
  | bad => rw [r1] at q; exact q
  | exc x ρ' => rw [r1] at q; exact q
  | ok h1 ρ1 =>
    rw [r1] at q
    intro v1 H1 Z1 F1 o1 w1 a1 k1
    refine ⟨Z1, ρ1, F1, o1, ?_⟩
    have q1 := rV.later (pu' := false) (ρ1 := ρ1) q a1 fun z => nomatch z
    rw [Res.bind_ok] at q1
    cases r2 : fl ρ1 with
    | bad => rw [r2] at q1; exact q1
    | exc x ρ' => rw [r2] at q1; exact q1
    | ok l ρ2 =>
      rw [r2] at q1
      intro H2 Z2 F2 o2 a2 k2
      refine ⟨Z2, ρ2, F2, o2, ?_⟩
      have q2 := rV.later (pu' := false) (ρ1 := ρ2) q1 a2 fun z => nomatch z
      rw [Res.bind_ok] at q2
      cases r3 : fh ρ2 with
      | bad => rw [r3] at q2; exact q2
      | exc x ρ' => rw [r3] at q2; exact q2
      | ok u ρ3 =>
        rw [r3] at q2
        intro H3 Z3 F3 o3 a3 k3
        have q3 := rV.later (pu' := false) (ρ1 := ρ3) q2 a3 fun z => nomatch z
        rw [Res.bind_ok] at q3
        have w3 := w1.stay (a2.trans a3).same (p2 && p3) fun z => by
          rw [Bool.and_eq_true] at z
          exact (k2 z.1).1.trans (k3 z.2).1
        cases e1 : (h1.un (p2 && p3)).get ρ3 with
        | none => rw [e1] at q3; exact q3.elim
        | some t1 =>
          rw [e1] at q3
          obtain ⟨G1, x1⟩ := w3.read o3 e1
          cases e3 : gSl t1 l u with
          | none =>
            have q4 : rV (cc X xa) E false Z3 H3 σ ρ3 F3 (Res.of (gSl t1 l u) ρ3) Q := q3
            rw [e3] at q4; exact q4.elim
          | some t =>
            have q4 : rV (cc X xa) E false Z3 H3 σ ρ3 F3 (Res.of (gSl t1 l u) ρ3) Q := q3
            rw [e3] at q4
            exact slice_prim o3.same x1 e3 fun v H' Z' Ft s1 s2 s3 nz w n sp => by
              obtain ⟨o, nd, sep, a⟩ := o3.new s1 s2 s3 nz w n sp
              exact q4 v H' Z' F3 Ft o w nd sep a fun z => nomatch z
end
end VL

end

section
set_option Elab.async false
set_option linter.all false
set_option maxRecDepth 100000
set_option maxHeartbeats 1000000
namespace VL
open PySem PySem.Spec PyProof.Rows L2

section
variable {c : VC} {Z H : Hp}
theorem perm_swap {A B C : List Addr} : (A ++ (B ++ C)).Perm (B ++ (A ++ C)) := by
  rw [← List.append_assoc, ← List.append_assoc]
  exact List.Perm.append_right _ List.perm_append_comm
theorem upd_off {H : Hp} {p q : Addr} {o : HO} {F : List Addr} (n : p ∉ F) (hq : q ∈ F) : upd H p o q = H q := upd_ne (fun e => n (e ▸ hq))
/-- one item of an owned list, and what comes in its place -/
theorem OwnL.lens : ∀ {xs : List V} {ts : List OT} {F : List Addr} {j : Nat} {t : OT}, OwnL c Z H xs ts F → ts[j]? = some t → ∃ v Ft G, xs[j]? = some v ∧ Own c Z H v t Ft ∧ F.Perm (Ft ++ G) ∧
    ∀ (H' : Hp) (v' : V) (t' : OT) (Ft' : List Addr), (∀ q ∈ G, ∀ o, H q = some o → H' q = some o) → Own c Z H' v' t' Ft' → ∃ F', OwnL c Z H' (xs.set j v') (ts.set j t') F' ∧ F'.Perm (Ft' ++ G)
  | _, _, _, _, _, .nil, e => by simp at e
  | _, _, _, 0, _, .cons (F := F1) (G := G1) h l, e => by
    simp at e; subst e
    exact ⟨_, F1, G1, rfl, h, .refl _, fun H' v' t' Ft' k w => ⟨Ft' ++ G1, .cons w (l.frame (Same.refl _) k), .refl _⟩⟩
  | _, _, _, j + 1, t, .cons (F := F1) (G := G1) h l, e => by
    obtain ⟨v, Ft, G, a, b, p, k⟩ := OwnL.lens (j := j) l (by simpa using e)
    refine ⟨v, Ft, F1 ++ G, by simpa using a, b, (List.Perm.append_left _ p).trans perm_swap, fun H' v' t' Ft' kk w => ?_⟩
    obtain ⟨F', a2, p2⟩ := k H' v' t' Ft' (fun q hq => kk q (List.mem_append_right _ hq)) w
    exact ⟨F1 ++ F', .cons (h.frame (Same.refl _) fun q hq => kk q (List.mem_append_left _ hq)) a2, (List.Perm.append_left _ p2).trans perm_swap⟩
theorem OwnL.append : ∀ {xs ys : List V} {ts us : List OT} {F G : List Addr}, OwnL c Z H xs ts F → OwnL c Z H ys us G → OwnL c Z H (xs ++ ys) (ts ++ us) (F ++ G)
  | _, _, _, _, _, _, .nil, k => k
  | _, _, _, _, _, _, .cons h l, k => by
    rw [List.append_assoc]
    exact .cons h (OwnL.append l k)
theorem OwnL.erase : ∀ {xs : List V} {ts : List OT} {F : List Addr} {j : Nat} {t : OT}, OwnL c Z H xs ts F → ts[j]? = some t → ∃ v Ft G, xs[j]? = some v ∧ Own c Z H v t Ft ∧ OwnL c Z H (xs.eraseIdx j) (ts.eraseIdx j) G ∧ F.Perm (Ft ++ G)
  | _, _, _, _, _, .nil, e => by simp at e
  | _, _, _, 0, _, .cons h l, e => by
    simp at e; subst e
    exact ⟨_, _, _, rfl, h, l, .refl _⟩
  | _, _, _, j + 1, t, .cons (F := F1) h l, e => by
    obtain ⟨v, Ft, G, a, b, k, p⟩ := OwnL.erase (j := j) l (by simpa using e)
    exact ⟨v, Ft, F1 ++ G, by simpa using a, b, .cons h k, (List.Perm.append_left _ p).trans perm_swap⟩
/-- the owned list at slot i is changed -/
theorem Ok.mut {σ : St} {ρ : Ev} {F Fs : List Addr} {i : Nat} {ts : List OT} (ok : Ok c Z H σ ρ F) (hi : ρ[i]? = some (.lst ts)) (n : (Fs ++ F).Nodup) (sp : ∀ p ∈ Fs, Z p = none) (th : ∀ p ∈ Fs, ∃ o, H p = some o) :
    ∃ p xs Fi, σ[i]? = some (some (.ref p)) ∧ H p = some (.lst xs) ∧ OwnL c Z H xs ts Fi ∧ (Fi ++ Fs).Nodup ∧ (p ∉ Fi ∧ p ∉ Fs) ∧ ∀ xs' ts' Fi' v t Ft, OwnL c Z (upd H p (.lst xs')) xs' ts' Fi' → Own c Z (upd H p (.lst xs')) v t Ft → (Ft ++ Fi').Nodup → (∀ q ∈ Ft ++ Fi', q ∈ Fi ++ Fs) →
      ∃ F', Ok c Z (upd H p (.lst xs')) σ (ρ.set i (.lst ts')) F' ∧ (Ft ++ F').Nodup ∧ (∀ q ∈ Ft, Z q = none) ∧ After Z H (Fs ++ F) Z (upd H p (.lst xs')) (Ft ++ F') := by
  obtain ⟨v0, F0, G, hv, w, o2, n2, sp2, p2⟩ := ok.moved hi (fun z => nomatch z)
  cases w with
  | @lst p xs _ Fi hp l =>
    obtain ⟨n3, n4, n5⟩ := List.nodup_append.mp n
    have nF := n2
    obtain ⟨m1, m2, m3⟩ := List.nodup_append.mp n2
    obtain ⟨pFi, nFi⟩ := List.nodup_cons.mp m1
    have inF : ∀ q ∈ p :: Fi, q ∈ F := fun q hq => p2.mem_iff.mpr (List.mem_append_left _ hq)
    have inG : ∀ q ∈ G, q ∈ F := fun q hq => p2.mem_iff.mpr (List.mem_append_right _ hq)
    have pFs : p ∉ Fs := fun z => n5 p z p (inF p (by simp)) rfl
    have pG : p ∉ G := fun z => m3 p (by simp) p z rfl
    have nFF : (Fi ++ Fs).Nodup := List.nodup_append.mpr ⟨nFi, n3, fun a ha b hb e => n5 b hb a (inF a (List.mem_cons_of_mem _ ha)) e.symm⟩
    refine ⟨p, xs, Fi, hv, hp, l, nFF, ⟨pFi, pFs⟩, fun xs' ts' Fi' v t Ft l' w' nd sub => ?_⟩
    obtain ⟨k1, k2, k3⟩ := List.nodup_append.mp nd
    have pz : ∀ q ∈ Ft ++ Fi', q ≠ p ∧ q ∉ G ∧ Z q = none := fun q hq => by
      rcases List.mem_append.mp (sub q hq) with z | z
      · exact ⟨fun e => pFi (e ▸ z), fun y => m3 q (List.mem_cons_of_mem _ z) q y rfl, sp2 q (List.mem_cons_of_mem _ z)⟩
      · exact ⟨fun e => pFs (e ▸ z), fun y => n5 q z q (inG q y) rfl, sp q z⟩
    have oG : Ok c Z (upd H p (.lst xs')) σ (ρ.set i .mv) G := ⟨fun q o hq => by
      rw [upd_ne (fun e => by rw [e, sp2 p (by simp)] at hq; cases hq)]
      exact o2.same q o hq, o2.own.frame (Same.refl _) fun q hq o ho => by rw [upd_off pG hq]; exact ho, o2.nd, o2.sep⟩
    have wl : Own c Z (upd H p (.lst xs')) (.ref p) (.lst ts') (p :: Fi') := .lst upd_same l'
    have nn : (p :: Fi' ++ G).Nodup := List.nodup_cons.mpr ⟨fun z => (List.mem_append.mp z).elim (fun y => (pz p (List.mem_append_right _ y)).1 rfl) pG, List.nodup_append.mpr ⟨k2, o2.nd, fun a ha b hb e => (pz a (List.mem_append_right _ ha)).2.1 (e ▸ hb)⟩⟩
    have nz : ∀ q ∈ p :: Fi', Z q = none := fun q hq => (List.mem_cons.mp hq).elim (fun y => by rw [y]; exact sp2 p (by simp)) fun y => (pz q (List.mem_append_right _ y)).2.2
    obtain ⟨F', o', s'⟩ := oG.unlock hv wl nn nz
    · rw [List.set_set] at o'
      refine ⟨F', o', List.nodup_append.mpr ⟨k1, o'.nd, fun a ha b hb e => ?_⟩, fun q hq => (pz q (List.mem_append_left _ hq)).2.2, ⟨Same.refl _, fun q o hq nq => ?_, fun q hq => ?_, fun q hq => .inl hq⟩⟩
      · subst e
        rcases List.mem_append.mp (s' a hb) with z | z
        · rcases List.mem_cons.mp z with y | y
          · exact (pz a (List.mem_append_left _ ha)).1 y
          · exact k3 a ha a y rfl
        · exact (pz a (List.mem_append_left _ ha)).2.1 z
      · rw [upd_ne (fun e => nq (List.mem_append_right _ (inF q (by simp [e]))))]
        exact hq
      · refine .inl ?_
        have old : ∀ q ∈ Ft ++ Fi', q ∈ Fs ++ F := fun q hq => by
          rcases List.mem_append.mp (sub q hq) with z | z
          · exact List.mem_append_right _ (inF q (List.mem_cons_of_mem _ z))
          · exact List.mem_append_left _ z
        rcases List.mem_append.mp hq with z | z
        · exact old q (List.mem_append_left _ z)
        · rcases List.mem_append.mp (s' q z) with y | y
          · rcases List.mem_cons.mp y with x | x
            · exact List.mem_append_right _ (inF q (by simp [x]))
            · exact old q (List.mem_append_right _ x)
          · exact List.mem_append_right _ (inG q y)
end

/-! ### methods that change a list of one's own -/
def MutP (c : VC) (r : V → List V → Hp → VK → Prop) (G : List OT → List OT → Option (OT × List OT)) : Prop :=
  ∀ Z H p xs vs ts as t ts' Fi Fs Q, Same Z H → H p = some (.lst xs) → p ∉ Fi → p ∉ Fs → OwnL c Z H xs ts Fi → OwnL c Z H vs as Fs → (Fi ++ Fs).Nodup → G ts as = some (t, ts') →
    (∀ xs' v Fi' Ft, OwnL c Z (upd H p (.lst xs')) xs' ts' Fi' → Own c Z (upd H p (.lst xs')) v t Ft → (Ft ++ Fi').Nodup → (∀ q ∈ Ft ++ Fi', q ∈ Fi ++ Fs) → Q v (upd H p (.lst xs'))) → r (.ref p) vs H Q
def fMeth (G : List OT → List OT → Option (OT × List OT)) (i : Nat) (fa : Ev → Res (List Arg)) : Ev → Res OT := fun ρ => match slotAt ρ i with
  | some (.lst _) => (fa ρ).bind fun as ρ1 => (match slotAt ρ1 i with
    | some (.lst ts) => (match G ts (as.map (·.1)) with
      | some (t, ts') => .ok t (ρ1.set i (.lst ts'))
      | none => .bad)
    | _ => .bad)
  | _ => .bad
section
variable {X : Cx} {xa : Str → Option Addr} {E : XS} {kp : List Nat} {pu p1 p2 : Bool} {e a b : Expr} {es : List Expr} {pos : Pos}
theorem tBM_ok {i : Nat} {r : V → List V → Hp → VK → Prop} {G : List OT → List OT → Option (OT × List OT)} (hG : MutP (cc X xa) r G) {fa : Ev → Res (List Arg)} {σ : St} {H : Hp} {Q : VK}
    (q : tV (cc X xa) E false (fMeth G i fa) σ H Q) : tBM X.K "list" r (tVar i) (tA (cc X xa) E fa) σ H Q := by
  obtain ⟨Z, ρ, F, ok, q⟩ := q
  unfold fMeth at q
  cases e0 : slotAt ρ i with
  | none => rw [e0] at q; exact q.elim
  | some t0 =>
    rw [e0] at q
    cases t0 with
    | lst ts0 =>
      obtain ⟨h1, h2⟩ := slotAt_eq e0
      obtain ⟨v0, F0, G0, hv, w0, _⟩ := ok.own.takeOut h1 h2
      cases w0 with
      | @lst p xs0 _ F1 hp0 l0 =>
        refine ⟨.ref p, hv, .inl ⟨rfl, xs0, SqL.of hp0⟩, Z, ρ, F, ok, ?_⟩
        dsimp only at q
        cases r1 : fa ρ with
        | bad => rw [r1] at q; exact q
        | exc x ρ' => rw [r1] at q; exact q
        | ok as ρ1 =>
          rw [r1, Res.bind_ok] at q
          intro vs H1 Z1 F1 Fs o1 w1 n1 sp1 _ a1
          cases e1 : slotAt ρ1 i with
          | none => rw [e1] at q; exact q.elim
          | some t1 =>
            rw [e1] at q
            cases t1 with
            | lst ts =>
              dsimp only at q
              obtain ⟨h3, h4⟩ := slotAt_eq e1
              obtain ⟨p', xs, Fi, hv1, hp, l, nFF, pn, go⟩ := o1.mut h3 n1 sp1 w1.there
              rw [hv] at hv1
              cases hv1
              cases e2 : G ts (as.map (·.1)) with
              | none => rw [e2] at q; exact q.elim
              | some tt =>
                obtain ⟨t, ts'⟩ := tt
                rw [e2] at q
                refine hG Z1 H1 p xs vs ts _ t ts' Fi Fs Q o1.same hp pn.1 pn.2 l w1 nFF e2 fun xs' v Fi' Ft l' w' nd sub => ?_
                obtain ⟨F', o', nd', sp', a'⟩ := go xs' ts' Fi' v t Ft l' w' nd sub
                exact q v _ Z1 F' Ft o' w' nd' sp' (a1.trans a') fun z => nomatch z
            | sh d => exact q.elim
            | dct d => exact q.elim
            | mv => exact q.elim
    | sh d => exact q.elim
    | dct d => exact q.elim
    | mv => exact q.elim
theorem tBM0_ok {i : Nat} {r : V → List V → Hp → VK → Prop} {G : List OT → List OT → Option (OT × List OT)} (hG : MutP (cc X xa) r G) {σ : St} {H : Hp} {Q : VK}
    (q : tV (cc X xa) E false (fMeth G i fANil) σ H Q) : tBM0 X.K "list" r (tVar i) σ H Q := by
  obtain ⟨Z, ρ, F, ok, q⟩ := q
  unfold fMeth at q
  cases e0 : slotAt ρ i with
  | none => rw [e0] at q; exact q.elim
  | some t0 =>
    rw [e0] at q
    cases t0 with
    | lst ts =>
      obtain ⟨h1, h2⟩ := slotAt_eq e0
      obtain ⟨p, xs, Fi, hv1, hp, l, nFF, pn, go⟩ := ok.mut (Fs := []) h1 ok.nd (fun _ z => nomatch z) (fun _ z => nomatch z)
      refine ⟨.ref p, hv1, .inl ⟨rfl, xs, SqL.of hp⟩, ?_⟩
      unfold fANil at q
      rw [Res.bind_ok, e0] at q
      dsimp only at q
      cases e2 : G ts (([] : List Arg).map (·.1)) with
      | none => rw [e2] at q; exact q.elim
      | some tt =>
        obtain ⟨t, ts'⟩ := tt
        rw [e2] at q
        refine hG Z H p xs [] ts _ t ts' Fi [] Q ok.same hp pn.1 pn.2 l .nil nFF e2 fun xs' v Fi' Ft l' w' nd sub => ?_
        obtain ⟨F', o', nd', sp', a'⟩ := go xs' ts' Fi' v t Ft l' w' nd sub
        exact q v _ Z F' Ft o' w' nd' sp' a' fun z => nomatch z
    | sh d => exact q.elim
    | dct d => exact q.elim
    | mv => exact q.elim
def GAppend (ts as : List OT) : Option (OT × List OT) :=
  match as with
  | [a] => if ts.length ≤ 1000000 then some (.sh .none, ts ++ [a]) else none
  | _ => none
theorem mut_append {c : VC} : MutP c rAppend GAppend := by
  intro Z H p xs vs ts as t ts' Fi Fs Q s hp p1 p2 l wa n e k
  unfold GAppend at e
  split at e
  · rename_i a
    cases wa with
    | @cons y _ _ _ Fa _ w wn =>
    cases wn
    by_cases hl : ts.length ≤ 1000000
    · rw [if_pos hl] at e
      cases e
      have nq : ∀ q, q ≠ p → ∀ o, H q = some o → upd H p (.lst (xs ++ [y])) q = some o := fun q hq o ho => by rw [upd_ne hq]; exact ho
      have p2' : p ∉ Fa := fun z => p2 (List.mem_append_left _ z)
      refine ⟨p, xs, y, rfl, rfl, hp, by rw [l.length, sizeLine_eq]; omega, k (xs ++ [y]) .non (Fi ++ (Fa ++ [])) [] ?_ (.sh .non) n (fun q hq => hq)⟩
      exact (l.append (.cons w .nil)).frame (Same.refl _) fun q hq o ho => nq q (fun e => by
        subst e
        rcases List.mem_append.mp hq with z | z
        · exact p1 z
        · exact p2 z) o ho
    · rw [if_neg hl] at e
      cases e
  · cases e
def GPop (ts as : List OT) : Option (OT × List OT) :=
  match as with
  | [] => (ts[ts.length - 1]?).map fun t => (t, ts.dropLast)
  | _ => none
theorem dropLast_erase {α : Type} (l : List α) : l.dropLast = l.eraseIdx (l.length - 1) := by
  rw [List.dropLast_eq_take, List.eraseIdx_eq_take_drop_succ]
  cases l with
  | nil => rfl
  | cons a l => simp
theorem mut_pop {c : VC} : MutP c rPop GPop := by
  intro Z H p xs vs ts as t ts' Fi Fs Q s hp p1 p2 l wa n e k
  unfold GPop at e
  split at e
  · cases wa
    cases h : ts[ts.length - 1]? with
    | none => rw [h] at e; cases e
    | some t0 =>
      rw [h] at e
      cases e
      obtain ⟨v, Ft, G, hv, w, l2, pm⟩ := l.erase h
      have n' : (Ft ++ G).Nodup := (pm.nodup_iff).mp (by simpa using n)
      have inF : ∀ q ∈ Ft ++ G, q ∈ Fi := fun q hq => pm.mem_iff.mpr hq
      have nq : ∀ q ∈ Ft ++ G, ∀ o, H q = some o → upd H p (.lst xs.dropLast) q = some o := fun q hq o ho => by rw [upd_off p1 (inF q hq)]; exact ho
      refine ⟨p, xs, v, rfl, rfl, hp, by rw [l.length]; exact hv, k _ v G Ft ?_ (w.frame (Same.refl _) fun q hq => nq q (List.mem_append_left _ hq)) n' fun q hq => List.mem_append_left _ (inF q hq)⟩
      have e1 : xs.dropLast = xs.eraseIdx (ts.length - 1) := by rw [dropLast_erase, l.length]
      rw [← dropLast_erase ts, ← e1] at l2
      exact l2.frame (Same.refl _) fun q hq => nq q (List.mem_append_right _ hq)
  · cases e
theorem ve_append {i : Nat} {x : Str} {fa : Ev → Res (List Arg)} {apos cpos npos : Pos} (hv : PE X (.Name x npos) (tVar i)) (ha : VA X xa E [e] fa)
    (hbase : attributeBase (.Name x npos) "append" X.env (eval (.Name x npos) X.env) = eval (.Name x npos) X.env := by rfl)
    (hfew : ((backTo cpos (starEach [e] X.env)).all (fun x => !x.1) && (backToKw cpos (keywordEach [] X.env)).all (fun x => x.1.isSome)
      && decide ([e].length + ([] : List Keyword).length + (if ([] : List Keyword).isEmpty then 0 else 1) < 30)) = true := by rfl)
    (hline : (apos.endLine == cpos.line) = true := by rfl) (hs : starEach [e] X.env = (false, eval e X.env) :: starEach [] X.env := by rfl) (hplain : (backTo cpos (starEach [] X.env)).any (·.1) = false := by rfl) :
    VE X xa E false (.Call (.Attribute (.Name x npos) "append" apos) [e] [] cpos) (fMeth GAppend i fa) := (pe_bm PySem.F.plainAttrs_list PySem.F.slot_list_append PySem.F.type_list_append mt_append hv ha hbase hfew hline hs hplain).imp fun σ H Q q => tBM_ok mut_append q
theorem ve_pop {i : Nat} {x : Str} {apos cpos npos : Pos} (hv : PE X (.Name x npos) (tVar i))
    (hbase : attributeBase (.Name x npos) "pop" X.env (eval (.Name x npos) X.env) = eval (.Name x npos) X.env := by rfl) (hline : (apos.endLine == cpos.line) = true := by rfl) :
    VE X xa E false (.Call (.Attribute (.Name x npos) "pop" apos) [] [] cpos) (fMeth GPop i fANil) := (pe_bm0 PySem.F.plainAttrs_list PySem.F.slot_list_pop PySem.F.type_list_pop mt_pop hv hbase hline).imp fun σ H Q q => tBM0_ok mut_pop q

/-! ### x[i] = e, x[i][j] = e -/
def fStore1 (i : Nat) (fe : Ev → Res OT) (fi : Ev → Res OT) : Ev → Out := fun ρ => eS (fe ρ) fun t ρ1 => match slotAt ρ1 i with
  | some _ => eS (fi ρ1) fun k ρ2 => (match slotAt ρ2 i, k with
    | some (.lst ts), .sh (.int k) => (match ixN ts.length k with
      | some j => .nx (ρ2.set i (.lst (ts.set j t)))
      | none => .bad)
    | _, _ => .bad)
  | none => .bad
theorem ixN_lt {n : Nat} {i : Int} {j : Nat} (h : ixN n i = some j) : j < n := (ixN_seq h).2.1
theorem vs_store1 {i : Nat} {x : Str} {ix : Expr} {fe fi : Ev → Res OT} {npos spos : Pos} (hv : PE X (.Name x npos) (tVar i)) (he : VE X xa E p1 e fe) (hi : VE X xa E p2 ix fi)
    (ha : ∀ v, assign (.Subscript (.Name x npos) ix spos) X.env v = (do
      let ov ← holding [v] (eval (.Name x npos) X.env)
      let iv ← holding [v, ov] (eval ix X.env)
      standAt spos
      holding [v, ov, iv] (setItem ov iv v)
      release [v, ov, iv] []) := by intro _; rfl)
    (hs : swapsWithSole [.Subscript (.Name x npos) ix spos] e pos.line X.env = pure false := by rfl) (hw : swappedStores [.Subscript (.Name x npos) ix spos] e X.env = pure none := by rfl)
    (h1 : (assignEach [.Subscript (.Name x npos) ix spos] X.env).map (·.2) = [assign (.Subscript (.Name x npos) ix spos) X.env] := by rfl) :
    VS X xa E kp (.Assign [.Subscript (.Name x npos) ix spos] e pos) (fStore1 i fe fi) := (ps_asg he (pg_sub hv hi set_list ha) hs hw h1).imp fun D σ H ⟨Z, ρ, F, ok, q⟩ =>
  ⟨Z, ρ, F, ok, rV_of q fun t ρ1 v H1 Z1 F1 Ft o1 w1 n1 sp1 a1 q => by
    cases e1 : slotAt ρ1 i with
    | none => rw [e1] at q; exact q.elim
    | some t1 =>
      rw [e1] at q
      dsimp only at q
      obtain ⟨h1, h2⟩ := slotAt_eq e1
      obtain ⟨v0, F0, G0, hv0, _⟩ := o1.own.takeOut h1 h2
      refine ⟨v0, hv0, Z1, ρ1, F1, o1, ?_⟩
      obtain ⟨m1, m2, m3⟩ := List.nodup_append.mp n1
      have apart : ∀ p ∈ Ft, p ∉ F1 := fun p hp hq => m3 p hp p hq rfl
      cases r2 : fi ρ1 with
      | bad => rw [r2] at q; exact q
      | exc x ρ' =>
        rw [r2] at q
        exact fun cls d H' Z' F' o xr a => q cls d σ H' Z' F' o xr (a1.trans (a.widen (fun p hp => List.mem_append_right _ hp) fun p hp => .inr hp)) (Kept.refl _ _)
      | ok kt ρ2 =>
        rw [r2, eS_ok] at q
        intro iv H2 Z2 F2 Fk o2 w2 n2 sp2 a2 _
        have a2' := a2.less
        obtain ⟨s1, s2⟩ := a2'.sepF w1.there apart sp1
        have w1' := a2'.frame w1 apart
        split at q
        · rename_i ts k e2 
          have ei := int_read w2
          subst ei
          split at q
          · rename_i j hj
            obtain ⟨h3, h4⟩ := slotAt_eq e2
            obtain ⟨p, xs, Fi, hv1, hp, l, nFF, pn, go⟩ := o2.mut (Fs := Ft) h3 (List.nodup_append.mpr ⟨m1, o2.nd, fun a ha b hb e => s2 a ha (e ▸ hb)⟩) s1 w1'.there
            rw [hv0] at hv1
            cases hv1
            have hjl := ixN_lt hj
            obtain ⟨u, Fu, G, hu, wu, pu, lens⟩ := l.lens (j := j) (t := ts[j]) (by simp [hjl])
            refine ⟨p, xs, k, j, rfl, rfl, hp, by rw [l.length]; exact hj, ?_⟩
            have inFi : ∀ q ∈ G, q ∈ Fi := fun q hq => pu.mem_iff.mpr (List.mem_append_right _ hq)
            obtain ⟨F', l', pm⟩ := lens (upd H2 p (.lst (xs.set j v))) v t Ft (fun q hq o ho => by rw [upd_off pn.1 (inFi q hq)]; exact ho) (w1'.frame (Same.refl _) fun q hq o ho => by rw [upd_off pn.2 hq]; exact ho)
            have nG := (List.nodup_append.mp ((pu.nodup_iff).mp (List.nodup_append.mp nFF).1)).2.1
            have n' : F'.Nodup := (pm.nodup_iff).mpr (List.nodup_append.mpr ⟨m1, nG, fun a ha b hb e => (List.nodup_append.mp nFF).2.2 b (inFi b hb) a ha e.symm⟩)
            obtain ⟨F3, o3, n3, _, a3⟩ := go _ (ts.set j t) F' .non (.sh .none) [] l' (.sh .non) n' fun q hq => by
              rcases List.mem_append.mp (pm.mem_iff.mp hq) with z | z
              · exact List.mem_append_right _ z
              · exact List.mem_append_left _ (inFi q z)
            refine q σ _ Z2 F3 o3 (a1.trans ((a2'.widen (G := Ft ++ F1) (G' := Ft ++ F2) (fun p hp => List.mem_append_right _ hp) fun p hp => ?_).trans a3)) (Kept.refl _ _)
            exact (List.mem_append.mp hp).imp (fun z => List.mem_append_left _ z) id
          · exact q.elim
        · exact q.elim⟩
end
end VL

end

section
set_option Elab.async false
set_option linter.all false
set_option maxRecDepth 100000
set_option maxHeartbeats 1000000
namespace VL
open PySem PySem.Spec PyProof.Rows L2


mutual
theorem own_uniq {c : VC} {Z H : Hp} : ∀ {v : V} {t : OT} {A B : List Addr}, Own c Z H v t A → Own c Z H v t B → A = B
  | _, _, _, _, .sh _, .sh _ => rfl
  | _, _, _, _, .lst h l, .lst h' l' => by
    rw [h] at h'
    cases h'
    rw [ownL_uniq l l']
  | _, _, _, _, .dct .., .dct .. => rfl
theorem ownL_uniq {c : VC} {Z H : Hp} : ∀ {v : List V} {t : List OT} {A B : List Addr}, OwnL c Z H v t A → OwnL c Z H v t B → A = B
  | _, _, _, _, .nil, .nil => rfl
  | _, _, _, _, .cons h l, .cons h' l' => by rw [own_uniq h h', ownL_uniq l l']
end
section
variable {X : Cx} {xa : Str → Option Addr} {E : XS} {kp : List Nat} {pu p1 p2 : Bool} {e a b : Expr} {es : List Expr} {pos : Pos}
/-- x[i][j] = e -/
def fStore2 (i : Nat) (fe f1 f2 : Ev → Res OT) : Ev → Out := fun ρ => eS (fe ρ) fun t ρ1 => match slotAt ρ1 i with
  | some _ => eS (f1 ρ1) fun k1 ρ2 => (match slotAt ρ2 i, k1 with
    | some (.lst ts), .sh (.int k) => (match ixN ts.length k with
      | some j => (match ts[j]? with
        | some (.lst us) => eS (f2 ρ2) fun k2 ρ3 => (match k2 with
          | .sh (.int m) => (match ixN us.length m with
            | some l => .nx (ρ3.set i (.lst (ts.set j (.lst (us.set l t)))))
            | none => .bad)
          | _ => .bad)
        | _ => .bad)
      | none => .bad)
    | _, _ => .bad)
  | none => .bad
theorem vs_store2 {i : Nat} {x : Str} {ix ix2 : Expr} {fe f1 f2 : Ev → Res OT} {npos spos spos2 : Pos} (hv : PE X (.Name x npos) (tVar i)) (he : VE X xa E p1 e fe) (h1 : VE X xa E p2 ix f1) (h2 : VE X xa E true ix2 f2) (hix : PlainIx ix)
    (ha : ∀ v, assign (.Subscript (.Subscript (.Name x npos) ix spos) ix2 spos2) X.env v = (do
      let ov ← holding [v] (eval (.Subscript (.Name x npos) ix spos) X.env)
      let iv ← holding [v, ov] (eval ix2 X.env)
      standAt spos2
      holding [v, ov, iv] (setItem ov iv v)
      release [v, ov, iv] []) := by intro _; rfl)
    (hs : swapsWithSole [.Subscript (.Subscript (.Name x npos) ix spos) ix2 spos2] e pos.line X.env = pure false := by rfl) (hw : swappedStores [.Subscript (.Subscript (.Name x npos) ix spos) ix2 spos2] e X.env = pure none := by rfl)
    (hz : (assignEach [.Subscript (.Subscript (.Name x npos) ix spos) ix2 spos2] X.env).map (·.2) = [assign (.Subscript (.Subscript (.Name x npos) ix spos) ix2 spos2) X.env] := by rfl) :
    VS X xa E kp (.Assign [.Subscript (.Subscript (.Name x npos) ix spos) ix2 spos2] e pos) (fStore2 i fe f1 f2) := (ps_asg he (pg_sub (pe_ix ix_list hv h1 hix) h2 set_list ha) hs hw hz).imp fun D σ H ⟨Z, ρ, F, ok, q⟩ =>
  ⟨Z, ρ, F, ok, rV_of q fun t ρ1 v H1 Z1 F1 Ft o1 w1 n1 sp1 a1 q => by
    cases e1 : slotAt ρ1 i with
    | none => rw [e1] at q; exact q.elim
    | some t1 =>
      rw [e1] at q
      dsimp only at q
      obtain ⟨h3, h4⟩ := slotAt_eq e1
      obtain ⟨v0, F0, G0, hv0, _⟩ := o1.own.takeOut h3 h4
      refine ⟨v0, hv0, Z1, ρ1, F1, o1, ?_⟩
      obtain ⟨m1, m2, m3⟩ := List.nodup_append.mp n1
      have apart : ∀ p ∈ Ft, p ∉ F1 := fun p hp hq => m3 p hp p hq rfl
      cases r2 : f1 ρ1 with
      | bad => rw [r2] at q; exact q
      | exc x ρ' =>
        rw [r2] at q
        exact fun cls d H' Z' F' o xr a => q cls d σ H' Z' F' o xr (a1.trans (a.widen (fun p hp => List.mem_append_right _ hp) fun p hp => .inr hp)) (Kept.refl _ _)
      | ok kt ρ2 =>
        rw [r2, eS_ok] at q
        intro iv H2 Z2 F2 Fk o2 w2 n2 sp2 a2 _
        have a2' := a2.less
        obtain ⟨s1, s2⟩ := a2'.sepF w1.there apart sp1
        have w1' := a2'.frame w1 apart
        split at q
        · rename_i ts k e2
          have ei := int_read w2
          subst ei
          split at q
          · rename_i j hj
            split at q
            · rename_i us hus
              obtain ⟨h5, h6⟩ := slotAt_eq e2
              obtain ⟨p, xs, Fi, hv1, hp, l, nFF, pn, go⟩ := o2.mut (Fs := Ft) h5 (List.nodup_append.mpr ⟨m1, o2.nd, fun a ha b hb e => s2 a ha (e ▸ hb)⟩) s1 w1'.there
              rw [hv0] at hv1
              cases hv1
              obtain ⟨u, Fu, G, hu, wu, pu, lens⟩ := l.lens hus
              refine ⟨p, xs, k, u, rfl, rfl, SqL.of hp, ?_, ?_⟩
              · unfold atI
                rw [l.length, hj, Option.bind_some]
                exact hu
              have hxs : xs.set j u = xs := by
                apply List.ext_getElem?
                intro m
                by_cases hm : j = m
                · subst hm
                  rw [List.getElem?_set_self (List.getElem?_eq_some_iff.mp hu).1, hu]
                · rw [List.getElem?_set_ne hm]
              refine ⟨Z2, ρ2, F2, o2, ?_⟩
              cases r3 : f2 ρ2 with
              | bad => rw [r3] at q; exact q
              | exc x ρ' =>
                rw [r3] at q
                exact fun cls d H' Z' F' o xr a => q cls d σ H' Z' F' o xr (a1.trans ((a2'.trans a).widen (fun p hp => List.mem_append_right _ hp) fun p hp => .inr hp)) (Kept.refl _ _)
              | ok k2 ρ3 =>
                rw [r3, eS_ok] at q
                intro iv2 H3 Z3 F3 Fk3 o3 w3 n3 sp3 a3 kk3
                obtain ⟨sm, e3⟩ := kk3 rfl
                subst e3
                have a3' := a3.less
                have apart2 : ∀ p ∈ Ft, p ∉ F2 := s2
                obtain ⟨s3, s4⟩ := a3'.sepF w1'.there apart2 s1
                have w1'' := a3'.frame w1' apart2
                split at q
                · rename_i m
                  have ei2 := int_read w3
                  subst ei2
                  split at q
                  · rename_i l2 hl2
                    -- the list once more, in the state as it is now
                    obtain ⟨p', xs', Fi', hv2, hp', l', nFF', pn', go'⟩ := o3.mut (Fs := Ft) h5 (List.nodup_append.mpr ⟨m1, o3.nd, fun a ha b hb e => s4 a ha (e ▸ hb)⟩) s3 w1''.there
                    rw [hv0] at hv2
                    cases hv2
                    have ex : xs' = xs := by
                      have z := sm p _ hp
                      rw [hp'] at z
                      cases z; rfl
                    subst ex
                    obtain ⟨u', Fu', G', hu', wu', pu', lens'⟩ := l'.lens hus
                    rw [hu] at hu'
                    cases hu'
                    cases wu' with
                    | @lst p2 ys _ Fy hy ly =>
                      have inFi : ∀ q ∈ p2 :: Fy, q ∈ Fi' := fun q hq => pu'.mem_iff.mpr (List.mem_append_left _ hq)
                      have inG : ∀ q ∈ G', q ∈ Fi' := fun q hq => pu'.mem_iff.mpr (List.mem_append_right _ hq)
                      have nFi : Fi'.Nodup := (List.nodup_append.mp nFF').1
                      obtain ⟨c1, c2, c3⟩ := List.nodup_append.mp ((pu'.nodup_iff).mp nFi)
                      have hl2' := ixN_lt hl2
                      obtain ⟨z, Fz, G2, hz1, wz, pz, lens2⟩ := ly.lens (j := l2) (t := us[l2]) (by simp [hl2'])
                      have inFy : ∀ q ∈ G2, q ∈ Fy := fun q hq => pz.mem_iff.mpr (List.mem_append_right _ hq)
                      have p2Fy : p2 ∉ Fy := (List.nodup_cons.mp c1).1
                      have p2Ft : p2 ∉ Ft := fun y => (List.nodup_append.mp nFF').2.2 p2 (inFi p2 (by simp)) p2 y rfl
                      have p2p : p ≠ p2 := fun y => pn'.1 (y ▸ inFi p2 (by simp))
                      refine ⟨p2, ys, m, l2, rfl, rfl, hy, by rw [ly.length]; exact hl2, ?_⟩
                      obtain ⟨F5, ly2, pm2⟩ := lens2 (upd H3 p2 (.lst (ys.set l2 v))) v t Ft (fun q hq o ho => by rw [upd_off p2Fy (inFy q hq)]; exact ho) (w1''.frame (Same.refl _) fun q hq o ho => by rw [upd_off p2Ft hq]; exact ho)
                      have nG2 := (List.nodup_append.mp ((pz.nodup_iff).mp (List.nodup_cons.mp c1).2)).2.1
                      have n5 : F5.Nodup := (pm2.nodup_iff).mpr (List.nodup_append.mpr ⟨m1, nG2, fun a ha b hb e => (List.nodup_append.mp nFF').2.2 b (inFi b (List.mem_cons_of_mem _ (inFy b hb))) a ha e.symm⟩)
                      have in5 : ∀ q ∈ F5, q ∈ Ft ∨ q ∈ Fy := fun q hq => (List.mem_append.mp (pm2.mem_iff.mp hq)).imp id (inFy q)
                      have wl2 : Own (cc X xa) Z3 (upd H3 p2 (.lst (ys.set l2 v))) (.ref p2) (.lst (us.set l2 t)) (p2 :: F5) := .lst upd_same ly2
                      have p2G : p2 ∉ G' := fun y => c3 p2 (by simp) p2 y rfl
                      obtain ⟨F6, l6, pm6⟩ := lens' (upd H3 p2 (.lst (ys.set l2 v))) (.ref p2) (.lst (us.set l2 t)) (p2 :: F5) (fun q hq o ho => by rw [upd_off p2G hq]; exact ho) wl2
                      rw [hxs] at l6
                      -- the outer list stays as it is: upd at p by itself
                      have hpu : upd (upd H3 p2 (.lst (ys.set l2 v))) p (.lst xs') = upd H3 p2 (.lst (ys.set l2 v)) := by
                        funext q
                        by_cases hq : q = p
                        · subst hq
                          rw [upd_same, upd_ne p2p, hp']
                        · rw [upd_ne hq]
                      have sub6 : ∀ q ∈ F6, q ∈ Fi' ++ Ft := fun q hq => by
                        rcases List.mem_append.mp (pm6.mem_iff.mp hq) with y | y
                        · rcases List.mem_cons.mp y with y | y
                          · exact List.mem_append_left _ (inFi q (by simp [y]))
                          · rcases in5 q y with y | y
                            · exact List.mem_append_right _ y
                            · exact List.mem_append_left _ (inFi q (List.mem_cons_of_mem _ y))
                        · exact List.mem_append_left _ (inG q y)
                      have n6 : F6.Nodup := by
                        refine (pm6.nodup_iff).mpr (List.nodup_append.mpr ⟨List.nodup_cons.mpr ⟨fun y => ?_, n5⟩, c2, fun a ha b hb e => ?_⟩)
                        · rcases in5 p2 y with y | y
                          · exact p2Ft y
                          · exact p2Fy y
                        · subst e
                          rcases List.mem_cons.mp ha with y | y
                          · exact p2G (y ▸ hb)
                          · rcases in5 a y with y | y
                            · exact (List.nodup_append.mp nFF').2.2 a (inG a hb) a y rfl
                            · exact c3 a (List.mem_cons_of_mem _ y) a hb rfl
                      -- the slot's footprint: p, F6
                      obtain ⟨v9, F9, G9, hv9, w9, o9, n9, sp9, pp9⟩ := o3.moved h5 (fun z => nomatch z)
                      rw [hv0] at hv9
                      cases hv9
                      cases w9 with
                      | @lst _ xs9 _ Fi9 hp9 l9 =>
                        have ex9 : xs9 = xs' := by rw [hp'] at hp9; cases hp9; rfl
                        subst ex9
                        have uni : ∀ {vs : List V} {tt : List OT} {A B : List Addr}, OwnL (cc X xa) Z3 H3 vs tt A → OwnL (cc X xa) Z3 H3 vs tt B → A = B := fun h k => ownL_uniq h k
                        have ef : Fi9 = Fi' := uni l9 l'
                        subst ef
                        have p2F9 : p2 ∈ p :: Fi9 := List.mem_cons_of_mem _ (inFi p2 (by simp))
                        have p2G9 : p2 ∉ G9 := fun y => (List.nodup_append.mp n9).2.2 p2 p2F9 p2 y rfl
                        have FtG9 : ∀ q ∈ Ft, q ∉ G9 := fun q hq y => s4 q hq (pp9.mem_iff.mpr (List.mem_append_right _ y))
                        have oG : Ok (cc X xa) Z3 (upd H3 p2 (.lst (ys.set l2 v))) σ (ρ3.set i .mv) G9 := ⟨fun q o hq => by
                          rw [upd_ne (fun e => by rw [e, sp9 p2 p2F9] at hq; cases hq)]
                          exact o9.same q o hq, o9.own.frame (Same.refl _) fun q hq o ho => by rw [upd_off p2G9 hq]; exact ho, o9.nd, o9.sep⟩
                        have wl : Own (cc X xa) Z3 (upd H3 p2 (.lst (ys.set l2 v))) (.ref p) (.lst (ts.set j (.lst (us.set l2 t)))) (p :: F6) := .lst (by rw [upd_ne p2p]; exact hp') l6
                        have pF6 : p ∉ F6 := fun y => (List.mem_append.mp (sub6 p y)).elim pn'.1 pn'.2
                        have out6 : ∀ q ∈ F6, q ∉ G9 := fun q hq y => (List.mem_append.mp (sub6 q hq)).elim (fun x => (List.nodup_append.mp n9).2.2 q (List.mem_cons_of_mem _ x) q y rfl) fun x => FtG9 q x y
                        have pG9 : p ∉ G9 := fun y => (List.nodup_append.mp n9).2.2 p (by simp) p y rfl
                        have nn : (p :: F6 ++ G9).Nodup := List.nodup_cons.mpr ⟨fun y => (List.mem_append.mp y).elim pF6 pG9, List.nodup_append.mpr ⟨n6, o9.nd, fun a ha b hb e => out6 a ha (e ▸ hb)⟩⟩
                        have nz : ∀ q ∈ p :: F6, Z3 q = none := fun q hq => by
                          rcases List.mem_cons.mp hq with y | y
                          · rw [y]; exact sp9 p (by simp)
                          · rcases List.mem_append.mp (sub6 q y) with x | x
                            · exact sp9 q (List.mem_cons_of_mem _ x)
                            · exact s3 q x
                        obtain ⟨F7, o7, s7⟩ := oG.unlock hv0 wl nn nz
                        rw [List.set_set] at o7
                        have p2F3 : p2 ∈ Ft ++ F3 := List.mem_append_right _ (pp9.mem_iff.mpr (List.mem_append_left _ p2F9))
                        have aAll : After Z3 H3 (Ft ++ F3) Z3 (upd H3 p2 (.lst (ys.set l2 v))) F7 := ⟨Same.refl _, fun q o hq nq => by
                          rw [upd_ne (fun e => nq (by rw [e]; exact p2F3))]
                          exact hq, fun q hq => .inl (by
                            rcases List.mem_append.mp (s7 q hq) with y | y
                            · rcases List.mem_cons.mp y with x | x
                              · exact List.mem_append_right _ (pp9.mem_iff.mpr (List.mem_append_left _ (by simp [x])))
                              · rcases List.mem_append.mp (sub6 q x) with u | u
                                · exact List.mem_append_right _ (pp9.mem_iff.mpr (List.mem_append_left _ (List.mem_cons_of_mem _ u)))
                                · exact List.mem_append_left _ u
                            · exact List.mem_append_right _ (pp9.mem_iff.mpr (List.mem_append_right _ y))), fun q hq => .inl hq⟩
                        refine q σ _ Z3 F7 o7 (a1.trans (((a2'.trans a3').widen (G := Ft ++ F1) (G' := Ft ++ F3) (fun p hp => List.mem_append_right _ hp) fun p hp => ?_).trans aAll)) (Kept.refl _ _)
                        exact (List.mem_append.mp hp).imp (fun z => List.mem_append_left _ z) id
                  · exact q.elim
                · exact q.elim
            · exact q.elim
          · exact q.elim
        · exact q.elim⟩

/-! ### built-in functions -/
def gLen (ts : List OT) : Option OT :=
  match ts with
  | [.sh (.str x)] => if x.length ≤ 1000000 then some (.sh (.int x.length)) else none
  | [t] => (qItems t).map fun l => .sh (.int l.length)
  | _ => none
def rLenA (K : PySem.W.Frag) : List V → Hp → VK → Prop := fun xs H Q => (∃ p ys, xs = [.ref p] ∧ (SqL K H p ys ∨ SqT K H p ys) ∧ Q (.int ys.length) H) ∨ ∃ z, xs = [.str z] ∧ z.length ≤ sizeLine ∧ Q (.int z.length) H
theorem call_lenA : CallR X (.builtin "len") (rLenA X.K) := call_len_seq.or call_len_str
theorem prim_len {c : VC} : Prim c (rLenA c.K) gLen := by
  intro Z H vs ts t Q s r e n
  unfold gLen at e
  split at e
  · split at e
    · cases e
      cases r with
      | cons w r =>
        cases r
        exact .inr ⟨_, by rw [str_read w], million_line (by assumption), n.int s⟩
    · cases e
  · rename_i t0 hne
    cases h : qItems t0 with
    | none => rw [h] at e; cases e
    | some l =>
      rw [h] at e
      cases e
      cases r with
      | cons w r =>
        cases r
        obtain ⟨a, xs, rfl, q, rr⟩ := q_read s w h
        exact .inl ⟨a, xs, rfl, q, by rw [rr.length]; exact n.int s⟩
  · cases e
/-- tuple(x), list(x) of a list or a tuple -/
def gTuple (ts : List OT) : Option OT :=
  match ts with
  | [t] => (qItems t).map fun l => .sh (.tuple l)
  | _ => none
def gList (ts : List OT) : Option OT :=
  match ts with
  | [t] => (qItems t).map fun l => .lst (l.map .sh)
  | _ => none
def rTupF (K : PySem.W.Frag) : List V → Hp → VK → Prop := fun xs H Q => ∃ p ys, xs = [.ref p] ∧ ((SqL K H p ys ∧ ∀ l o, H l = none → o.dict = none → Q (.ref l) (upd H l (.frz o (.tup ys)))) ∨ (SqT K H p ys ∧ Q (.ref p) H))
theorem call_tupleF {X : Cx} : CallR X (.type "tuple") (rTupF X.K) := by
  intro pins s σ H xs us Q I r ⟨p, ys, ex, h⟩
  subst ex
  obtain ⟨u, rfl, rx⟩ := vals1 r
  cases rx
  rcases h with ⟨hq, q⟩ | ⟨hq, q⟩
  · obtain ⟨its, rv, pl, hz⟩ := I.list hq
    have hn := rv.length
    refine call_tuple_list pl.isList (fun g kp => ?_) (by simp only [List.size_toArray] <;> omega)
    have J : Inv X pins σ H { s with heap := g } := I.kept (t' := s.toks) kp
    have new : (g.push { cls := .type "tuple", data := .seq its.toArray }).get? g.objs.size = _ := Heap.get?_push_size _ rfl
    exact ⟨.ref g.objs.size, upd H g.objs.size (.frz { cls := .type "tuple", data := .seq its.toArray } (.tup ys)),
      J.laid (t' := s.toks) (fun b u e => Heap.get?_push_of_some _ e) (Nat.le_refl _) ⟨new, hz, its, rv, _, new, rfl, _, rfl⟩, rfl, q _ _ (J.hok.fresh (Nat.le_refl _)) rfl⟩
  · obtain ⟨its, rv, pl, hz⟩ := I.tuple hq
    exact call_tuple_same pl ⟨.ref p, H, I, rfl, q⟩
theorem prim_tuple {c : VC} : Prim c (rTupF c.K) gTuple := by
  intro Z H vs ts t Q s r e n
  unfold gTuple at e
  split at e
  · rename_i t0
    cases h : qItems t0 with
    | none => rw [h] at e; cases e
    | some l =>
      rw [h] at e
      cases e
      cases r with
      | cons w r =>
        cases r
        have lst : ∀ {xs : List V} {p : Addr}, RpL c Z xs l → SqL c.K H p xs → rTupF c.K [V.ref p] H Q :=
          fun {xs p} rr hq => ⟨p, xs, rfl, .inl ⟨hq, fun q o hq hd => n.shNew s hq (.tupF upd_same hd (rr.mono (same_upd (s.free hq))))⟩⟩
        cases w with
        | sh w =>
          cases w with
          | @tup a xs ds hq l k =>
            cases h
            exact ⟨a, xs, rfl, .inr ⟨SqT.mono s hq, n.now s (.tup hq l k)⟩⟩
          | @lst a xs ds hq l =>
            cases h
            exact lst l (s.seq hq)
          | _ => cases h
        | @lst p xs ts F hq l =>
          have e1 := shs_eq (show shs ts = some _ from h)
          subst e1
          exact lst l.shs.1 (SqL.of hq)
        | dct => cases h
  · cases e
theorem prim_list {c : VC} : Prim c (fun xs H Q => ∃ p ys, xs = [.ref p] ∧ (SqL c.K H p ys ∨ SqT c.K H p ys) ∧ ∀ l, H l = none → Q (.ref l) (upd H l (.lst ys))) gList := by
  intro Z H vs ts t Q s r e n
  unfold gList at e
  split at e
  · rename_i t0
    cases h : qItems t0 with
    | none => rw [h] at e; cases e
    | some l =>
      rw [h] at e
      cases e
      cases r with
      | cons w r =>
        cases r
        obtain ⟨a, xs, rfl, q, rr⟩ := q_read s w h
        exact ⟨a, xs, rfl, q, fun p hp => n.lstNew s hp rr⟩
  · cases e
/-- int(x) -/
def gInt (ts : List OT) : Option OT :=
  match ts with
  | [.sh (.int i)] => some (.sh (.int i))
  | [.sh (.bool b)] => some (.sh (.int (if b then 1 else 0)))
  | [.sh (.str x)] => if x.length ≤ 640 then (PySem.intText? x).map fun n => .sh (.int n) else none
  | _ => none
def rIntA : List V → Hp → VK → Prop := fun xs H Q => ((∃ i, xs = [.int i] ∧ Q (.int i) H) ∨ ∃ k, xs = [.bl k] ∧ Q (.int (if k then 1 else 0)) H) ∨ ∃ a n, xs = [.str a] ∧ PySem.intText? a = some n ∧ a.length ≤ 640 ∧ Q (.int n) H
theorem prim_int {c : VC} : Prim c rIntA gInt := by
  intro Z H vs ts t Q s r e n
  unfold gInt at e
  split at e
  · cases e
    cases r with
    | cons w r => cases r; exact .inl (.inl ⟨_, by rw [int_read w], n.int s⟩)
  · cases e
    cases r with
    | cons w r => cases r; exact .inl (.inr ⟨_, by rw [bool_read w], n.int s⟩)
  · split at e
    · rename_i x hl
      cases h : PySem.intText? x with
      | none => rw [h] at e; cases e
      | some k =>
        rw [h] at e
        cases e
        cases r with
        | cons w r => cases r; exact .inr ⟨x, k, by rw [str_read w], h, hl, n.int s⟩
    · cases e
  · cases e
theorem call_intA : CallR X (.type "int") rIntA := call_int1.or call_int_str
/-- lists of ints -/
def intsOf : List D → Option (List Int)
  | [] => some []
  | .int i :: ds => (intsOf ds).map (i :: ·)
  | _ :: _ => none
theorem intsOf_eq : ∀ {ds : List D} {ns : List Int}, intsOf ds = some ns → ds = ns.map .int
  | [], ns, h => by simp [intsOf] at h; subst h; rfl
  | .int i :: ds, ns, h => by
    cases e : intsOf ds with
    | none => simp [intsOf, e] at h
    | some r =>
      simp [intsOf, e] at h
      subst h
      simp [intsOf_eq e]
  | .none :: _, _, h => by simp [intsOf] at h
  | .bool _ :: _, _, h => by simp [intsOf] at h
  | .str _ :: _, _, h => by simp [intsOf] at h
  | .list _ :: _, _, h => by simp [intsOf] at h
  | .tuple _ :: _, _, h => by simp [intsOf] at h
  | .dict _ :: _, _, h => by simp [intsOf] at h
@[simp] theorem intsOf_map (ns : List Int) : intsOf (ns.map .int) = some ns := by
  induction ns with
  | nil => rfl
  | cons n ns ih => simp [intsOf, ih]
theorem RpL.ints {c : VC} {Z : Hp} : ∀ {xs : List V} {ns : List Int}, RpL c Z xs (ns.map .int) → xs = ns.map V.int
  | _, [], .nil => rfl
  | _, n :: ns, .cons h l => by cases h; rw [RpL.ints l]; rfl
def gSum (ts : List OT) : Option OT :=
  match ts with
  | [t] => ((lItems t).bind intsOf).map fun ns => .sh (.int ns.sum)
  | _ => none
theorem prim_sum {c : VC} : Prim c (L2.rSum c.K) gSum := by
  intro Z H vs ts t Q s r e n
  unfold gSum at e
  split at e
  · rename_i t0
    cases h : lItems t0 with
    | none => rw [h] at e; cases e
    | some l =>
      rw [h, Option.bind_some] at e
      cases h2 : intsOf l with
      | none => rw [h2] at e; cases e
      | some ns =>
        rw [h2] at e
        cases e
        cases r with
        | cons w r =>
          cases r
          obtain ⟨a, xs, rfl, q, rr⟩ := lst_read s w h
          rw [intsOf_eq h2] at rr
          have e1 := rr.ints
          subst e1
          exact ⟨a, ns, rfl, q, n.int s⟩
  · cases e
def gMax2 (ts : List OT) : Option OT :=
  match ts with
  | [.sh (.int i), .sh (.int j)] => some (.sh (.int (if j > i then j else i)))
  | _ => none
def gMin2 (ts : List OT) : Option OT :=
  match ts with
  | [.sh (.int i), .sh (.int j)] => some (.sh (.int (if j < i then j else i)))
  | _ => none
def gAbs (ts : List OT) : Option OT :=
  match ts with
  | [.sh (.int i)] => some (.sh (.int (if i < 0 then -i else i)))
  | _ => none
theorem prim_max2 {c : VC} : Prim c (fun xs H Q => ∃ i j, xs = [.int i, .int j] ∧ Q (.int (if j > i then j else i)) H) gMax2 := by
  intro Z H vs ts t Q s r e n
  unfold gMax2 at e
  split at e
  · cases e
    cases r with
    | cons w r => cases r with
      | cons w2 r => cases r; exact ⟨_, _, by rw [int_read w, int_read w2], n.int s⟩
  · cases e
theorem prim_min2 {c : VC} : Prim c (fun xs H Q => ∃ i j, xs = [.int i, .int j] ∧ Q (.int (if j < i then j else i)) H) gMin2 := by
  intro Z H vs ts t Q s r e n
  unfold gMin2 at e
  split at e
  · cases e
    cases r with
    | cons w r => cases r with
      | cons w2 r => cases r; exact ⟨_, _, by rw [int_read w, int_read w2], n.int s⟩
  · cases e
theorem prim_abs {c : VC} : Prim c (fun xs H Q => ∃ i, xs = [.int i] ∧ Q (.int (if i < 0 then -i else i)) H) gAbs := by
  intro Z H vs ts t Q s r e n
  unfold gAbs at e
  split at e
  · cases e
    cases r with
    | cons w r => cases r; exact ⟨_, by rw [int_read w], n.int s⟩
  · cases e
/-! ### isinstance(x, T), T built in -/
def dTy : D → String
  | .none => "NoneType"
  | .bool _ => "bool"
  | .int _ => "int"
  | .str _ => "str"
  | .list _ => "list"
  | .tuple _ => "tuple"
  | .dict _ => "dict"
def isD : D → Bool
  | .dict _ => true
  | _ => false
theorem Rp.tyX {c : VC} {H : Hp} {v : V} {d : D} (r : Rp c H v d) (h : isD d = false) : TyX c.K H v (.type (dTy d)) := by
  cases r with
  | non => exact .base .non
  | bl b => exact .base (.bl b)
  | int i => exact .base (.int i)
  | str x => exact .base (.str x)
  | tup hq l _ =>
    rcases hq with (h | ⟨o, h⟩) | ⟨o, its, n, h1, h2, _⟩
    · exact .base (.tup h)
    · exact .fTuple h
    · exact .kTuple h1 h2
  | lst hq l =>
    rcases hq with (h | ⟨o, h⟩) | ⟨o, its, n, h1, h2, _⟩
    · exact .base (.lst h)
    · exact .base (.frz h)
    · exact .kList h1 h2
  | dct => cases h
  | ex => cases h
def fIsi (T : String) (f : Ev → Res PH) : Ev → Res OT := fun ρ => (f ρ).bind fun h ρ1 => match h.get ρ1 with
  | some t => if isD t.d = false then Res.of ((kitB (dTy t.d) T).map fun b => .sh (.bool b)) ρ1 else .bad
  | none => .bad
theorem ve_isi {T : String} {x : Str} {f : Ev → Res PH} {p q : Pos} (h : VP X xa E pu e f) (hg : Gl X "isinstance") (hm : X.mg "isinstance" = none) (hg2 : Gl X x) (hm2 : X.mg x = none) (hv2 : bootBuiltins x = some (.type T)) (hn2 : x ≠ "__name__" := by decide) (hd2 : (x == ("__debug__" : Str)) = false := by decide)
    (hs : starEach [e, .Name x q] X.env = (false, eval e X.env) :: starEach [.Name x q] X.env := by rfl) (hs2 : starEach [.Name x q] X.env = (false, eval (.Name x q) X.env) :: starEach [] X.env := by rfl) (hpl : (backTo pos (starEach [.Name x q] X.env)).any (·.1) = false := by rfl) :
    VE X xa E pu (.Call (.Name "isinstance" p) [e, .Name x q] [] pos) (fIsi T f) := (pe_callB call_isi hg hm (by decide +kernel) (pa_cons h (pa_cons (pe_bltn (v := .ty T) hg2 hm2 hv2 rfl hn2 hd2) pa_nil hs2) hs) (by decide) (by decide) hs hpl).imp fun σ H Q ⟨Z, ρ, F, ok, q⟩ => by
  refine ⟨Z, ρ, F, ok, ?_⟩
  unfold fIsi at q
  cases r1 : f ρ with
  | bad => rw [r1] at q; exact q
  | exc x ρ' => rw [r1] at q; exact q
  | ok h1 ρ1 =>
    rw [r1] at q
    intro v1 H1 Z1 F1 o1 w1 a1 k1
    have q1 := rV.later (pu' := true) q a1 fun z => ⟨rfl, k1 z⟩
    rw [Res.bind_ok] at q1
    cases e1 : h1.get ρ1 with
    | none => rw [e1] at q1; exact q1.elim
    | some t1 =>
      rw [e1] at q1
      dsimp only at q1
      obtain ⟨G1, x1⟩ := w1.read o1 e1
      by_cases hd : isD t1.d = false
      · rw [if_pos hd] at q1
        cases e3 : kitB (dTy t1.d) T with
        | none => rw [e3] at q1; exact q1.elim
        | some b =>
          rw [e3] at q1
          exact ⟨v1, .ty T, _, _, b, rfl, .ty T, (x1.flat o1.same).tyX hd, kit_ty e3, (o1.newR q1).bool o1.same⟩
      · rw [if_neg hd] at q1
        exact q1.elim
end
end VL

end

section
set_option Elab.async false
set_option linter.all false
set_option maxRecDepth 100000
set_option maxHeartbeats 1000000
namespace VL
open PySem PySem.Spec PyProof.Rows L2

section
variable {X : Cx} {xa : Str → Option Addr} {E : XS} {kp : List Nat} {pu p1 p2 : Bool} {e a b : Expr} {es : List Expr} {pos : Pos}
/-- x, y = a, b -/
def fPar (i j : Nat) (fa : Ev → Res (List Arg)) : Ev → Out := fun ρ => eS (fa ρ) fun as ρ1 => match as with
  | [s, t] => .nx ((ρ1.set i s.1).set j t.1)
  | _ => .bad
theorem vs_par {i j : Nat} {x y : Str} {fa : Ev → Res (List Arg)} {px py pt : Pos} {kt k2 pt2} (hc : X.calm = true) (hN : X.N.Nodup) (hi : X.N[i]? = some x) (hj : X.N[j]? = some y) (hij : i ≠ j)
    (hx : X.env.scope.names.lookup x = some .local) (hy : X.env.scope.names.lookup y = some .local) (ha : VA X xa E [a, b] fa) (hk : i ∉ kp) (hk2 : j ∉ kp)
    (hw : swappedStores [.Tuple [.Name x px, .Name y py] kt pt] (.Tuple [a, b] k2 pt2) X.env = pure (some [x, y]))
    (hs : swapsWithSole [.Tuple [.Name x px, .Name y py] kt pt] (.Tuple [a, b] k2 pt2) pos.line X.env = pure false := by rfl) :
    VS X xa E kp (.Assign [.Tuple [.Name x px, .Name y py] kt pt] (.Tuple [a, b] k2 pt2) pos) (fPar i j fa) := (ps_par hc hN hi hj hij hx hy ha hw hs).imp fun D σ H ⟨Z, ρ, F, ok, q⟩ => by
  refine ⟨Z, ρ, F, ok, ?_⟩
  unfold fPar at q
  cases r1 : fa ρ with
  | bad => rw [r1] at q; exact q
  | exc x ρ' =>
    rw [r1] at q
    exact fun cls d H' Z' F' o xr a => q cls d σ H' Z' F' o xr a (Kept.refl _ _)
  | ok as ρ1 =>
    rw [r1, eS_ok] at q
    intro vs H1 Z1 F1 Fs o1 w1 n1 sp1 _ a1
    split at q
    · rename_i s t
      cases w1 with
      | @cons v _ vs _ F2 G2 w w1 =>
        cases w1 with
        | @cons u _ _ _ F3 G3 w3 w4 =>
          cases w4
          refine ⟨v, u, rfl, ?_⟩
          have n2 : (F2 ++ (F3 ++ F1)).Nodup := by simpa [List.append_assoc] using n1
          obtain ⟨m1, m2, m3⟩ := List.nodup_append.mp n2
          obtain ⟨c1, c2, c3⟩ := List.nodup_append.mp m2
          obtain ⟨F4, o4, s4⟩ := o1.assign i w (List.nodup_append.mpr ⟨m1, c2, fun p hp q hq e => m3 p hp q (List.mem_append_right _ hq) e⟩) fun p hp => sp1 p (by simp [hp])
          obtain ⟨F5, o5, s5⟩ := o4.assign j w3 (List.nodup_append.mpr ⟨c1, o4.nd, fun p hp q hq e => by
            subst e
            rcases List.mem_append.mp (s4 p hq) with z | z
            · exact m3 p z p (List.mem_append_left _ hp) rfl
            · exact c3 p hp p z rfl⟩) fun p hp => sp1 p (by simp [hp])
          refine q _ H1 Z1 F5 o5 (a1.to fun p hp => ?_) ((kept_set hk).trans (kept_set hk2))
          rcases List.mem_append.mp (s5 p hp) with z | z
          · simp [z]
          · rcases List.mem_append.mp (s4 p z) with y | y
            · simp [y]
            · simp [y]
    · exact q.elim
/-! ### which slot a loop may lock -/
theorem lk_v (i : Nat) : ∀ ρ (p : Its') ρ', fSeqI (fPv i) ρ = .ok p ρ' → p.2 = none ∨ p.2 = some i := fun ρ p ρ' h => by
  unfold fSeqI fPv at h
  cases e : slotAt ρ i with
  | none => rw [e] at h; cases h
  | some t =>
    rw [e] at h
    dsimp only [Res.bind] at h
    unfold itemsOf at h
    split at h <;> first | (cases h; exact .inl rfl) | skip
    · split at h
      · rename_i hh _
        cases hh
        cases h
        exact .inr rfl
      · cases h
    · cases h
theorem lk_h (f : Ev → Res OT) : ∀ ρ (p : Its') ρ', fSeqI (fPh f) ρ = .ok p ρ' → p.2 = none ∨ p.2 = none := fun ρ p ρ' h => by
  unfold fSeqI fPh at h
  cases e : f ρ with
  | bad => rw [e] at h; cases h
  | exc x ρ1 => rw [e] at h; cases h
  | ok t ρ1 =>
    rw [e] at h
    dsimp only [Res.bind] at h
    unfold itemsOf at h
    split at h <;> first | (cases h; exact .inl rfl) | skip
    · split at h
      · rename_i hh _
        cases hh
      · cases h
    · cases h
theorem lk_x (p2 : Bool) (f1 f2 : Ev → Res PH) : ∀ ρ (p : Its') ρ', fSeqI (fPix p2 f1 f2) ρ = .ok p ρ' → p.2 = none ∨ p.2 = none := fun ρ p ρ' h => by
  have key : ∀ h ρ1, fPix p2 f1 f2 ρ = .ok h ρ1 → ∀ i, h ≠ .slot i := fun h ρ1 hh i => by
    unfold fPix at hh
    cases e1 : f1 ρ with
    | bad => rw [e1] at hh; cases hh
    | exc x ρ1 => rw [e1] at hh; cases hh
    | ok h1 ρ1 =>
      rw [e1, Res.bind_ok] at hh
      cases e2 : f2 ρ1 with
      | bad => rw [e2] at hh; cases hh
      | exc x ρ1 => rw [e2] at hh; cases hh
      | ok h2 ρ2 =>
        rw [e2, Res.bind_ok] at hh
        split at hh
        · split at hh <;> first | (cases hh; exact fun z => nomatch z) | cases hh
        · split at hh <;> first | (cases hh; exact fun z => nomatch z) | cases hh
        · cases hh
  unfold fSeqI at h
  cases e : fPix p2 f1 f2 ρ with
  | bad => rw [e] at h; cases h
  | exc x ρ1 => rw [e] at h; cases h
  | ok t ρ1 =>
    have kk := key t ρ1 e
    rw [e] at h
    dsimp only [Res.bind] at h
    unfold itemsOf at h
    split at h <;> first | (cases h; exact .inl rfl) | skip
    · split at h
      · exact absurd rfl (kk _)
      · cases h
    · cases h
theorem lk_r1 (f : Ev → Res (List PH)) : ∀ ρ (p : Its') ρ', fRng1 f ρ = .ok p ρ' → p.2 = none ∨ p.2 = none := fun ρ p ρ' h => by
  unfold fRng1 at h
  cases e : f ρ with
  | bad => rw [e] at h; cases h
  | exc x ρ1 => rw [e] at h; cases h
  | ok t ρ1 =>
    rw [e, Res.bind_ok] at h
    split at h
    · split at h
      · cases h; exact .inl rfl
      · cases h
    · cases h
theorem lk_r2 (f : Ev → Res (List PH)) : ∀ ρ (p : Its') ρ', fRng2 f ρ = .ok p ρ' → p.2 = none ∨ p.2 = none := fun ρ p ρ' h => by
  unfold fRng2 at h
  cases e : f ρ with
  | bad => rw [e] at h; cases h
  | exc x ρ1 => rw [e] at h; cases h
  | ok t ρ1 =>
    rw [e, Res.bind_ok] at h
    split at h
    · split at h
      · cases h; exact .inl rfl
      · cases h
    · cases h
end

/-! ### defs, put together -/
structure DefAt (P : Program) (w : World) (K : PySem.W.Frag) (mg : Str → Option Value) (base : Heap) (xa : Str → Option Addr) (x : Str) (ps : List Str) (n k : Nat) (F : List OT → FRes) : Prop where
  len : ∀ as, F as ≠ .bad → as.length = n
  ex : ∃ (f : Addr) (fd : FuncData), FnOk P w K mg base (L2.CX P w) k f fd ps (spF ⟨K, w, xa⟩ n F) ∧ mg x = some (.ref f) ∧ PySem.W.keepIn K (.ref f) = true ∧ Binds K fd ps [] ∧ ∃ oc od osl, K.lookup f = some ⟨oc, od, .func fd, osl⟩
theorem fd_of {X : Cx} {xa : Str → Option Addr} {x : Str} {ps : List Str} {n k j : Nat} {F : List OT → FRes} (g : DefAt X.prog X.w X.K X.mg X.base xa x ps n k F) (hr : Room j X.A) (h : k ≤ j) : FD X xa x n F := by
  obtain ⟨l, f, fd, G, hm, hk, hb, _⟩ := g
  exact ⟨l, k, f, fd, ps, G, hr.mono h, hm, hk, hb⟩
section
variable {P : Program} {w : World} {K : PySem.W.Frag} {mg : Str → Option Value} {base : Heap} {xa : Str → Option Addr}
/-- what the top has of a def: where it stands, how it binds -/
structure At (K : PySem.W.Frag) (mg : Str → Option Value) (x : Str) (st : Stmt) (ps : List Str) : Prop where
  ex : ∃ (f : Addr) (fd : FuncData), Fun K x x st f fd ∧ mg x = some (.ref f) ∧ ∀ us : List Value, us.length = ps.length → bindArgs fd ⟨us, []⟩ = pure (ps.zip us)
theorem fun_at {x : Str} {st : Stmt} {f : Addr} {fd : FuncData} (F : Fun K x x st f fd) : ∃ oc od osl, K.lookup f = some ⟨oc, od, .func fd, osl⟩ := by
  obtain ⟨oc, od, kV, doc, pm, an, cdv, ct, osl, _, lk, _⟩ := F.ex
  exact ⟨oc, od, osl, lk⟩
theorem defAt_of {x : Str} {st : Stmt} {N ps : List Str} {k n m : Nat} {kp : List Nat} {fb : Ev → Out} (A : At K mg x st ps) (S : FnScope N ps (defScope st)) (hn : ps.length = n) (hm : N.length = n + m)
    (hb : ∀ (f : Addr) (cdv : Value) (A : Around) (outer : List Env) (s : Shared) (H : Hp) (E : XK), Bd (cxOf (L2.CX P w) P w K mg base N x (defScope st) f cdv A outer s H E) (fun _ => E) k →
      VSs (cxOf (L2.CX P w) P w K mg base N x (defScope st) f cdv A outer s H E) xa (fun _ => E) kp (defBody st) fb) : DefAt P w K mg base xa x ps n (k + 1) (fDef n m kp fb) := by
  obtain ⟨f, fd, Fu, hmg, b⟩ := A
  exact ⟨fDef_len, f, fd, def_ok Fu S hn hm (hb f), hmg, Fu.kp, .all b, fun_at Fu⟩
theorem defAt_bad {x : Str} {st : Stmt} {ps : List Str} {n k : Nat} (A : At K mg x st ps) : DefAt P w K mg base xa x ps n k (fun _ => .bad) := by
  obtain ⟨f, fd, Fu, hmg, b⟩ := A
  exact ⟨fun _ h => absurd rfl h, f, fd, ⟨fun vs H Q E ⟨_, _, _, _, _, _, _, _, h⟩ => h.elim, fun A outer s H args us vs Q E _ _ _ _ ⟨_, _, _, _, _, _, _, _, h⟩ => h.elim⟩, hmg, Fu.kp, .all b, fun_at Fu⟩
theorem DefAt.up {x : Str} {ps : List Str} {n k j : Nat} {F : List OT → FRes} (g : DefAt P w K mg base xa x ps n k F) (h : k ≤ j) : DefAt P w K mg base xa x ps n j F := by
  obtain ⟨l, f, fd, G, r⟩ := g
  exact ⟨l, f, fd, G.mono h, r⟩
theorem at_mk {x : Str} {st : Stmt} {ps : List Str} {f : Addr} {oc : Value} {od an : Option Addr} {osl : Array (Option Value)} {kV doc pm cdv ct : Value} {h : Heap} (KX : K.In h) (G : h.Ns mainGlobals mg)
    (a : PySem.W.nsIn K mainGlobals x = some (some (.ref f)))
    (l : K.lookup f = some ⟨oc, od, .func (PySem.W.fnOf x x (defArgs st) (defBody st) (defScope st) .none kV doc pm an cdv ct), osl⟩) (c : PySem.W.codeIn K cdv x = true) (k : PySem.W.keepIn K (.ref f) = true)
    (hb : ∀ (kV doc pm : Value) (an : Option Addr) (cdv ct : Value) (us : List Value), us.length = ps.length → bindArgs (PySem.W.fnOf x x (defArgs st) (defBody st) (defScope st) .none kV doc pm an cdv ct) ⟨us, []⟩ = pure (ps.zip us)) : At K mg x st ps :=
  ⟨f, _, fun_mk l c k, PySem.W.mg_of KX G a, hb _ _ _ _ _ _⟩
/-- the law's own promise -/
def spLaw (K : PySem.W.Frag) : Sp := fun vs H Q _ => ∃ (a : Addr) (ns : List Int), vs = [.ref a] ∧ SqL K H a (ns.map V.int) ∧ ns.length ≤ 63 ∧ ∀ H', Q (.bl true) H'
theorem rpl_ints {c : VC} {Z : Hp} : ∀ ns : List Int, RpL c Z (ns.map V.int) (ns.map PyData.int)
  | [] => .nil
  | n :: ns => .cons (.int n) (rpl_ints ns)
theorem law_fn {k : Nat} {F : List OT → FRes} {x y : Str} {f : Addr} {st : Stmt} (A : At K mg x st [y]) (hf : mg x = some (.ref f)) (g : ∀ base : Heap, K.In base → base.Ns mainGlobals mg → DefAt P w K mg base xa x [y] 1 k F) (law : ∀ ns : List Int, ns.length ≤ 63 → ∃ as, F [.sh (.list (ns.map .int))] = .ok (.sh (.bool true)) as) :
    ∃ fd : FuncData, (∀ (s : Shared) (u : Value), BindsTo s fd ⟨[u], []⟩ [(y, u)]) ∧ ∀ base : Heap, K.In base → base.Ns mainGlobals mg → FnOk P w K mg base (L2.CX P w) k f fd [y] (spLaw K) := by
  obtain ⟨f0, fd, Fu, hm, hb⟩ := A
  rw [hf] at hm
  cases hm
  refine ⟨fd, fun s u => .of_eq (hb [u] rfl), fun base h1 h2 => ?_⟩
  obtain ⟨l, f', fd', G, hm, hk, _, oc, od, osl, lk⟩ := g base h1 h2
  rw [hf] at hm
  cases hm
  obtain ⟨oc2, od2, osl2, lk2⟩ := fun_at Fu
  rw [lk] at lk2
  cases lk2
  refine G.imp fun vs H Q E ⟨a, ns, e, hS, hl, q⟩ => ?_
  subst e
  obtain ⟨as, ha⟩ := law ns hl
  refine ⟨rfl, H, [.sh (.list (ns.map .int))], [], Same.refl _, .cons (F := []) (.sh (.lst hS (rpl_ints ns))) .nil, List.nodup_nil, (fun _ z => nomatch z), ?_⟩
  rw [ha]
  intro v H' Z' Fa' Ft o w n sp a
  cases w with
  | sh w => cases w; exact q H'
theorem law_cx {P : Program} {w : World} {H : Hp} {s : Shared} {e : Value} {s' : Shared} (h : L2.CX P w [] H s (fun _ _ _ => False) e s') : False := by
  obtain ⟨_, _, _, _, _, _, _, _, _, _, _, _, z⟩ := h
  exact z
theorem walk {l : PySem.W.OpenLaw} {q : Program} {loose : List Str} {XP : (Str → Option Value) → Heap → Prop} {YP : World → Heap → Prop} {d : DefRec} {K : Params → PySem.W.Frag} {k : Nat} {y : Str} (hn : l.most = some 63) (hdf : d.params.defaults = []) (hr : Room k callerA)
    (hY : ∀ (w : World) (h : Heap), YP w h → (K w.params).In h)
    (F : ∀ (w : World) (mg : Str → Option Value) (fa : Addr) (h : Heap), (K w.params).In h → h.Ns mainGlobals mg → mg d.name = some (.ref fa) →
      ∃ fd : FuncData, (∀ (s : Shared) (u : Value), BindsTo s fd ⟨[u], []⟩ [(y, u)]) ∧ ∀ base : Heap, (K w.params).In base → base.Ns mainGlobals mg → FnOk l.prog w (K w.params) mg base (L2.CX l.prog w) k fa fd [y] (spLaw (K w.params))) :
    PySem.W.WalkO q loose XP YP l.row.toRowW d [] (fun f vs => PySem.call f vs) :=
  L2.walk_of (n := 63) (k := k) (x := y) (CX := fun w => L2.CX l.prog w) (sp := fun w => spLaw (K w.params)) hn (by decide) hdf hr hY F (fun _ _ a ns hl _ hS => ⟨a, ns, rfl, hS, hl, fun _ => rfl⟩) fun _ _ _ _ _ z => law_cx z
end
end VL

end

section
set_option Elab.async false
set_option linter.all false
set_option maxRecDepth 100000
set_option maxHeartbeats 1000000
namespace VL
open PySem PySem.Spec PyProof.Rows L2
section
variable {X : Cx} {xa : Str → Option Addr} {E : XS} {kp : List Nat} {pu p1 p2 : Bool} {e a b : Expr} {es : List Expr} {pos : Pos}
/-- a name that holds shared data, read without a change -/
def fPeek (i : Nat) : Ev → Res OT := fun ρ => match ρ[i]? with
  | some (.sh d) => .ok (.sh d) ρ
  | _ => .bad
theorem ve_peek {i : Nat} {x : Str} {pos : Pos} (h : PE X (.Name x pos) (tVar i)) : VE X xa E true (.Name x pos) (fPeek i) := h.imp fun σ H Q q => by
  obtain ⟨Z, ρ, F, ok, q⟩ := q
  unfold fPeek at q
  split at q
  · rename_i d hd
    obtain ⟨u, hu, r⟩ := ok.own.shAt hd
    exact ⟨u, hu, q u H Z F [] ok (.sh r) ok.nd (fun _ z => nomatch z) (After.refl _ _ _) fun _ => ⟨Same.refl _, rfl⟩⟩
  · exact q.elim
end
theorem lv_add {a b n : Nat} (h : a ≤ b + n) : a ≤ Nat.add b n := h
theorem kp_by {own kp : List Nat} {n : Nat} (h : ((List.range n).all fun i => own.contains i || kp.contains i) = true) : ∀ i, i ∉ own → i < n → i ∈ kp := fun i h1 h2 => by
  have z := List.all_eq_true.mp h i (List.mem_range.mpr h2)
  rw [Bool.or_eq_true] at z
  rcases z with z | z
  · exact absurd (by simpa using z) h1
  · simpa using z
section
variable {X : Cx} {xa : Str → Option Addr} {E : XS} {es : List Expr}
/-- a name that is lent, and that the later arguments work on too -/
def fALate (i : Nat) (g : Ev → Res (List Arg)) : Ev → Res (List Arg) := fun ρ => match slotAt ρ i with
  | none => .bad
  | some _ => (g ρ).bind fun as ρ2 => (fArgV i ρ2).bind fun a ρ3 => .ok (a :: as) ρ3
theorem va_late {i : Nat} {x : Str} {pos : Pos} {g : Ev → Res (List Arg)} (h : PE X (.Name x pos) (tVar i)) (h2 : VA X xa E es g) (hs : starEach (.Name x pos :: es) X.env = (false, eval (.Name x pos) X.env) :: starEach es X.env := by rfl) :
    VA X xa E (.Name x pos :: es) (fALate i g) := (pa_cons h h2 hs).imp fun σ H Q ⟨Z, ρ, F, ok, q⟩ => by
  unfold fALate at q
  cases e : slotAt ρ i with
  | none => rw [e] at q; exact q.elim
  | some t0 =>
    rw [e] at q
    obtain ⟨g1, g2⟩ := slotAt_eq e
    obtain ⟨v, Ft0, G0, hv, _⟩ := ok.own.takeOut g1 g2
    refine ⟨v, hv, Z, ρ, F, ok, ?_⟩
    cases r2 : g ρ with
    | bad => rw [r2] at q; exact q.elim
    | exc x ρ' => rw [r2] at q; exact q
    | ok as ρ2 =>
      rw [r2] at q
      intro vs H2 Z2 F2 Fs o2 w2 n2 sp2 ow2 a2
      have q' : rA (cc X xa) E Z H σ F ((fArgV i ρ2).bind fun a ρ3 => .ok (a :: as) ρ3) Q := q
      have go : ∀ t, ρ2[i]? = some t → t ≠ .mv → rA (cc X xa) E Z H σ F (.ok ((t, some i) :: as) (ρ2.set i .mv)) Q → Q (v :: vs) H2 := fun t h1 h2 q => by
        obtain ⟨v', Ft, G, hv', w, o, nd, sp, p⟩ := o2.moved h1 h2
        rw [hv] at hv'
        cases hv'
        have pm : (Fs ++ F2).Perm ((Ft ++ Fs) ++ G) := (List.Perm.append_left Fs p).trans (by rw [← List.append_assoc]; exact List.perm_append_comm.append_right G)
        refine q (v :: vs) H2 Z2 G (Ft ++ Fs) o (.cons w w2) (pm.nodup_iff.mp n2) (fun p hp => (List.mem_append.mp hp).elim (sp p) (sp2 p)) (.cons (fun j z => by cases z; exact hv) ow2) (a2.trans (After.perm pm))
      unfold fArgV at q'
      cases e2 : ρ2[i]? with
      | none => rw [e2] at q'; exact q'.elim
      | some t =>
        rw [e2] at q'
        cases t with
        | sh d =>
          obtain ⟨v', Ft, G, hv', w, o, nd, sp, p⟩ := o2.moved e2 (fun z => nomatch z)
          rw [hv] at hv'
          cases hv'
          cases w with
          | sh r => exact q' (v :: vs) H2 Z2 F2 Fs o2 (.cons (.sh r) w2) n2 sp2 (.cons (fun j z => nomatch z) ow2) a2
        | lst l => exact go _ e2 (fun z => nomatch z) q'
        | dct l => exact go _ e2 (fun z => nomatch z) q'
        | mv => exact q'.elim
end
end VL

end

section
set_option Elab.async false
set_option linter.all false
set_option maxRecDepth 100000
set_option maxHeartbeats 1000000
namespace VL
open PySem PySem.Spec PyProof.Rows L2
/-! ### how a meaning is reckoned: rewriting rules -/
section
variable {ρ : Ev} {i j : Nat}
def oSeq (o : Out) (g : Ev → Out) : Out := match o with
  | .nx ρ' => g ρ'
  | o => o
@[simp] theorem oSeq_nx (g : Ev → Out) : oSeq (.nx ρ) g = g ρ := rfl
@[simp] theorem oSeq_rt (t : OT) (g : Ev → Out) : oSeq (.rt t ρ) g = .rt t ρ := rfl
@[simp] theorem oSeq_bad (g : Ev → Out) : oSeq .bad g = .bad := rfl
@[simp] theorem oSeq_bk (g : Ev → Out) : oSeq (.bk ρ) g = .bk ρ := rfl
@[simp] theorem oSeq_ct (g : Ev → Out) : oSeq (.ct ρ) g = .ct ρ := rfl
@[simp] theorem oSeq_exc (x : Exn) (g : Ev → Out) : oSeq (.exc x ρ) g = .exc x ρ := rfl
@[simp] theorem fSeq_ap (f g : Ev → Out) : fSeq f g ρ = oSeq (f ρ) g := rfl
@[simp] theorem fNx_ap : fNx ρ = .nx ρ := rfl
@[simp] theorem fSet_ap (f : Ev → Res OT) : fSet i f ρ = eS (f ρ) fun t ρ' => .nx (ρ'.set i t) := rfl
@[simp] theorem fRet_ap (f : Ev → Res OT) : fRet f ρ = eS (f ρ) fun t ρ' => .rt t ρ' := rfl
@[simp] theorem fExpr_ap (f : Ev → Res OT) : fExpr f ρ = eS (f ρ) fun _ ρ' => .nx ρ' := rfl
@[simp] theorem fIfS_ap (t : Ev → Res Bool) (f g : Ev → Out) : fIfS t f g ρ = eS (t ρ) fun b ρ' => if b = true then f ρ' else g ρ' := rfl
@[simp] theorem fPh_ap (f : Ev → Res OT) : fPh f ρ = (f ρ).bind fun t ρ' => .ok (.val t.d) ρ' := rfl
@[simp] theorem fC_ap (d : D) : fC d ρ = .ok (.sh d) ρ := rfl
@[simp] theorem d_sh (d : D) : (OT.sh d).d = d := rfl
@[simp] theorem d_lst (l : List OT) : (OT.lst l).d = .list (OT.ds l) := rfl
@[simp] theorem ds_nil : OT.ds [] = [] := rfl
@[simp] theorem ds_cons (t : OT) (l : List OT) : OT.ds (t :: l) = t.d :: OT.ds l := rfl
def vAt (o : Option OT) (i : Nat) (ρ : Ev) : Res OT := match o with
  | some (.sh d) => .ok (.sh d) ρ
  | some (.lst l) => .ok (.lst l) (ρ.set i .mv)
  | some (.dct l) => .ok (.dct l) (ρ.set i .mv)
  | _ => .bad
@[simp] theorem fVar_ap : fVar i ρ = vAt ρ[i]? i ρ := rfl
@[simp] theorem vAt_sh (d : D) : vAt (some (.sh d)) i ρ = .ok (.sh d) ρ := rfl
@[simp] theorem vAt_lst (l : List OT) : vAt (some (.lst l)) i ρ = .ok (.lst l) (ρ.set i .mv) := rfl
@[simp] theorem vAt_dct (l : List (D × D)) : vAt (some (.dct l)) i ρ = .ok (.dct l) (ρ.set i .mv) := rfl
def sAt (o : Option OT) : Option OT := match o with
  | some (.sh d) => some (.sh d)
  | some (.lst l) => some (.lst l)
  | some (.dct l) => some (.dct l)
  | _ => none
@[simp] theorem slotAt_ap : slotAt ρ i = sAt ρ[i]? := rfl
@[simp] theorem sAt_sh (d : D) : sAt (some (.sh d)) = some (.sh d) := rfl
@[simp] theorem sAt_lst (l : List OT) : sAt (some (.lst l)) = some (.lst l) := rfl
@[simp] theorem sAt_dct (l : List (D × D)) : sAt (some (.dct l)) = some (.dct l) := rfl
def pvAt (o : Option OT) (i : Nat) (ρ : Ev) : Res PH := match o with
  | some _ => .ok (.slot i) ρ
  | none => .bad
@[simp] theorem fPv_ap : fPv i ρ = pvAt (slotAt ρ i) i ρ := rfl
@[simp] theorem pvAt_some (t : OT) : pvAt (some t) i ρ = .ok (.slot i) ρ := rfl
def peAt (o : Option OT) (ρ : Ev) : Res OT := match o with
  | some (.sh d) => .ok (.sh d) ρ
  | _ => .bad
@[simp] theorem fPeek_ap : fPeek i ρ = peAt ρ[i]? ρ := rfl
@[simp] theorem peAt_sh (d : D) : peAt (some (.sh d)) ρ = .ok (.sh d) ρ := rfl
def op2 (g : OT → OT → Option OT) (o1 o2 : Option OT) (ρ : Ev) : Res OT := match o1, o2 with
  | some t1, some t2 => Res.of (g t1 t2) ρ
  | _, _ => .bad
@[simp] theorem fOp2_ap (g : OT → OT → Option OT) (p2 : Bool) (f1 f2 : Ev → Res PH) : fOp2 g p2 f1 f2 ρ = (f1 ρ).bind fun h1 ρ1 => (f2 ρ1).bind fun h2 ρ2 => op2 g ((h1.un p2).get ρ2) (h2.get ρ2) ρ2 := rfl
@[simp] theorem op2_some (g : OT → OT → Option OT) (t1 t2 : OT) : op2 g (some t1) (some t2) ρ = Res.of (g t1 t2) ρ := rfl
def op1 (g : OT → Option OT) (o1 : Option OT) (ρ : Ev) : Res OT := match o1 with
  | some t1 => Res.of (g t1) ρ
  | _ => .bad
@[simp] theorem fOp1_ap (g : OT → Option OT) (f1 : Ev → Res PH) : fOp1 g f1 ρ = (f1 ρ).bind fun h1 ρ1 => op1 g (h1.get ρ1) ρ1 := rfl
@[simp] theorem op1_some (g : OT → Option OT) (t1 : OT) : op1 g (some t1) ρ = Res.of (g t1) ρ := rfl
def opn (g : List OT → Option OT) (o1 : Option (List OT)) (ρ : Ev) : Res OT := match o1 with
  | some t1 => Res.of (g t1) ρ
  | _ => .bad
@[simp] theorem fOps_ap (g : List OT → Option OT) (f : Ev → Res (List PH)) : fOps g f ρ = (f ρ).bind fun hs ρ1 => opn g (gets hs ρ1) ρ1 := by
  unfold fOps
  congr 1; funext hs ρ1
  unfold opn
  cases gets hs ρ1 <;> rfl
@[simp] theorem opn_some (g : List OT → Option OT) (t1 : List OT) : opn g (some t1) ρ = Res.of (g t1) ρ := rfl
@[simp] theorem gets_nil : gets [] ρ = some [] := rfl
def getc (o : Option OT) (os : Option (List OT)) : Option (List OT) := match o, os with
  | some t, some ts => some (t :: ts)
  | _, _ => none
@[simp] theorem gets_cons (h : PH) (hs : List PH) : gets (h :: hs) ρ = getc (h.get ρ) (gets hs ρ) := rfl
@[simp] theorem getc_some (t : OT) (ts : List OT) : getc (some t) (some ts) = some (t :: ts) := rfl
@[simp] theorem fPsNil_ap : fPsNil ρ = .ok [] ρ := rfl
@[simp] theorem fPsCons_ap (p2 : Bool) (f : Ev → Res PH) (g : Ev → Res (List PH)) : fPsCons p2 f g ρ = (f ρ).bind fun h ρ1 => (g ρ1).bind fun hs ρ2 => .ok (h.un p2 :: hs) ρ2 := rfl
@[simp] theorem fANil_ap : fANil ρ = .ok [] ρ := rfl
@[simp] theorem fACons_ap (f : Ev → Res Arg) (g : Ev → Res (List Arg)) : fACons f g ρ = (f ρ).bind fun a ρ1 => (g ρ1).bind fun as ρ2 => .ok (a :: as) ρ2 := rfl
@[simp] theorem fArgE_ap (f : Ev → Res OT) : fArgE f ρ = (f ρ).bind fun t ρ' => .ok (t, none) ρ' := rfl
def lateA (o : Option OT) (i : Nat) (g : Ev → Res (List Arg)) (ρ : Ev) : Res (List Arg) := match o with
  | none => .bad
  | some _ => (g ρ).bind fun as ρ2 => (fArgV i ρ2).bind fun a ρ3 => .ok (a :: as) ρ3
@[simp] theorem fALate_ap (g : Ev → Res (List Arg)) : fALate i g ρ = lateA (slotAt ρ i) i g ρ := rfl
@[simp] theorem lateA_some (t : OT) (g : Ev → Res (List Arg)) : lateA (some t) i g ρ = (g ρ).bind fun as ρ2 => (fArgV i ρ2).bind fun a ρ3 => .ok (a :: as) ρ3 := rfl
def avAt (o : Option OT) (i : Nat) (ρ : Ev) : Res Arg := match o with
  | some (.sh d) => .ok (.sh d, none) ρ
  | some (.lst l) => .ok (.lst l, some i) (ρ.set i .mv)
  | some (.dct l) => .ok (.dct l, some i) (ρ.set i .mv)
  | _ => .bad
@[simp] theorem fArgV_ap : fArgV i ρ = avAt ρ[i]? i ρ := rfl
@[simp] theorem avAt_sh (d : D) : avAt (some (.sh d)) i ρ = .ok (.sh d, none) ρ := rfl
@[simp] theorem avAt_lst (l : List OT) : avAt (some (.lst l)) i ρ = .ok (.lst l, some i) (ρ.set i .mv) := rfl
@[simp] theorem avAt_dct (l : List (D × D)) : avAt (some (.dct l)) i ρ = .ok (.dct l, some i) (ρ.set i .mv) := rfl
def callR (r : FRes) (as : List Arg) (ρ : Ev) : Res OT := match r with
  | .bad => .bad
  | .ok t ts => .ok t (back as ts ρ)
  | .exc x ts => .exc x (back as ts ρ)
@[simp] theorem fCall_ap (F : List OT → FRes) (f : Ev → Res (List Arg)) : fCall F f ρ = (f ρ).bind fun as ρ1 => callR (F (as.map (·.1))) as ρ1 := rfl
@[simp] theorem callR_ok (t : OT) (ts : List OT) (as : List Arg) : callR (.ok t ts) as ρ = .ok t (back as ts ρ) := rfl
@[simp] theorem callR_exc (x : Exn) (ts : List OT) (as : List Arg) : callR (.exc x ts) as ρ = .exc x (back as ts ρ) := rfl
@[simp] theorem fLstO_ap (f : Ev → Res (List Arg)) : fLstO f ρ = (f ρ).bind fun as ρ' => if as.length ≤ 1000000 then .ok (.lst (as.map (·.1))) ρ' else .bad := rfl
def bAt (t : OT) (ρ : Ev) : Res Bool := match t with
  | .sh (.bool b) => .ok b ρ
  | _ => .bad
@[simp] theorem fB_ap (f : Ev → Res OT) : fB f ρ = (f ρ).bind bAt := rfl
@[simp] theorem bAt_b (b : Bool) : bAt (.sh (.bool b)) ρ = .ok b ρ := rfl
@[simp] theorem fNot_ap (f : Ev → Res Bool) : fNot f ρ = (f ρ).bind fun b ρ' => .ok (!b) ρ' := rfl
@[simp] theorem fAnd_ap (f g : Ev → Res Bool) : fAnd f g ρ = (f ρ).bind fun b ρ' => if b = true then g ρ' else .ok false ρ' := rfl
@[simp] theorem fOr_ap (f g : Ev → Res Bool) : fOr f g ρ = (f ρ).bind fun b ρ' => if b = true then .ok true ρ' else g ρ' := rfl
@[simp] theorem fAndV_ap (f g : Ev → Res OT) : fAndV f g ρ = (fB f ρ).bind fun b ρ' => if b = true then g ρ' else .ok (.sh (.bool false)) ρ' := rfl
@[simp] theorem fOrV_ap (f g : Ev → Res OT) : fOrV f g ρ = (fB f ρ).bind fun b ρ' => if b = true then .ok (.sh (.bool true)) ρ' else g ρ' := rfl
@[simp] theorem fNotV_ap (f : Ev → Res OT) : fNotV f ρ = (fB f ρ).bind fun b ρ' => .ok (.sh (.bool (!b))) ρ' := rfl
@[simp] theorem fIf_ap {α : Type} (t : Ev → Res Bool) (f g : Ev → Res α) : fIf t f g ρ = (t ρ).bind fun b ρ' => if b = true then f ρ' else g ρ' := rfl
@[simp] theorem fONone_ap : fONone ρ = .ok none ρ := rfl
def oiAt (t : OT) (ρ : Ev) : Res (Option Int) := match t with
  | .sh (.int i) => .ok (some i) ρ
  | _ => .bad
@[simp] theorem fOSome_ap (f : Ev → Res OT) : fOSome f ρ = (f ρ).bind oiAt := rfl
@[simp] theorem oiAt_i (k : Int) : oiAt (.sh (.int k)) ρ = .ok (some k) ρ := rfl
def slAt (o : Option OT) (lo hi : Option Int) (ρ : Ev) : Res OT := match o with
  | some t => Res.of (gSl t lo hi) ρ
  | none => .bad
@[simp] theorem fSl_ap (p2 : Bool) (f : Ev → Res PH) (fl fh : Ev → Res (Option Int)) : fSl p2 f fl fh ρ = (f ρ).bind fun h ρ1 => (fl ρ1).bind fun lo ρ2 => (fh ρ2).bind fun hi ρ3 => slAt ((h.un p2).get ρ3) lo hi ρ3 := rfl
@[simp] theorem slAt_some (t : OT) (lo hi : Option Int) : slAt (some t) lo hi ρ = Res.of (gSl t lo hi) ρ := rfl
def isiAt (T : String) (o : Option OT) (ρ : Ev) : Res OT := match o with
  | some t => if isD t.d = false then Res.of ((kitB (dTy t.d) T).map fun b => .sh (.bool b)) ρ else .bad
  | none => .bad
@[simp] theorem fIsi_ap (T : String) (f : Ev → Res PH) : fIsi T f ρ = (f ρ).bind fun h ρ1 => isiAt T (h.get ρ1) ρ1 := rfl
@[simp] theorem isi_ii (k : Int) : isiAt "int" (some (.sh (.int k))) ρ = .ok (.sh (.bool true)) ρ := by
  have e : kitB "int" "int" = some true := by decide +kernel
  simp [isiAt, isD, dTy, e]
@[simp] theorem isi_ti (k : List D) : isiAt "int" (some (.sh (.tuple k))) ρ = .ok (.sh (.bool false)) ρ := by
  have e : kitB "tuple" "int" = some false := by decide +kernel
  simp [isiAt, isD, dTy, e]
@[simp] theorem isi_tt (k : List D) : isiAt "tuple" (some (.sh (.tuple k))) ρ = .ok (.sh (.bool true)) ρ := by
  have e : kitB "tuple" "tuple" = some true := by decide +kernel
  simp [isiAt, isD, dTy, e]
@[simp] theorem isi_it (k : Int) : isiAt "tuple" (some (.sh (.int k))) ρ = .ok (.sh (.bool false)) ρ := by
  have e : kitB "int" "tuple" = some false := by decide +kernel
  simp [isiAt, isD, dTy, e]
@[simp] theorem isi_st (k : Str) : isiAt "tuple" (some (.sh (.str k))) ρ = .ok (.sh (.bool false)) ρ := by
  have e : kitB "str" "tuple" = some false := by decide +kernel
  simp [isiAt, isD, dTy, e]
@[simp] theorem isi_is (k : Int) : isiAt "str" (some (.sh (.int k))) ρ = .ok (.sh (.bool false)) ρ := by
  have e : kitB "int" "str" = some false := by decide +kernel
  simp [isiAt, isD, dTy, e]
@[simp] theorem isi_ss (k : Str) : isiAt "str" (some (.sh (.str k))) ρ = .ok (.sh (.bool true)) ρ := by
  have e : kitB "str" "str" = some true := by decide +kernel
  simp [isiAt, isD, dTy, e]
@[simp] theorem isi_ts (k : List D) : isiAt "str" (some (.sh (.tuple k))) ρ = .ok (.sh (.bool false)) ρ := by
  have e : kitB "tuple" "str" = some false := by decide +kernel
  simp [isiAt, isD, dTy, e]
@[simp] theorem isi_si (k : Str) : isiAt "int" (some (.sh (.str k))) ρ = .ok (.sh (.bool false)) ρ := by
  have e : kitB "str" "int" = some false := by decide +kernel
  simp [isiAt, isD, dTy, e]
@[simp] theorem isi_ib (k : Int) : isiAt "bool" (some (.sh (.int k))) ρ = .ok (.sh (.bool false)) ρ := by
  have e : kitB "int" "bool" = some false := by decide +kernel
  simp [isiAt, isD, dTy, e]
@[simp] theorem isi_bb (k : Bool) : isiAt "bool" (some (.sh (.bool k))) ρ = .ok (.sh (.bool true)) ρ := by
  have e : kitB "bool" "bool" = some true := by decide +kernel
  simp [isiAt, isD, dTy, e]
@[simp] theorem isi_bi (k : Bool) : isiAt "int" (some (.sh (.bool k))) ρ = .ok (.sh (.bool true)) ρ := by
  have e : kitB "bool" "int" = some true := by decide +kernel
  simp [isiAt, isD, dTy, e]
@[simp] theorem isi_ll (k : List D) : isiAt "list" (some (.sh (.list k))) ρ = .ok (.sh (.bool true)) ρ := by
  have e : kitB "list" "list" = some true := by decide +kernel
  simp [isiAt, isD, dTy, e]
@[simp] theorem isi_ll2 (k : List OT) : isiAt "list" (some (.lst k)) ρ = .ok (.sh (.bool true)) ρ := by
  have e : kitB "list" "list" = some true := by decide +kernel
  simp [isiAt, isD, dTy, e]
/-! built-in operations at their kinds -/
@[simp] theorem gAdd_i (a b : Int) : gAdd (.sh (.int a)) (.sh (.int b)) = some (.sh (.int (a + b))) := rfl
@[simp] theorem gAdd_s (a b : Str) : gAdd (.sh (.str a)) (.sh (.str b)) = if a.length + b.length ≤ 1000000 then some (.sh (.str (a ++ b))) else none := rfl
@[simp] theorem gAdd_t (a b : List D) : gAdd (.sh (.tuple a)) (.sh (.tuple b)) = if a.length + b.length ≤ 1000000 then some (.sh (.tuple (a ++ b))) else none := rfl
def gAddL (a b : Option (List D)) : Option OT := match a, b with
  | some a, some b => if a.length + b.length ≤ 1000000 then some (.lst ((a ++ b).map .sh)) else none
  | _, _ => none
@[simp] theorem gAddL_some (a b : List D) : gAddL (some a) (some b) = if a.length + b.length ≤ 1000000 then some (.lst ((a ++ b).map .sh)) else none := rfl
@[simp] theorem gAdd_ll (a b : List D) : gAdd (.sh (.list a)) (.sh (.list b)) = gAddL (some a) (some b) := rfl
@[simp] theorem gAdd_lo (a : List D) (b : List OT) : gAdd (.sh (.list a)) (.lst b) = gAddL (some a) (shs b) := rfl
@[simp] theorem gAdd_ol (a : List OT) (b : List D) : gAdd (.lst a) (.sh (.list b)) = gAddL (shs a) (some b) := rfl
@[simp] theorem gAdd_oo (a b : List OT) : gAdd (.lst a) (.lst b) = gAddL (shs a) (shs b) := rfl
@[simp] theorem shs_nil : shs [] = some [] := rfl
@[simp] theorem shs_cons (d : D) (ts : List OT) : shs (.sh d :: ts) = (shs ts).map (d :: ·) := rfl
@[simp] theorem gIx_l (l : List D) (k : Int) : gIx (.sh (.list l)) (.sh (.int k)) = (atI l k).map .sh := rfl
@[simp] theorem gIx_t (l : List D) (k : Int) : gIx (.sh (.tuple l)) (.sh (.int k)) = (atI l k).map .sh := rfl
@[simp] theorem gIx_s (x : Str) (k : Int) : gIx (.sh (.str x)) (.sh (.int k)) = if x.length ≤ 1000000 then (atI x.cps.toList k).map fun c => .sh (.str ⟨#[c]⟩) else none := rfl
def ixO (o : Option OT) : Option OT := match o with
  | some (.sh d) => some (.sh d)
  | _ => none
@[simp] theorem gIx_o (l : List OT) (k : Int) : gIx (.lst l) (.sh (.int k)) = ixO (atI l k) := rfl
@[simp] theorem ixO_sh (d : D) : ixO (some (.sh d)) = some (.sh d) := rfl
@[simp] theorem atI0 {α : Type} (a : α) (l : List α) : atI (a :: l) 0 = some a := by
  unfold atI ixN
  rw [if_pos (by decide), if_pos (by simp only [List.length_cons]; omega)]
  rfl
@[simp] theorem atI1 {α : Type} (a b : α) (l : List α) : atI (a :: b :: l) 1 = some b := by
  unfold atI ixN
  rw [if_pos (by decide), if_pos (by simp only [List.length_cons]; omega)]
  rfl
@[simp] theorem atI2 {α : Type} (a b c : α) (l : List α) : atI (a :: b :: c :: l) 2 = some c := by
  unfold atI ixN
  rw [if_pos (by decide), if_pos (by simp only [List.length_cons]; omega)]
  rfl
theorem atI_of {α : Type} {l : List α} {k : Int} {a : α} (h0 : 0 ≤ k) (h : l[k.toNat]? = some a) : atI l k = some a := by
  have hl := (List.getElem?_eq_some_iff.mp h).1
  unfold atI ixN
  rw [if_pos h0, if_pos (by omega), Option.bind_some, h]
theorem atI_lt {α : Type} {l : List α} {k : Int} (h0 : 0 ≤ k) (h : k < l.length) : atI l k = some (l[k.toNat]'(by omega)) := atI_of h0 (List.getElem?_eq_getElem (by omega))
def pix (o : Option OT) (ρ : Ev) : Res PH := match o with
  | some (.sh d) => .ok (.val d) ρ
  | some .mv => .bad
  | some t => .ok (.nest t) ρ
  | none => .bad
@[simp] theorem pix_sh (d : D) : pix (some (.sh d)) ρ = .ok (.val d) ρ := rfl
@[simp] theorem pix_lst (d : List OT) : pix (some (.lst d)) ρ = .ok (.nest (.lst d)) ρ := rfl
@[simp] theorem pix_dct (d : List (D × D)) : pix (some (.dct d)) ρ = .ok (.nest (.dct d)) ρ := rfl
def pix2 (o : Option OT) (ρ : Ev) : Res PH := match o with
  | some (.sh d) => .ok (.val d) ρ
  | _ => .bad
@[simp] theorem pix2_sh (d : D) : pix2 (some (.sh d)) ρ = .ok (.val d) ρ := rfl
def pixAt (o1 o2 : Option OT) (ρ : Ev) : Res PH := match o1, o2 with
  | some (.lst ts), some (.sh (.int i)) => pix (atI ts i) ρ
  | some t1, some t2 => pix2 (gIx t1 t2) ρ
  | _, _ => .bad
@[simp] theorem fPix_ap (p2 : Bool) (f1 f2 : Ev → Res PH) : fPix p2 f1 f2 ρ = (f1 ρ).bind fun h1 ρ1 => (f2 ρ1).bind fun h2 ρ2 => pixAt ((h1.un p2).get ρ2) (h2.get ρ2) ρ2 := by
  rfl
@[simp] theorem pixAt_o (ts : List OT) (k : Int) : pixAt (some (.lst ts)) (some (.sh (.int k))) ρ = pix (atI ts k) ρ := rfl
@[simp] theorem pixAt_l (ts : List D) (k : Int) : pixAt (some (.sh (.list ts))) (some (.sh (.int k))) ρ = pix2 ((atI ts k).map .sh) ρ := rfl
@[simp] theorem pixAt_t (ts : List D) (k : Int) : pixAt (some (.sh (.tuple ts))) (some (.sh (.int k))) ρ = pix2 ((atI ts k).map .sh) ρ := rfl
@[simp] theorem pixAt_s (x : Str) (k : Int) : pixAt (some (.sh (.str x))) (some (.sh (.int k))) ρ = pix2 (gIx (.sh (.str x)) (.sh (.int k))) ρ := rfl
@[simp] theorem gEq_i (a b : Int) : gEq (.sh (.int a)) (.sh (.int b)) = some (.sh (.bool (decide (a = b)))) := by
  simp [gEq, eqOk, PyData.eqv, Bool.beq_eq_decide_eq]
@[simp] theorem gEq_s (a b : Str) : gEq (.sh (.str a)) (.sh (.str b)) = some (.sh (.bool (decide (a = b)))) := by
  simp [gEq, eqOk, PyData.eqv, Bool.beq_eq_decide_eq]
@[simp] theorem gNe_i (a b : Int) : gNe (.sh (.int a)) (.sh (.int b)) = some (.sh (.bool (!decide (a = b)))) := by
  simp [gNe, eqOk, PyData.eqv, Bool.beq_eq_decide_eq]
@[simp] theorem gNe_s (a b : Str) : gNe (.sh (.str a)) (.sh (.str b)) = some (.sh (.bool (!decide (a = b)))) := by
  simp [gNe, eqOk, PyData.eqv, Bool.beq_eq_decide_eq]
@[simp] theorem gNeg_i (a : Int) : gNeg (.sh (.int a)) = some (.sh (.int (-a))) := rfl
@[simp] theorem gLen_s (x : Str) : gLen [.sh (.str x)] = if x.length ≤ 1000000 then some (.sh (.int x.length)) else none := rfl
@[simp] theorem gLen_t (x : List D) : gLen [.sh (.tuple x)] = some (.sh (.int x.length)) := rfl
@[simp] theorem gLen_l (x : List D) : gLen [.sh (.list x)] = some (.sh (.int x.length)) := rfl
@[simp] theorem gLen_o (x : List OT) : gLen [.lst x] = (shs x).map fun l => .sh (.int l.length) := rfl
@[simp] theorem gTuple_l (x : List D) : gTuple [.sh (.list x)] = some (.sh (.tuple x)) := rfl
@[simp] theorem gTuple_t (x : List D) : gTuple [.sh (.tuple x)] = some (.sh (.tuple x)) := rfl
@[simp] theorem gTuple_o (x : List OT) : gTuple [.lst x] = (shs x).map fun l => .sh (.tuple l) := rfl
@[simp] theorem gList_l (x : List D) : gList [.sh (.list x)] = some (.lst (x.map .sh)) := rfl
@[simp] theorem gList_t (x : List D) : gList [.sh (.tuple x)] = some (.lst (x.map .sh)) := rfl
@[simp] theorem gList_o (x : List OT) : gList [.lst x] = (shs x).map fun l => .lst (l.map .sh) := rfl
@[simp] theorem gInt_i (k : Int) : gInt [.sh (.int k)] = some (.sh (.int k)) := rfl
@[simp] theorem gInt_b (k : Bool) : gInt [.sh (.bool k)] = some (.sh (.int (if k then 1 else 0))) := rfl
@[simp] theorem gSum_l (x : List D) : gSum [.sh (.list x)] = (intsOf x).map fun ns => .sh (.int ns.sum) := rfl
@[simp] theorem gSum_o (x : List OT) : gSum [.lst x] = ((shs x).bind intsOf).map fun ns => .sh (.int ns.sum) := rfl
@[simp] theorem gTupN_ap (ts : List OT) : gTupN ts = (shs ts).bind fun ds => if ds.length ≤ 1000000 then some (.sh (.tuple ds)) else none := by
  unfold gTupN; cases shs ts <;> rfl
@[simp] theorem gLstN_ap (ts : List OT) : gLstN ts = (shs ts).bind fun ds => if ds.length ≤ 1000000 then some (.lst (ds.map .sh)) else none := by
  unfold gLstN; cases shs ts <;> rfl
@[simp] theorem gSl_t (l : List D) (lo hi : Option Int) : gSl (.sh (.tuple l)) lo hi = some (.sh (.tuple (cut l lo hi))) := rfl
@[simp] theorem gSl_l (l : List D) (lo hi : Option Int) : gSl (.sh (.list l)) lo hi = some (.lst ((cut l lo hi).map .sh)) := rfl
@[simp] theorem gSl_o (l : List OT) (lo hi : Option Int) : gSl (.lst l) lo hi = (shs l).map fun l => .lst ((cut l lo hi).map .sh) := rfl
def methAt (G : List OT → List OT → Option (OT × List OT)) (i : Nat) (as : List Arg) (o : Option OT) (ρ1 : Ev) : Res OT := match o with
  | some (.lst ts) => (match G ts (as.map (·.1)) with
    | some (t, ts') => .ok t (ρ1.set i (.lst ts'))
    | none => .bad)
  | _ => .bad
def methPre (o : Option OT) (r : Res OT) : Res OT := match o with
  | some (.lst _) => r
  | _ => .bad
@[simp] theorem fMeth_ap (G : List OT → List OT → Option (OT × List OT)) (fa : Ev → Res (List Arg)) : fMeth G i fa ρ = methPre (slotAt ρ i) ((fa ρ).bind fun as ρ1 => methAt G i as (slotAt ρ1 i) ρ1) := rfl
@[simp] theorem methPre_lst (l : List OT) (r : Res OT) : methPre (some (.lst l)) r = r := rfl
def methR (i : Nat) (o : Option (OT × List OT)) (ρ : Ev) : Res OT := match o with
  | some (t, ts') => .ok t (ρ.set i (.lst ts'))
  | none => .bad
@[simp] theorem methAt_lst (G : List OT → List OT → Option (OT × List OT)) (as : List Arg) (ts : List OT) : methAt G i as (some (.lst ts)) ρ = methR i (G ts (as.map (·.1))) ρ := rfl
@[simp] theorem methR_some (t : OT) (ts : List OT) : methR i (some (t, ts)) ρ = .ok t (ρ.set i (.lst ts)) := rfl
@[simp] theorem GAppend_ap (ts : List OT) (a : OT) : GAppend ts [a] = if ts.length ≤ 1000000 then some (.sh .none, ts ++ [a]) else none := rfl
@[simp] theorem GPop_ap (ts : List OT) : GPop ts [] = (ts[ts.length - 1]?).map fun t => (t, ts.dropLast) := rfl
def st1 (i : Nat) (t k : OT) (o : Option OT) (ρ : Ev) : Out := match o, k with
  | some (.lst ts), .sh (.int k) => (match ixN ts.length k with
    | some j => .nx (ρ.set i (.lst (ts.set j t)))
    | none => .bad)
  | _, _ => .bad
def st0 (o : Option OT) (r : Out) : Out := match o with
  | some _ => r
  | none => .bad
@[simp] theorem st0_some (t : OT) (r : Out) : st0 (some t) r = r := rfl
@[simp] theorem fStore1_ap (fe fi : Ev → Res OT) : fStore1 i fe fi ρ = eS (fe ρ) fun t ρ1 => st0 (slotAt ρ1 i) (eS (fi ρ1) fun k ρ2 => st1 i t k (slotAt ρ2 i) ρ2) := rfl
def st1' (i : Nat) (t : OT) (ts : List OT) (o : Option Nat) (ρ : Ev) : Out := match o with
  | some j => .nx (ρ.set i (.lst (ts.set j t)))
  | none => .bad
@[simp] theorem st1_ap (t : OT) (k : Int) (ts : List OT) : st1 i t (.sh (.int k)) (some (.lst ts)) ρ = st1' i t ts (ixN ts.length k) ρ := rfl
@[simp] theorem st1'_some (t : OT) (ts : List OT) (j : Nat) : st1' i t ts (some j) ρ = .nx (ρ.set i (.lst (ts.set j t))) := rfl
theorem ixN_of {n : Nat} {k : Int} (h0 : 0 ≤ k) (h : k < n) : ixN n k = some k.toNat := by
  unfold ixN
  rw [if_pos h0, if_pos h]
@[simp] theorem fAsg_ap (g : D → Ev → Option Ev) (f : Ev → Res OT) : fAsg g f ρ = eS (f ρ) fun t ρ' => match g t.d ρ' with
  | some ρ2 => .nx ρ2
  | none => .bad := rfl
@[simp] theorem gNm_ap (d : D) : gNm i d ρ = some (ρ.set i (.sh d)) := rfl
@[simp] theorem gTp_t (n : Nat) (k : List D → Ev → Option Ev) (ds : List D) : gTp n k (.tuple ds) ρ = if ds.length = n then k ds ρ else none := rfl
@[simp] theorem gTp_l (n : Nat) (k : List D → Ev → Option Ev) (ds : List D) : gTp n k (.list ds) ρ = if ds.length = n then k ds ρ else none := rfl
@[simp] theorem gsNil_ap : gsNil [] ρ = some ρ := rfl
@[simp] theorem gsCons_ap (g : D → Ev → Option Ev) (k : List D → Ev → Option Ev) (d : D) (ds : List D) : gsCons g k (d :: ds) ρ = (g d ρ).bind (k ds) := rfl
@[simp] theorem fPar_ap (fa : Ev → Res (List Arg)) : fPar i j fa ρ = eS (fa ρ) fun as ρ1 => match as with
  | [s, t] => .nx ((ρ1.set i s.1).set j t.1)
  | _ => .bad := rfl
@[simp] theorem fFor_ap (fi : Ev → Res Its') (g : D → Ev → Option Ev) (fb : Ev → Out) : fFor fi g fb ρ = eS (fi ρ) fun p ρ1 => unl p.2 p.1 (fLoop g fb p.1 ρ1) := rfl
@[simp] theorem fLoop_nil (g : D → Ev → Option Ev) (fb : Ev → Out) : fLoop g fb [] ρ = .nx ρ := rfl
def loopK (g : D → Ev → Option Ev) (fb : Ev → Out) (ds : List D) (o : Out) : Out := match o with
  | .nx ρ2 => fLoop g fb ds ρ2
  | .ct ρ2 => fLoop g fb ds ρ2
  | .bk ρ2 => .nx ρ2
  | o => o
def loopG (o : Option Ev) (k : Ev → Out) : Out := match o with
  | none => .bad
  | some ρ1 => k ρ1
theorem fLoop_cons (g : D → Ev → Option Ev) (fb : Ev → Out) (d : D) (ds : List D) : fLoop g fb (d :: ds) ρ = loopG (g d ρ) fun ρ1 => loopK g fb ds (fb ρ1) := rfl
@[simp] theorem loopG_some (k : Ev → Out) : loopG (some ρ) k = k ρ := rfl
@[simp] theorem loopK_nx (g : D → Ev → Option Ev) (fb : Ev → Out) (ds : List D) : loopK g fb ds (.nx ρ) = fLoop g fb ds ρ := rfl
@[simp] theorem loopK_ct (g : D → Ev → Option Ev) (fb : Ev → Out) (ds : List D) : loopK g fb ds (.ct ρ) = fLoop g fb ds ρ := rfl
@[simp] theorem loopK_bk (g : D → Ev → Option Ev) (fb : Ev → Out) (ds : List D) : loopK g fb ds (.bk ρ) = .nx ρ := rfl
@[simp] theorem loopK_rt (g : D → Ev → Option Ev) (fb : Ev → Out) (ds : List D) (t : OT) : loopK g fb ds (.rt t ρ) = .rt t ρ := rfl
@[simp] theorem fSeqI_ap (f : Ev → Res PH) : fSeqI f ρ = (f ρ).bind itemsOf := rfl
@[simp] theorem itemsOf_vl (ds : List D) : itemsOf (.val (.list ds)) ρ = .ok (ds, none) ρ := rfl
@[simp] theorem itemsOf_vt (ds : List D) : itemsOf (.val (.tuple ds)) ρ = .ok (ds, none) ρ := rfl
@[simp] theorem itemsOf_vs (x : Str) : itemsOf (.val (.str x)) ρ = .ok (signs x, none) ρ := rfl
def itS (i : Nat) (o : Option OT) (ρ : Ev) : Res Its' := match o with
  | some (.sh (.list ds)) => .ok (ds, none) ρ
  | some (.sh (.tuple ds)) => .ok (ds, none) ρ
  | some (.sh (.str x)) => .ok (signs x, none) ρ
  | some (.lst ts) => (match shs ts with
    | some ds => .ok (ds, some i) (ρ.set i .mv)
    | none => .bad)
  | _ => .bad
@[simp] theorem itemsOf_s : itemsOf (.slot i) ρ = itS i (slotAt ρ i) ρ := by
  unfold itemsOf itS
  show (match slotAt ρ i with
    | some (.sh (.list ds)) => Res.ok (ds, none) ρ
    | some (.sh (.tuple ds)) => .ok (ds, none) ρ
    | some (.sh (.str x)) => .ok (signs x, none) ρ
    | some (.lst ts) => _
    | _ => .bad) = _
  split <;> first | rfl | skip
  all_goals simp_all
  rename_i ts _
  cases shs ts <;> rfl
@[simp] theorem itS_l (ds : List D) : itS i (some (.sh (.list ds))) ρ = .ok (ds, none) ρ := rfl
@[simp] theorem itS_t (ds : List D) : itS i (some (.sh (.tuple ds))) ρ = .ok (ds, none) ρ := rfl
@[simp] theorem itS_s (x : Str) : itS i (some (.sh (.str x))) ρ = .ok (signs x, none) ρ := rfl
def itO (i : Nat) (o : Option (List D)) (ρ : Ev) : Res Its' := match o with
  | some ds => .ok (ds, some i) (ρ.set i .mv)
  | none => .bad
@[simp] theorem itS_o (ts : List OT) : itS i (some (.lst ts)) ρ = itO i (shs ts) ρ := rfl
@[simp] theorem itO_some (ds : List D) : itO i (some ds) ρ = .ok (ds, some i) (ρ.set i .mv) := rfl
def r1At (o : Option (List OT)) (ρ : Ev) : Res Its' := match o with
  | some [.sh (.int n)] => if -4000000000 ≤ n ∧ n < 4000000000 then .ok (rngD 0 n.toNat, none) ρ else .bad
  | _ => .bad
@[simp] theorem fRng1_ap (f : Ev → Res (List PH)) : fRng1 f ρ = (f ρ).bind fun hs ρ1 => r1At (gets hs ρ1) ρ1 := by
  have h : fRng1 f ρ = (f ρ).bind fun hs ρ1 => r1At (gets hs ρ1) ρ1 := rfl
  exact h
def rOk (n : Int) : Prop := -4000000000 ≤ n ∧ n < 4000000000
theorem rOk_of {n : Int} (h0 : 0 ≤ n) (h : n ≤ 1000000000) : rOk n := ⟨by omega, by omega⟩
theorem rOk_nat {n : Nat} (h : n ≤ 1000000000) : rOk n := rOk_of (by omega) (by omega)
theorem r1At_i {n : Int} (h : rOk n) : r1At (some [.sh (.int n)]) ρ = .ok (rngD 0 n.toNat, none) ρ := if_pos h
@[simp] theorem r1At_n (n : Nat) (h : n ≤ 1000000000) : r1At (some [.sh (.int n)]) ρ = .ok (rngD 0 n, none) ρ := r1At_i (rOk_nat h)
theorem r1At_l (k : Int) (n : Nat) (e : k = n) (h : Nat.ble n 1000000000 = true) : r1At (some [.sh (.int k)]) ρ = .ok (rngD 0 n, none) ρ := by
  subst e
  exact r1At_n n (Nat.le_of_ble_eq_true h)
@[simp] theorem r1At_2 : r1At (some [.sh (.int 2)]) ρ = .ok (rngD 0 2, none) ρ := r1At_l 2 2 rfl rfl
@[simp] theorem r1At_3 : r1At (some [.sh (.int 3)]) ρ = .ok (rngD 0 3, none) ρ := r1At_l 3 3 rfl rfl
@[simp] theorem r1At_10 : r1At (some [.sh (.int 10)]) ρ = .ok (rngD 0 10, none) ρ := r1At_l 10 10 rfl rfl
def r2At (o : Option (List OT)) (ρ : Ev) : Res Its' := match o with
  | some [.sh (.int m), .sh (.int n)] => if -4000000000 ≤ m ∧ m < 4000000000 ∧ -4000000000 ≤ n ∧ n < 4000000000 then .ok (rngD m (n - m).toNat, none) ρ else .bad
  | _ => .bad
@[simp] theorem fRng2_ap (f : Ev → Res (List PH)) : fRng2 f ρ = (f ρ).bind fun hs ρ1 => r2At (gets hs ρ1) ρ1 := by
  have h : fRng2 f ρ = (f ρ).bind fun hs ρ1 => r2At (gets hs ρ1) ρ1 := rfl
  exact h
theorem r2At_i {m n : Int} (h : rOk m) (h2 : rOk n) : r2At (some [.sh (.int m), .sh (.int n)]) ρ = .ok (rngD m (n - m).toNat, none) ρ := if_pos ⟨h.1, h.2, h2.1, h2.2⟩
@[simp] theorem unl_s_nx (ds : List D) : unl (some i) ds (.nx ρ) = .nx (ρ.set i (.lst (ds.map .sh))) := rfl
@[simp] theorem unl_s_rt (ds : List D) (t : OT) : unl (some i) ds (.rt t ρ) = .rt t (ρ.set i (.lst (ds.map .sh))) := rfl
theorem fWhile_succ (ft : Ev → Res Bool) (fb : Ev → Out) (n : Nat) : fWhile ft fb (n + 1) ρ = eS (ft ρ) fun b ρ1 => if b = true then (match fb ρ1 with
      | .nx ρ2 => fWhile ft fb n ρ2
      | .ct ρ2 => fWhile ft fb n ρ2
      | .bk ρ2 => .nx ρ2
      | o => o) else .nx ρ1 := rfl
@[simp] theorem fComp_ap (vs : List Nat) (fi : Ev → Res Its') (g : D → Ev → Option Ev) (ft : Ev → Res Bool) (fe : Ev → Res OT) : fComp vs fi g ft fe ρ = (fi ρ).bind fun p ρ1 =>
  if p.1.length ≤ 1000000 then (fComp1 vs g ft fe p.1 (clr vs ρ1) []).bind fun ds ρ2 => .ok (.lst (ds.map .sh)) (unlk p.2 p.1 (rst ρ1 vs ρ2)) else .bad := rfl
@[simp] theorem fYes_ap : fYes ρ = .ok true ρ := rfl
@[simp] theorem clr_nil : clr [] ρ = ρ := rfl
@[simp] theorem clr_cons (v : Nat) (vs : List Nat) : clr (v :: vs) ρ = (clr vs ρ).set v .mv := rfl
@[simp] theorem rst_nil (ρ1 : Ev) : rst ρ1 [] ρ = ρ := rfl
def rst1 (o : Option OT) (v : Nat) (ρ : Ev) : Ev := match o with
  | some (.sh d) => ρ.set v (.sh d)
  | _ => ρ
@[simp] theorem rst_cons (ρ1 : Ev) (v : Nat) (vs : List Nat) : rst ρ1 (v :: vs) ρ = rst1 ρ1[v]? v (rst ρ1 vs ρ) := by
  conv => lhs; unfold rst
  unfold rst1
  cases ρ1[v]? with
  | none => rfl
  | some t => cases t <;> rfl
@[simp] theorem rst1_sh (d : D) (v : Nat) : rst1 (some (.sh d)) v ρ = ρ.set v (.sh d) := rfl
@[simp] theorem rst1_mv (v : Nat) : rst1 (some .mv) v ρ = ρ := rfl
@[simp] theorem rst1_none (v : Nat) : rst1 none v ρ = ρ := rfl
@[simp] theorem unlk_some (ds : List D) : unlk (some i) ds ρ = ρ.set i (.lst (ds.map .sh)) := rfl
@[simp] theorem outs_zero (kp : List Nat) (j : Nat) : outs kp j 0 ρ = [] := by cases ρ <;> rfl
@[simp] theorem outs_cons (kp : List Nat) (j n : Nat) (t : OT) : outs kp j (n + 1) (t :: ρ) = (if j ∈ kp then t else .mv) :: outs kp (j + 1) n ρ := rfl
def fOut (n : Nat) (kp : List Nat) (o : Out) : FRes := match o with
  | .rt t ρ => .ok t (outs kp 0 n ρ)
  | .nx ρ => .ok (.sh .none) (outs kp 0 n ρ)
  | .exc x ρ => .exc x (outs kp 0 n ρ)
  | _ => .bad
theorem fDef_ap (n m : Nat) (kp : List Nat) (f : Ev → Out) (as : List OT) (h : as.length = n) : fDef n m kp f as = fOut n kp (f (as ++ List.replicate m .mv)) := by
  unfold fDef fOut
  rw [if_pos h]
  all_goals (cases f (as ++ List.replicate m .mv) <;> rfl)
@[simp] theorem fOut_rt (n : Nat) (kp : List Nat) (t : OT) : fOut n kp (.rt t ρ) = .ok t (outs kp 0 n ρ) := rfl
@[simp] theorem fOut_nx (n : Nat) (kp : List Nat) : fOut n kp (.nx ρ) = .ok (.sh .none) (outs kp 0 n ρ) := rfl
@[simp] theorem fOut_exc (n : Nat) (kp : List Nat) (x : Exn) : fOut n kp (.exc x ρ) = .exc x (outs kp 0 n ρ) := rfl
end
end VL

end

section
set_option Elab.async false
set_option linter.all false
set_option maxRecDepth 100000
set_option maxHeartbeats 1000000
namespace VL
open PySem PySem.Spec PyProof.Rows L2
/-! ### data that == may look at -/
def Flat (n : Nat) (d : D) : Prop := d.canLay0 = true ∧ d.depth ≤ n
theorem Flat.mono {n m : Nat} {d : D} (h : Flat n d) (l : n ≤ m) : Flat m d := ⟨h.1, Nat.le_trans h.2 l⟩
theorem flat_all {n : Nat} : ∀ {l : List D}, (∀ d ∈ l, Flat n d) → PyData.canLayAll0 l = true ∧ PyData.depthAll l ≤ n
  | [], _ => ⟨by simp [PyData.canLayAll0], by simp [PyData.depthAll]⟩
  | d :: l, h => by
    have h1 := h d (List.mem_cons_self ..)
    have h2 := flat_all (l := l) fun e he => h e (List.mem_cons_of_mem _ he)
    have a := h1.2
    have b := h2.2
    refine ⟨by simp [PyData.canLayAll0, h1.1, h2.1], ?_⟩
    simp only [PyData.depthAll]
    omega
theorem flat_tup {n : Nat} {l : List D} (h : ∀ d ∈ l, Flat n d) : Flat (n + 1) (.tuple l) := by
  have h2 := flat_all h
  have a := h2.2
  refine ⟨by simp [PyData.canLay0, h2.1], ?_⟩
  simp only [PyData.depth]
  omega
theorem flat_list {n : Nat} {l : List D} (h : ∀ d ∈ l, Flat n d) : Flat (n + 1) (.list l) := by
  have h2 := flat_all h
  have a := h2.2
  refine ⟨by simp [PyData.canLay0, h2.1], ?_⟩
  simp only [PyData.depth]
  omega
theorem flat_int (i : Int) (n : Nat) : Flat n (.int i) := ⟨by simp [PyData.canLay0], by simp [PyData.depth]⟩
theorem flat_str (i : Str) (h : PyData.strOk i = true) (n : Nat) : Flat n (.str i) := ⟨by simpa [PyData.canLay0] using h, by simp [PyData.depth]⟩
theorem flat_bool (i : Bool) (n : Nat) : Flat n (.bool i) := ⟨by simp [PyData.canLay0], by simp [PyData.depth]⟩
theorem flat_none (n : Nat) : Flat n .none := ⟨by simp [PyData.canLay0], by simp [PyData.depth]⟩
theorem Flat.shaped {n : Nat} {d : D} (h : Flat n d) (l : n ≤ 64) : SeqAt.shaped d = true := by
  unfold SeqAt.shaped
  rw [h.1, Bool.true_and]
  exact decide_eq_true (Nat.le_trans h.2 l)
theorem gEq_fl {t1 t2 : OT} {n : Nat} (h1 : Flat n t1.d) (h2 : Flat n t2.d) (l : n ≤ 64) : gEq t1 t2 = some (.sh (.bool (PyData.eqv t1.d t2.d))) := by
  unfold gEq
  rw [if_pos]
  unfold eqOk
  split <;> first | rfl | (rw [h1.shaped l, h2.shaped l]; rfl)
theorem gNe_fl {t1 t2 : OT} {n : Nat} (h1 : Flat n t1.d) (h2 : Flat n t2.d) (l : n ≤ 64) : gNe t1 t2 = some (.sh (.bool (!PyData.eqv t1.d t2.d))) := by
  unfold gNe
  rw [if_pos]
  unfold eqOk
  split <;> first | rfl | (rw [h1.shaped l, h2.shaped l]; rfl)
theorem eqvAll_ints : ∀ a b : List Int, PyData.eqvAll (a.map .int) (b.map .int) = decide (a = b)
  | [], [] => by simp [PyData.eqvAll]
  | [], b :: l => by simp [PyData.eqvAll]
  | b :: l, [] => by simp [PyData.eqvAll]
  | a :: k, b :: l => by
    simp only [List.map_cons, PyData.eqvAll, PyData.eqv, eqvAll_ints k l]
    by_cases h : a = b <;> simp [h]
theorem eqvAll_nil : ∀ a : List D, PyData.eqvAll a [] = decide (a = [])
  | [] => by simp [PyData.eqvAll]
  | b :: l => by simp [PyData.eqvAll]
/-! ### while loops -/
theorem fWhile_inv {P : Nat → Ev → Prop} {Q : Ev → Prop} {ft : Ev → Res Bool} {fb : Ev → Out} (stop : ∀ n ρ, P n ρ → (∃ ρ1, ft ρ = .ok false ρ1 ∧ Q ρ1) ∨ (∃ m ρ1 ρ2, m < n ∧ ft ρ = .ok true ρ1 ∧ fb ρ1 = .nx ρ2 ∧ P m ρ2)) :
    ∀ {k n : Nat} {ρ : Ev}, n < k → P n ρ → ∃ ρ', fWhile ft fb k ρ = .nx ρ' ∧ Q ρ'
  | 0, n, ρ, h, _ => absurd h (Nat.not_lt_zero _)
  | k + 1, n, ρ, h, p => by
    rcases stop n ρ p with ⟨ρ1, e1, q⟩ | ⟨m, ρ1, ρ2, lt, e1, e2, p2⟩
    · exact ⟨ρ1, by rw [fWhile_succ, e1, eS_ok, if_neg (by decide)], q⟩
    · obtain ⟨ρ', e3, q⟩ := fWhile_inv (k := k) stop (n := m) (by omega) p2
      exact ⟨ρ', by rw [fWhile_succ, e1, eS_ok, if_pos rfl, e2]; exact e3, q⟩
end VL
namespace VL
open PySem PySem.Spec PyProof.Rows L2
def st2R (i : Nat) (t : OT) (ts : List OT) (o : Option Nat) (f2 : Ev → Res OT) (ρ : Ev) : Out := match o with
  | some j => (match ts[j]? with
    | some (.lst us) => eS (f2 ρ) fun k2 ρ3 => (match k2 with
      | .sh (.int m) => (match ixN us.length m with
        | some l => .nx (ρ3.set i (.lst (ts.set j (.lst (us.set l t)))))
        | none => .bad)
      | _ => .bad)
    | _ => .bad)
  | none => .bad
def st2 (i : Nat) (t k1 : OT) (o : Option OT) (f2 : Ev → Res OT) (ρ : Ev) : Out := match o, k1 with
  | some (.lst ts), .sh (.int k) => st2R i t ts (ixN ts.length k) f2 ρ
  | _, _ => .bad
@[simp] theorem fStore2_ap (i : Nat) (fe f1 f2 : Ev → Res OT) (ρ : Ev) : fStore2 i fe f1 f2 ρ = eS (fe ρ) fun t ρ1 => st0 (slotAt ρ1 i) (eS (f1 ρ1) fun k1 ρ2 => st2 i t k1 (slotAt ρ2 i) f2 ρ2) := rfl
@[simp] theorem st2_ap (i : Nat) (t : OT) (k : Int) (ts : List OT) (f2 : Ev → Res OT) (ρ : Ev) : st2 i t (.sh (.int k)) (some (.lst ts)) f2 ρ = st2R i t ts (ixN ts.length k) f2 ρ := rfl
def st2L (i : Nat) (t : OT) (us r : List OT) (o : Option Nat) (ρ : Ev) : Out := match o with
  | some l => .nx (ρ.set i (.lst (.lst (us.set l t) :: r)))
  | none => .bad
def st2K (i : Nat) (t : OT) (us r : List OT) (k : OT) (ρ : Ev) : Out := match k with
  | .sh (.int m) => st2L i t us r (ixN us.length m) ρ
  | _ => .bad
@[simp] theorem st2R_0 (i : Nat) (t : OT) (us : List OT) (r : List OT) (f2 : Ev → Res OT) (ρ : Ev) : st2R i t (.lst us :: r) (some 0) f2 ρ = eS (f2 ρ) (st2K i t us r) := rfl
@[simp] theorem st2K_i (i : Nat) (t : OT) (us : List OT) (r : List OT) (m : Int) (ρ : Ev) : st2K i t us r (.sh (.int m)) ρ = st2L i t us r (ixN us.length m) ρ := rfl
@[simp] theorem st2L_some (i : Nat) (t : OT) (us : List OT) (r : List OT) (l : Nat) (ρ : Ev) : st2L i t us r (some l) ρ = .nx (ρ.set i (.lst (.lst (us.set l t) :: r))) := rfl
@[simp] theorem ixN_0 (n : Nat) : ixN (n + 1) 0 = some 0 := ixN_of (by omega) (by omega)
@[simp] theorem ixN_1 (n : Nat) : ixN (n + 2) 1 = some 1 := ixN_of (by omega) (by omega)
theorem fdiv_ok {m : Int} (h1 : 0 < m) (h2 : m < 1073741824) : divOk m := .inl ⟨by omega, by omega⟩
theorem mul_okr {i j : Int} (h1 : -18446744073709551616 < j) (h2 : j < 18446744073709551616) : mulOk i j := .inr (.inl ⟨h1, h2⟩)
theorem mul_okl {i j : Int} (h1 : -18446744073709551616 < i) (h2 : i < 18446744073709551616) : mulOk i j := .inl ⟨h1, h2⟩
theorem shs_ints : ∀ l : List Int, shs (l.map (OT.sh ∘ PyData.int)) = some (l.map PyData.int)
  | [] => rfl
  | i :: l => by
    rw [List.map_cons]
    show shs (OT.sh (.int i) :: _) = _
    rw [shs_cons, shs_ints l]
    rfl
theorem ds_ints : ∀ l : List Int, OT.ds (l.map (OT.sh ∘ PyData.int)) = l.map PyData.int
  | [] => rfl
  | i :: l => by
    rw [List.map_cons]
    show OT.ds (OT.sh (.int i) :: _) = _
    rw [ds_cons, ds_ints l]
    rfl
theorem cut_hi {α : Type} (l : List α) {n : Int} (h0 : 0 ≤ n) (h : l.length ≤ n) : cut l none (some n) = l := by
  unfold cut
  have h1 : HT.sIx l.length 0 none = 0 := rfl
  have h2 : HT.sIx l.length l.length (some n) = l.length := by
    simp only [HT.sIx]
    rw [if_neg (by omega)]
    omega
  rw [h1, h2]
  simp
theorem ints_of : ∀ l : List Int, intsOf (l.map PyData.int) = some l
  | [] => rfl
  | i :: l => by
    have := ints_of l
    simp_all [intsOf]
/-- the law's own deck of cards -/
def dk (c : List Int) (a s : Int) : List OT := [.lst (c.map (OT.sh ∘ PyData.int)), .sh (.int a), .sh (.int s)]
def IsDeck (t : List OT) : Prop := ∃ c a s, c ≠ [] ∧ c.length ≤ 64 ∧ t = dk c a s
end VL
namespace VL
open PySem PySem.Spec PyProof.Rows L2
theorem fLoop_inv {P : Ev → Prop} {g : D → Ev → Option Ev} {fb : Ev → Out} : ∀ {ds : List D} {ρ : Ev}, P ρ → (∀ d ∈ ds, ∀ ρ, P ρ → ∃ ρ1 ρ2, g d ρ = some ρ1 ∧ fb ρ1 = .nx ρ2 ∧ P ρ2) → ∃ ρ', fLoop g fb ds ρ = .nx ρ' ∧ P ρ'
  | [], ρ, h, _ => ⟨ρ, rfl, h⟩
  | d :: ds, ρ, h, st => by
    obtain ⟨ρ1, ρ2, e1, e2, h2⟩ := st d (List.mem_cons_self ..) ρ h
    obtain ⟨ρ', e3, h3⟩ := fLoop_inv (ds := ds) h2 fun d hd => st d (List.mem_cons_of_mem _ hd)
    exact ⟨ρ', by rw [fLoop_cons, e1, loopG_some, e2, loopK_nx, e3], h3⟩
theorem mem_rngD {n : Nat} {m : Int} {d : D} (h : d ∈ rngD m n) : ∃ k : Int, d = .int k ∧ m ≤ k ∧ k < m + n := by
  unfold rngD at h
  obtain ⟨i, hi, e⟩ := List.mem_map.mp h
  have := List.mem_range.mp hi
  exact ⟨_, e.symm, by omega, by omega⟩
theorem ds_sh {α : Type} (f : α → D) : ∀ l : List α, OT.ds (l.map (OT.sh ∘ f)) = l.map f
  | [] => rfl
  | i :: l => by
    rw [List.map_cons]
    show OT.ds (OT.sh (f i) :: _) = _
    rw [ds_cons, ds_sh f l]
    rfl
theorem shs_sh {α : Type} (f : α → D) : ∀ l : List α, shs (l.map (OT.sh ∘ f)) = some (l.map f)
  | [] => rfl
  | i :: l => by
    rw [List.map_cons]
    show shs (OT.sh (f i) :: _) = _
    rw [shs_cons, shs_sh f l]
    rfl
@[simp] theorem atI3 {α : Type} (a b c d : α) (l : List α) : atI (a :: b :: c :: d :: l) 3 = some d := atI_of (by decide) rfl
@[simp] theorem atI4 {α : Type} (a b c d e : α) (l : List α) : atI (a :: b :: c :: d :: e :: l) 4 = some e := atI_of (by decide) rfl
@[simp] theorem atI5 {α : Type} (a b c d e f : α) (l : List α) : atI (a :: b :: c :: d :: e :: f :: l) 5 = some f := atI_of (by decide) rfl
@[simp] theorem atI6 {α : Type} (a b c d e f g : α) (l : List α) : atI (a :: b :: c :: d :: e :: f :: g :: l) 6 = some g := atI_of (by decide) rfl
@[simp] theorem GPop_end (l : List OT) (a : OT) : GPop (l ++ [a]) [] = some (a, l) := by
  simp
/-- a list comprehension that keeps what p says -/
theorem comp_filter {vs : List Nat} {g : D → Ev → Option Ev} {ft : Ev → Res Bool} {fe : Ev → Res OT} {ρ : Ev} {p : D → Bool} {m : D → D} : ∀ {ds : List D} {acc : List D},
    (∀ d ∈ ds, (p d = true ∧ ∃ ρ2 ρ3 ρ4 t, g d ρ = some ρ2 ∧ ft ρ2 = .ok true ρ3 ∧ fe ρ3 = .ok t ρ4 ∧ t.d = m d ∧ clr vs ρ4 = ρ) ∨ (p d = false ∧ ∃ ρ2 ρ3, g d ρ = some ρ2 ∧ ft ρ2 = .ok false ρ3 ∧ clr vs ρ3 = ρ)) →
    fComp1 vs g ft fe ds ρ acc = .ok (acc ++ (ds.filter p).map m) ρ
  | [], acc, _ => by simp [fComp1]
  | d :: ds, acc, h => by
    have ih := fun acc => comp_filter (acc := acc) (ds := ds) fun e he => h e (List.mem_cons_of_mem _ he)
    rcases h d (List.mem_cons_self ..) with ⟨hp, ρ2, ρ3, ρ4, t, e1, e2, e3, e4, e5⟩ | ⟨hp, ρ2, ρ3, e1, e2, e3⟩
    · unfold fComp1
      simp only [e1, e2, e3, e4, e5, ih]
      simp [hp]
    · unfold fComp1
      simp only [e1, e2, e3, ih]
      simp [hp]
@[simp] theorem back_one (t : OT) (ts : List OT) (ρ : Ev) : back [(t, none)] ts ρ = ρ := by
  cases ts with
  | nil => rfl
  | cons a l => rw [back_none, back_nil]
end VL

end

section
set_option Elab.async false
set_option linter.all false
set_option maxRecDepth 100000
set_option maxHeartbeats 1000000
namespace VL
open PySem PySem.Spec PyProof.Rows L2
/-! ### tuple(range(a, b)) -/
def gTupR (t1 t2 : OT) : Option OT :=
  match t1, t2 with
  | .sh (.int a), .sh (.int b) => if 0 ≤ a ∧ a ≤ 16777216 ∧ 0 ≤ b ∧ b ≤ 16777216 then some (.sh (.tuple (rngD a (b - a).toNat))) else none
  | _, _ => none
theorem gTupR_i {a b : Int} (h0 : 0 ≤ a) (h1 : a ≤ 16777216) (h2 : 0 ≤ b) (h3 : b ≤ 16777216) : gTupR (.sh (.int a)) (.sh (.int b)) = some (.sh (.tuple (rngD a (b - a).toNat))) := if_pos ⟨h0, h1, h2, h3⟩
theorem RpL.intsF {c : VC} {Z : Hp} (f : Nat → Int) : ∀ l : List Nat, RpL c Z (l.map fun i => V.int (f i)) (l.map fun i => PyData.int (f i))
  | [] => .nil
  | i :: l => .cons (.int _) (RpL.intsF f l)
def rTupR : R2 := fun x y H Q => ∃ i j, x = .int i ∧ y = .int j ∧ RgOk i j ∧ ∀ q, H q = none → Q (.ref q) (upd H q (.tup (rgV i j)))
theorem prim_tupR {c : VC} : Prim2 c rTupR gTupR := by
  intro Z H v1 v2 t1 t2 F1 F2 t Q s w1 w2 e n
  unfold gTupR at e
  split at e
  · rename_i a b
    split at e
    · rename_i h
      cases e
      refine ⟨a, b, int_read w1, int_read w2, RgOk.of_le h.1 h.2.2.2 h.2.1 h.2.2.1, fun q hq => n.shNew s hq (.tup (SqT.of upd_same) ?_ fun z => ?_)⟩
      · exact RpL.intsF (fun i => a + (i : Int)) _
      · exact absurd z (by cases h2 : List.range (b - a).toNat <;> simp [rngD, isCh, isBl, h2])
    · cases e
  · cases e
section
variable {X : Cx} {xa : Str → Option Addr} {E : XS} {p1 p2 : Bool} {a b : Expr} {pos pos' p p' : Pos}
theorem ve_tupR {f1 f2 : Ev → Res PH} (hc : X.calm = true) (hg : Gl X "tuple") (hm : X.mg "tuple" = none) (hg' : Gl X "range") (hm' : X.mg "range" = none) (h1 : VP X xa E p1 a f1) (h2 : VP X xa E p2 b f2)
    (na : starEach [a, b] X.env = (false, eval a X.env) :: starEach [b] X.env := by rfl) (nb : starEach [b] X.env = (false, eval b X.env) :: starEach [] X.env := by rfl)
    (hp : (backTo pos' (starEach [b] X.env)).any (·.1) = false := by rfl) (nc : starEach [.Call (.Name "range" p') [a, b] [] pos'] X.env = (false, eval (.Call (.Name "range" p') [a, b] [] pos') X.env) :: starEach [] X.env := by rfl) :
    VE X xa E (p1 && p2) (.Call (.Name "tuple" p) [.Call (.Name "range" p') [a, b] [] pos'] [] pos) (fOp2 gTupR p2 f1 f2) :=
  (pe_tupRg hc hg hm (prg_2 hg' hm' h1 h2 na nb hp) nc).imp fun σ H Q q => tOp2 prim_tupR q
end
/-! ### calls and == inside of a comprehension -/
theorem fd_in {X : Cx} {xa : Str → Option Addr} {x : Str} {ps : List Str} {n k j : Nat} {F : List OT → FRes} {P : Program} {w : World} {K : PySem.W.Frag} {mg : Str → Option Value} {base : Heap} {A : Around} (g : DefAt P w K mg base xa x ps n k F) (hr : Room j A) (h : k ≤ j)
    (e1 : X.prog = P := by rfl) (e2 : X.w = w := by rfl) (e3 : X.K = K := by rfl) (e4 : X.mg = mg := by rfl) (e5 : X.base = base := by rfl) (e6 : X.A = A := by rfl) : FD X xa x n F := by
  subst e1 e2 e3 e4 e5 e6
  exact fd_of g hr h
theorem op_eqB {X : Cx} {A : Around} (hu : A.units + 64 < cLine) (e : X.A = A := by rfl) : OpR X (compareOp .Eq) (rEqA X.K) := op_eqA (by rw [e]; exact hu)
theorem op_neB {X : Cx} {A : Around} (hu : A.units + 64 < cLine) (e : X.A = A := by rfl) : OpR X (compareOp .NotEq) (rNeA X.K) := op_neA (by rw [e]; exact hu)
end VL

end

section
set_option Elab.async false
set_option linter.all false
set_option maxRecDepth 100000
set_option maxHeartbeats 1000000
namespace VL
open PySem PySem.Spec PyProof.Rows L2
theorem fLoop_idx {g : D → Ev → Option Ev} {fb : Ev → Out} : ∀ {ds : List D} {P : Nat → Ev → Prop} {ρ : Ev}, P 0 ρ → (∀ i d ρ, ds[i]? = some d → P i ρ → ∃ ρ1 ρ2, g d ρ = some ρ1 ∧ fb ρ1 = .nx ρ2 ∧ P (i + 1) ρ2) → ∃ ρ', fLoop g fb ds ρ = .nx ρ' ∧ P ds.length ρ'
  | [], P, ρ, h, _ => ⟨ρ, rfl, h⟩
  | d :: ds, P, ρ, h, st => by
    obtain ⟨ρ1, ρ2, e1, e2, h2⟩ := st 0 d ρ rfl h
    obtain ⟨ρ', e3, h3⟩ := fLoop_idx (ds := ds) (P := fun i => P (i + 1)) h2 fun i d' ρ e p => st (i + 1) d' ρ (by simpa using e) p
    exact ⟨ρ', by rw [fLoop_cons, e1, loopG_some, e2, loopK_nx, e3], h3⟩
theorem rngD_get {m : Int} {n i : Nat} {d : D} (h : (rngD m n)[i]? = some d) : d = .int (m + i) ∧ i < n := by
  unfold rngD at h
  rw [List.getElem?_map] at h
  cases e : (List.range n)[i]? with
  | none => rw [e] at h; cases h
  | some j =>
    rw [e] at h
    cases h
    obtain ⟨h1, h2⟩ := List.getElem?_eq_some_iff.mp e
    rw [List.getElem_range] at h2
    subst h2
    exact ⟨rfl, by simpa using h1⟩
/-- a comprehension without a test -/
theorem comp_map {vs : List Nat} {g : D → Ev → Option Ev} {fe : Ev → Res OT} {ρ : Ev} {m : D → D} {ds : List D} (h : ∀ d ∈ ds, ∃ ρ2 ρ4 t, g d ρ = some ρ2 ∧ fe ρ2 = .ok t ρ4 ∧ t.d = m d ∧ clr vs ρ4 = ρ) :
    fComp1 vs g fYes fe ds ρ [] = .ok (ds.map m) ρ := by
  have e := comp_filter (vs := vs) (g := g) (ft := fYes) (fe := fe) (ρ := ρ) (p := fun _ => true) (m := m) (ds := ds) (acc := []) fun d hd => by
    obtain ⟨ρ2, ρ4, t, e1, e2, e3, e4⟩ := h d hd
    exact .inl ⟨rfl, ρ2, ρ2, ρ4, t, e1, rfl, e2, e3, e4⟩
  rw [e, List.nil_append, List.filter_eq_self.mpr fun _ _ => rfl]
@[simp] theorem gMax2_i (i j : Int) : gMax2 [.sh (.int i), .sh (.int j)] = some (.sh (.int (if j > i then j else i))) := rfl
@[simp] theorem gMin2_i (i j : Int) : gMin2 [.sh (.int i), .sh (.int j)] = some (.sh (.int (if j < i then j else i))) := rfl
@[simp] theorem ds_app : ∀ a b : List OT, OT.ds (a ++ b) = OT.ds a ++ OT.ds b
  | [], b => rfl
  | t :: a, b => by rw [List.cons_append, ds_cons, ds_cons, ds_app a b, List.cons_append]
theorem shs_app : ∀ {a b : List OT} {x y : List D}, shs a = some x → shs b = some y → shs (a ++ b) = some (x ++ y)
  | [], b, x, y, h1, h2 => by cases h1; exact h2
  | t :: a, b, x, y, h1, h2 => by
    cases t with
    | sh d =>
      rw [shs_cons] at h1
      cases e : shs a with
      | none => rw [e] at h1; cases h1
      | some x' =>
        rw [e] at h1
        cases h1
        rw [List.cons_append, shs_cons, shs_app e h2]
        rfl
    | lst l => cases h1
    | dct l => cases h1
    | mv => cases h1
end VL

end

section
set_option Elab.async false
set_option linter.all false
set_option maxRecDepth 100000
set_option maxHeartbeats 1000000
namespace VL
open PySem PySem.Spec PyProof.Rows L2
/-! ### methods that change nothing -/
def tyOk (T : String) (t : OT) : Bool :=
  match t with
  | .sh (.str _) => T == "str"
  | .sh (.list _) => T == "list"
  | .lst _ => T == "list"
  | _ => false
theorem own_ty {c : VC} {Z H : Hp} {v : V} {t : OT} {F : List Addr} {T : String} (s : Same Z H) (w : Own c Z H v t F) (h : tyOk T t = true) : tyV c.K T v H := by
  unfold tyOk at h
  split at h
  · cases w with
    | sh r => cases r; exact beq_iff_eq.mp h
  · cases w with
    | sh r =>
      cases r with
      | lst hq l => exact .inl ⟨beq_iff_eq.mp h, _, s.seq hq⟩
  · cases w with
    | lst hp l => exact .inl ⟨beq_iff_eq.mp h, _, SqL.of hp⟩
  · cases h
def mthAt (T : String) (g : List OT → Option OT) (p2 : Bool) (h : PH) (o : Option OT) (f2 : Ev → Res (List PH)) (ρ1 : Ev) : Res OT :=
  match o with
  | some t0 => if tyOk T t0 = true then (f2 ρ1).bind fun hs ρ2 => opn g (gets (h.un p2 :: hs) ρ2) ρ2 else .bad
  | none => .bad
def fMth (T : String) (g : List OT → Option OT) (p2 : Bool) (f1 : Ev → Res PH) (f2 : Ev → Res (List PH)) : Ev → Res OT := fun ρ => (f1 ρ).bind fun h ρ1 => mthAt T g p2 h (h.get ρ1) f2 ρ1
def PrimM (c : VC) (r : V → List V → Hp → VK → Prop) (g : List OT → Option OT) : Prop := Prim c (fun vs H Q => ∃ v us, vs = v :: us ∧ r v us H Q) g
section
variable {X : Cx} {xa : Str → Option Addr} {E : XS} {p1 p2 : Bool} {o e : Expr} {es : List Expr} {apos cpos : Pos}
theorem tMth {T : String} {r : V → List V → Hp → VK → Prop} {g : List OT → Option OT} (hg : PrimM (cc X xa) r g) {f1 : Ev → Res PH} {f2 : Ev → Res (List PH)} {σ : St} {H : Hp} {Q : VK}
    (q : tV (cc X xa) E (p1 && p2) (fMth T g p2 f1 f2) σ H Q) : tBM X.K T r (tP (cc X xa) E p1 f1) (tPs (cc X xa) E p2 f2) σ H Q := by
  obtain ⟨Z, ρ, F, ok, q⟩ := q
  refine ⟨Z, ρ, F, ok, ?_⟩
  unfold fMth at q
  cases r1 : f1 ρ with
  | bad => rw [r1] at q; exact q
  | exc x ρ' => rw [r1] at q; exact q
  | ok h1 ρ1 =>
    rw [r1] at q
    intro v1 H1 Z1 F1 o1 w1 a1 k1
    have q1 := rV.later (pu' := p2) q a1 fun z => by
      rw [Bool.and_eq_true] at z
      exact ⟨z.2, k1 z.1⟩
    rw [Res.bind_ok] at q1
    cases e0 : h1.get ρ1 with
    | none => rw [e0] at q1; exact q1.elim
    | some t0 =>
      rw [e0] at q1
      obtain ⟨G0, x0⟩ := w1.read o1 e0
      have q1' : rV (cc X xa) E p2 Z1 H1 σ ρ1 F1 (if tyOk T t0 = true then (f2 ρ1).bind fun hs ρ2 => opn g (gets (h1.un p2 :: hs) ρ2) ρ2 else .bad) Q := q1
      by_cases ht : tyOk T t0 = true
      · rw [if_pos ht] at q1'
        refine ⟨own_ty o1.same x0 ht, Z1, ρ1, F1, o1, ?_⟩
        cases r2 : f2 ρ1 with
        | bad => rw [r2] at q1'; exact q1'
        | exc x ρ' => rw [r2] at q1'; exact q1'
        | ok h2 ρ2 =>
          rw [r2] at q1'
          intro v2 H2 Z2 F2 o2 w2 a2 k2
          have q2 := rV.later (pu' := true) q1' a2 fun z => ⟨rfl, k2 z⟩
          rw [Res.bind_ok] at q2
          cases e1 : gets (h1.un p2 :: h2) ρ2 with
          | none => rw [e1] at q2; exact q2.elim
          | some ts =>
            rw [e1] at q2
            have x1 := gets_rds o2 (.cons (w1.stay a2.same p2 fun z => (k2 z).1) w2) e1
            have q3 : rV (cc X xa) E true Z2 H2 σ ρ2 F2 (Res.of (g ts) ρ2) Q := q2
            cases e3 : g ts with
            | none => rw [e3] at q3; exact q3.elim
            | some t =>
              rw [e3] at q3
              obtain ⟨v, us, e4, rr⟩ := hg Z2 H2 (v1 :: v2) ts t Q o2.same x1 e3 (o2.newR q3)
              cases e4
              exact rr
      · rw [if_neg ht] at q1'
        exact q1'.elim
theorem ve_meth {T name id : String} {r : V → List V → Hp → VK → Prop} {g : List OT → Option OT} {f1 : Ev → Res PH} {f2 : Ev → Res (List PH)} (pa : PlainAttrs T) (slot : Slot T name id) (hty : typeOf (.builtin id) = pure (.type "method_descriptor")) (hm : MtR X id r) (hg : PrimM (cc X xa) r g)
    (h1 : VP X xa E p1 o f1) (ha : VPs X xa E p2 (e :: es) f2) (hbase : attributeBase o name X.env (eval o X.env) = eval o X.env := by rfl)
    (hfew : ((backTo cpos (starEach (e :: es) X.env)).all (fun x => !x.1) && (backToKw cpos (keywordEach [] X.env)).all (fun x => x.1.isSome)
      && decide ((e :: es).length + ([] : List Keyword).length + (if ([] : List Keyword).isEmpty then 0 else 1) < 30)) = true := by rfl)
    (hline : (apos.endLine == cpos.line) = true := by rfl) (hs : starEach (e :: es) X.env = (false, eval e X.env) :: starEach es X.env := by rfl) (hplain : (backTo cpos (starEach es X.env)).any (·.1) = false := by rfl) :
    VE X xa E (p1 && p2) (.Call (.Attribute o name apos) (e :: es) [] cpos) (fMth T g p2 f1 f2) := (pe_bm pa slot hty hm h1 ha hbase hfew hline hs hplain).imp fun σ H Q q => tMth hg q
end
theorem u65 {k : Nat} {A : Around} (r : Room k A) : A.units + 65 < cLine := by have := r.un; omega
/-! ### l.index(x) -/
def gIndex (ts : List OT) : Option OT :=
  match ts with
  | [t1, t2] => match t1.d with
    | .list l => if (SeqAt.shaped (.list l) && SeqAt.shaped t2.d) = true then (l.findIdx? fun z => PyData.eqv z t2.d).map fun j => .sh (.int j) else none
    | _ => none
  | _ => none
theorem prim_index {c : VC} : PrimM c (rIndexD c.K) gIndex := by
  intro Z H vs ts t Q s r e n
  unfold gIndex at e
  split at e
  · rename_i t1 t2
    split at e
    · rename_i l hl
      split at e
      · rename_i hs
        rw [Bool.and_eq_true] at hs
        cases hf : l.findIdx? fun z => PyData.eqv z t2.d with
        | none => rw [hf] at e; cases e
        | some j =>
          rw [hf] at e
          cases e
          cases r with
          | @cons v1 _ _ _ _ w1 r =>
            cases r with
            | @cons v2 _ _ _ _ w2 r =>
              cases r
              have r1 := w1.flat s
              have r2 := w2.flat s
              rw [hl] at r1
              have d1 := r1.dp (SeqAt.canLay_of_shaped hs.1)
              have d2 := r2.dp (SeqAt.canLay_of_shaped hs.2)
              obtain ⟨hj, h1, h2⟩ := List.findIdx?_eq_some_iff_getElem.mp hf
              cases r1 with
              | @lst a xs _ hq ll =>
                refine ⟨_, _, rfl, a, v2, t2.d, l, j, l[j], rfl, rfl, d1, d2, hs.1, hs.2, by simp [hj], h1, fun m z' hm hz => ?_, n.int s⟩
                obtain ⟨h3, h4⟩ := List.getElem?_eq_some_iff.mp hz
                subst h4
                simpa using h2 m hm
      · cases e
    · cases e
  · cases e
/-! ### x in xs -/
def flatD : D → Bool
  | .none => true
  | .bool _ => true
  | .int _ => true
  | .str _ => true
  | _ => false
def gInB (b : Bool) (t1 t2 : OT) : Option OT :=
  match t2.d with
  | .list l => if (SeqAt.shaped t1.d && SeqAt.shaped (.list l)) = true then some (.sh (.bool (b != l.any fun z => PyData.eqv z t1.d))) else none
  | .tuple l => if (flatD t1.d && l.all flatD) = true then some (.sh (.bool (b != l.any fun z => PyData.eqv z t1.d))) else none
  | .str z => match t1.d with
    | .str x => match x.cps.toList with
      | [c] => some (.sh (.bool (b != decide (c ∈ z.cps.toList))))
      | _ => none
    | _ => none
  | _ => none
abbrev gIn : OT → OT → Option OT := gInB false
abbrev gNotIn : OT → OT → Option OT := gInB true
def rInX (K : PySem.W.Frag) : R2 := fun x y H Q => (rInD K x y H Q ∨ rIn K false x y H Q) ∨ ∃ (c : Nat) (z : Str), x = .str ⟨#[c]⟩ ∧ y = .str z ∧ Q (.bl (decide (c ∈ z.cps.toList))) H
def rNotInX (K : PySem.W.Frag) : R2 := fun x y H Q => (rNotInD K x y H Q ∨ rIn K true x y H Q) ∨ ∃ (c : Nat) (z : Str), x = .str ⟨#[c]⟩ ∧ y = .str z ∧ Q (.bl (!decide (c ∈ z.cps.toList))) H
theorem op_inA {X : Cx} {A : Around} (hu : A.units + 65 < cLine) (e : X.A = A := by rfl) : OpR X (compareOp .In) (rInX X.K) := ((op_inD (by rw [e]; exact hu)).or op_in_seq).or op_in_sign
theorem op_notInA {X : Cx} {A : Around} (hu : A.units + 65 < cLine) (e : X.A = A := by rfl) : OpR X (compareOp .NotIn) (rNotInX X.K) := ((op_notInD (by rw [e]; exact hu)).or op_notIn_seq).or op_notIn_sign
theorem flat_rp {c : VC} {Z : Hp} {v : V} {d : D} (r : Rp c Z v d) (h : flatD d = true) : flatV v = true := by
  cases r <;> first | rfl | cases h
theorem eqV_rp {c : VC} {Z : Hp} {v1 v2 : V} {d1 d2 : D} (r1 : Rp c Z v1 d1) (r2 : Rp c Z v2 d2) (h1 : flatD d1 = true) (h2 : flatD d2 = true) : eqV v1 v2 = PyData.eqv d1 d2 := by
  cases r1 <;> cases r2 <;> first | (simp only [eqV, PyData.eqv]; done) | (cases h1; done) | (cases h2; done)
theorem inV_rp {c : VC} {Z : Hp} {v : V} {d : D} (r : Rp c Z v d) (h : flatD d = true) : ∀ {xs : List V} {ds : List D}, RpL c Z xs ds → ds.all flatD = true → xs.all flatV = true ∧ inV v xs = ds.any fun z => PyData.eqv z d
  | _, _, .nil, _ => ⟨rfl, rfl⟩
  | _, _, .cons (vs := vs) (ds := ds) r1 l, e => by
    rw [List.all_cons, Bool.and_eq_true] at e
    obtain ⟨i1, i2⟩ := inV_rp r h l e.2
    refine ⟨by rw [List.all_cons, flat_rp r1 e.1, i1]; rfl, ?_⟩
    unfold inV at i2 ⊢
    rw [List.any_cons, List.any_cons, i2, eqV_rp r1 r e.1 h]
theorem str_one {x : Str} {c : Nat} (h : x.cps.toList = [c]) : x = ⟨#[c]⟩ := by
  cases x with
  | mk cps =>
    congr 1
    apply Array.toList_inj.mp
    exact h
theorem prim_inB {c : VC} {b : Bool} {r : R2} (hD : ∀ x y H Q d ds, Dp c.K H x d → Dp c.K H y (.list ds) → SeqAt.shaped d = true → SeqAt.shaped (.list ds) = true → Q (.bl (b != ds.any fun z => PyData.eqv z d)) H → r x y H Q)
    (hS : ∀ x H Q p xs, (SqL c.K H p xs ∨ SqT c.K H p xs) → flatV x = true → xs.all flatV = true → Q (.bl (b != inV x xs)) H → r x (.ref p) H Q)
    (hT : ∀ H Q (a : Nat) (z : Str), Q (.bl (b != decide (a ∈ z.cps.toList))) H → r (.str ⟨#[a]⟩) (.str z) H Q) : Prim2 c r (gInB b) := by
  intro Z H v1 v2 t1 t2 F1 F2 t Q s w1 w2 e n
  have r1 := w1.flat s
  have r2 := w2.flat s
  unfold gInB at e
  split at e
  · rename_i l hl
    split at e
    · rename_i hs
      cases e
      rw [Bool.and_eq_true] at hs
      rw [hl] at r2
      exact hD _ _ _ _ _ _ (r1.dp (SeqAt.canLay_of_shaped hs.1)) (r2.dp (SeqAt.canLay_of_shaped hs.2)) hs.1 hs.2 (n.bool s)
    · cases e
  · rename_i l hl
    split at e
    · rename_i hs
      cases e
      rw [Bool.and_eq_true] at hs
      rw [hl] at r2
      cases r2 with
      | @tup a xs _ hq ll _ =>
        obtain ⟨i1, i2⟩ := inV_rp r1 hs.1 ll hs.2
        exact hS _ _ _ a xs (.inr hq) (flat_rp r1 hs.1) i1 (by rw [i2]; exact n.bool s)
    · cases e
  · rename_i z hz
    split at e
    · rename_i x hx
      split at e
      · rename_i a ha
        cases e
        rw [hz] at r2
        rw [hx, str_one ha] at r1
        cases r1
        cases r2
        exact hT _ _ _ _ (n.bool s)
      · cases e
    · cases e
  · cases e
theorem prim_in {c : VC} : Prim2 c (rInX c.K) gIn := prim_inB (fun _ _ _ _ _ _ h1 h2 h3 h4 q => .inl (.inl ⟨_, _, h1, h2, h3, h4, by simpa using q⟩)) (fun _ _ _ _ _ h1 h2 h3 q => .inl (.inr ⟨_, _, rfl, h1, h2, h3, by simpa using q⟩)) (fun _ _ _ _ q => .inr ⟨_, _, rfl, rfl, by simpa using q⟩)
theorem prim_notIn {c : VC} : Prim2 c (rNotInX c.K) gNotIn := prim_inB (fun _ _ _ _ _ _ h1 h2 h3 h4 q => .inl (.inl ⟨_, _, h1, h2, h3, h4, by simpa using q⟩)) (fun _ _ _ _ _ h1 h2 h3 q => .inl (.inr ⟨_, _, rfl, h1, h2, h3, by simpa using q⟩)) (fun _ _ _ _ q => .inr ⟨_, _, rfl, rfl, by simpa using q⟩)
end VL

end

section
set_option Elab.async false
set_option linter.all false
set_option maxRecDepth 100000
set_option maxHeartbeats 1000000
namespace VL
open PySem PySem.Spec PyProof.Rows L2
/-! ### zip of tuples, each pair new and without attributes -/
def ItzF (K : PySem.W.Frag) (a b : Addr) : It where
  go := fun j G => ∃ (us ws : List V) (p q : V), (SqT K G a us ∧ us[j]? = some p) ∧ (SqT K G b ws ∧ ws[j]? = some q)
  yld := fun j G v G' => ∃ T o p q, v = .ref T ∧ G T = none ∧ o.dict = none ∧ G' = upd G T (.frz o (.tup [p, q])) ∧ (∀ us, SqT K G a us → us[j]? = some p) ∧ ∀ ws, SqT K G b ws → ws[j]? = some q
  stop := fun j G => ∃ us ws : List V, SqT K G a us ∧ SqT K G b ws ∧ (us.length ≤ j ∨ ws.length ≤ j)
def five (z m r i k : Addr) (c : Addr) : Prop := c = z ∨ c = m ∨ c = r ∨ c = i ∨ c = k
theorem five_of {z m r i k c : Addr} (h : c ∈ [z, m, r, i, k]) : five z m r i k c := by simpa [five] using h
theorem turn_zipF {P : Program} {w : World} {K : PySem.W.Frag} {elts : List Expr} {kk : Nat} {tpos : Pos} {a b z m r i k : Addr} (D : ZipApart z m r i k a b) :
    Turn P w K (.Tuple elts kk tpos) (ItzF K a b) [z, m, r, i, k] z (fun j h => (IsZip h z m r .none ∧ IsPair h m (.ref i) (.ref k) ∧ ∃ p q, IsPair h r p q) ∧ h.IsTupleIter i a j ∧ h.IsTupleIter k b j) where
  mem := List.mem_cons_self ..
  obj := fun j h st c hc => by
    obtain ⟨⟨gz, gm, p, q, gr⟩, ⟨o1, g1, _, d1⟩, ⟨o2, g2, _, d2⟩⟩ := st
    rcases five_of hc with e | e | e | e | e <;> subst e
    · exact ⟨_, gz, fun v y => nomatch y⟩
    · exact ⟨_, gm, fun v y => nomatch y⟩
    · exact ⟨_, gr, fun v y => nomatch y⟩
    · exact ⟨o1, g1, fun v y => by rw [d1] at y; cases y⟩
    · exact ⟨o2, g2, fun v y => by rw [d2] at y; cases y⟩
  keep := fun j h h' st kp => by
    obtain ⟨⟨gz, gm, p, q, gr⟩, g1, g2⟩ := st
    exact ⟨⟨kp z (by simp) _ gz, kp m (by simp) _ gm, p, q, kp r (by simp) _ gr⟩, g1.at fun o e => kp i (by simp) o e, g2.at fun o e => kp k (by simp) o e⟩
  item := by
    intro X e1 e2 e3 calm j pins s σ G E I fr st go
    subst e1 e2 e3
    obtain ⟨⟨gz, gm, p0, q0, gr⟩, g1, g2⟩ := st
    obtain ⟨us, ws, p, q, ⟨sa, hp⟩, sb, hq⟩ := go
    obtain ⟨l1, v1, t1, _⟩ := I.tuple sa
    obtain ⟨l2, v2, t2, _⟩ := I.tuple sb
    obtain ⟨y1, m1, r1⟩ := v1.get hp
    obtain ⟨y2, m2, r2⟩ := v2.get hq
    have zl : z < s.heap.objs.size := Heap.lt_size gz
    refine RZ.pyNext_zipT_item D gz gm gr g1 g2 t1 t2 (x := y1) (y := y2) (by simpa using m1) (by simpa using m2) fun g gz' gr' g1' g2' gT gs gk => ⟨_, rfl, wpAny_letOwnedTupleGo_zip (s := { s with heap := g }) gz' fun f gz2 sm => ?_⟩
    have fT : f.get? s.heap.objs.size = some { cls := .type "tuple", data := .seq #[y1, y2] } := (sm.2 _ (Nat.ne_of_gt zl)).trans gT
    have nob : ObjOk X.prog X.w (upd G s.heap.objs.size (.frz { cls := .type "tuple", data := .seq #[y1, y2] } (.tup [p, q]))) f s.heap.objs.size (.frz { cls := .type "tuple", data := .seq #[y1, y2] } (.tup [p, q])) :=
      ⟨fT, (by decide : 2 ≤ sizeLine), [y1, y2], .cons r1 (.cons r2 .nil), _, fT, rfl, _, rfl⟩
    have kp : ∀ c o, c ∉ [z, m, r, i, k] → s.heap.get? c = some o → f.get? c = some o := fun c o nc e => by
      have n : ∀ d, d ∈ [z, m, r, i, k] → c ≠ d := fun d hd y => nc (y ▸ hd)
      exact (sm.2 c (n z (by simp))).trans (gk c o (n z (by simp)) (n r (by simp)) (n i (by simp)) (n k (by simp)) e)
    have J := I.turnedNew (t' := s.toks) (ch := [z, m, r, i, k]) kp fr (Nat.le_refl _) nob
    refine ⟨.ref s.heap.objs.size, _, J, rfl, ⟨_, _, p, q, rfl, I.hok.fresh (Nat.le_refl _), rfl, rfl, fun l hl => ?_, fun l hl => ?_⟩, ⟨⟨gz2, ?_, y1, y2, ?_⟩, ?_, ?_⟩, fun c hc => ?_⟩
    · rw [I.tuple_inj hl sa]; exact hp
    · rw [I.tuple_inj hl sb]; exact hq
    · exact (sm.2 _ D.TIz).trans (gk _ _ D.TIz D.TITO D.TIi1 D.TIi2 gm)
    · exact (sm.2 _ D.TOz).trans gr'
    · exact g1'.at fun o e => (sm.2 _ D.i1z).trans e
    · exact g2'.at fun o e => (sm.2 _ D.i2z).trans e
    · have lt : c < s.heap.objs.size := by
        rcases five_of hc with e | e | e | e | e <;> subst e
        · exact zl
        · exact Heap.lt_size gm
        · exact Heap.lt_size gr
        · exact g1.elim fun _ y => Heap.lt_size y.1
        · exact g2.elim fun _ y => Heap.lt_size y.1
      rw [upd_ne (Nat.ne_of_lt lt)]
      exact (fr c hc).1
  done := by
    intro X e1 e2 e3 calm j pins s σ G E I fr st stp
    subst e1 e2 e3
    obtain ⟨⟨gz, gm, p0, q0, gr⟩, g1, g2⟩ := st
    obtain ⟨us, ws, sa, sb, en⟩ := stp
    obtain ⟨l1, v1, t1, _⟩ := I.tuple sa
    obtain ⟨l2, v2, t2, _⟩ := I.tuple sb
    have n1 := v1.length
    have n2 := v2.length
    have out : l1.toArray[j]? = none ∨ l2.toArray[j]? = none := en.imp (fun y => by simp; omega) fun y => by simp; omega
    refine RZ.pyNext_zipT_end (I.ok.hd calm) D gz gm gr g1 g2 t1 t2 out fun g gk => ⟨rfl, I.turnedL (t' := s.toks) (ch := [z, m, r, i, k]) (fun c o nc e => ?_) fr⟩
    have n : ∀ d, d ∈ [z, m, r, i, k] → c ≠ d := fun d hd y => nc (y ▸ hd)
    exact gk c o (n z (by simp)) (n r (by simp)) (n i (by simp)) (n k (by simp)) e
  self := fun A j s Q E st h => wpAny_pyIter_zip st.1.1 h
def iZipF (K : PySem.W.Frag) (ta : TA) : TI := fun σ G R => ta σ G fun vs G1 => ∃ a b us ws, vs = [.ref a, .ref b] ∧ ((SqL K G1 a us ∧ SqL K G1 b ws ∧ R (Itz K a b) G1) ∨ (SqT K G1 a us ∧ SqT K G1 b ws ∧ R (ItzF K a b) G1))
theorem pi_zipF {X : Cx} {e f : Expr} {ta : TA} {p pos tpos : Pos} {elts : List Expr} {kk : Nat} (hg : Gl X "zip") (hm : X.mg "zip" = none) (ha : PA X [e, f] ta)
    (hs : starEach [e, f] X.env = (false, eval e X.env) :: starEach [f] X.env := by rfl) (hpl : (backTo pos (starEach [f] X.env)).any (·.1) = false := by rfl) : PI X (.Tuple elts kk tpos) (.Call (.Name "zip" p) [e, f] [] pos) (iZipF X.K ta) := by
  refine ⟨fun pins s σ G R I h => Call_ (ld_blt I hg hm PyProof.Rows.boot_zip (PyProof.Rows.callWith_type1 (thn (ha.run pos pins s σ G _ I h) fun vals t ⟨vs, G1, J, rv, a, b, us, ws, ex, q⟩ => ?_) hs hpl))⟩
  subst ex
  cases rv with
  | cons r1 rv =>
    cases rv with
    | cons r2 rv =>
      cases rv
      cases r1
      cases r2
      have fr : ∀ c, c ∈ [t.heap.objs.size + 4, t.heap.objs.size + 2, t.heap.objs.size + 3, t.heap.objs.size, t.heap.objs.size + 1] → FpOk X pins G1 c := fun c hc => by
        have le : t.heap.objs.size ≤ c := by
          rcases five_of hc with e | e | e | e | e <;> subst e
          · exact Nat.le_add_right _ _
          · exact Nat.le_add_right _ _
          · exact Nat.le_add_right _ _
          · exact Nat.le_refl _
          · exact Nat.le_add_right _ _
        exact J.fpOk le (J.hok.fresh le)
      rcases q with ⟨sa, sb, q⟩ | ⟨sa, sb, q⟩
      · obtain ⟨l1, _, t1, _⟩ := J.list sa
        obtain ⟨l2, _, t2, _⟩ := J.list sb
        exact call_zip_2 t1.isList t2.isList fun g gz gm gr g1 g2 _ gk => wpAny_pyIter_zip gz ⟨_, _, _, _, G1, rfl, J.kept (t' := t.toks) gk, turn_zip (PySem.W.ktu_apart t.heap.objs.size a b t1.lt t2.lt), ⟨gz, gm, ⟨_, _, gr⟩, g1, g2⟩, fr, q⟩
      · obtain ⟨l1, _, t1, _⟩ := J.tuple sa
        obtain ⟨l2, _, t2, _⟩ := J.tuple sb
        have lt1 : a < t.heap.objs.size := (id t1).elim fun _ y => Heap.lt_size y.1
        have lt2 : b < t.heap.objs.size := (id t2).elim fun _ y => Heap.lt_size y.1
        exact RZ.call_zipT t1 t2 fun g gz gm gr g1 g2 _ gk => wpAny_pyIter_zip gz ⟨_, _, _, _, G1, rfl, J.kept (t' := t.toks) gk, turn_zipF (PySem.W.ktu_apart t.heap.objs.size a b lt1 lt2), ⟨⟨gz, gm, _, _, gr⟩, g1, g2⟩, fr, q⟩
/-! ### zip -/
def zipD (xs ys : List D) : List D := List.zipWith (fun x y => PyData.tuple [x, y]) xs ys
theorem zipD_length (xs ys : List D) : (zipD xs ys).length = min xs.length ys.length := by simp [zipD]
theorem isCh_nb {d : D} {l : List D} (h : isBl d = false) : isCh (d :: l) ≠ true := by simp [isCh, h]
theorem pair_at {c : VC} {Z' H' : Hp} {T : Addr} {h : HO} {d : D} (s2 : Same Z' H') (hT : H' T = none) (r : Same Z' (upd Z' T h) → Rp c (upd Z' T h) (.ref T) d) :
    Same H' (upd H' T h) ∧ Same Z' (upd Z' T h) ∧ Same (upd Z' T h) (upd H' T h) ∧ (∀ p, upd Z' T h p ≠ none → Z' p ≠ none ∨ H' p = none) ∧ Rp c (upd Z' T h) (.ref T) d := by
  have hz := s2.free hT
  refine ⟨same_upd hT, same_upd hz, upd_mono s2, fun b hb => ?_, r (same_upd hz)⟩
  by_cases e : b = T
  · subst e; exact .inr hT
  · rw [upd_ne e] at hb
    exact .inl hb
theorem pair_new {c : VC} {Z' H' : Hp} {T : Addr} {x y : V} {d e : D} (s2 : Same Z' H') (hT : H' T = none) (r1 : Rp c Z' x d) (r2 : Rp c Z' y e) (nb : isBl d = false) :
    Same H' (upd H' T (.tup [x, y])) ∧ Same Z' (upd Z' T (.tup [x, y])) ∧ Same (upd Z' T (.tup [x, y])) (upd H' T (.tup [x, y])) ∧ (∀ p, upd Z' T (.tup [x, y]) p ≠ none → Z' p ≠ none ∨ H' p = none) ∧ Rp c (upd Z' T (.tup [x, y])) (.ref T) (.tuple [d, e]) :=
  pair_at s2 hT fun k => .tup (SqT.of upd_same) (.cons (r1.mono k) (.cons (r2.mono k) .nil)) fun z => absurd z (isCh_nb nb)
theorem walk_zipL {c : VC} {Z H : Hp} {a b : Addr} {xs ys : List V} {ds es : List D} (nb : ds.all (fun d => !isBl d) = true) (hq : SqL c.K Z a xs) (r : RpL c Z xs ds) (hq2 : SqL c.K Z b ys) (r2 : RpL c Z ys es) : Walk c (Itz c.K a b) Z H [] (zipD ds es) where
  go := fun i Z' H' hi s1 s2 _ => by
    rw [zipD_length] at hi
    have q : SqL c.K H' a xs := s2.seq (s1.seq hq)
    have q2 : SqL c.K H' b ys := s2.seq (s1.seq hq2)
    have hx : i < xs.length := by rw [r.length]; omega
    have hy : i < ys.length := by rw [r2.length]; omega
    refine ⟨⟨xs, ys, xs[i], ys[i], q, q2, by simp [hx], by simp [hy]⟩, fun v Hx y => ?_⟩
    obtain ⟨T, x, y, rfl, hT, rfl, h1, h2⟩ := y
    obtain ⟨d, hd, rd⟩ := r.get (h1 xs q)
    obtain ⟨e, he, re⟩ := r2.get (h2 ys q2)
    have nd : isBl d = false := by simpa using List.all_eq_true.mp nb d (List.mem_of_getElem? hd)
    obtain ⟨k1, k2, k3, k4, k5⟩ := pair_new s2 hT (rd.mono s1) (re.mono s1) nd
    exact ⟨_, .tuple [d, e], by simp [zipD, List.getElem?_zipWith, hd, he], k1, k2, k3, k4, k5⟩
  stop := fun Z' H' s1 s2 _ => ⟨xs, ys, s2.seq (s1.seq hq), s2.seq (s1.seq hq2), by rw [zipD_length, r.length, r2.length]; omega⟩
theorem walk_zipT {c : VC} {Z H : Hp} {a b : Addr} {xs ys : List V} {ds es : List D} (hq : SqT c.K Z a xs) (r : RpL c Z xs ds) (hq2 : SqT c.K Z b ys) (r2 : RpL c Z ys es) : Walk c (ItzF c.K a b) Z H [] (zipD ds es) where
  go := fun i Z' H' hi s1 s2 _ => by
    rw [zipD_length] at hi
    have q : SqT c.K H' a xs := SqT.mono s2 (SqT.mono s1 hq)
    have q2 : SqT c.K H' b ys := SqT.mono s2 (SqT.mono s1 hq2)
    have hx : i < xs.length := by rw [r.length]; omega
    have hy : i < ys.length := by rw [r2.length]; omega
    refine ⟨⟨xs, ys, xs[i], ys[i], ⟨q, by simp [hx]⟩, q2, by simp [hy]⟩, fun v Hx y => ?_⟩
    obtain ⟨T, o, x, y, rfl, hT, ho, rfl, h1, h2⟩ := y
    obtain ⟨d, hd, rd⟩ := r.get (h1 xs q)
    obtain ⟨e, he, re⟩ := r2.get (h2 ys q2)
    obtain ⟨k1, k2, k3, k4, k5⟩ := pair_at (c := c) (h := .frz o (.tup [x, y])) (d := .tuple [d, e]) s2 hT fun k => .tupF upd_same ho (.cons ((rd.mono s1).mono k) (.cons ((re.mono s1).mono k) .nil))
    exact ⟨_, .tuple [d, e], by simp [zipD, List.getElem?_zipWith, hd, he], k1, k2, k3, k4, k5⟩
  stop := fun Z' H' s1 s2 _ => ⟨xs, ys, SqT.mono s2 (SqT.mono s1 hq), SqT.mono s2 (SqT.mono s1 hq2), by rw [zipD_length, r.length, r2.length]; omega⟩
def zipAt (o : Option (List OT)) (ρ : Ev) : Res Its' := match o with
  | some [.sh (.list x), .sh (.list y)] => if x.all (fun d => !isBl d) then .ok (zipD x y, none) ρ else .bad
  | some [.sh (.tuple x), .sh (.tuple y)] => .ok (zipD x y, none) ρ
  | _ => .bad
def fZipI (f : Ev → Res (List PH)) : Ev → Res Its' := fun ρ => (f ρ).bind fun hs ρ1 => zipAt (gets hs ρ1) ρ1
@[simp] theorem fZipI_ap (f : Ev → Res (List PH)) (ρ : Ev) : fZipI f ρ = (f ρ).bind fun hs ρ1 => zipAt (gets hs ρ1) ρ1 := rfl
@[simp] theorem zipAt_l (x y : List D) (ρ : Ev) : zipAt (some [.sh (.list x), .sh (.list y)]) ρ = if x.all (fun d => !isBl d) then .ok (zipD x y, none) ρ else .bad := rfl
@[simp] theorem zipAt_t (x y : List D) (ρ : Ev) : zipAt (some [.sh (.tuple x), .sh (.tuple y)]) ρ = .ok (zipD x y, none) ρ := rfl
section
variable {X : Cx} {xa : Str → Option Addr} {E : XS} {pu : Bool} {a b : Expr} {pos p tpos : Pos} {elts : List Expr} {kk : Nat}
theorem vi_zip {f : Ev → Res (List PH)} (hg : Gl X "zip") (hm : X.mg "zip" = none) (h : VPs X xa E pu [a, b] f) (hs : starEach [a, b] X.env = (false, eval a X.env) :: starEach [b] X.env := by rfl) (hpl : (backTo pos (starEach [b] X.env)).any (·.1) = false := by rfl) :
    VI X xa E (.Tuple elts kk tpos) (.Call (.Name "zip" p) [a, b] [] pos) (fZipI f) := (pi_zipF hg hm h hs hpl).imp fun σ H R ⟨Z, ρ, F, ok, q⟩ => by
  refine ⟨Z, ρ, F, ok, ?_⟩
  unfold fZipI at q
  cases r : f ρ with
  | bad => rw [r] at q; exact q
  | exc x ρ' => rw [r] at q; exact q
  | ok h ρ1 =>
    rw [r, Res.bind_ok] at q
    intro vs H1 Z1 F1 o1 w1 a1 _
    unfold zipAt at q
    split at q
    · rename_i x y hd
      have w := gets_rds o1 w1 hd
      cases w with
      | cons u1 w =>
        cases w with
        | cons u2 w =>
          cases w
          cases u1 with
          | sh u1 =>
            cases u2 with
            | sh u2 =>
              cases u1 with
              | @lst a1' xs _ hq l =>
                cases u2 with
                | @lst b1 ys _ hq2 l2 =>
                  split at q
                  case isFalse => exact q.elim
                  rename_i nb
                  exact ⟨_, _, xs, ys, rfl, .inl ⟨o1.same.seq hq, o1.same.seq hq2, q _ H1 Z1 F1 [] o1 (walk_zipL nb hq l hq2 l2) o1.nd (fun _ z => nomatch z) rfl a1⟩⟩
    · rename_i x y hd
      have w := gets_rds o1 w1 hd
      cases w with
      | cons u1 w =>
        cases w with
        | cons u2 w =>
          cases w
          cases u1 with
          | sh u1 =>
            cases u2 with
            | sh u2 =>
              cases u1 with
              | @tup a1' xs _ hq l _ =>
                cases u2 with
                | @tup b1 ys _ hq2 l2 _ =>
                  exact ⟨_, _, xs, ys, rfl, .inr ⟨SqT.mono o1.same hq, SqT.mono o1.same hq2, q _ H1 Z1 F1 [] o1 (walk_zipT hq l hq2 l2) o1.nd (fun _ z => nomatch z) rfl a1⟩⟩
    all_goals exact q.elim
end
theorem lk_zip (f : Ev → Res (List PH)) : ∀ ρ (p : Its') ρ', fZipI f ρ = .ok p ρ' → p.2 = none ∨ p.2 = none := fun ρ p ρ' h => by
  unfold fZipI at h
  cases e : f ρ with
  | bad => rw [e] at h; cases h
  | exc x ρ1 => rw [e] at h; cases h
  | ok t ρ1 =>
    rw [e, Res.bind_ok] at h
    unfold zipAt at h
    split at h
    · split at h
      · cases h; exact .inl rfl
      · cases h
    all_goals first | (cases h; exact .inl rfl) | cases h
/-! ### xs.insert(i, y), xs.pop(i) -/
def GInsert (ts as : List OT) : Option (OT × List OT) :=
  match as with
  | [.sh (.int i), a] => if ts.length < 1000000 ∧ 0 ≤ i ∧ i < 4000000000 then some (.sh .none, ts.take i.toNat ++ [a] ++ ts.drop i.toNat) else none
  | _ => none
def rInsert (x : V) (vs : List V) (H : Hp) (Q : VK) : Prop := ∃ (l : Addr) (xs : List V) (i : Int) (y : V), x = .ref l ∧ vs = [.int i, y] ∧ H l = some (.lst xs) ∧ xs.length < sizeLine ∧ 0 ≤ i ∧ i < 2 ^ 63 ∧
    Q .non (upd H l (.lst (xs.take i.toNat ++ [y] ++ xs.drop i.toNat)))
theorem OwnL.split {c : VC} {Z H : Hp} : ∀ {xs : List V} {ts : List OT} {F : List Addr} (j : Nat), OwnL c Z H xs ts F → ∃ G K, OwnL c Z H (xs.take j) (ts.take j) G ∧ OwnL c Z H (xs.drop j) (ts.drop j) K ∧ F = G ++ K
  | _, _, _, 0, h => ⟨[], _, .nil, h, rfl⟩
  | _, _, _, j + 1, .nil => ⟨[], [], .nil, .nil, rfl⟩
  | _, _, _, j + 1, .cons (F := F1) h l => by
    obtain ⟨G, K, a, b, e⟩ := OwnL.split j l
    exact ⟨F1 ++ G, K, .cons h a, b, by rw [e, List.append_assoc]⟩
theorem mut_insert {c : VC} : MutP c rInsert GInsert := by
  intro Z H p xs vs ts as t ts' Fi Fs Q s hp p1 p2 l wa n e k
  unfold GInsert at e
  split at e
  · rename_i i a
    split at e
    · rename_i hl
      cases e
      cases wa with
      | @cons v0 _ _ _ F0 _ w0 wa =>
        cases wa with
        | @cons y _ _ _ Fa _ w wn =>
          cases wn
          have e0 := int_read w0
          subst e0
          cases w0 with
          | sh r0 =>
            obtain ⟨G, K, l1, l2, eF⟩ := OwnL.split i.toNat l
            have nq : ∀ q ∈ G ++ Fa ++ K, ∀ o, H q = some o → upd H p (.lst (xs.take i.toNat ++ [y] ++ xs.drop i.toNat)) q = some o := fun q hq o ho => by
              rw [upd_ne]
              · exact ho
              · intro z
                subst z
                rw [List.mem_append, List.mem_append] at hq
                rcases hq with (z | z) | z
                · exact p1 (by rw [eF]; exact List.mem_append_left _ z)
                · exact p2 (by simpa using z)
                · exact p1 (by rw [eF]; exact List.mem_append_right _ z)
            have nd : (G ++ Fa ++ K).Nodup := by
              have n' : ((G ++ K) ++ Fa).Nodup := by rw [← eF]; simpa using n
              refine (List.Perm.nodup_iff ?_).mp n'
              rw [List.append_assoc, List.append_assoc]
              exact List.Perm.append_left _ List.perm_append_comm
            refine ⟨p, xs, i, y, rfl, rfl, hp, by rw [l.length, sizeLine_eq]; omega, hl.2.1, by omega, k _ .non (G ++ Fa ++ K) [] ?_ (.sh .non) nd fun q hq => ?_⟩
            · have := (l1.append (.cons w .nil)).append l2
              rw [List.append_nil] at this
              exact this.frame (Same.refl _) fun q hq o ho => nq q hq o ho
            · rw [List.nil_append, List.mem_append, List.mem_append] at hq
              rw [eF]
              rcases hq with (z | z) | z
              · exact List.mem_append_left _ (List.mem_append_left _ z)
              · exact List.mem_append_right _ (by simpa using z)
              · exact List.mem_append_left _ (List.mem_append_right _ z)
    · cases e
  · cases e
section
variable {X : Cx} {xa : Str → Option Addr} {E : XS} {e1 e2 : Expr}
theorem ve_insert {i : Nat} {x : Str} {fa : Ev → Res (List Arg)} {apos cpos npos : Pos} (hv : PE X (.Name x npos) (tVar i)) (ha : VA X xa E [e1, e2] fa)
    (hbase : attributeBase (.Name x npos) "insert" X.env (eval (.Name x npos) X.env) = eval (.Name x npos) X.env := by rfl)
    (hfew : ((backTo cpos (starEach [e1, e2] X.env)).all (fun x => !x.1) && (backToKw cpos (keywordEach [] X.env)).all (fun x => x.1.isSome)
      && decide ([e1, e2].length + ([] : List Keyword).length + (if ([] : List Keyword).isEmpty then 0 else 1) < 30)) = true := by rfl)
    (hline : (apos.endLine == cpos.line) = true := by rfl) (hs : starEach [e1, e2] X.env = (false, eval e1 X.env) :: starEach [e2] X.env := by rfl) (hplain : (backTo cpos (starEach [e2] X.env)).any (·.1) = false := by rfl) :
    VE X xa E false (.Call (.Attribute (.Name x npos) "insert" apos) [e1, e2] [] cpos) (fMeth GInsert i fa) := (pe_bm PySem.F.plainAttrs_list PySem.F.slot_list_insert PySem.F.type_list_insert mt_insert hv ha hbase hfew hline hs hplain).imp fun σ H Q q => tBM_ok mut_insert q
end
end VL

end

section
set_option Elab.async false
set_option linter.all false
set_option maxRecDepth 100000
set_option maxHeartbeats 1000000
namespace VL
open PySem PySem.Spec PyProof.Rows L2
/-! ### enumerate of a tuple -/
theorem enumT_new (t : Addr) (its : Array Value) (k : Nat) (dt : Option Addr) (st : Array (Option Value)) :
    Meets (Builtin.«enumerate.__new__» ⟨[.type "enumerate", .ref t], []⟩) (fun _ R s => s.heap.get? t = some { cls := .type "tuple", dict := dt, data := .seq its k, slots := st } ∧
      R (.ok (.ret (.ref (s.heap.push { cls := .type "tuple_iterator", data := .fields #[.ref t, .int 0 0] }).objs.size)))
        { s with heap := (s.heap.push { cls := .type "tuple_iterator", data := .fields #[.ref t, .int 0 0] }).push { cls := .type "enumerate", data := .fields #[.none, .bool false, .ref s.heap.objs.size, rawInt 0, .none, .none] } }) :=
  .of_wp fun prog w A R s0 hh => by
    obtain ⟨hp, gl, dn, tk, os⟩ := s0
    obtain ⟨ho, hR⟩ := hh
    have sub := sub_enumerate
    have hT : Heap.IsTuple (Shared.heap ⟨hp, gl, dn, tk, os⟩) t its := ⟨_, ho, rfl, k, rfl⟩
    wp_walk using wpAny_loadPart' ho
    refine wpAny_stack_any fun stk => wpAny_pure (?_ : _)
    split
    · rename_i c _ _ _ _ _
      cases hcc : (c == Value.type "enumerate") <;>
      · wp_walk using wpAny_loadPart' ho, wpAny_pyIter_tuple hT
        exact ⟨_, rfl, hR⟩
    · wp_walk using wpAny_loadPart' ho, wpAny_pyIter_tuple hT
      exact ⟨_, rfl, hR⟩
section
variable {prog : Program} {w : World} {A : Around} {E : Value → Shared → Prop} {s : Shared}
theorem call_enumT {t : Addr} {its : Array Value} {Q : Value → Shared → Prop} (hT : s.heap.IsTuple t its)
    (q : ∀ h', IsEnum h' (s.heap.objs.size + 1) s.heap.objs.size 0 .none → h'.IsTupleIter s.heap.objs.size t 0 → (∀ b o, s.heap.get? b = some o → h'.get? b = some o) → Q (.ref (s.heap.objs.size + 1)) { s with heap := h' }) :
    wpAny (model prog w) A (call (.type "enumerate") [.ref t]) Q E s := by
  obtain ⟨⟨c, dt, da, st⟩, ho, hc, k, hd⟩ := hT
  cases show c = .type "tuple" from hc
  cases show da = .seq its k from hd
  refine callType_new F.called_enumerate (by decide) (F.typeCall_enumerate_1 _) (F.newCall_enumerate_1 _) (fun ob => F.args_object_init_2 ob _) F.entry_enumerate_new (enumT_new t its k dt st) ⟨ho, ?_⟩
  have z : (s.heap.push { cls := .type "tuple_iterator", data := .fields #[.ref t, .int 0 0] }).objs.size = s.heap.objs.size + 1 := Heap.size_push ..
  show _ ∧ _
  rw [z]
  have en : IsEnum ((s.heap.push { cls := .type "tuple_iterator", data := .fields #[.ref t, .int 0 0] }).push { cls := .type "enumerate", data := .fields #[.none, .bool false, .ref s.heap.objs.size, rawInt 0, .none, .none] }) (s.heap.objs.size + 1) s.heap.objs.size 0 .none := by
    have y := Heap.get?_push_size (s.heap.push { cls := .type "tuple_iterator", data := .fields #[.ref t, .int 0 0] }) (o := { cls := .type "enumerate", data := .fields #[.none, .bool false, .ref s.heap.objs.size, rawInt 0, .none, .none] }) rfl
    rw [z] at y
    exact y
  exact ⟨⟨_, en, rfl⟩, q _ en ⟨_, Heap.get?_push_of_some _ (Heap.get?_push_size _ rfl), rfl, rfl⟩ fun b o x => Heap.get?_push_of_some _ (Heap.get?_push_of_some _ x)⟩
end
theorem draws_tup {prog : Program} {w : World} {A : Around} (hh : A.handled = none) (it t : Addr) (ne : t ≠ it) (its : Array Value) :
    Draws prog w A it [it, t] its.size (fun i v => its[i]? = some v) (fun i h => h.IsTupleIter it t i ∧ h.IsTuple t its) where
  live := fun _ _ st => st.1.elim fun o z => ⟨o, z.1⟩
  frame := fun _ _ _ st hk => ⟨st.1.elim fun o z => ⟨o, hk it (by simp) o z.1, z.2⟩, st.2.elim fun o z => ⟨o, hk t (by simp) o z.1, z.2⟩⟩
  item := fun i s Q E hi st q => RZ.nextOf_tuple_item st.1 st.2 (x := its[i]) (by simp [hi]) fun h1 i1 sb => q _ h1 s.toks (by simp [hi]) ⟨i1, st.2.extBut sb.extBut ne⟩ sb
  done := fun s Q E st q => RZ.nextOf_tuple_end hh st.1 st.2 (by simp) q
end VL

end

section
set_option Elab.async false
set_option linter.all false
set_option maxRecDepth 100000
set_option maxHeartbeats 1000000
namespace VL
open PySem PySem.Spec PyProof.Rows L2
/-- a tuple, each item in a new pair with its place -/
def IteT (K : PySem.W.Frag) (a : Addr) : It :=
  ⟨fun i H => ∃ (xs : List V) (x : V), SqT K H a xs ∧ xs[i]? = some x, fun i H v H' => ∃ T x, v = .ref T ∧ H T = none ∧ H' = upd H T (.tup [.int (i : Nat), x]) ∧ ∀ xs, SqT K H a xs → xs[i]? = some x, fun i H => ∃ xs : List V, SqT K H a xs ∧ xs.length ≤ i⟩
theorem turn_enumT {P : Program} {w : World} {K : PySem.W.Frag} {elts : List Expr} {kk : Nat} {tpos : Pos} (a e it : Addr) :
    Turn P w K (.Tuple elts kk tpos) (IteT K a) [e, it] e (fun i h => (∃ old, IsEnum h e it ((i : Nat) : Int) old) ∧ h.IsTupleIter it a i ∧ e ≠ it) where
  mem := List.mem_cons_self ..
  obj := fun i h st b hb => by
    obtain ⟨⟨old, en⟩, ⟨o, ho, _, hd⟩, _⟩ := st
    rcases (show b = e ∨ b = it by simpa using hb) with rfl | rfl
    · exact ⟨_, en, fun v z => nomatch z⟩
    · exact ⟨o, ho, fun v z => by rw [hd] at z; cases z⟩
  keep := fun i h h' st k => by
    obtain ⟨⟨old, en⟩, ⟨o, ho, r⟩, ne⟩ := st
    exact ⟨⟨old, k e (by simp) _ en⟩, ⟨o, k it (by simp) o ho, r⟩, ne⟩
  item := by
    intro X eP ew eK calm i pins s σ H EX inv free st go
    subst eP ew eK
    obtain ⟨⟨old, en⟩, hit, ne⟩ := st
    obtain ⟨xs, x, sq, hx⟩ := go
    obtain ⟨its, vals, pt, _⟩ := inv.tuple sq
    have pt' : s.heap.IsTuple a its.toArray := pt
    obtain ⟨u, hu, ru⟩ := vals.get hx
    have le : e < s.heap.objs.size := Heap.lt_size en
    have li : it < s.heap.objs.size := hit.elim fun o z => Heap.lt_size z.1
    have nai : a ≠ it := by
      intro q
      obtain ⟨o1, g1, c1, _⟩ := pt'
      obtain ⟨o2, g2, c2, _⟩ := hit
      rw [q, g2] at g1
      cases g1
      rw [c2] at c1
      exact absurd (Value.type.inj c1) (by decide)
    have nea : e ∉ [it, a] := by
      intro q
      rcases (show e = it ∨ e = a by simpa using q) with q | q
      · exact ne q
      · obtain ⟨o1, g1, c1, _⟩ := pt'
        have en' : s.heap.get? e = some _ := en
        rw [q, g1] at en'
        cases en'
        exact absurd (Value.type.inj c1) (by decide)
    have lt : i < its.toArray.size := by
      have := (List.getElem?_eq_some_iff.mp hu).1
      simpa using this
    refine wpAny_pyNext_enum_itemD (draws_tup (A := X.A.in1) (show X.A.in1.handled = none from inv.ok.hd calm) it a nai its.toArray) en ⟨hit, pt'⟩ lt ne nea fun y g tk hy eo st2 gT gz gk => ?_
    have ey : y = u := by
      have h1 : its[i]? = some y := by simpa using hy
      rw [hu] at h1
      cases h1; rfl
    subst ey
    refine ⟨_, rfl, wpAny_letOwnedTupleGo_enum (s := { s with heap := g, toks := tk + 1 }) eo fun g2 en2 sb => ?_⟩
    have gT2 : g2.get? s.heap.objs.size = some { cls := .type "tuple", data := .seq #[.int i tk, y] } := (sb.2 _ (Nat.ne_of_gt le)).trans gT
    have nob : ObjOk X.prog X.w (upd H s.heap.objs.size (.tup [.int (i : Nat), x])) g2 s.heap.objs.size (.tup [.int (i : Nat), x]) :=
      ⟨(by decide : 2 ≤ sizeLine), [.int i tk, y], .cons ⟨_, rfl⟩ (.cons ru .nil), ⟨_, gT2, rfl, _, rfl⟩⟩
    have inv2 : Inv X pins σ (upd H s.heap.objs.size (.tup [.int (i : Nat), x])) { s with heap := g2, toks := tk + 1 } :=
      inv.turnedNew (t' := tk + 1) (ch := [e, it]) (fun b ob nb q => (sb.2 b fun z => nb (by simp [z])).trans (gk b ob (fun z => nb (by simp [z])) (fun z => nb (by simp [z])) q)) free (Nat.le_refl _) nob
    refine ⟨.ref s.heap.objs.size, _, inv2, rfl, ⟨_, x, rfl, inv.hok.fresh (Nat.le_refl _), rfl, fun ys sy => by rw [inv.tuple_inj sy sq]; exact hx⟩, ⟨⟨y, ?_⟩, ?_, ne⟩, fun b hb => ?_⟩
    · rw [show ((i + 1 : Nat) : Int) = (i : Int) + 1 by omega]
      exact en2
    · obtain ⟨o, ho, r⟩ := st2.1
      exact ⟨o, (sb.2 it (Ne.symm ne)).trans ho, r⟩
    · have bl : b < s.heap.objs.size := by
        rcases (show b = e ∨ b = it by simpa using hb) with z | z
        · rw [z]; exact le
        · rw [z]; exact li
      rw [upd_ne (Nat.ne_of_lt bl)]
      exact (free b hb).1
  done := by
    intro X eP ew eK calm i pins s σ H EX inv free st stp
    subst eP ew eK
    obtain ⟨⟨old, en⟩, hit, ne⟩ := st
    obtain ⟨xs, sq, hx⟩ := stp
    obtain ⟨its, vals, pt, _⟩ := inv.tuple sq
    have pt' : s.heap.IsTuple a its.toArray := pt
    obtain ⟨f0, f1, f2, f3, f4, f5⟩ := free it (by simp)
    have lv := vals.length
    have hn : its.toArray[i]? = none := by
      rw [Array.getElem?_eq_none]
      simp
      omega
    have dr : Draws X.prog X.w X.A.in1 it [it, a] i (fun _ _ => True) (fun j h => j = i ∧ h.IsTupleIter it a i ∧ h.IsTuple a its.toArray) :=
      ⟨fun _ _ z => z.2.1.elim fun o y => ⟨o, y.1⟩, fun _ _ _ z hk => ⟨z.1, z.2.1.elim fun o y => ⟨o, hk it (by simp) o y.1, y.2⟩, z.2.2.elim fun o y => ⟨o, hk a (by simp) o y.1, y.2⟩⟩, fun j s1 Q E1 lt z => absurd lt (by rw [z.1]; exact Nat.lt_irrefl i),
        fun s1 Q E1 z q => RZ.nextOf_tuple_end (show X.A.in1.handled = none from inv.ok.hd calm) z.2.1 z.2.2 hn q⟩
    exact wpAny_pyNext_enum_endD dr en ⟨rfl, hit, pt'⟩ fun g eb => ⟨rfl, inv.turned (t' := s.toks) (fun b o nb q => eb b o nb q) f0 f1 f3 f4 f5⟩
  self := fun A i s Q EX st q => st.1.elim fun _ en => wpAny_pyIter_enum en q
/-- enumerate of a list or of a tuple -/
def iEnumX (K : PySem.W.Frag) (ta : TA) : TI := fun σ H R => ta σ H fun vs H1 => ∃ a xs, vs = [.ref a] ∧ ((SqL K H1 a xs ∧ R (Ite K a) H1) ∨ (SqT K H1 a xs ∧ R (IteT K a) H1))
theorem pi_enumX {X : Cx} {e : Expr} {ta : TA} {p pos tpos : Pos} {elts : List Expr} {kk : Nat} (hg : Gl X "enumerate") (hm : X.mg "enumerate" = none) (ha : PA X [e] ta) (hs : starEach [e] X.env = [(false, eval e X.env)] := by rfl) :
    PI X (.Tuple elts kk tpos) (.Call (.Name "enumerate" p) [e] [] pos) (iEnumX X.K ta) := by
  refine ⟨fun pins s σ H R inv h => ?_⟩
  refine Call_ (ld_blt inv hg hm boot_enumerate (PyProof.Rows.callWith_type1 (thn (ha.run pos pins s σ H _ inv h) fun us s1 ⟨vs, H1, inv1, r1, q1⟩ => ?_) hs rfl))
  obtain ⟨a, xs, ex, q1⟩ := q1
  subst ex
  cases r1 with
  | cons r rr =>
    cases rr
    cases r
    have fresh : ∀ b, b ∈ [s1.heap.objs.size + 1, s1.heap.objs.size] → FpOk X pins H1 b := fun b hb => by
      have le : s1.heap.objs.size ≤ b := by
        rcases (show b = s1.heap.objs.size + 1 ∨ b = s1.heap.objs.size by simpa using hb) with z | z
        · rw [z]; exact Nat.le_succ _
        · rw [z]; exact Nat.le_refl _
      exact inv1.fpOk le (inv1.hok.fresh le)
    rcases q1 with ⟨sq, q⟩ | ⟨sq, q⟩
    · obtain ⟨its, vals, pl, _⟩ := inv1.list sq
      refine call_enumerate_list pl.isList fun g en hit _ gk => wpAny_pyIter_enum en ?_
      have inv2 : Inv X pins σ H1 { s1 with heap := g } := inv1.kept (t' := s1.toks) gk
      exact ⟨s1.heap.objs.size + 1, [s1.heap.objs.size + 1, s1.heap.objs.size], _, _, H1, rfl, inv2, turn_enum a (s1.heap.objs.size + 1) s1.heap.objs.size, ⟨⟨.none, en⟩, hit, Nat.succ_ne_self _⟩, fresh, q⟩
    · obtain ⟨its, vals, pt, _⟩ := inv1.tuple sq
      have pt' : s1.heap.IsTuple a its.toArray := pt
      refine call_enumT pt' fun g en hit gk => wpAny_pyIter_enum en ?_
      have inv2 : Inv X pins σ H1 { s1 with heap := g } := inv1.kept (t' := s1.toks) gk
      exact ⟨s1.heap.objs.size + 1, [s1.heap.objs.size + 1, s1.heap.objs.size], _, _, H1, rfl, inv2, turn_enumT a (s1.heap.objs.size + 1) s1.heap.objs.size, ⟨⟨.none, en⟩, hit, Nat.succ_ne_self _⟩, fresh, q⟩
def enumD (xs : List D) : List D := zipD (rngD 0 xs.length) xs
theorem enumD_length (xs : List D) : (enumD xs).length = xs.length := by rw [enumD, zipD_length, rngD_length, Nat.min_self]
theorem enumD_get {xs : List D} {i : Nat} {d : D} (h : xs[i]? = some d) : (enumD xs)[i]? = some (.tuple [.int (i : Nat), d]) := by
  have hl := (List.getElem?_eq_some_iff.mp h).1
  unfold enumD zipD rngD
  rw [List.getElem?_zipWith, List.getElem?_map, List.getElem?_range hl, h]
  simp
theorem walk_enumL {c : VC} {Z H : Hp} {a : Addr} {xs : List V} {ds : List D} (hq : SqL c.K Z a xs) (r : RpL c Z xs ds) : Walk c (Ite c.K a) Z H [] (enumD ds) where
  go := fun i Z' H' hi s1 s2 _ => by
    rw [enumD_length] at hi
    have q : SqL c.K H' a xs := s2.seq (s1.seq hq)
    have hx : i < xs.length := by rw [r.length]; exact hi
    refine ⟨⟨xs, xs[i], q, by simp [hx]⟩, fun v Hx y => ?_⟩
    obtain ⟨T, x, rfl, hT, rfl, h1⟩ := y
    obtain ⟨d, hd, rd⟩ := r.get (h1 xs q)
    obtain ⟨k1, k2, k3, k4, k5⟩ := pair_new s2 hT (.int (i : Nat)) (rd.mono s1) rfl
    exact ⟨_, _, enumD_get hd, k1, k2, k3, k4, k5⟩
  stop := fun Z' H' s1 s2 _ => ⟨xs, s2.seq (s1.seq hq), by rw [enumD_length, r.length]; exact Nat.le_refl _⟩
theorem walk_enumT {c : VC} {Z H : Hp} {a : Addr} {xs : List V} {ds : List D} (hq : SqT c.K Z a xs) (r : RpL c Z xs ds) : Walk c (IteT c.K a) Z H [] (enumD ds) where
  go := fun i Z' H' hi s1 s2 _ => by
    rw [enumD_length] at hi
    have q : SqT c.K H' a xs := SqT.mono s2 (SqT.mono s1 hq)
    have hx : i < xs.length := by rw [r.length]; exact hi
    refine ⟨⟨xs, xs[i], q, by simp [hx]⟩, fun v Hx y => ?_⟩
    obtain ⟨T, x, rfl, hT, rfl, h1⟩ := y
    obtain ⟨d, hd, rd⟩ := r.get (h1 xs q)
    obtain ⟨k1, k2, k3, k4, k5⟩ := pair_new s2 hT (.int (i : Nat)) (rd.mono s1) rfl
    exact ⟨_, _, enumD_get hd, k1, k2, k3, k4, k5⟩
  stop := fun Z' H' s1 s2 _ => ⟨xs, SqT.mono s2 (SqT.mono s1 hq), by rw [enumD_length, r.length]; exact Nat.le_refl _⟩
def enumAt (o : Option (List OT)) (ρ : Ev) : Res Its' := match o with
  | some [.sh (.list x)] => .ok (enumD x, none) ρ
  | some [.sh (.tuple x)] => .ok (enumD x, none) ρ
  | _ => .bad
def fEnumerateI (f : Ev → Res (List PH)) : Ev → Res Its' := fun ρ => (f ρ).bind fun hs ρ1 => enumAt (gets hs ρ1) ρ1
@[simp] theorem fEnumerateI_ap (f : Ev → Res (List PH)) (ρ : Ev) : fEnumerateI f ρ = (f ρ).bind fun hs ρ1 => enumAt (gets hs ρ1) ρ1 := rfl
@[simp] theorem enumAt_l (x : List D) (ρ : Ev) : enumAt (some [.sh (.list x)]) ρ = .ok (enumD x, none) ρ := rfl
@[simp] theorem enumAt_t (x : List D) (ρ : Ev) : enumAt (some [.sh (.tuple x)]) ρ = .ok (enumD x, none) ρ := rfl
section
variable {X : Cx} {xa : Str → Option Addr} {E : XS} {pu : Bool} {a b : Expr} {pos p tpos : Pos} {elts : List Expr} {kk : Nat}
theorem vi_enumerate {f : Ev → Res (List PH)} (hg : Gl X "enumerate") (hm : X.mg "enumerate" = none) (h : VPs X xa E pu [a] f) (hs : starEach [a] X.env = [(false, eval a X.env)] := by rfl) :
    VI X xa E (.Tuple elts kk tpos) (.Call (.Name "enumerate" p) [a] [] pos) (fEnumerateI f) := (pi_enumX hg hm h hs).imp fun σ H R ⟨Z, ρ, F, ok, q⟩ => by
  refine ⟨Z, ρ, F, ok, ?_⟩
  unfold fEnumerateI at q
  cases r : f ρ with
  | bad => rw [r] at q; exact q
  | exc x ρ' => rw [r] at q; exact q
  | ok h ρ1 =>
    rw [r, Res.bind_ok] at q
    intro vs H1 Z1 F1 o1 w1 a1 _
    unfold enumAt at q
    split at q
    · rename_i x hd
      have w := gets_rds o1 w1 hd
      cases w with
      | cons u1 w =>
        cases w
        cases u1 with
        | sh u1 =>
          cases u1 with
          | @lst a1' xs _ hq l => exact ⟨_, xs, rfl, .inl ⟨o1.same.seq hq, q _ H1 Z1 F1 [] o1 (walk_enumL hq l) o1.nd (fun _ z => nomatch z) rfl a1⟩⟩
    · rename_i x hd
      have w := gets_rds o1 w1 hd
      cases w with
      | cons u1 w =>
        cases w
        cases u1 with
        | sh u1 =>
          cases u1 with
          | @tup a1' xs _ hq l _ => exact ⟨_, xs, rfl, .inr ⟨SqT.mono o1.same hq, q _ H1 Z1 F1 [] o1 (walk_enumT hq l) o1.nd (fun _ z => nomatch z) rfl a1⟩⟩
    all_goals exact q.elim
end
theorem lk_enumerate (f : Ev → Res (List PH)) : ∀ ρ (p : Its') ρ', fEnumerateI f ρ = .ok p ρ' → p.2 = none ∨ p.2 = none := fun ρ p ρ' h => by
  unfold fEnumerateI at h
  cases e : f ρ with
  | bad => rw [e] at h; cases h
  | exc x ρ1 => rw [e] at h; cases h
  | ok t ρ1 =>
    rw [e, Res.bind_ok] at h
    unfold enumAt at h
    split at h <;> first | (cases h; exact .inl rfl) | cases h
end VL
namespace VL
open PySem PySem.Spec PyProof.Rows L2
theorem mt_indexA {X : Cx} {A : Around} (hu : A.units + 65 < cLine) (e : X.A = A := by rfl) : MtR X "list.index" (rIndexD X.K) := mt_indexD (by rw [e]; exact hu)
end VL

end

section
set_option Elab.async false
set_option linter.all false
set_option maxRecDepth 100000
set_option maxHeartbeats 1000000
namespace VLT
open PySem PySem.SeqAt
open AutoSeq1 (wpAny_loadPart')
open MeetsSeq MeetsSeq2 MeetsSeq3 SeqRoads2
/-- t < u: only the first unequal pair is ever asked -/
theorem tup_lt1 (p q : Addr) (us vs : Array Value) (j1 j2 : Nat) (d1 d2 : Option Addr) (o1 o2 : Array (Option Value)) (eq lt : Nat → Bool) :
    Meets (Builtin.«tuple.__lt__» ⟨[.ref p, .ref q], []⟩)
      (fun A R s => s.heap.get? p = some { cls := .type "tuple", dict := d1, data := .seq us j1, slots := o1 } ∧ s.heap.get? q = some { cls := .type "tuple", dict := d2, data := .seq vs j2, slots := o2 } ∧
        (∀ k (a1 : k < us.size) (a2 : k < vs.size), EqAt A.in1 s us[k] vs[k] (eq k)) ∧ (∀ k (a1 : k < us.size) (a2 : k < vs.size), (∀ m, m < k → eq m = true) → eq k = false → RcLt A.in1 s us[k] vs[k] (lt k)) ∧
        R (.ok (.ret (.bool (firstLt eq lt (decide (us.size < vs.size)) (List.range (min us.size vs.size)))))) s) :=
  .of_wp fun prog w A R s hyp => by
    obtain ⟨hp, g, d, tk, os⟩ := s; obtain ⟨c1, c2, ce, cl, hyp⟩ := hyp
    have sub2 := AutoSeq1.sub_tuple_tuple
    have zl : (us.toList.zip vs.toList).length = min us.size vs.size := by simp
    wp_walk using wpAny_loadPart' c1, wpAny_loadPart' c2, wpAny_forIn_list _ (fun left acc s' => acc.1 = none ∧ s' = ⟨hp, g, d, tk, os⟩ ∧ ∃ i, left = (us.toList.zip vs.toList).drop i ∧ (∀ m, m < i → m < min us.size vs.size → eq m = true) ∧
      R (.ok (.ret (.bool (firstLt eq lt (decide (us.size < vs.size)) ((List.range (min us.size vs.size)).drop i))))) ⟨hp, g, d, tk, os⟩) _
    case turn =>
      rintro ⟨y, x⟩ left acc s' ⟨ha, rfl, i, hz, bef, hR⟩
      have il : i < (us.toList.zip vs.toList).length := by
        rcases Nat.lt_or_ge i (us.toList.zip vs.toList).length with z | z
        · exact z
        · rw [List.drop_of_length_le z] at hz; cases hz
      have im : i < min us.size vs.size := zl ▸ il
      have i1 : i < us.size := by omega
      have i2 : i < vs.size := by omega
      rw [List.drop_eq_getElem_cons il] at hz
      injection hz with hyx hleft
      have ey : y = us[i] := by have := congrArg Prod.fst hyx; simpa using this
      have ex : x = vs[i] := by have := congrArg Prod.snd hyx; simpa using this
      subst ey ex
      have dr : (List.range (min us.size vs.size)).drop i = i :: (List.range (min us.size vs.size)).drop (i + 1) := by simp [List.drop_eq_getElem_cons, im]
      rw [dr] at hR
      refine wpAny_bind (ce i i1 i2 prog w _ _ ?_)
      cases he : eq i with
      | true =>
        rw [firstLt_yes he] at hR
        wp_walk
        exact ⟨rfl, rfl, i + 1, hleft, fun m hm hm2 => by
          rcases Nat.lt_succ_iff_lt_or_eq.mp hm with z | z
          · exact bef m z hm2
          · rw [z]; exact he, hR⟩
      | false =>
        rw [firstLt_no he] at hR
        have ask := cl i i1 i2 (fun m hm => bef m hm (by omega)) he prog w
        wp_walk using ask
        exact ⟨_, rfl, by simpa using hR⟩
    case fin =>
      rintro ⟨b1, b2⟩ s' ⟨ha, rfl, i, hz, _, hR⟩
      simp only at ha
      subst ha
      have ge : min us.size vs.size ≤ i := by
        rcases Nat.lt_or_ge i (us.toList.zip vs.toList).length with z | z
        · rw [List.drop_eq_getElem_cons z] at hz; cases hz
        · exact zl ▸ z
      rw [List.drop_of_length_le (by simpa using ge)] at hR
      wp_walk
      exact ⟨_, rfl, by simpa [Builtin.Tuple.tupleCompareSizes, firstLt] using hR⟩
    case h =>
      exact ⟨rfl, rfl, 0, rfl, fun m hm => absurd hm (Nat.not_lt_zero m), by simpa using hyp⟩
theorem rcl_tup {A : Around} {s : Shared} {p q : Addr} {us vs : Array Value} {eq lt : Nat → Bool} (c1 : s.heap.IsTuple p us) (c2 : s.heap.IsTuple q vs) (hu : A.units < cLine)
    (ce : ∀ k (a1 : k < us.size) (a2 : k < vs.size), EqAt A.in1 s us[k] vs[k] (eq k)) (cl : ∀ k (a1 : k < us.size) (a2 : k < vs.size), (∀ m, m < k → eq m = true) → eq k = false → RcLt A.in1 s us[k] vs[k] (lt k)) :
    RcLt A s (.ref p) (.ref q) (firstLt eq lt (decide (us.size < vs.size)) (List.range (min us.size vs.size))) := fun prog w E Q hq => by
  obtain ⟨⟨y1, e1, t1, l1⟩, w1, w2, m1, w3⟩ := id c1
  obtain ⟨⟨y2, e2, t2, l2⟩, v1, v2, m2, v3⟩ := id c2
  simp only at w2 w3 v2 v3
  subst w2 w3 v2 v3
  exact richCompare_meets_room (op := .Lt) ⟨_, w1, rfl⟩ ⟨_, v1, rfl⟩ F.slot_tuple_lt F.entry_tuple_lt (F.args_tuple_lt_2 _ _) (tup_lt1 p q us vs m1 m2 e1 e2 l1 l2 eq lt)
    ⟨w1, v1, ce, cl, show Value.bool (firstLt eq lt _ (List.range _)) ≠ Value.notImplemented ∧ Q (.bool (firstLt eq lt _ (List.range _))) s from ⟨(fun x => nomatch x), hq⟩⟩ hu
end VLT

end

section
set_option Elab.async false
set_option linter.all false
set_option maxRecDepth 100000
set_option maxHeartbeats 1000000
namespace VL
open PySem PySem.Spec PyProof.Rows L2
/-! ### data that < may compare -/
mutual
def cmpb : D → D → Bool
  | .bool _, .bool _ => true
  | .int _, .int _ => true
  | .str _, .str _ => true
  | .tuple a, .tuple b => cmpbs a b
  | _, _ => false
def cmpbs : List D → List D → Bool
  | x :: a, y :: b => cmpb x y && (!PyData.eqv x y || cmpbs a b)
  | _, _ => true
end
theorem cmpbs_cons {x y : D} {a b : List D} (h : cmpbs (x :: a) (y :: b) = true) : cmpb x y = true ∧ (PyData.eqv x y = true → cmpbs a b = true) := by
  rw [cmpbs, Bool.and_eq_true] at h
  refine ⟨h.1, fun e => ?_⟩
  have := h.2
  rw [e] at this
  exact this
abbrev tkA := PySem.W.keyToks
abbrev tkL := PySem.W.keyToksAll
abbrev lxt := PyProof.Rows.lexLt itemOrd
mutual
theorem tok_eqv : ∀ (x y : D), cmpb x y = true → (PyData.eqv x y = true → tkA x = tkA y) ∧ (PyData.eqv x y = false → ∀ l m, lxt (tkA x ++ l) (tkA y ++ m) = lxt (tkA x) (tkA y))
  | .bool a, .bool b, _ => by
    have al : PySem.W.alike (.bool a) (.bool b) = true := by simp [PySem.W.alike]
    exact PySem.W.toks_eqv _ _ al
  | .int a, .int b, _ => by
    have al : PySem.W.alike (.int a) (.int b) = true := by simp [PySem.W.alike]
    exact PySem.W.toks_eqv _ _ al
  | .str a, .str b, _ => by
    have al : PySem.W.alike (.str a) (.str b) = true := by simp [PySem.W.alike]
    exact PySem.W.toks_eqv _ _ al
  | .tuple a, .tuple b, h => by
    have t := toks_eqv' a b (by simpa [cmpb] using h)
    simp only [tkA, PySem.W.keyToks, PyData.eqv]
    exact t
  | .none, y, h => by cases y <;> simp [cmpb] at h
  | .list _, y, h => by cases y <;> simp [cmpb] at h
  | .dict _, y, h => by cases y <;> simp [cmpb] at h
  | .bool _, .none, h => by simp [cmpb] at h
  | .bool _, .int _, h => by simp [cmpb] at h
  | .bool _, .str _, h => by simp [cmpb] at h
  | .bool _, .list _, h => by simp [cmpb] at h
  | .bool _, .tuple _, h => by simp [cmpb] at h
  | .bool _, .dict _, h => by simp [cmpb] at h
  | .int _, .none, h => by simp [cmpb] at h
  | .int _, .bool _, h => by simp [cmpb] at h
  | .int _, .str _, h => by simp [cmpb] at h
  | .int _, .list _, h => by simp [cmpb] at h
  | .int _, .tuple _, h => by simp [cmpb] at h
  | .int _, .dict _, h => by simp [cmpb] at h
  | .str _, .none, h => by simp [cmpb] at h
  | .str _, .bool _, h => by simp [cmpb] at h
  | .str _, .int _, h => by simp [cmpb] at h
  | .str _, .list _, h => by simp [cmpb] at h
  | .str _, .tuple _, h => by simp [cmpb] at h
  | .str _, .dict _, h => by simp [cmpb] at h
  | .tuple _, .none, h => by simp [cmpb] at h
  | .tuple _, .bool _, h => by simp [cmpb] at h
  | .tuple _, .int _, h => by simp [cmpb] at h
  | .tuple _, .str _, h => by simp [cmpb] at h
  | .tuple _, .list _, h => by simp [cmpb] at h
  | .tuple _, .dict _, h => by simp [cmpb] at h
theorem toks_eqv' : ∀ (a b : List D), cmpbs a b = true → (PyData.eqvAll a b = true → tkL a = tkL b) ∧ (PyData.eqvAll a b = false → ∀ l m, lxt (tkL a ++ l) (tkL b ++ m) = lxt (tkL a) (tkL b))
  | [], [], _ => ⟨fun _ => rfl, fun e => absurd e (by simp [PyData.eqvAll])⟩
  | [], y :: b, _ => ⟨fun e => absurd e (by simp [PyData.eqvAll]), fun _ l m => by
      simp only [tkL, PySem.W.keyToksAll, List.cons_append, List.nil_append]
      exact (PySem.W.lex_atom (by simp) _ _).trans (PySem.W.lex_atom (by simp) _ _).symm⟩
  | x :: a, [], _ => ⟨fun e => absurd e (by simp [PyData.eqvAll]), fun _ l m => by
      simp only [tkL, PySem.W.keyToksAll, List.cons_append, List.nil_append]
      exact (PySem.W.lex_atom (by simp) _ _).trans (PySem.W.lex_atom (by simp) _ _).symm⟩
  | x :: a, y :: b, h => by
    obtain ⟨h1, h2⟩ := cmpbs_cons h
    obtain ⟨p1, p2⟩ := tok_eqv x y h1
    rw [PySem.W.eqv_all_cons]
    simp only [tkL]
    rw [PySem.W.toks_all_cons, PySem.W.toks_all_cons]
    cases e1 : PyData.eqv x y with
    | true =>
      obtain ⟨q1, q2⟩ := toks_eqv' a b (h2 e1)
      have p3 : PySem.W.keyToks x = PySem.W.keyToks y := p1 e1
      rw [p3, Bool.true_and]
      refine ⟨fun e => ?_, fun e l m => ?_⟩
      · have q3 : PySem.W.keyToksAll a = PySem.W.keyToksAll b := q1 e
        rw [q3]
      · have z := q2 e l m
        simp only [lxt, List.cons_append, List.append_assoc] at z ⊢
        rw [lex_self (O := itemOrd), lex_self (O := itemOrd), PySem.W.lex_pre, PySem.W.lex_pre]
        exact z
    | false =>
      rw [Bool.false_and]
      refine ⟨fun e => absurd e Bool.false_ne_true, fun _ l m => ?_⟩
      have z := p2 e1
      simp only [lxt, List.cons_append, List.append_assoc] at z ⊢
      rw [lex_self (O := itemOrd), lex_self (O := itemOrd), z, z]
end
abbrev dlt := PySem.W.dataLt
theorem dlt_yes {x y : D} {a b : List D} (h : cmpb x y = true) (e : PyData.eqv x y = true) : lxt (tkL (x :: a)) (tkL (y :: b)) = lxt (tkL a) (tkL b) := by
  have p := (tok_eqv x y h).1 e
  simp only [tkA, tkL, lxt] at p ⊢
  rw [PySem.W.toks_all_cons, PySem.W.toks_all_cons, p, lex_self (O := itemOrd), PySem.W.lex_pre]
theorem dlt_no {x y : D} {a b : List D} (h : cmpb x y = true) (e : PyData.eqv x y = false) : lxt (tkL (x :: a)) (tkL (y :: b)) = dlt x y := by
  have p := (tok_eqv x y h).2 e
  simp only [tkA, tkL, lxt] at p ⊢
  rw [PySem.W.toks_all_cons, PySem.W.toks_all_cons, lex_self (O := itemOrd), p]
  rfl
/-- where the first that differ decide -/
theorem first_lxt : ∀ (a b : List D), cmpbs a b = true → SeqAt.firstLt (SeqAt.pairEq a b) (fun j => dlt (a.getD j .none) (b.getD j .none)) (decide (a.length < b.length)) (List.range (min a.length b.length)) = lxt (tkL a) (tkL b)
  | [], [], _ => by simp [SeqAt.firstLt, lxt, lex_irrefl]
  | [], y :: b, _ => by
    simp only [lxt, tkL]
    rw [PySem.W.toks_all_cons]
    simp only [PySem.W.keyToksAll]
    rw [lex_diff (O := itemOrd) (by simp)]
    simp [SeqAt.firstLt, itemLt]
  | x :: a, [], _ => by
    simp only [lxt, tkL]
    rw [PySem.W.toks_all_cons]
    simp only [PySem.W.keyToksAll]
    rw [lex_diff (O := itemOrd) (by simp)]
    simp [SeqAt.firstLt, itemLt]
  | x :: a, y :: b, h => by
    obtain ⟨h1, h2⟩ := cmpbs_cons h
    have em : min (x :: a).length (y :: b).length = min a.length b.length + 1 := by
      simp only [List.length_cons]; omega
    have ed : decide ((x :: a).length < (y :: b).length) = decide (a.length < b.length) := by
      simp only [List.length_cons]
      exact decide_eq_decide.mpr (by omega)
    rw [em, ed, List.range_succ_eq_map]
    cases hx : PyData.eqv x y with
    | true =>
      rw [SeqAt.firstLt_yes (show SeqAt.pairEq (x :: a) (y :: b) 0 = true from hx), PySem.W.firstLt_map, dlt_yes h1 hx, ← first_lxt a b (h2 hx)]
      rfl
    | false =>
      rw [SeqAt.firstLt_no (show SeqAt.pairEq (x :: a) (y :: b) 0 = false from hx), dlt_no h1 hx]
      rfl
theorem depth_mem {a : List D} {x : D} (h : x ∈ a) : x.depth ≤ PyData.depthAll a := by
  induction a with
  | nil => cases h
  | cons y a ih =>
    simp only [PyData.depthAll]
    rcases List.mem_cons.mp h with e | e
    · subst e; omega
    · have := ih e; omega
theorem units_min {A : Around} {m n : Nat} (h : A.units + m < cLine) : A.units + min m n < cLine := Nat.lt_of_le_of_lt (Nat.add_le_add_left (Nat.min_le_left _ _) _) h
mutual
theorem rc_cmp : ∀ (da db : D) (A : Around) (s : Shared) (u v : Value) (as bs : List Addr), Reads s.heap u da as → Reads s.heap v db bs → cmpb da db = true → da.canLay0 = true → db.canLay0 = true → A.units + da.depth < cLine → SeqAt.RcLt A s u v (dlt da db)
  | .bool x, db, A, s, u, v, as, bs, ra, rb, h, _, _, hu => by
    cases db with
    | bool y => exact PySem.W.rcLt_alike _ _ A s u v as bs ra rb (by simp [PySem.W.alike]) (by simp) (units_min hu)
    | _ => simp [cmpb] at h
  | .int x, db, A, s, u, v, as, bs, ra, rb, h, _, _, hu => by
    cases db with
    | int y => exact PySem.W.rcLt_alike _ _ A s u v as bs ra rb (by simp [PySem.W.alike]) (by simp) (units_min hu)
    | _ => simp [cmpb] at h
  | .str x, db, A, s, u, v, as, bs, ra, rb, h, _, _, hu => by
    cases db with
    | str y => exact PySem.W.rcLt_alike _ _ A s u v as bs ra rb (by simp [PySem.W.alike]) (by simp) (units_min hu)
    | _ => simp [cmpb] at h
  | .none, db, _, _, _, _, _, _, _, _, h, _, _, _ => by cases db <;> simp [cmpb] at h
  | .list _, db, _, _, _, _, _, _, _, _, h, _, _, _ => by cases db <;> simp [cmpb] at h
  | .dict _, db, _, _, _, _, _, _, _, _, h, _, _, _ => by cases db <;> simp [cmpb] at h
  | .tuple a, db, A, s, u, v, as, bs, ra, rb, h, l1, l2, hu => by
    cases db with
    | tuple b =>
      have hc : cmpbs a b = true := by simpa [cmpb] using h
      have k1 : PyData.canLayAll0 a = true := by simpa [PyData.canLay0] using l1
      have k2 : PyData.canLayAll0 b = true := by simpa [PyData.canLay0] using l2
      cases ra with
      | @tuple l o us n _ as₁ g1 g2 g3 g4 =>
        cases rb with
        | @tuple l' o' vs n' _ bs₁ f1 f2 f3 f4 =>
          have n1 : us.size = a.length := by simpa using SeqAt.ReadsAll.length _ _ _ g4
          have n2 : vs.size = b.length := by simpa using SeqAt.ReadsAll.length _ _ _ f4
          have ex : PySem.W.dataLt (.tuple a) (.tuple b) = lxt (tkL a) (tkL b) := PySem.W.dataLt_tuple a b
          show SeqAt.RcLt A s _ _ (PySem.W.dataLt (.tuple a) (.tuple b))
          rw [ex, ← first_lxt a b hc, ← n1, ← n2]
          have hd : (PyData.tuple a).depth = PyData.depthAll a + 1 := by simp [PyData.depth]
          have hu1 : A.in1.units + PyData.depthAll a < cLine := by show A.units + 1 + _ < _; omega
          refine VLT.rcl_tup ⟨_, g1, g2, _, g3⟩ ⟨_, f1, f2, _, f3⟩ (by omega) (fun j j1 j2 => ?_) fun j j1 j2 hb hj => ?_
          · have := SeqAt.eqAt_readsAll a b A.in1 s us.toList vs.toList _ _ g4 f4 k1 k2 (units_min hu1) j (by simpa using j1) (by simpa using j2)
            simpa using this
          · have := rc_cmps a b A.in1 s us.toList vs.toList _ _ g4 f4 hc k1 k2 hu1 j (by simpa using j1) (by simpa using j2) hb hj
            simpa using this
    | _ => simp [cmpb] at h
theorem rc_cmps : ∀ (a b : List D) (A : Around) (s : Shared) (us vs : List Value) (as bs : List Addr), ReadsAll s.heap us a as → ReadsAll s.heap vs b bs → cmpbs a b = true → PyData.canLayAll0 a = true → PyData.canLayAll0 b = true → A.units + PyData.depthAll a < cLine →
    ∀ j (j1 : j < us.length) (j2 : j < vs.length), (∀ m, m < j → SeqAt.pairEq a b m = true) → SeqAt.pairEq a b j = false → SeqAt.RcLt A s us[j] vs[j] (dlt (a.getD j .none) (b.getD j .none))
  | [], _, _, _, _, _, _, _, ra, _, _, _, _, _, j, j1, _, _, _ => by cases ra; exact absurd j1 (Nat.not_lt_zero _)
  | _ :: _, [], _, _, _, _, _, _, _, rb, _, _, _, _, j, _, j2, _, _ => by cases rb; exact absurd j2 (Nat.not_lt_zero _)
  | x :: a, y :: b, A, s, _, _, _, _, ra, rb, h, l1, l2, hu, j, j1, j2, hb, hj => by
    obtain ⟨h1, h2⟩ := cmpbs_cons h
    rw [PyData.canLayAll0, Bool.and_eq_true] at l1 l2
    have d1 : x.depth ≤ PyData.depthAll (x :: a) := depth_mem (List.mem_cons_self ..)
    have d2 : PyData.depthAll a ≤ PyData.depthAll (x :: a) := by simp only [PyData.depthAll]; omega
    cases ra with
    | cons r rs =>
      cases rb with
      | cons r' rs' =>
        cases j with
        | zero => exact rc_cmp x y A s _ _ _ _ r r' h1 l1.1 l2.1 (by omega)
        | succ j => exact rc_cmps a b A s _ _ _ _ rs rs' (h2 (hb 0 (Nat.succ_pos _))) l1.2 l2.2 (by omega) j (Nat.lt_of_succ_lt_succ j1) (Nat.lt_of_succ_lt_succ j2) (fun m hm => hb (m + 1) (Nat.succ_lt_succ hm)) hj
end
/-! ### the keys of a sort -/
def scalT : D → Nat
  | .int _ => 1
  | .bool _ => 2
  | .str _ => 3
  | _ => 0
def scalV : Nat → Value
  | 1 => .type "int"
  | 2 => .type "bool"
  | _ => .type "str"
theorem scal_looks {M : Model} {h : Heap} {v : Value} {d : D} {as : List Addr} (r : Reads h v d as) (n : scalT d ≠ 0) : PySem.W.Looks M h (typeOf v) (scalV (scalT d)) := by
  cases d <;> first | exact absurd rfl n | exact PySem.W.looks_reads r
theorem scal_alike {d e : D} (n : scalT d ≠ 0) (h : scalT d = scalT e) : PySem.W.alike d e = true ∧ d ≠ .none ∧ ∀ xs, d ≠ .tuple xs := by
  cases d <;> first | exact absurd rfl n | skip
  all_goals (cases e <;> first | (simp [scalT] at h; done) | (refine ⟨by simp [PySem.W.alike], by simp, fun _ z => nomatch z⟩))
structure KeysOk (ks : List D) : Prop where
  lay : ∀ d ∈ ks, d.canLay0 = true ∧ d.depth ≤ 60
  cmp : ∀ d ∈ ks, ∀ e ∈ ks, cmpb d e = true
  knd : (∃ T, T ≠ 0 ∧ ∀ d ∈ ks, ∃ x r, d = .tuple (x :: r) ∧ scalT x = T) ∨ (∃ T, T ≠ 0 ∧ ∀ d ∈ ks, scalT d = T) ∨ ((∀ d ∈ ks, ∃ xs, d = .tuple xs) ∧ .tuple [] ∈ ks)
section
variable {prog : Program} {w : World} {A : Around} {E : Value → Shared → Prop} {s : Shared}
theorem one_cmp {f : Bool} {da db : D} {u v : Value} {as bs : List Addr} {Q : Bool → Shared → Prop} (hf : f = true → scalT da ≠ 0 ∧ scalT da = scalT db) (ra : Reads s.heap u da as) (rb : Reads s.heap v db bs) (h : cmpb da db = true) (l1 : da.canLay0 = true) (l2 : db.canLay0 = true)
    (hu : A.units + da.depth < cLine) (hq : Q (dlt da db) s) : wpAny (model prog w) A (oneLt' f u v) Q E s := by
  cases f with
  | true =>
    obtain ⟨n, e⟩ := hf rfl
    obtain ⟨k1, k2, k3⟩ := scal_alike n e
    exact PySem.W.oneLt_alike (fun _ => k3) ra rb k1 k2 (units_min hu) hq
  | false =>
    rw [oneLt'_eq]
    simp only [Bool.false_eq_true, if_false]
    exact wpAny_bind (rc_cmp da db A s u v as bs ra rb h l1 l2 hu prog w E _ (wpAny_truthy_bool hq))
theorem kat_cmp {b fin : Bool} {Q : Bool → Shared → Prop} : ∀ (xs ys : List D) (i : Nat) (us vs : List Value) (as bs : List Addr), ReadsAll s.heap us xs as → ReadsAll s.heap vs ys bs → cmpbs xs ys = true → PyData.canLayAll0 xs = true → PyData.canLayAll0 ys = true →
    A.units + PyData.depthAll xs < cLine → (b = true → i = 0 → ∀ x r y t, xs = x :: r → ys = y :: t → scalT x ≠ 0 ∧ scalT x = scalT y) → fin = decide (xs.length < ys.length) → Q (lxt (tkL xs) (tkL ys)) s → PySem.W.KatLex prog w A b fin Q (us.zip vs) i s
  | [], [], i, _, _, _, _, ra, rb, _, _, _, _, _, hf, hq => by
    cases ra
    cases rb
    have e : fin = false := by rw [hf]; rfl
    subst e
    have e2 : lxt (tkL []) (tkL []) = false := lex_irrefl _
    rw [e2] at hq
    exact PySem.W.kat_nil hq
  | [], y :: ys, i, us, vs, as, bs, ra, rb, _, _, _, hu, hb, hf, hq => PySem.W.katLex_alike [] (y :: ys) i us vs as bs ra rb (by simp [PySem.W.alikeAll]) (units_min hu) (fun _ _ x r t e => nomatch e) hf hq
  | x :: xs, [], i, us, vs, as, bs, ra, rb, _, _, _, hu, hb, hf, hq => by
    cases rb
    cases ra with
    | cons r rs =>
      have e : fin = false := by rw [hf]; exact decide_eq_false (Nat.not_lt_zero _)
      subst e
      have e2 : lxt (tkL (x :: xs)) (tkL []) = false := by
        simp only [lxt, tkL]
        rw [PySem.W.toks_all_cons]
        simp only [PySem.W.keyToksAll]
        rw [lex_diff (O := itemOrd) (by simp)]
        simp [itemLt]
      rw [e2] at hq
      rw [List.zip_nil_right]
      exact PySem.W.kat_nil hq
  | x :: xs, y :: ys, i, _, _, _, _, ra, rb, h, l1, l2, hu, hb, hf, hq => by
    obtain ⟨h1, h2⟩ := cmpbs_cons h
    rw [PyData.canLayAll0, Bool.and_eq_true] at l1 l2
    have hf' : fin = decide (xs.length < ys.length) := by
      rw [hf]
      simp only [List.length_cons, Nat.add_lt_add_iff_right]
    have d1 : x.depth ≤ PyData.depthAll (x :: xs) := depth_mem (List.mem_cons_self ..)
    have d2 : PyData.depthAll xs ≤ PyData.depthAll (x :: xs) := by simp only [PyData.depthAll]; omega
    cases ra with
    | cons r rs =>
      cases rb with
      | cons r' rs' =>
        rw [List.zip_cons_cons]
        refine PySem.W.kat_cons (SeqAt.eqAt_reads x y A s _ _ _ _ r r' l1.1 l2.1 (units_min (by omega)) prog w _ _ ?_)
        cases hx : PyData.eqv x y with
        | true =>
          rw [dlt_yes h1 hx] at hq
          exact PySem.W.kat_yes (kat_cmp xs ys (i + 1) _ _ _ _ rs rs' (h2 hx) l1.2 l2.2 (by omega) (fun _ hi => absurd hi (Nat.succ_ne_zero i)) hf' hq)
        | false =>
          rw [dlt_no h1 hx] at hq
          refine PySem.W.kat_no (one_cmp (fun hbi => ?_) r r' h1 l1.1 l2.1 (by omega) hq)
          rw [Bool.and_eq_true] at hbi
          exact hb hbi.1 (by simpa using hbi.2) x xs y ys rfl rfl
theorem kd_some {h : Heap} {ds : List D} (hal : ∀ d ∈ ds, d.canLay0 = true) {v : Value} {d : D} {as : List Addr} (hd : d ∈ ds) (r : Reads h v d as) : (PySem.W.dataKind h ds).keyOf v = some (tkA d) := by
  cases e : (PySem.W.dataKind h ds).keyOf v with
  | some k =>
    obtain ⟨d', as', h1, h2, h3⟩ := PySem.W.dataKind_inv e
    have z := SeqAt.Reads.unique d d' v as as' (hal d hd) r h2
    subst z
    rw [h3]
    rfl
  | none =>
    exfalso
    have q : ∃ d, d ∈ ds ∧ ∃ as, Reads h v d as := ⟨d, hd, as, r⟩
    have z : (PySem.W.dataKind h ds).keyOf v = some (PySem.W.keyToks q.choose) := by
      unfold PySem.W.dataKind
      exact dif_pos q
    rw [e] at z
    cases z
/-! tuples, one of them empty -/
theorem tlt1 {p q : Addr} {us vs : Array Value} {eq lt : Nat → Bool} {Q : Bool → Shared → Prop} (c1 : s.heap.IsTuple p us) (c2 : s.heap.IsTuple q vs) (hu : A.units < cLine)
    (ce : ∀ k (a1 : k < us.size) (a2 : k < vs.size), SeqAt.EqAt A.in1 s us[k] vs[k] (eq k)) (cl : ∀ k (a1 : k < us.size) (a2 : k < vs.size), (∀ m, m < k → eq m = true) → eq k = false → SeqAt.RcLt A.in1 s us[k] vs[k] (lt k))
    (hq : Q (SeqAt.firstLt eq lt (decide (us.size < vs.size)) (List.range (min us.size vs.size))) s) : wpAny (model prog w) A (oneLt' true (.ref p) (.ref q)) Q E s := by
  obtain ⟨⟨y1, e1, t1, l1⟩, w1, w2, m1, w3⟩ := id c1
  obtain ⟨⟨y2, e2, t2, l2⟩, v1, v2, m2, v3⟩ := id c2
  simp only at w2 w3 v2 v3
  subst w2 w3 v2 v3
  rw [oneLt'_eq]
  simp only [if_true]
  refine wpAny_bind (wpAny_cRoomFor hu ?_)
  refine wpAny_bind (wpAny_callSpecialIfBound?_slot (T := "tuple") ⟨_, w1, rfl⟩ F.slot_tuple_lt (call_meets F.slot_tuple_lt ⟨_, w1, rfl⟩ F.entry_tuple_lt (F.args_tuple_lt_2 _ _) (VLT.tup_lt1 p q us vs m1 m2 e1 e2 l1 l2 eq lt) ⟨w1, v1, ce, cl, ?_⟩))
  exact wpAny_truthy_bool hq
theorem one_tup {a b : List D} {u v : Value} {as bs : List Addr} {Q : Bool → Shared → Prop} (ra : Reads s.heap u (.tuple a) as) (rb : Reads s.heap v (.tuple b) bs) (h : cmpb (.tuple a) (.tuple b) = true) (l1 : (PyData.tuple a).canLay0 = true) (l2 : (PyData.tuple b).canLay0 = true)
    (hu : A.units + (PyData.tuple a).depth < cLine) (hq : Q (dlt (.tuple a) (.tuple b)) s) : wpAny (model prog w) A (oneLt' true u v) Q E s := by
  have hc : cmpbs a b = true := by simpa [cmpb] using h
  have k1 : PyData.canLayAll0 a = true := by simpa [PyData.canLay0] using l1
  have k2 : PyData.canLayAll0 b = true := by simpa [PyData.canLay0] using l2
  cases ra with
  | @tuple l o us n _ as₁ g1 g2 g3 g4 =>
    cases rb with
    | @tuple l' o' vs n' _ bs₁ f1 f2 f3 f4 =>
      have n1 : us.size = a.length := by simpa using SeqAt.ReadsAll.length _ _ _ g4
      have n2 : vs.size = b.length := by simpa using SeqAt.ReadsAll.length _ _ _ f4
      have ex : PySem.W.dataLt (.tuple a) (.tuple b) = lxt (tkL a) (tkL b) := PySem.W.dataLt_tuple a b
      rw [show dlt (.tuple a) (.tuple b) = lxt (tkL a) (tkL b) from ex, ← first_lxt a b hc, ← n1, ← n2] at hq
      have hd : (PyData.tuple a).depth = PyData.depthAll a + 1 := by simp [PyData.depth]
      have hu1 : A.in1.units + PyData.depthAll a < cLine := by show A.units + 1 + _ < _; omega
      refine tlt1 ⟨_, g1, g2, _, g3⟩ ⟨_, f1, f2, _, f3⟩ (by omega) (fun j j1 j2 => ?_) (fun j j1 j2 hb hj => ?_) hq
      · have := SeqAt.eqAt_readsAll a b A.in1 s us.toList vs.toList _ _ g4 f4 k1 k2 (units_min hu1) j (by simpa using j1) (by simpa using j2)
        simpa using this
      · have := rc_cmps a b A.in1 s us.toList vs.toList _ _ g4 f4 hc k1 k2 hu1 j (by simpa using j1) (by simpa using j2) hb hj
        simpa using this
/-- the first item of a tuple of the heap -/
def fstH (h : Heap) : Value → Option Value
  | .ref a => match h.get? a with
    | some o => match o.data with
      | .seq xs _ => xs[0]?
      | _ => none
    | none => none
  | _ => none
theorem firsts_all : ∀ (vs : List Value) {Q : List (Option Value) → Shared → Prop}, (∀ v ∈ vs, ∃ a o xs n, v = .ref a ∧ s.heap.get? a = some o ∧ o.cls = .type "tuple" ∧ o.data = .seq xs n) → Q (vs.map (fstH s.heap)) s → wpAny (model prog w) A (vs.mapM firstOfTuple') Q E s
  | [], _, _, h => by rw [List.mapM_nil]; exact wpAny_pure h
  | v :: vs, Q, t, h => by
    obtain ⟨a, o, xs, n, rfl, ho, hc, hd⟩ := t v (List.mem_cons_self ..)
    have e : fstH s.heap (.ref a) = xs[0]? := by simp only [fstH, ho, hd]
    rw [List.map_cons, e] at h
    rw [List.mapM_cons]
    refine wpAny_bind ?_
    rw [PySem.W.kas_first_eq]
    refine wpAny_bind (PySem.W.Looks.here (show PySem.W.Looks _ s.heap (typeOf (.ref a)) o.cls from (PySem.W.Looks.ld ho).andThen .now) ?_)
    rw [hc, if_neg (by first | decide | simp)]
    refine wpAny_bind (listItems_at ho hd (wpAny_pure ?_))
    exact wpAny_bind (firsts_all vs (Q := fun bs s' => wpAny (model prog w) A (pure (xs[0]? :: bs)) Q E s') (fun v hv => t v (List.mem_cons_of_mem _ hv)) (wpAny_pure h))
theorem kind_mixed {v0 : Value} {vs : List Value} {Q : SortKind → Shared → Prop} (t : ∀ v ∈ v0 :: vs, ∃ a o xs n, v = .ref a ∧ s.heap.get? a = some o ∧ o.cls = .type "tuple" ∧ o.data = .seq xs n) (hn : ∃ v ∈ v0 :: vs, fstH s.heap v = none)
    (h : Q (if (fstH s.heap v0).isSome = true then general' else oneType') s) : wpAny (model prog w) A (keyKind' (v0 :: vs).toArray) Q E s := by
  rw [keyKind'_eq, List.mapM_toArray, map_eq_pure_bind]
  refine wpAny_bind (wpAny_bind (firsts_all _ t (wpAny_pure ?_)))
  have hall : ¬ ((((v0 :: vs).map (fstH s.heap)).toArray.all fun x => x.isSome) = true) := by
    obtain ⟨v, hv, e⟩ := hn
    intro z
    simp only [List.all_toArray, List.all_eq_true] at z
    have := z (fstH s.heap v) (List.mem_map_of_mem hv)
    rw [e] at this; cases this
  rw [if_neg hall]
  have h0 : ((List.map (fstH s.heap) (v0 :: vs)).toArray[0]?.bind id) = fstH s.heap v0 := by simp
  rw [h0]
  by_cases c : (fstH s.heap v0).isSome = true
  · rw [if_pos c]
    rw [if_pos c] at h
    exact wpAny_pure h
  · rw [if_neg c]
    rw [if_neg c] at h
    rw [oneTypeOnly'_eq, List.mapM_toArray, map_eq_pure_bind]
    refine wpAny_bind (wpAny_bind (wpAny_bind (PySem.W.kas_mapM (r := Value.type "tuple") _ (fun v hv Q' hq => ?_) (wpAny_pure ?_))))
    · obtain ⟨a, o, xs, n, rfl, ho, hc, hd⟩ := t v hv
      have L : PySem.W.Looks (model prog w) s.heap (typeOf (.ref a)) o.cls := (PySem.W.Looks.ld ho).andThen .now
      rw [hc] at L
      exact L.here hq
    · have ha : ((List.map (fun _ => Value.type "tuple") (v0 :: vs)).toArray.all fun x => x == Value.type "tuple") = true := by
        simp only [List.all_toArray, List.all_map, List.all_eq_true]
        intro _ _
        rfl
      have h1 : (List.map (fun _ => Value.type "tuple") (v0 :: vs)).toArray[0]? = some (Value.type "tuple") := by simp
      rw [h1]
      simp only [ha, if_true]
      exact wpAny_pure (wpAny_pure h)
theorem each_right {R : Value → D → Prop} : ∀ {as : List Value} {bs : List D}, PySem.W.EachIs R as bs → ∀ b, b ∈ bs → ∃ a, a ∈ as ∧ R a b
  | _, _, .nil, _, hb => absurd hb (by simp)
  | _, _, .cons (a := a) h t, b, hb => by
    rcases List.mem_cons.mp hb with rfl | hb
    · exact ⟨a, List.mem_cons_self .., h⟩
    · obtain ⟨a', ha, hr⟩ := each_right t b hb
      exact ⟨a', List.mem_cons_of_mem _ ha, hr⟩
theorem sorts_cmp {vs : List Value} {ds : List D} (e : PySem.W.EachIs (fun v d => ∃ as, Reads s.heap v d as) vs ds) (k : KeysOk ds) (hu : A.units + 64 < cLine) : PySem.W.SortsAt prog w A s (PySem.W.dataKind s.heap ds) vs := by
  have lay : ∀ d ∈ ds, d.canLay0 = true := fun d hd => (k.lay d hd).1
  refine ⟨fun v hv => ?_, ?_⟩
  · obtain ⟨d, hd, as, r⟩ := e.left v hv
    exact ⟨_, kd_some lay hd r⟩
  · rcases k.knd with ⟨T, nT, ht⟩ | ⟨T, nT, ht⟩ | ⟨ht, he⟩
    · refine ⟨tuples' (scalV T != Value.type "tuple"), ?_, fun h2 E Q hq => ?_⟩
      · intro E x y a b Q ha hb hq
        obtain ⟨d, as, hd, ra, rfl⟩ := PySem.W.dataKind_inv ha
        obtain ⟨d', as', hd', rb, rfl⟩ := PySem.W.dataKind_inv hb
        have hc := k.cmp d hd d' hd'
        have g1 := k.lay d hd
        have g2 := k.lay d' hd'
        obtain ⟨x1, r1, rfl, t1⟩ := ht d hd
        obtain ⟨x2, r2, rfl, t2⟩ := ht d' hd'
        have hq' : Q (dlt (.tuple (x1 :: r1)) (.tuple (x2 :: r2))) s := hq
        have ex : dlt (.tuple (x1 :: r1)) (.tuple (x2 :: r2)) = lxt (tkL (x1 :: r1)) (tkL (x2 :: r2)) := PySem.W.dataLt_tuple _ _
        rw [ex] at hq'
        cases ra with
        | @tuple l o xs n _ _ h1 h2 h3 h4 =>
          cases rb with
          | @tuple l' o' xs' n' _ _ k1 k2 k3 k4 =>
            have n1 : xs.size = (x1 :: r1).length := by simpa using SeqAt.ReadsAll.length _ _ _ h4
            have n2 : xs'.size = (x2 :: r2).length := by simpa using SeqAt.ReadsAll.length _ _ _ k4
            have hd1 : (PyData.tuple (x1 :: r1)).depth = PyData.depthAll (x1 :: r1) + 1 := by simp [PyData.depth]
            refine PySem.W.kat_lt h1 h3 k1 k3 (kat_cmp (x1 :: r1) (x2 :: r2) 0 _ _ _ _ h4 k4 (by simpa [cmpb] using hc) (by simpa [PyData.canLay0] using g1.1) (by simpa [PyData.canLay0] using g2.1) (by omega) (fun _ _ x r y t ex ey => ?_) (by rw [n1, n2]) hq')
            obtain ⟨rfl, rfl⟩ := List.cons.inj ex
            obtain ⟨rfl, rfl⟩ := List.cons.inj ey
            exact ⟨by rw [t1]; exact nT, t1.trans t2.symm⟩
      · obtain ⟨fs, t1, t2, t3⟩ := PySem.W.each_katTups e fun d hd => let ⟨x, r, h, _⟩ := ht d hd; ⟨x, r, h⟩
        refine PySem.W.kat_kind (T := scalV T) t1 (by omega) (fun f hf => ?_) (beq_self_eq_true _) hq
        obtain ⟨x, r, as, m1, m2⟩ := t3 f hf
        obtain ⟨x', r', e', ty⟩ := ht _ m1
        cases e'
        rw [← ty]
        exact scal_looks m2 (by rw [ty]; exact nT)
    · refine ⟨oneType', ?_, fun h2 E Q hq => ?_⟩
      · intro E x y a b Q ha hb hq
        obtain ⟨d, as, hd, ra, rfl⟩ := PySem.W.dataKind_inv ha
        obtain ⟨d', as', hd', rb, rfl⟩ := PySem.W.dataKind_inv hb
        rw [keyLt'_oneType]
        have g1 := k.lay d hd
        exact one_cmp (fun _ => ⟨by rw [ht d hd]; exact nT, (ht d hd).trans (ht d' hd').symm⟩) ra rb (k.cmp d hd d' hd') g1.1 (k.lay d' hd').1 (by omega) hq
      · refine PySem.W.kas_kind (T := scalV T) h2 (fun v hv => ?_) ?_ (beq_self_eq_true _) hq
        · obtain ⟨d, hd, as, r⟩ := e.left v hv
          rw [← ht d hd]
          exact scal_looks r (by rw [ht d hd]; exact nT)
        · have : T = 1 ∨ T = 2 ∨ T = 3 := by
            cases vs with
            | nil => simp at h2
            | cons v vs =>
              obtain ⟨d, hd, _⟩ := e.left v (List.mem_cons_self ..)
              have := ht d hd
              cases d <;> simp [scalT] at this <;> omega
          rcases this with z | z | z <;> subst z <;> decide
    · have tv : ∀ v ∈ vs, ∃ a o xs n, v = .ref a ∧ s.heap.get? a = some o ∧ o.cls = .type "tuple" ∧ o.data = .seq xs n := fun v hv => by
        obtain ⟨d, hd, as, r⟩ := e.left v hv
        obtain ⟨xs, rfl⟩ := ht d hd
        cases r with
        | @tuple l o us n _ as₁ g1 g2 g3 g4 => exact ⟨l, o, us, n, rfl, g1, g2, g3⟩
      have ev : ∃ v ∈ vs, fstH s.heap v = none := by
        obtain ⟨v, hv, as, r⟩ := each_right e _ he
        refine ⟨v, hv, ?_⟩
        cases r with
        | @tuple l o us n _ as₁ g1 g2 g3 g4 =>
          have n1 : us.size = 0 := by simpa using SeqAt.ReadsAll.length _ _ _ g4
          simp only [fstH, g1, g3]
          exact Array.getElem?_eq_none (by omega)
      cases hvs : vs with
      | nil =>
        refine ⟨general', ?_, fun h2 => absurd h2 (by simp)⟩
        intro E x y a b Q ha hb hq
        obtain ⟨d, as, hd, ra, rfl⟩ := PySem.W.dataKind_inv ha
        rw [hvs] at e
        cases e
        cases hd
      | cons v0 vr =>
        rw [hvs] at tv ev
        refine ⟨if (fstH s.heap v0).isSome = true then general' else oneType', ?_, fun _ E Q hq => kind_mixed tv ev hq⟩
        intro E x y a b Q ha hb hq
        obtain ⟨d, as, hd, ra, rfl⟩ := PySem.W.dataKind_inv ha
        obtain ⟨d', as', hd', rb, rfl⟩ := PySem.W.dataKind_inv hb
        have g1 := k.lay d hd
        have g2 := k.lay d' hd'
        have hc := k.cmp d hd d' hd'
        obtain ⟨xs, rfl⟩ := ht d hd
        obtain ⟨ys, rfl⟩ := ht d' hd'
        by_cases c : (fstH s.heap v0).isSome = true
        · rw [if_pos c]
          exact one_cmp (f := false) (fun z => nomatch z) ra rb hc g1.1 g2.1 (by omega) hq
        · rw [if_neg c, keyLt'_oneType]
          exact one_tup ra rb hc g1.1 g2.1 (by omega) hq
end
end VL

end

section
set_option Elab.async false
set_option linter.all false
set_option maxRecDepth 100000
set_option maxHeartbeats 1000000
namespace VL
open PySem PySem.Spec PyProof.Rows L2
/-! ### the call of a key function -/
def KeyPost (X : Cx) (c : VC) (s : Shared) (H Z : Hp) (k : D) (r : Value) (s' : Shared) : Prop :=
  ∃ v H' Z', s'.os = s.os ∧ AllBare s'.gens ∧ Un (frs X.stack) [] H H' s.heap s'.heap ∧ HOk X.prog X.w H' s'.heap ∧ RelV v r ∧ Same H H' ∧ Same Z Z' ∧ Same Z' H' ∧ Rp c Z' v k
def KeyRun (X : Cx) (c : VC) (f : Value) (g : D → Option D) : Prop :=
  ∀ (pins : List (Addr × Obj)) (s : Shared) (σ : St) (H Z : Hp) (x : V) (u : Value) (d k : D), Inv X pins σ H s → RelV x u → Same Z H → Rp c Z x d → g d = some k →
    wpAny (model X.prog X.w) X.A.in1.in1 (call f [u]) (KeyPost X c s H Z k) (fun _ _ => False) s
def keyF (F : List OT → FRes) (d : D) : Option D :=
  match F [.sh d] with
  | .ok t _ => some t.d
  | _ => none
section
variable {X : Cx} {xa : Str → Option Addr}
theorem keyRun_def {f : Addr} {fd : FuncData} {ps : List Str} {k : Nat} {F : List OT → FRes} (G : FnOk X.prog X.w X.K X.mg X.base (L2.CX X.prog X.w) k f fd ps (spF (cc X xa) 1 F)) (hr : Room k X.A.in1.in1) (hb : Binds X.K fd ps []) : KeyRun X (cc X xa) (.ref f) (keyF F) := by
  intro pins s σ H Z x u d kd I rx sm rp hg
  have hs : spF (cc X xa) 1 F [x] H (fun v H' => Same H H' ∧ ∃ Z', Same Z Z' ∧ Same Z' H' ∧ Rp (cc X xa) Z' v kd) (fun _ _ _ => False) := by
    refine ⟨rfl, Z, [.sh d], [], sm, .cons (F := []) (.sh rp) .nil, List.nodup_nil, (fun _ z => nomatch z), ?_⟩
    unfold keyF at hg
    cases e : F [.sh d] with
    | bad => rw [e] at hg; cases hg
    | exc x' as => rw [e] at hg; cases hg
    | ok t as =>
      rw [e] at hg
      cases hg
      intro v H' Z' Fa' Ft o w n sp a
      exact ⟨fun p ob hp => a.keep p ob hp (fun z => nomatch z), frz Z' H' Ft, a.same.trans (frz_same o.same Ft), frz_same' o.same Ft, w.freeze o.same⟩
  have hl : [u].length = ps.length := G.len _ _ _ _ hs
  refine wpAny_call (codeAny_mono (G.run X.A.in1.in1 X.stack s H ⟨[u], []⟩ [u] [x] _ _ hr I.env0.in1.in1 (hb s [u] I.kIn hl) (.cons rx .nil) hs) fun r s' hq => ?_)
  cases r with
  | error e =>
    obtain ⟨_, _, _, _, _, _, _, _, _, _, _, _, z⟩ := hq
    exact z.elim
  | ok fl =>
    cases fl with
    | ret r =>
      obtain ⟨v, H', q1, q2, q3, q4, q5, q6, Z', q7, q8, q9⟩ := hq
      exact ⟨v, H', Z', q1, q2, q3, q4, q5, q6, q7, q8, q9⟩
    | next => exact False.elim hq
    | brk => exact False.elim hq
    | cont => exact False.elim hq
end
/-! ### what is gone through -/
section
variable {prog : Program} {w : World} {A : Around} {E : Value → Shared → Prop} {s : Shared}
theorem collect_tupl {p : Addr} {vs : List Value} {R : List Value → Shared → Prop} (ht : s.heap.IsTuple p vs.toArray) (hz : vs.length ≤ sizeLine)
    (q : R vs { s with heap := (s.heap.push (seqObj "list" #[] 0)).update s.heap.objs.size (Obj.mapSeq (· ++ vs.toArray)) }) : wpAny (model prog w) A (collect (.ref p)) R E s := by
  obtain ⟨ob, h1, h2, m, h3⟩ := id ht
  unfold collect
  refine wpAny_bind (wpAny_runValue (codeAny_builtin entry_proto_collect' ?_))
  show wpAny _ _ (newList [] >>= fun l => again (.builtin "list.__iadd__" ⟨[l, .ref p], []⟩)) _ _ s
  refine wpAny_bind (wpAny_newList (wpAny_pure ⟨Code.quiet_builtin _ (by decide +kernel), codeAny_builtin entry_list_iadd' ?_⟩))
  show wpAny _ _ (Builtin.List.listExtendWith (.ref s.heap.objs.size) (.ref p) (.ref s.heap.objs.size)) _ _ { s with heap := s.heap.push (seqObj "list" #[] 0) }
  unfold Builtin.List.listExtendWith
  have h1' : (s.heap.push (seqObj "list" #[] 0)).get? p = some ob := Heap.get?_push_of_some _ h1
  refine wpAny_bind (wpAny_typeOf (T := "tuple") ⟨ob, h1', h2⟩ ?_)
  have tt : (Value.type "tuple" == Value.type "tuple") = true := by rfl
  rw [if_pos (by rw [tt]; simp)]
  refine wpAny_bind (listItems_at h1' h3 ?_)
  refine wpAny_bind (listItems_at (xs := #[]) (n := 0) (Heap.get?_push_size _ rfl) rfl ?_)
  rw [if_neg (by simp)]
  refine wpAny_bind (listUpdate_at (xs := #[]) (n := 0) (Heap.get?_push_size _ rfl) rfl ?_ (Nat.zero_le _) (by show (#[] ++ vs.toArray).size ≤ sizeLine + 1; simp only [Array.size_append, List.size_toArray, List.length_nil]; omega))
  refine wpAny_pure ?_
  show wpAny (model prog w) A (load s.heap.objs.size >>= fun o => match o.data with
    | .seq xs _ => pure xs.toList
    | _ => unsupported "internal:collect") R E { s with heap := (s.heap.push (seqObj "list" #[] 0)).update s.heap.objs.size (Obj.mapSeq (· ++ vs.toArray)) }
  refine wpAny_bind (wpAny_load (get?_update_seq (Heap.get?_push_size _ rfl) _) ?_)
  show wpAny _ _ (pure ((#[] : Array Value) ++ vs.toArray).toList) R E _
  rw [show ((#[] : Array Value) ++ vs.toArray).toList = vs by simp]
  exact wpAny_pure q
/-- what stood in the heap stands -/
def Keeps (h h' : Heap) : Prop := ∀ b o, h.get? b = some o → h'.get? b = some o
/-- the items of u, gone through -/
def Colls (prog : Program) (w : World) (s : Shared) (u : Value) (vs : List Value) : Prop :=
  vs.length ≤ sizeLine ∧ ∀ (A : Around) (E : Value → Shared → Prop) (R : List Value → Shared → Prop), A.handled = none → (∀ h' tk, Keeps s.heap h' → R vs { s with heap := h', toks := tk }) → wpAny (model prog w) A (collect u) R E s
theorem keeps_coll (h : Heap) (vs : List Value) : Keeps h ((h.push (seqObj "list" #[] 0)).update h.objs.size (Obj.mapSeq (· ++ vs.toArray))) := fun b o e => by
  rw [Heap.get?_update_ne _ _ _ _ (Nat.ne_of_lt (Heap.lt_size e))]
  exact Heap.get?_push_of_some _ e
theorem colls_list {p : Addr} {vs : List Value} (h : s.heap.IsList p vs.toArray) (hz : vs.length ≤ sizeLine) : Colls prog w s (.ref p) vs :=
  ⟨hz, fun A E R _ q => collect_list h (q _ s.toks (keeps_coll s.heap vs)) hz⟩
theorem colls_tup {p : Addr} {vs : List Value} (h : s.heap.IsTuple p vs.toArray) (hz : vs.length ≤ sizeLine) : Colls prog w s (.ref p) vs :=
  ⟨hz, fun A E R _ q => collect_tupl h hz (q _ s.toks (keeps_coll s.heap vs))⟩
/-- sorted(u, ..) is list.sort(..) of a new list of u's items -/
theorem sorted_src {u : Value} {vs : List Value} {kw : List (Str × Value)} {Q : Value → Shared → Prop} (hc : Colls prog w s u vs) (hh : A.handled = none) (ha1 : argsOk "sorted" ⟨[u], kw⟩) (ha2 : ∀ x, argsOk "list.sort" ⟨[.ref x], kw⟩)
    (body : ∀ (h' : Heap) (tk : Nat) (E' : Value → Shared → Prop), Keeps s.heap h' → wpAny (model prog w) A.in1.in1 (Builtin.«list.sort» ⟨[.ref h'.objs.size], kw⟩) (fun f s' => f = .done (.ret .none) ∧ Q (.ref h'.objs.size) s') E' { s with heap := h'.push (seqObj "list" vs.toArray 0), toks := tk }) :
    wpAny (model prog w) A (call (.builtin "sorted") [u] kw) Q E s := by
  refine call_function_entry_kw kind_sorted plain_sorted entry_sorted ha1 ?_
  unfold Builtin.«sorted»
  refine wpAny_bind (m := checkCount "sorted" 1 1 _) (wpAny_pure ?_)
  refine wpAny_bind (hc.2 A.in1 _ _ hh fun h' tk kp => ?_)
  refine wpAny_bind (wpAny_newList ?_ hc.1)
  have at1 : (h'.push (seqObj "list" vs.toArray 0)).get? h'.objs.size = some (seqObj "list" vs.toArray 0) := Heap.get?_push_size _ rfl
  show wpAny _ _ _ _ _ { s with heap := h'.push (seqObj "list" vs.toArray 0), toks := tk }
  refine wpAny_bind (wpAny_holding (wpAny_call_entry_kw slot_list_sort ⟨_, at1, rfl⟩ entry_list_sort ?body (ha2 _)))
  case body =>
    show wpAny (model prog w) A.in1.in1 (Builtin.«list.sort» ⟨[.ref h'.objs.size], kw⟩) _ _ _
    refine wpAny_mono (body h' tk _ kp) (fun f s' hf => ?_) fun _ _ e => e
    obtain ⟨rfl, hq⟩ := hf
    exact ⟨_, rfl, wpAny_pure ⟨_, rfl, hq⟩⟩
end
end VL

end

section
set_option Elab.async false
set_option linter.all false
set_option maxRecDepth 100000
set_option maxHeartbeats 1000000
namespace VL
open PySem PySem.Spec PyProof.Rows L2
/-! ### the keys, one by one -/
structure SK (X : Cx) (c : VC) (s : Shared) (H Z : Hp) (a kS e1 : Nat) (ks : List D) (s' : Shared) (H' Z' : Hp) (kA : Array Value) (e : Nat) : Prop where
  os : s'.os = s.os
  gens : AllBare s'.gens
  un : Un (frs X.stack) [] H H' s.heap s'.heap
  hok : HOk X.prog X.w H' s'.heap
  hh : Same H H'
  zz : Same Z Z'
  zh : Same Z' H'
  aN : H' a = none
  kN : H' kS = none
  ga : s'.heap.get? a = some (seqObj "list" #[] e1)
  gk : s'.heap.get? kS = some (seqObj "list" kA e)
  keys : ∃ kvs, Vals kvs kA.toList ∧ RpL c Z' kvs ks
theorem vals_snoc {xs : List V} {us : List Value} {x : V} {u : Value} (h : Vals xs us) (r : RelV x u) : Vals (xs ++ [x]) (us ++ [u]) := h.append (.cons r .nil)
theorem un_same {fs : List Addr} {H H1 : Hp} {h h1 h2 : Heap} (u : Un fs [] H H1 h h1) (k : ∀ b o, h.get? b = some o → h2.get? b = h1.get? b) : Un fs [] H H1 h h2 where
  keep := fun b o e n f x => (k b o e).trans (u.keep b o e n f x)
  slot := fun b o e n f x => let ⟨sl, z⟩ := u.slot b o e n f x; ⟨sl, (k b o e).trans z⟩
  free := u.free
  there := fun b o e x => let ⟨o', z⟩ := u.there b o e x; ⟨o', (k b o e).trans z⟩
  tups := u.tups
  frzs := u.frzs
  tbls := u.tbls
theorem un_new {fs : List Addr} {H H1 : Hp} {h h1 : Heap} {a : Addr} {o : HO} (u : Un fs [] H H1 h h1) (k : ∀ b ob, h.get? b = some ob → b ≠ a) (n : H1 a = none) : Un fs [] H (upd H1 a o) h h1 where
  keep := u.keep
  slot := u.slot
  free := fun b ob e z x => by rw [upd_ne (k b ob e)]; exact u.free b ob e z x
  there := u.there
  tups := fun b xs e => by
    have := u.tups b xs e
    rw [upd_ne (fun z => by rw [z, n] at this; cases this)]; exact this
  frzs := fun b o' xs e => by
    have := u.frzs b o' xs e
    rw [upd_ne (fun z => by rw [z, n] at this; cases this)]; exact this
  tbls := fun b ps e => by
    obtain ⟨m, this⟩ := u.tbls b ps e
    exact ⟨m, by rw [upd_ne (fun z => by rw [z, n] at this; cases this)]; exact this⟩
/-- an untracked object turns -/
theorem hok_turn {P : Program} {w : World} {H : Hp} {h h' : Heap} {q : Addr} (x : HOk P w H h) (n : H q = none) (k : Heap.SameBut q h h') : HOk P w H h' := fun b u e => (x b u e).stay (fun c o hc z => by
  refine (k.2 c ?_).trans z
  rintro rfl
  rcases hc with y | y
  · rw [y] at n; rw [n] at e; cases e
  · rw [n] at y; cases y) (fun _ z => z) fun _ _ z => z
section
variable {X : Cx} {c : VC} {pins : List (Addr × Obj)} {σ : St} {H Z : Hp} {s : Shared}
theorem _root_.L2.Inv.noFrame (I : Inv X pins σ H s) {a : Addr} (h : s.heap.get? a = none) : a ∉ frs X.stack := fun z => by
  rcases List.mem_cons.mp (I.stkSub a z) with e | e
  · obtain ⟨m, ⟨o, _, _, ho, _⟩, _⟩ := I.loc
    rw [← e, h] at ho; cases ho
  · obtain ⟨_, o, ho, _⟩ := I.ok.funs.mem e
    obtain ⟨o', q⟩ := I.base.there a o ho (fun z => I.ok.exfs a z e)
    rw [h] at q; cases q
theorem okThere {P : Program} {w : World} {H : Hp} {h : Heap} {a : Addr} {u : HO} (x : ObjOk P w H h a u) : ∃ ob, h.get? a = some ob := by
  cases u with
  | lst _ => obtain ⟨_, _, _, _, z⟩ := x; exact ⟨_, z⟩
  | tup _ => obtain ⟨_, _, _, _, z, _⟩ := x; exact ⟨_, z⟩
  | dK _ => obtain ⟨_, _, _, _, _, _, _, z, _⟩ := x; exact ⟨_, z⟩
  | dT _ => obtain ⟨_, _, _, _, _, _, _, z, _⟩ := x; exact ⟨_, z⟩
  | set _ _ => obtain ⟨_, _, _, _, z, _⟩ := x; exact ⟨_, z⟩
  | ins _ _ _ => obtain ⟨_, _, _, z, _⟩ := x; exact ⟨_, z⟩
  | own _ => exact x
  | xd _ => obtain ⟨_, ⟨_, _, _, z, _⟩, _⟩ := x; exact ⟨_, z⟩
  | rng _ _ => obtain ⟨_, _, _, z⟩ := x; exact ⟨_, z⟩
  | frz _ _ => exact ⟨_, x.1⟩
  | tbl ps => exact ⟨_, show h.get? a = some _ from x⟩
  | met f y => exact ⟨_, show h.get? a = some _ from x⟩
  | ext _ => exact x.2.1
theorem _root_.L2.Inv.noTrack (I : Inv X pins σ H s) {a : Addr} (h : s.heap.get? a = none) : H a = none := by
  cases e : H a with
  | none => rfl
  | some u =>
    obtain ⟨o, q⟩ := okThere (I.hok a u e)
    rw [h] at q; cases q
def sortKD (ks ds : List D) : List D := ((ds.zip ks).mergeSort (PySem.W.dataLe false Prod.snd)).map Prod.fst
theorem take_succ {α : Type} {l : List α} {j : Nat} {x : α} (h : l[j]? = some x) : l.take (j + 1) = l.take j ++ [x] := by rw [List.take_add_one, h]; simp
theorem each_of {R : Value → D → Prop} {xs : List V} {us : List Value} {ds : List D} {Z : Hp} (r : Vals xs us) (l : RpL c Z xs ds) (h : ∀ x u d, RelV x u → Rp c Z x d → R u d) : PySem.W.EachIs R us ds := by
  induction r generalizing ds with
  | nil => cases l; exact .nil
  | cons r _ ih =>
    cases l with
    | cons p l => exact .cons (h _ _ _ r p) (ih l)
theorem each_zip {R : Value → D → Prop} : ∀ {us : List Value} {ds ks : List D}, PySem.W.EachIs R us ds → ks.length = ds.length → PySem.W.EachIs (fun u (p : D × D) => R u p.1) us (ds.zip ks)
  | _, _, [], .nil, _ => .nil
  | _, _, [], .cons _ _, h => by simp at h
  | _, _, k :: ks, .nil, h => by simp at h
  | _, _, k :: ks, .cons r t, h => .cons r (each_zip t (by simpa using h))
theorem each_zip2 {R : Value → D → Prop} : ∀ {us : List Value} {ds ks : List D}, PySem.W.EachIs R us ks → ks.length = ds.length → PySem.W.EachIs (fun u (p : D × D) => R u p.2) us (ds.zip ks)
  | _, [], _, .nil, _ => .nil
  | _, [], _, .cons _ _, h => by simp at h
  | _, d :: ds, _, .nil, h => by simp at h
  | _, d :: ds, _, .cons r t, h => .cons r (each_zip2 t (by simpa using h))
theorem each_vals {R : Value → D × D → Prop} : ∀ {us : List Value} {ps : List (D × D)}, PySem.W.EachIs (fun u p => ∃ x, RelV x u ∧ Rp c Z x p.1) us ps → ∃ xs, Vals xs us ∧ RpL c Z xs (ps.map Prod.fst)
  | _, _, .nil => ⟨[], .nil, .nil⟩
  | _, _, .cons ⟨x, r, p⟩ t =>
    let ⟨xs, h1, h2⟩ := each_vals (R := R) t
    ⟨x :: xs, .cons r h1, .cons p h2⟩
theorem vals_at {u : Value} : ∀ {as : List V} {us : List Value}, Vals as us → ∀ {j : Nat}, us[j]? = some u → ∃ x, as[j]? = some x ∧ RelV x u := by
  intro as us r
  induction r with
  | nil => intro j h; simp at h
  | cons r _ ih =>
    intro j h
    cases j with
    | zero => simp at h; subst h; exact ⟨_, rfl, r⟩
    | succ j =>
      obtain ⟨x, h1, h2⟩ := ih (j := j) (by simpa using h)
      exact ⟨x, by simpa using h1, h2⟩
/-- list.sort(key=f) of a new list, behind its start -/
theorem sort_rest {f : Value} {g : D → Option D} (KR : KeyRun X c f g) (hK : c = ⟨X.K, X.w, c.xa⟩) (I : Inv X pins σ H s) {a kS e1 : Nat} (ha : s.heap.get? a = none) (hk : s.heap.get? kS = none) (hne : kS ≠ a) {xs : List V} {vs : List Value} {ds ks : List D} (rx : Vals xs vs) (sm : Same Z H) (rp : RpL c Z xs ds) (hz : vs.length ≤ sizeLine)
    (hg : ∀ (i : Nat) d k, ds[i]? = some d → ks[i]? = some k → g d = some k) (hl : ks.length = ds.length) (kk : KeysOk ks) (hu : X.A.in1.in1.units + 64 < cLine) {s0 : Shared} (S0 : SK X c s H Z a kS e1 [] s0 H Z #[] 0) {P : PySem.Fin → Shared → Prop} {E : Value → Shared → Prop}
    (done : ∀ s' H' ys, Inv X pins σ (upd H' a (.lst ys)) s' → Same H H' → H' a = none → RpL c Z ys (sortKD ks ds) → P (.done (.ret .none)) s') :
    wpAny (model X.prog X.w) X.A.in1.in1 (ksk_rest a f false vs.toArray e1 (.ref kS)) P E s0 := by
  have len : xs.length = vs.length := rx.length
  have len2 : xs.length = ds.length := rp.length
  have aF := I.noFrame ha
  have kF := I.noFrame hk
  unfold ksk_rest
  refine wpAny_bind (wpAny_rule ?_)
  first
    | rw [List.forIn_toArray]
    | (rw [← Array.forIn_toList]; simp only [List.toList_toArray])
    | rw [← Array.forIn_toList]
  refine wpAny_bind (ksk_fold (fun i s' => ∃ H' Z' kA e, SK X c s H Z a kS e1 (ks.take i) s' H' Z' kA e) vs 0 s0 ⟨H, Z, #[], 0, by rw [List.take_zero]; exact S0⟩ ?turn ?fin)
  case turn =>
    rintro j u s1 hj ⟨H1, Z1, kA, e, S⟩
    rw [Nat.zero_add] at S ⊢
    have jl : j < vs.length := (List.getElem?_eq_some_iff.mp hj).1
    obtain ⟨x, hx, ru⟩ := vals_at rx hj
    obtain ⟨d, hd, rd⟩ := rp.get hx
    obtain ⟨k, hkj⟩ : ∃ k, ks[j]? = some k := ⟨_, List.getElem?_eq_getElem (by omega)⟩
    have I1 : Inv X pins σ H1 s1 := I.call' (ch := []) S.os S.un S.hok S.gens (fun _ z => nomatch z)
    refine wpAny_bind (wpAny_attempt (wpAny_mono (KR pins s1 σ H1 Z1 x u d k I1 ru S.zh (rd.mono S.zz) (hg j d k hd hkj)) (fun r s2 hp => ?_) fun _ _ z => z.elim))
    obtain ⟨v, H2, Z2, o2, g2, u2, k2, r2, hh2, zz2, zh2, p2⟩ := hp
    have ga2 : s2.heap.get? a = some (seqObj "list" #[] e1) := u2.keep a _ S.ga S.aN aF (fun z => nomatch z)
    have gk2 : s2.heap.get? kS = some (seqObj "list" kA e) := u2.keep kS _ S.gk S.kN kF (fun z => nomatch z)
    have aN2 : H2 a = none := u2.free a _ S.ga S.aN (fun z => nomatch z)
    have kN2 : H2 kS = none := u2.free kS _ S.gk S.kN (fun z => nomatch z)
    obtain ⟨kvs, kv1, kv2⟩ := S.keys
    have kl : kA.size ≤ vs.length := by
      have h1 : kvs.length = kA.toList.length := kv1.length
      have h2 : kvs.length = (ks.take j).length := kv2.length
      simp only [Array.length_toList, List.length_take] at h1 h2
      omega
    have sb := Heap.SameBut.update s2.heap kS (Obj.mapSeq (·.push r))
    obtain ⟨e3, g3⟩ : ∃ e3, (s2.heap.update kS (Obj.mapSeq (·.push r))).get? kS = some (seqObj "list" (kA.push r) e3) := ⟨_, get?_update_seq gk2 (·.push r)⟩
    (try dsimp only)
    refine wpAny_bind (listUpdate_at gk2 rfl ?_ (Nat.le_trans kl hz) (Nat.le_trans (Nat.le_of_eq (Array.size_push ..)) (Nat.succ_le_succ (Nat.le_trans kl hz))))
    refine wpAny_pure ⟨rfl, H2, Z2, kA.push r, e3, ?_⟩
    refine ⟨o2.trans S.os, g2, un_same (S.un.trans u2) fun b ob hb => sb.2 b (fun z => ?_), hok_turn k2 kN2 sb, S.hh.trans hh2, S.zz.trans zz2, zh2, aN2, kN2, (sb.2 a hne.symm).trans ga2, g3, kvs ++ [v], ?_, ?_⟩
    · subst z
      rw [hk] at hb; cases hb
    · rw [show (kA.push r).toList = kA.toList ++ [r] by simp]
      exact vals_snoc kv1 r2
    · rw [take_succ hkj]
      exact (kv2.mono zz2).append (.cons p2 .nil)
  case fin =>
    rintro s1 ⟨H1, Z1, kA, e, S⟩
    rw [Nat.zero_add, List.take_of_length_le (by omega)] at S
    obtain ⟨kvs, kv1, kv2⟩ := S.keys
    have I1 : Inv X pins σ H1 s1 := I.call' (ch := []) S.os S.un S.hok S.gens (fun _ z => nomatch z)
    have sz : kA.size = vs.length := by
      have h1 : kvs.length = kA.toList.length := kv1.length
      have h2 : kvs.length = ks.length := kv2.length
      simp only [Array.length_toList] at h1
      omega
    have rd : PySem.W.EachIs (fun v k => ∃ as, Reads s1.heap v k as) kA.toList ks := by
      have hm : ∀ k ∈ ks, k.canLay0 = true := fun k hk => (kk.lay k hk).1
      clear done S0 hg hl sz
      revert hm
      have zh := S.zh
      generalize kA.toList = us at kv1
      clear S kk
      intro hm
      induction kv1 generalizing ks with
      | nil => cases kv2; exact .nil
      | cons r t ih =>
        cases kv2 with
        | cons p l =>
          refine .cons ?_ (ih l fun k hk => hm k (List.mem_cons_of_mem _ hk))
          have p' := (p.mono zh).dp (hm _ (List.mem_cons_self ..))
          exact Dp.reads I1 _ _ _ (by rw [hK] at p'; exact p') r
    try dsimp only
    refine wpAny_bind (listItems_at S.gk rfl ?_)
    obtain ⟨G, G1, G2⟩ := restrict s1.heap (fun b => b != kS)
    have kp : PySem.W.KeepsBut a G s1.heap := fun b o _ hb => by
      by_cases z : b = kS
      · subst z
        rw [G2 b (by simp)] at hb; cases hb
      · rw [G1 b (by simpa using z)] at hb; exact hb
    refine PySem.W.keyH_end (κ := PySem.W.dataKind s1.heap ks) (h₁ := G) kp (G2 kS (by simp)) S.gk S.ga hne (sorts_cmp rd kk hu) sz hz fun h3 t3 n3 kp3 at3 => ?_
    have zs := PySem.W.sortVals_each (κ := PySem.W.dataKind s1.heap ks) (rev := false) (bs := ds.zip ks) (R := fun u p => ∃ x, RelV x u ∧ Rp c Z x p.1) (fun p => tkA p.2)
      (each_zip (R := fun u d => ∃ x, RelV x u ∧ Rp c Z x d) (each_of rx rp fun x u d r p => ⟨x, r, p⟩) hl)
      (each_zip2 (R := fun u k => (PySem.W.dataKind s1.heap ks).keyOf u = some (tkA k)) ((PySem.W.each_mem rd).mono fun u k ⟨⟨as, q⟩, m⟩ => kd_some (fun d hd => (kk.lay d hd).1) m q) hl)
    obtain ⟨ys, y1, y2⟩ := each_vals (R := fun _ _ => True) zs
    have y3 : RpL c Z ys (sortKD ks ds) := y2
    have old : ∀ b o, b ≠ a → b ≠ kS → s1.heap.get? b = some o → h3.get? b = some o := fun b o na nk hb => kp3 b o na (by rw [G1 b (by simpa using nk)]; exact hb)
    have lt : ∀ b o, s.heap.get? b = some o → b ≠ a ∧ b ≠ kS := fun b o hb => by
      exact ⟨fun z => by (rw [z, ha] at hb; cases hb), fun z => by (rw [z, hk] at hb; cases hb)⟩
    have ne : ∀ b u, H1 b = some u → b ≠ a ∧ b ≠ kS := fun b u hb => ⟨fun z => by (rw [z, S.aN] at hb; cases hb), fun z => by (rw [z, S.kN] at hb; cases hb)⟩
    have hz3 : ys.length ≤ sizeLine := by
      have e1 := y1.length
      rw [PySem.W.sortVals_length false (by rw [Array.length_toList]; exact sz)] at e1
      omega
    have un3 : Un (frs X.stack) [] H (upd H1 a (.lst ys)) s.heap h3 := un_new (un_same S.un fun b o hb => by
      obtain ⟨o', q⟩ := S.un.there b o hb (fun z => nomatch z)
      rw [q]
      exact old b o' (lt b o hb).1 (lt b o hb).2 q) (fun b o hb => (lt b o hb).1) S.aN
    have hok3 : HOk X.prog X.w (upd H1 a (.lst ys)) h3 := fun b u hb => by
      by_cases z : b = a
      · subst z
        rw [upd_same] at hb
        cases hb
        exact ⟨hz3, _, n3, y1, at3⟩
      · rw [upd_ne z] at hb
        refine (S.hok b u hb).stay (fun c' o hc q => ?_) (fun c' q => ?_) fun c' zs q => ?_
        · rcases hc with y | y
          · subst y; exact old _ o (ne _ u hb).1 (ne _ u hb).2 q
          · exact old _ o (ne _ _ y).1 (ne _ _ y).2 q
        · rw [upd_ne (ne _ _ q).1]; exact q
        · rw [upd_ne (ne _ _ q).1]; exact q
    exact done _ H1 ys (I.call' (s' := { s1 with heap := h3, toks := t3 }) (ch := []) S.os un3 hok3 S.gens (fun _ z => nomatch z)) S.hh S.aN y3
/-- list.sort(key=f) of a new list of the items -/
theorem sort_tree {f : Value} {g : D → Option D} (KR : KeyRun X c f g) (hK : c = ⟨X.K, X.w, c.xa⟩) (I : Inv X pins σ H s) {xs : List V} {vs : List Value} {ds ks : List D} (rx : Vals xs vs) (sm : Same Z H) (rp : RpL c Z xs ds) (hz : vs.length ≤ sizeLine)
    (hg : ∀ (i : Nat) d k, ds[i]? = some d → ks[i]? = some k → g d = some k) (hl : ks.length = ds.length) (kk : KeysOk ks) (hu : X.A.in1.in1.units + 64 < cLine) {h1 : Heap} {tk : Nat} (kp : Keeps s.heap h1) {P : PySem.Fin → Shared → Prop} {E : Value → Shared → Prop}
    (done : ∀ s' H' ys, Inv X pins σ (upd H' h1.objs.size (.lst ys)) s' → Same H H' → H' h1.objs.size = none → RpL c Z ys (sortKD ks ds) → P (.done (.ret .none)) s') :
    wpAny (model X.prog X.w) X.A.in1.in1 (ksk_tree h1.objs.size f false) P E { s with heap := h1.push (seqObj "list" vs.toArray 0), toks := tk } := by
  have ho : (h1.push (seqObj "list" vs.toArray 0)).get? h1.objs.size = some (seqObj "list" vs.toArray 0) := Heap.get?_push_size _ rfl
  obtain ⟨e1, ho1⟩ : ∃ e1, ((h1.push (seqObj "list" vs.toArray 0)).update h1.objs.size (Obj.mapSeq fun _ => (#[] : Array Value))).get? h1.objs.size = some (seqObj "list" #[] e1) := ⟨_, get?_update_seq ho fun _ => #[]⟩
  have size2 : (((h1.push (seqObj "list" vs.toArray 0)).update h1.objs.size (Obj.mapSeq fun _ => (#[] : Array Value))).push (seqObj "tuple" vs.toArray 0)).objs.size = h1.objs.size + 2 := by rw [size_push', Heap.size_update, size_push']
  have out : ∀ q, h1.objs.size ≤ q → s.heap.get? q = none := fun q hq => by
    cases e : s.heap.get? q with
    | none => rfl
    | some o => exact absurd (Heap.lt_size (kp q o e)) (Nat.not_lt.mpr hq)
  unfold ksk_tree
  refine wpAny_bind (listItems_at ho rfl ?_)
  refine wpAny_bind (listUpdate_at ho rfl ?_ (by rw [List.size_toArray]; exact hz) (Nat.zero_le _))
  refine wpAny_bind (seqEpoch_at ho1 rfl ?_)
  refine wpAny_bind (wpAny_newTuple ?_ (by show vs.length ≤ _; exact hz))
  refine wpAny_bind (wpAny_newList ?_ (Nat.zero_le _))
  refine wpAny_holding ?_
  have kp2 : Keeps s.heap ((((h1.push (seqObj "list" vs.toArray 0)).update h1.objs.size (Obj.mapSeq fun _ => (#[] : Array Value))).push (seqObj "tuple" vs.toArray 0)).push (seqObj "list" #[] 0)) := fun b o e => by
    have := kp b o e
    refine Heap.get?_push_of_some _ (Heap.get?_push_of_some _ ?_)
    rw [Heap.get?_update_ne _ _ _ _ (Nat.ne_of_lt (Heap.lt_size this))]
    exact Heap.get?_push_of_some _ this
  refine sort_rest (s0 := { s with heap := (((h1.push (seqObj "list" vs.toArray 0)).update h1.objs.size (Obj.mapSeq fun _ => (#[] : Array Value))).push (seqObj "tuple" vs.toArray 0)).push (seqObj "list" #[] 0), toks := tk })
    (kS := (((h1.push (seqObj "list" vs.toArray 0)).update h1.objs.size (Obj.mapSeq fun _ => (#[] : Array Value))).push (seqObj "tuple" vs.toArray 0)).objs.size) KR hK I (out _ (Nat.le_refl _)) (out _ (by rw [size2]; omega)) (by rw [size2]; omega) rx sm rp hz hg hl kk hu ?_ done
  exact ⟨rfl, I.bare, Un.kept kp2, I.hok.kept kp2, Same.refl _, Same.refl _, sm, I.noTrack (out _ (Nat.le_refl _)), I.noTrack (out _ (by rw [size2]; omega)), Heap.get?_push_of_some _ (Heap.get?_push_of_some _ ho1), Heap.get?_push_size _ rfl, [], .nil, .nil⟩
end
end VL

end

section
set_option Elab.async false
set_option linter.all false
set_option maxRecDepth 100000
set_option maxHeartbeats 1000000
namespace VL
open PySem PySem.Spec PyProof.Rows L2
/-! ### sorted(xs, key=f) -/
open Classical in
noncomputable def gSortDs (g : D → Option D) (ds : List D) : Option OT :=
  match ds.mapM g with
  | some ks => if KeysOk ks ∧ ds.length ≤ 1000000 then some (.lst ((sortKD ks ds).map .sh)) else none
  | none => none
noncomputable def gSortBy (g : D → Option D) (t : OT) : Option OT :=
  match qItems t with
  | some ds => gSortDs g ds
  | none => none
noncomputable def gSortL (g : D → Option D) (ts : List OT) : Option OT :=
  match ts with
  | [t] => gSortBy g t
  | _ => none
theorem mapM_at {g : D → Option D} : ∀ {ds ks : List D}, ds.mapM g = some ks → ks.length = ds.length ∧ ∀ (i : Nat) d k, ds[i]? = some d → ks[i]? = some k → g d = some k
  | [], ks, h => by
    simp at h
    subst h
    exact ⟨rfl, fun i d k h => by simp at h⟩
  | d :: ds, ks, h => by
    rw [List.mapM_cons] at h
    cases e1 : g d with
    | none => rw [e1] at h; cases h
    | some k =>
      cases e2 : ds.mapM g with
      | none => rw [e1, e2] at h; cases h
      | some r =>
        rw [e1, e2] at h
        cases h
        obtain ⟨h1, h2⟩ := mapM_at e2
        refine ⟨by simp [h1], fun i a b ha hb => ?_⟩
        cases i with
        | zero => simp at ha hb; subst ha hb; exact e1
        | succ i => exact h2 i a b (by simpa using ha) (by simpa using hb)
theorem gSortDs_eq {g : D → Option D} {ds : List D} {t : OT} (h : gSortDs g ds = some t) : ∃ ks, ds.mapM g = some ks ∧ KeysOk ks ∧ ds.length ≤ 1000000 ∧ t = .lst ((sortKD ks ds).map .sh) := by
  unfold gSortDs at h
  split at h
  · rename_i ks e
    split at h
    · rename_i k
      cases h
      exact ⟨ks, e, k.1, k.2, rfl⟩
    · cases h
  · cases h
section
variable {X : Cx} {xa : Str → Option Addr}
/-- what u gives when it is gone through -/
def rSrc (c : VC) (Z H : Hp) (x : V) (ds : List D) : Prop := ∃ t F, Own c Z H x t F ∧ qItems t = some ds
theorem src_colls {pins : List (Addr × Obj)} {s : Shared} {σ : St} {H Z : Hp} {x : V} {u : Value} {t : OT} {F : List Addr} {ds : List D} (I : Inv X pins σ H s) (sm : Same Z H) (r : RelV x u) (w : Own (cc X xa) Z H x t F) (e : qItems t = some ds) :
    ∃ xs vs, Vals xs vs ∧ RpL (cc X xa) Z xs ds ∧ Colls X.prog X.w s u vs := by
  obtain ⟨a, xs, rfl, h, rp⟩ := q_read sm w e
  cases r
  rcases h with h | h
  · obtain ⟨its, rv, p, hz⟩ := I.list h
    exact ⟨xs, its, rv, rp, colls_list p.isList (by rw [← rv.length]; exact hz)⟩
  · obtain ⟨its, rv, p, hz⟩ := I.tuple h
    exact ⟨xs, its, rv, rp, colls_tup p (by rw [← rv.length]; exact hz)⟩
def rSortK (X : Cx) (xa : Str → Option Addr) (fa : Addr) (g : D → Option D) : List V → List V → Hp → VK → Prop := fun vs zs H Q => ∃ x Z t F ds t', vs = [x] ∧ zs = [.ref fa] ∧ Same Z H ∧ Own (cc X xa) Z H x t F ∧ qItems t = some ds ∧ gSortDs g ds = some t' ∧ NewR (cc X xa) Z H t' Q
theorem new_list {c : VC} {Z H H' : Hp} {a : Addr} {ys : List V} {ds : List D} {Q : VK} (n : NewR c Z H (.lst (ds.map .sh)) Q) (sm : Same Z H) (hh : Same H H') (aN : H' a = none) (r : RpL c Z ys ds) : Q (.ref a) (upd H' a (.lst ys)) := by
  have e1 : Same H (upd H' a (.lst ys)) := hh.trans (same_upd aN)
  refine n (.ref a) (upd H' a (.lst ys)) Z [a] e1 (Same.refl _) (sm.trans e1) (fun p h => .inl h) (.lst upd_same (OwnL.of_rp r)) (by simp) fun p hp => ?_
  have e := List.mem_singleton.mp hp
  subst e
  exact ⟨(sm.trans hh).free aN, hh.free aN⟩
theorem cr_sortK {fa : Addr} {g : D → Option D} (hc : X.calm = true) (hu : X.A.in1.in1.units + 64 < cLine) (KR : KeyRun X (cc X xa) (.ref fa) g) : CallRK X (.builtin "sorted") [Str.ofString "key"] (rSortK X xa fa g) := by
  intro pins s σ H vs zs us ws Q I rv rz h
  obtain ⟨x, Z, t, F, ds, t', rfl, rfl, sm, w, e1, e2, n⟩ := h
  obtain ⟨u, rfl, ru⟩ := vals1 rv
  obtain ⟨q, rfl, rq⟩ := vals1 rz
  cases rq
  obtain ⟨ks, k1, k2, k3, rfl⟩ := gSortDs_eq e2
  obtain ⟨hl, hg⟩ := mapM_at k1
  obtain ⟨xs, vs, rx, rp, hcol⟩ := src_colls I sm ru w e1
  refine sorted_src hcol (I.ok.hd hc) (ksk_s1 _ _) (fun _ => ksk_l1 _ _) fun h' tk E' kp => ?_
  show wpAny _ _ (Builtin.«list.sort» ⟨[.ref h'.objs.size], [(Str.ofString "key", .ref fa)]⟩) _ _ _
  rw [ksk_t1]
  exact sort_tree KR rfl I rx sm rp hcol.1 hg hl k2 hu kp fun s' H' ys I' hh aN y3 => ⟨rfl, .ref h'.objs.size, _, I', rfl, new_list n sm hh aN y3⟩
theorem ve_sortK {E : XS} {pu : Bool} {e : Expr} {f : Ev → Res (List PH)} {fx : Str} {ps : List Str} {k j : Nat} {F : List OT → FRes} {p fp kp pos : Pos} {P : Program} {w : World} {K : PySem.W.Frag} {mg : Str → Option Value} {base : Heap} {A : Around}
    (hc : X.calm = true) (G : DefAt P w K mg base xa fx ps 1 k F) (hr : Room j A) (h : k + 2 ≤ j) (hg : Gl X "sorted") (hm : X.mg "sorted" = none) (hf : Gl X fx) (ha : VPs X xa E pu [e] f)
    (e1 : X.prog = P := by rfl) (e2 : X.w = w := by rfl) (e3 : X.K = K := by rfl) (e4 : X.mg = mg := by rfl) (e5 : X.base = base := by rfl) (e6 : X.A = A := by rfl)
    (hdf : (fx == ("__debug__" : Str)) = false := by decide)
    (he : backTo pos (starEach [e] X.env) = (false, eval e X.env) :: backTo pos (starEach [] X.env) := by rfl) (hpl : (backTo pos (starEach [e] X.env)).any (·.1) = false := by rfl)
    (hall : (backToKw pos (keywordEach [⟨some "key", .Name fx fp, kp⟩] X.env)).all (·.1.isSome) = true := by rfl) (hnone : (backToKw pos (keywordEach [⟨some "key", .Name fx fp, kp⟩] X.env)).any (·.1.isNone) = false := by rfl)
    (hks : (backToKw pos (keywordEach [⟨some "key", .Name fx fp, kp⟩] X.env)).filterMap (·.1) = [Str.ofString "key"] := by rfl) :
    VE X xa E pu (.Call (.Name "sorted" p) [e] [⟨some "key", .Name fx fp, kp⟩] pos) (fOps (gSortL (keyF F)) f) := by
  subst e1 e2 e3 e4 e5 e6
  obtain ⟨_, fa, fd, GF, hmf, hk, hb, _⟩ := G
  have hr2 : Room k X.A.in1.in1 := (hr.mono h).in1.in1
  refine (pe_callBK (cr_sortK (xa := xa) hc (hr2.mono (Nat.zero_le _)).units (keyRun_def GF hr2 hb)) hg hm (by decide +kernel) ha (pk_cons (pe_glob (v := .ref fa) hf hmf rfl hdf) pk_nil) (by decide) (by decide) he hpl hall hnone hks).imp fun σ H Q q => ?_
  have z : tCB (fun vs H1 Q' => rSortK X xa fa (keyF F) vs [.ref fa] H1 Q') (tPs (cc X xa) E pu f) σ H Q := tOps (g := gSortL (keyF F)) (fun Z H vs ts t Q s r e n => by
    unfold gSortL at e
    split at e
    · rename_i t1
      cases r with
      | @cons v _ _ _ F0 w r =>
        cases r
        unfold gSortBy at e
        split at e
        · rename_i ds hd
          exact ⟨v, Z, t1, F0, ds, t, rfl, rfl, s, w, hd, e, n⟩
        · cases e
    · cases e) q
  exact z
end
end VL

end

section
set_option Elab.async false
set_option linter.all false
set_option maxRecDepth 100000
set_option maxHeartbeats 1000000
namespace VL
open PySem PySem.Spec PyProof.Rows L2
/-! ### sorted(xs) -/
def sortD (ds : List D) : List D := ds.mergeSort (PySem.W.dataLe false id)
open Classical in
noncomputable def gSort0 (ds : List D) : Option OT := if KeysOk ds ∧ ds.length ≤ 1000000 then some (.lst ((sortD ds).map .sh)) else none
noncomputable def gSorted (ts : List OT) : Option OT :=
  match ts with
  | [t] => match qItems t with
    | some ds => gSort0 ds
    | none => none
  | _ => none
theorem gSort0_eq {ds : List D} {t : OT} (h : gSort0 ds = some t) : KeysOk ds ∧ ds.length ≤ 1000000 ∧ t = .lst ((sortD ds).map .sh) := by
  unfold gSort0 at h
  split at h
  · rename_i k
    cases h
    exact ⟨k.1, k.2, rfl⟩
  · cases h
section
variable {X : Cx} {xa : Str → Option Addr} {pins : List (Addr × Obj)} {σ : St} {H Z : Hp} {s : Shared}
/-- a list put where nothing stood -/
theorem _root_.L2.Inv.put (I : Inv X pins σ H s) {h' : Heap} {tk : Nat} {a : Addr} {ys : List V} (kp : Keeps s.heap h') (na : s.heap.get? a = none) (new : ObjOk X.prog X.w (upd H a (.lst ys)) h' a (.lst ys)) : Inv X pins σ (upd H a (.lst ys)) { s with heap := h', toks := tk } := by
  have aN := I.noTrack na
  refine I.call' (s' := { s with heap := h', toks := tk }) (ch := []) rfl (un_new (Un.kept kp) (fun b o hb z => by (rw [z, na] at hb; cases hb)) aN) (fun b u hb => ?_) I.bare (fun _ z => nomatch z)
  by_cases z : b = a
  · subst z
    rw [upd_same] at hb
    cases hb
    exact new
  · rw [upd_ne z] at hb
    refine (I.hok b u hb).stay (fun c o _ q => kp c o q) (fun c q => ?_) fun c zs q => ?_
    · rw [upd_ne (fun y => by (rw [y, aN] at q; cases q))]; exact q
    · rw [upd_ne (fun y => by (rw [y, aN] at q; cases q))]; exact q
theorem reads_of (I : Inv X pins σ H s) (sm : Same Z H) : ∀ {xs : List V} {us : List Value} {ds : List D}, Vals xs us → RpL (cc X xa) Z xs ds → (∀ d ∈ ds, d.canLay0 = true) → PySem.W.EachIs (fun u d => ∃ as, Reads s.heap u d as) us ds := by
  intro xs us ds r
  induction r generalizing ds with
  | nil => intro l _; cases l; exact .nil
  | cons r t ih =>
    intro l hm
    cases l with
    | cons p l => exact .cons (Dp.reads I _ _ _ ((p.mono sm).dp (hm _ (List.mem_cons_self ..))) r) (ih l fun d hd => hm d (List.mem_cons_of_mem _ hd))
theorem cr_sort0 (hc : X.calm = true) (hu : X.A.in1.in1.units + 64 < cLine) : CallR X (.builtin "sorted") (fun vs H Q => ∃ x Z t F ds t', vs = [x] ∧ Same Z H ∧ Own (cc X xa) Z H x t F ∧ qItems t = some ds ∧ gSort0 ds = some t' ∧ NewR (cc X xa) Z H t' Q) := by
  intro pins s σ H vs us Q I rv h
  obtain ⟨x, Z, t, F, ds, t', rfl, sm, w, e1, e2, n⟩ := h
  obtain ⟨u, rfl, ru⟩ := vals1 rv
  obtain ⟨k1, k2, rfl⟩ := gSort0_eq e2
  obtain ⟨xs, vs, rx, rp, hcol⟩ := src_colls I sm ru w e1
  refine sorted_src hcol (I.ok.hd hc) (args_sorted1 _) (fun _ => args_list_sort _) fun h' tk E' kp => ?_
  have na : s.heap.get? h'.objs.size = none := by
    cases e : s.heap.get? h'.objs.size with
    | none => rfl
    | some o => exact absurd (Heap.lt_size (kp _ o e)) (Nat.lt_irrefl _)
  have ho : (h'.push (seqObj "list" vs.toArray 0)).get? h'.objs.size = some (seqObj "list" vs.toArray 0) := Heap.get?_push_size _ rfl
  have kp2 : Keeps s.heap (PySem.W.sortingHeap (h'.push (seqObj "list" vs.toArray 0)) h'.objs.size vs) := fun b o hb => PySem.W.sortingHeap_old (fun z => by (rw [z, na] at hb; cases hb)) (Heap.get?_push_of_some _ (kp b o hb))
  have rd : PySem.W.EachIs (fun v d => ∃ as, Reads (PySem.W.sortingHeap (h'.push (seqObj "list" vs.toArray 0)) h'.objs.size vs) v d as) vs ds :=
    (reads_of I sm rx rp fun d hd => (k1.lay d hd).1).mono fun v d ⟨as, q⟩ => ⟨as, PyProof.Rows.Reads.keeps kp2 q⟩
  have S : PySem.W.SortsAt X.prog X.w X.A.in1.in1 { s with heap := PySem.W.sortingHeap (h'.push (seqObj "list" vs.toArray 0)) h'.objs.size vs, toks := tk } (PySem.W.dataKind (PySem.W.sortingHeap (h'.push (seqObj "list" vs.toArray 0)) h'.objs.size vs) ds) vs :=
    sorts_cmp (s := { s with heap := PySem.W.sortingHeap (h'.push (seqObj "list" vs.toArray 0)) h'.objs.size vs, toks := tk }) rd k1 hu
  refine PySem.W.list_sort_vals (s := { s with heap := h'.push (seqObj "list" vs.toArray 0), toks := tk }) ho S hcol.1 ⟨rfl, ?_⟩
  have zs := PySem.W.sortVals_each (κ := PySem.W.dataKind (PySem.W.sortingHeap (h'.push (seqObj "list" vs.toArray 0)) h'.objs.size vs) ds) (rev := false) (bs := ds) (R := fun u d => ∃ x, RelV x u ∧ Rp (cc X xa) Z x d) (fun d => tkA d)
    (each_of rx rp fun x u d r p => ⟨x, r, p⟩) ((PySem.W.each_mem rd).mono fun u k ⟨⟨as, q⟩, m⟩ => kd_some (fun d hd => (k1.lay d hd).1) m q)
  obtain ⟨ys, y1, y2⟩ : ∃ ys, Vals ys (PySem.W.sortVals (PySem.W.dataKind (PySem.W.sortingHeap (h'.push (seqObj "list" vs.toArray 0)) h'.objs.size vs) ds) false vs vs) ∧ RpL (cc X xa) Z ys (sortD ds) := by
    have go : ∀ {us : List Value} {ps : List D}, PySem.W.EachIs (fun u p => ∃ x, RelV x u ∧ Rp (cc X xa) Z x p) us ps → ∃ xs, Vals xs us ∧ RpL (cc X xa) Z xs ps := by
      intro us ps r
      induction r with
      | nil => exact ⟨[], .nil, .nil⟩
      | cons h _ ih =>
        obtain ⟨x, r, p⟩ := h
        obtain ⟨xs, h1, h2⟩ := ih
        exact ⟨x :: xs, .cons r h1, .cons p h2⟩
    exact go zs
  obtain ⟨ep, at3⟩ := PyProof.Rows.sortedHeap_at (vs := vs) (out := (PySem.W.sortVals (PySem.W.dataKind (PySem.W.sortingHeap (h'.push (seqObj "list" vs.toArray 0)) h'.objs.size vs) ds) false vs vs).toArray) ho
  have hz3 : ys.length ≤ sizeLine := by
    have e1 := y1.length
    rw [PySem.W.sortVals_length false rfl] at e1
    have := hcol.1
    omega
  refine ⟨.ref h'.objs.size, upd H h'.objs.size (.lst ys), I.put (fun b o hb => ?_) na ⟨hz3, _, ep, y1, at3⟩, rfl, new_list n sm (Same.refl _) (I.noTrack na) y2⟩
  have hb2 := Heap.get?_push_of_some (seqObj "list" vs.toArray 0) (kp b o hb)
  show (PyProof.Rows.sortedHeap (h'.push (seqObj "list" vs.toArray 0)) h'.objs.size vs _).get? b = some o
  rw [PyProof.Rows.sortedHeap_old (fun z => by (rw [z, na] at hb; cases hb)) (Heap.lt_size hb2)]
  exact hb2
theorem prim_sort0 {A : Around} (hc : X.calm = true) (hr : A.in1.in1.units + 64 < cLine) (e : X.A = A := by rfl) : ∃ r, CallR X (.builtin "sorted") r ∧ Prim (cc X xa) r gSorted := by
  subst e
  refine ⟨_, cr_sort0 (xa := xa) hc hr, fun Z H vs ts t Q s r e n => ?_⟩
  unfold gSorted at e
  split at e
  · rename_i t1
    split at e
    · rename_i ds hd
      cases r with
      | @cons v _ _ _ F0 w r =>
        cases r
        exact ⟨v, Z, t1, F0, ds, t, rfl, s, w, hd, e, n⟩
    · cases e
  · cases e
end
end VL

end

section
set_option Elab.async false
set_option linter.all false
set_option maxRecDepth 100000
set_option maxHeartbeats 1000000
namespace VL
open PySem PySem.Spec PyProof.Rows L2
/-! ### sorted(xs), the rule -/
theorem ve_sorted {X : Cx} {xa : Str → Option Addr} {E : XS} {pu : Bool} {e : Expr} {f : Ev → Res (List PH)} {p pos : Pos} {A : Around} {k : Nat} (hc : X.calm = true) (hr : Room k A) (hg : Gl X "sorted") (hm : X.mg "sorted" = none) (ha : VPs X xa E pu [e] f) (e1 : X.A = A := by rfl)
    (he : starEach [e] X.env = (false, eval e X.env) :: starEach [] X.env := by rfl) (hpl : (backTo pos (starEach [] X.env)).any (·.1) = false := by rfl) : VE X xa E pu (.Call (.Name "sorted" p) [e] [] pos) (fOps gSorted f) := by
  obtain ⟨r, h1, h2⟩ := prim_sort0 (X := X) (xa := xa) (A := A) hc (by have := hr.un; show A.units + 1 + 1 + 64 < _; omega) e1
  exact ve_callB h1 h2 hg hm (by decide +kernel) ha (by decide) (by decide) he hpl
/-! ### constants of the module -/
def ConstAt (K : PySem.W.Frag) (mg : Str → Option Value) (x : Str) (d : D) : Prop := ∃ v u, mg x = some u ∧ RelV v u ∧ ∀ (w : World) (xa : Str → Option Addr) (Z : Hp), Rp ⟨K, w, xa⟩ Z v d
theorem ve_const {X : Cx} {xa : Str → Option Addr} {E : XS} {x : Str} {d : D} {pos : Pos} (h : ConstAt X.K X.mg x d) (hg : Gl X x) (hd : (x == ("__debug__" : Str)) = false := by decide) : VE X xa E true (.Name x pos) (fC d) := by
  obtain ⟨v, u, h1, h2, h3⟩ := h
  exact ve_glob hg h1 h2 (fun Z => h3 X.w xa Z) hd
def tabAt : List (Str × D) → Str → Option D
  | [], _ => none
  | (k, d) :: r, z => if z = k then some d else tabAt r z
def gTab (tb : List (Str × D)) : OT → Option OT
  | .sh (.str z) => (tabAt tb z).map .sh
  | _ => none
@[simp] theorem gTab_s (tb : List (Str × D)) (z : Str) : gTab tb (.sh (.str z)) = (tabAt tb z).map .sh := rfl
def KTab (K : PySem.W.Frag) (w : World) (mg : Str → Option Value) (x : Str) (tb : List (Str × D)) : Prop := ∃ p, mg x = some (.ref p) ∧ ∀ z d, tabAt tb z = some d → ∃ v, KDct K w p z v ∧ ∀ (xa : Str → Option Addr) (Z : Hp), Rp ⟨K, w, xa⟩ Z v d
theorem ve_ktab {X : Cx} {xa : Str → Option Addr} {E : XS} {pu : Bool} {x : Str} {tb : List (Str × D)} {b : Expr} {f : Ev → Res PH} {p pos : Pos} (h : KTab X.K X.w X.mg x tb) (hg : Gl X x) (hb : VP X xa E pu b f) (hs : PlainIx b) (hd : (x == ("__debug__" : Str)) = false := by decide) :
    VE X xa E pu (.Subscript (.Name x p) b pos) (fOp1 (gTab tb) f) := by
  obtain ⟨q, h1, h2⟩ := h
  refine (pe_ix ix_kdict (pe_glob (v := .ref q) hg h1 rfl hd) hb hs).imp fun σ H Q ⟨Z, ρ, F, ok, hq⟩ => ?_
  refine ⟨Z, ρ, F, ok, ?_⟩
  unfold fOp1 at hq
  cases r : f ρ with
  | bad => rw [r] at hq; exact hq
  | exc x ρ' => rw [r] at hq; exact hq
  | ok h ρ1 =>
    rw [r, Res.bind_ok] at hq
    intro v H1 Z1 F1 o1 w1 a1 k1
    have q1 := rV.later (pu' := true) hq a1 fun z => ⟨rfl, k1 z⟩
    cases e1 : h.get ρ1 with
    | none => rw [e1] at q1; exact q1.elim
    | some t =>
      rw [e1] at q1
      obtain ⟨Ft, w⟩ := w1.read o1 e1
      have q2 : rV (cc X xa) E true Z1 H1 σ ρ1 F1 (Res.of (gTab tb t) ρ1) Q := q1
      unfold gTab at q2
      split at q2
      · rename_i z
        have ev := str_read w
        subst ev
        cases e2 : tabAt tb z with
        | none => rw [e2] at q2; exact q2.elim
        | some d =>
          rw [e2] at q2
          obtain ⟨v', kd, rp⟩ := h2 z d e2
          exact ⟨q, z, v', rfl, rfl, kd, (o1.newR q2).now o1.same (rp xa Z1)⟩
      · exact q2.elim
section
variable {K : PySem.W.Frag} {mg : Str → Option Value} {h : Heap} {x : Str} {q : Addr}
theorem const_tup {es : Array Value} {od : Option Addr} {n : Nat} {sl : Array (Option Value)} (KX : K.In h) (G : h.Ns mainGlobals mg) (a : PySem.W.nsIn K mainGlobals x = some (some (.ref q))) (l : K.lookup q = some ⟨.type "tuple", od, .seq es n, sl⟩)
    (vs : List V) (ds : List D) (r : Vals vs es.toList) (hz : es.size ≤ 1000) (rd : ∀ (c : VC) (Z : Hp), RpL c Z vs ds) (nc : isCh ds = false := by rfl) : ConstAt K mg x (.tuple ds) :=
  ⟨.ref q, .ref q, PySem.W.mg_of KX G a, rfl, fun w xa Z => .tup (.inr ⟨_, es, n, l, rfl, rfl, by rw [sizeLine_eq]; omega, r⟩) (rd _ Z) fun z => by rw [nc] at z; cases z⟩
theorem const_int {i : Int} {t : Tok} (KX : K.In h) (G : h.Ns mainGlobals mg) (a : PySem.W.nsIn K mainGlobals x = some (some (.int i t))) : ConstAt K mg x (.int i) := ⟨.int i, _, PySem.W.mg_of KX G a, ⟨_, rfl⟩, fun _ _ _ => .int i⟩
theorem const_str {i : Str} {t : Tok} (KX : K.In h) (G : h.Ns mainGlobals mg) (a : PySem.W.nsIn K mainGlobals x = some (some (.str i t))) : ConstAt K mg x (.str i) := ⟨.str i, _, PySem.W.mg_of KX G a, ⟨_, rfl⟩, fun _ _ _ => .str i⟩
/-- the entries of a written dict -/
inductive TabOk (K : PySem.W.Frag) (q : Addr) : List (Str × D) → Prop
  | nil : TabOk K q []
  | str {k x : Str} {t : Tok} {r : List (Str × D)} : PySem.W.nsIn K q k = some (some (.str x t)) → TabOk K q r → TabOk K q ((k, .str x) :: r)
  | int {k : Str} {i : Int} {t : Tok} {r : List (Str × D)} : PySem.W.nsIn K q k = some (some (.int i t)) → TabOk K q r → TabOk K q ((k, .int i) :: r)
theorem ktab_mk {w : World} {es : Array DictEntry} {n : Nat} {tb : List (Str × D)} (KX : K.In h) (G : h.Ns mainGlobals mg) (a : PySem.W.nsIn K mainGlobals x = some (some (.ref q))) (l : K.lookup q = some ⟨.type "dict", none, .dict es n, #[]⟩) (kl : PySem.W.KeysLit w.params es.toList) (t : TabOk K q tb) : KTab K w mg x tb := by
  refine ⟨q, PySem.W.mg_of KX G a, ?_⟩
  induction t with
  | nil => intro z d e; cases e
  | str e _ ih =>
    intro z d hz
    unfold tabAt at hz
    split at hz
    · rename_i ez
      subst ez
      cases hz
      exact ⟨.str _, ⟨es, n, _, l, kl, e, ⟨_, rfl⟩⟩, fun _ _ => .str _⟩
    · exact ih z d hz
  | int e _ ih =>
    intro z d hz
    unfold tabAt at hz
    split at hz
    · rename_i ez
      subst ez
      cases hz
      exact ⟨.int _, ⟨es, n, _, l, kl, e, ⟨_, rfl⟩⟩, fun _ _ => .int _⟩
    · exact ih z d hz
end
end VL

end

section
set_option Elab.async false
set_option linter.all false
set_option maxRecDepth 100000
set_option maxHeartbeats 1000000
namespace VL
open PySem PySem.Spec PyProof.Rows L2

section
variable {X : Cx} {xa : Str → Option Addr} {E : XS} {kp : List Nat} {pu p1 p2 : Bool} {e a b c0 : Expr} {es : List Expr} {pos : Pos}
/-- x, y, z = a, b, c -/
def fPar3 (i j l : Nat) (fa : Ev → Res (List Arg)) : Ev → Out := fun ρ => eS (fa ρ) fun as ρ1 => match as with
  | [s, t, u] => .nx (((ρ1.set i s.1).set j t.1).set l u.1)
  | _ => .bad
theorem vs_par3 {i j l : Nat} {x y z : Str} {fa : Ev → Res (List Arg)} {px py pz pt : Pos} {kt k2 pt2} (hc : X.calm = true) (hN : X.N.Nodup) (hi : X.N[i]? = some x) (hj : X.N[j]? = some y) (hl : X.N[l]? = some z) (hij : i ≠ j) (hil : i ≠ l) (hjl : j ≠ l)
    (hx : X.env.scope.names.lookup x = some .local) (hy : X.env.scope.names.lookup y = some .local) (hz : X.env.scope.names.lookup z = some .local) (ha : VA X xa E [a, b, c0] fa) (hk : i ∉ kp) (hk2 : j ∉ kp) (hk3 : l ∉ kp)
    (hw : swappedStores [.Tuple [.Name x px, .Name y py, .Name z pz] kt pt] (.Tuple [a, b, c0] k2 pt2) X.env = pure (some [x, y, z]))
    (hs : swapsWithSole [.Tuple [.Name x px, .Name y py, .Name z pz] kt pt] (.Tuple [a, b, c0] k2 pt2) pos.line X.env = pure false := by rfl) :
    VS X xa E kp (.Assign [.Tuple [.Name x px, .Name y py, .Name z pz] kt pt] (.Tuple [a, b, c0] k2 pt2) pos) (fPar3 i j l fa) := (ps_par3 hc hN hi hj hl hij hil hjl hx hy hz ha hw hs).imp fun D σ H ⟨Z, ρ, F, ok, q⟩ => by
  refine ⟨Z, ρ, F, ok, ?_⟩
  unfold fPar3 at q
  cases r1 : fa ρ with
  | bad => rw [r1] at q; exact q
  | exc x ρ' =>
    rw [r1] at q
    exact fun cls d H' Z' F' o xr a => q cls d σ H' Z' F' o xr a (Kept.refl _ _)
  | ok as ρ1 =>
    rw [r1, eS_ok] at q
    intro vs H1 Z1 F1 Fs o1 w1 n1 sp1 _ a1
    split at q
    · rename_i s t u0
      cases w1 with
      | @cons v _ vs _ F2 G2 w w1 =>
        cases w1 with
        | @cons u _ _ _ F3 G3 w3 w4 =>
          cases w4 with
          | @cons u5 _ _ _ F6 G6 w6 w7 =>
            cases w7
            refine ⟨v, u, u5, rfl, ?_⟩
            have n2 : (F2 ++ (F3 ++ (F6 ++ F1))).Nodup := by simpa [List.append_assoc] using n1
            obtain ⟨m1, m2, m3⟩ := List.nodup_append.mp n2
            obtain ⟨c1, c2, c3⟩ := List.nodup_append.mp m2
            obtain ⟨d1, d2, d3⟩ := List.nodup_append.mp c2
            obtain ⟨F4, o4, s4⟩ := o1.assign i w (List.nodup_append.mpr ⟨m1, d2, fun p hp q hq e => m3 p hp q (List.mem_append_right _ (List.mem_append_right _ hq)) e⟩) fun p hp => sp1 p (by simp [hp])
            obtain ⟨F5, o5, s5⟩ := o4.assign j w3 (List.nodup_append.mpr ⟨c1, o4.nd, fun p hp q hq e => by
              subst e
              rcases List.mem_append.mp (s4 p hq) with z | z
              · exact m3 p z p (List.mem_append_left _ hp) rfl
              · exact c3 p hp p (List.mem_append_right _ z) rfl⟩) fun p hp => sp1 p (by simp [hp])
            obtain ⟨F7, o7, s7⟩ := o5.assign l w6 (List.nodup_append.mpr ⟨d1, o5.nd, fun p hp q hq e => by
              subst e
              rcases List.mem_append.mp (s5 p hq) with z | z
              · exact c3 p z p (List.mem_append_left _ hp) rfl
              · rcases List.mem_append.mp (s4 p z) with y | y
                · exact m3 p y p (List.mem_append_right _ (List.mem_append_left _ hp)) rfl
                · exact d3 p hp p y rfl⟩) fun p hp => sp1 p (by simp [hp])
            refine q _ H1 Z1 F7 o7 (a1.to fun p hp => ?_) (((kept_set hk).trans (kept_set hk2)).trans (kept_set hk3))
            rcases List.mem_append.mp (s7 p hp) with z | z
            · simp [z]
            · rcases List.mem_append.mp (s5 p z) with y | y
              · simp [y]
              · rcases List.mem_append.mp (s4 p y) with x | x
                · simp [x]
                · simp [x]
    · exact q.elim

/-! ### targets that change an owned list -/
def rG2 (c : VC) (kp : List Nat) (Z H : Hp) (σ : St) (F : List Addr) (o : Option Ev) (Q : St → Hp → Prop) : Prop :=
  match o with
  | none => False
  | some ρ' => ∀ σ' H' Z' F', Ok c Z' H' σ' ρ' F' → After Z H F Z' H' F' → Kept kp σ σ' → Q σ' H'
def tG2 (c : VC) (kp : List Nat) (g : D → Ev → Option Ev) : TG := fun v σ H Q => ∃ Z ρ F d, Ok c Z H σ ρ F ∧ Rp c Z v d ∧ rG2 c kp Z H σ F (g d ρ) Q
def tGs2 (c : VC) (kp : List Nat) (g : List D → Ev → Option Ev) : TGs := fun vs σ H Q => ∃ Z ρ F ds, Ok c Z H σ ρ F ∧ RpL c Z vs ds ∧ rG2 c kp Z H σ F (g ds ρ) Q
abbrev VG2 (X : Cx) (xa : Str → Option Addr) (kp : List Nat) (tg : Expr) (g : D → Ev → Option Ev) : Prop := PG X tg (tG2 (cc X xa) kp g)
abbrev VGs2 (X : Cx) (xa : Str → Option Addr) (kp : List Nat) (tg : List Expr) (g : List D → Ev → Option Ev) : Prop := PGs X tg (tGs2 (cc X xa) kp g)
theorem vg2_of {tg : Expr} {g : D → Ev → Option Ev} (h : VG X xa kp tg g) : VG2 X xa kp tg g := h.imp fun v σ H Q ⟨Z, ρ, F, d, ok, r, q⟩ => by
  refine ⟨Z, ρ, F, d, ok, r, ?_⟩
  cases e1 : g d ρ with
  | none => rw [e1] at q; exact q
  | some ρ1 =>
    rw [e1] at q
    exact fun σ' F' o s k => q σ' H Z F' o ((After.refl Z H F).to s) k
theorem vgs2_nil : VGs2 X xa kp [] gsNil := pgs_nil.imp fun v σ H Q ⟨Z, ρ, F, ds, ok, r, q⟩ => by
  cases r with
  | nil => exact ⟨rfl, q σ H Z F ok (After.refl _ _ _) (Kept.refl _ _)⟩
  | cons _ _ => exact q.elim
theorem vgs2_cons {es : List Expr} {g : D → Ev → Option Ev} {k : List D → Ev → Option Ev} (h1 : VG2 X xa kp e g) (h2 : VGs2 X xa kp es k) (hs : (assignEach (e :: es) X.env).map (·.2) = assign e X.env :: (assignEach es X.env).map (·.2) := by rfl) :
    VGs2 X xa kp (e :: es) (gsCons g k) := (pgs_cons h1 h2 hs).imp fun v σ H Q ⟨Z, ρ, F, ds, ok, r, q⟩ => by
  cases r with
  | nil => exact q.elim
  | @cons v d vs ds r rs =>
    refine ⟨v, vs, rfl, Z, ρ, F, d, ok, r, ?_⟩
    have q1 : rG2 (cc X xa) kp Z H σ F ((g d ρ).bind (k ds)) Q := q
    cases e1 : g d ρ with
    | none => rw [e1] at q1; exact q1
    | some ρ1 =>
      rw [e1, Option.bind_some] at q1
      intro σ1 H1 Z1 F1 o1 a1 k1
      refine ⟨Z1, ρ1, F1, ds, o1, RpL.mono a1.same rs, ?_⟩
      cases e2 : k ds ρ1 with
      | none => rw [e2] at q1; exact q1
      | some ρ2 =>
        rw [e2] at q1
        exact fun σ2 H2 Z2 F2 o2 a2 k2 => q1 σ2 H2 Z2 F2 o2 (a1.trans a2) (k1.trans k2)
theorem vg2_tup {es : List Expr} {k : Nat} {g : List D → Ev → Option Ev} {n : Nat} (hc : X.calm = true) (h : VGs2 X xa kp es g)
    (hn : (assignEach es X.env).length = n := by rfl) (hst : (assignEach es X.env).findIdx? (·.1) = none := by rfl) : VG2 X xa kp (.Tuple es k pos) (gTp n g) := (pg_seq hc h hn hst).imp fun v σ H Q ⟨Z, ρ, F, d, ok, r, q⟩ => by
  cases r with
  | @tup a xs ds hq l _ =>
    have q1 : rG2 (cc X xa) kp Z H σ F (if ds.length = n then g ds ρ else none) Q := q
    by_cases hl : ds.length = n
    · rw [if_pos hl] at q1
      exact .inl ⟨a, xs, rfl, SqT.mono ok.same hq, l.length.trans hl, Z, ρ, F, ds, ok, l, q1⟩
    · rw [if_neg hl] at q1
      exact q1.elim
  | @lst a xs ds hq l =>
    have q1 : rG2 (cc X xa) kp Z H σ F (if ds.length = n then g ds ρ else none) Q := q
    by_cases hl : ds.length = n
    · rw [if_pos hl] at q1
      exact .inr ⟨a, xs, rfl, ok.same.seq hq, l.length.trans hl, Z, ρ, F, ds, ok, l, q1⟩
    · rw [if_neg hl] at q1
      exact q1.elim
  | _ => exact q.elim
/-- x[e] as a target of a frozen value -/
def gSt (i : Nat) (fi : Ev → Res OT) : D → Ev → Option Ev := fun d ρ => match slotAt ρ i with
  | some _ => (match fi ρ with
    | .ok (.sh (.int k)) ρ2 => (match slotAt ρ2 i with
      | some (.lst ts) => (ixN ts.length k).map fun j => ρ2.set i (.lst (ts.set j (.sh d)))
      | _ => none)
    | _ => none)
  | none => none
theorem vg2_st {i : Nat} {x : Str} {ix : Expr} {fi : Ev → Res OT} {npos spos : Pos} (hv : PE X (.Name x npos) (tVar i)) (hi : VE X xa E p2 ix fi)
    (ha : ∀ v, assign (.Subscript (.Name x npos) ix spos) X.env v = (do
      let ov ← holding [v] (eval (.Name x npos) X.env)
      let iv ← holding [v, ov] (eval ix X.env)
      standAt spos
      holding [v, ov, iv] (setItem ov iv v)
      release [v, ov, iv] []) := by intro _; rfl) : VG2 X xa kp (.Subscript (.Name x npos) ix spos) (gSt i fi) := (pg_sub hv hi set_list ha).imp fun v σ H Q ⟨Z, ρ, F, d, ok, r, q⟩ => by
  unfold gSt at q
  cases e1 : slotAt ρ i with
  | none => rw [e1] at q; exact q.elim
  | some t1 =>
    rw [e1] at q
    dsimp only at q
    obtain ⟨h1, h2⟩ := slotAt_eq e1
    obtain ⟨v0, F0, G0, hv0, _⟩ := ok.own.takeOut h1 h2
    refine ⟨v0, hv0, Z, ρ, F, ok, ?_⟩
    cases r2 : fi ρ with
    | bad => rw [r2] at q; exact q.elim
    | exc x ρ' => rw [r2] at q; exact q.elim
    | ok kt ρ2 =>
      rw [r2] at q
      intro iv H2 Z2 F2 Fk o2 w2 n2 sp2 a2 _
      have a2' := a2.less
      split at q
      · rename_i k ρ2' e2
        cases e2
        have ei := int_read w2
        subst ei
        split at q
        · rename_i ts e3
          cases hj : ixN ts.length k with
          | none => rw [hj] at q; exact q.elim
          | some j =>
            rw [hj, Option.map_some] at q
            obtain ⟨h3, h4⟩ := slotAt_eq e3
            obtain ⟨p, xs, Fi, hv1, hp, l, nFF, pn, go⟩ := o2.mut (Fs := []) h3 o2.nd (fun _ z => nomatch z) (fun _ z => nomatch z)
            rw [hv0] at hv1
            cases hv1
            have hjl := ixN_lt hj
            obtain ⟨u, Fu, G, hu, wu, pu, lens⟩ := l.lens (j := j) (t := ts[j]) (by simp [hjl])
            refine ⟨p, xs, k, j, rfl, rfl, hp, by rw [l.length]; exact hj, ?_⟩
            have inFi : ∀ q ∈ G, q ∈ Fi := fun q hq => pu.mem_iff.mpr (List.mem_append_right _ hq)
            obtain ⟨F', l', pm⟩ := lens (upd H2 p (.lst (xs.set j v))) v (.sh d) [] (fun q hq o ho => by rw [upd_off pn.1 (inFi q hq)]; exact ho) (.sh (Rp.mono a2.same r))
            have nG := (List.nodup_append.mp ((pu.nodup_iff).mp (List.nodup_append.mp nFF).1)).2.1
            have n' : F'.Nodup := (pm.nodup_iff).mpr nG
            obtain ⟨F3, o3, n3, _, a3⟩ := go _ (ts.set j (.sh d)) F' .non (.sh .none) [] l' (.sh .non) n' fun q hq => List.mem_append_left _ (inFi q (pm.mem_iff.mp hq))
            exact q σ _ Z2 F3 o3 (a2'.trans a3) (Kept.refl _ _)
        · exact q.elim
      · exact q.elim
theorem vs_asg2 {tg : Expr} {f : Ev → Res OT} {g : D → Ev → Option Ev} (h : VE X xa E pu e f) (hg : VG2 X xa kp tg g) (hs : swapsWithSole [tg] e pos.line X.env = pure false := by rfl) (hw : swappedStores [tg] e X.env = pure none := by rfl)
    (h1 : (assignEach [tg] X.env).map (·.2) = [assign tg X.env] := by rfl) : VS X xa E kp (.Assign [tg] e pos) (fAsg g f) := (ps_asg h hg hs hw h1).imp fun D σ H ⟨Z, ρ, F, ok, q⟩ =>
  ⟨Z, ρ, F, ok, rV_of q fun t ρ' v H' Z' F' Ft o w n sp a q => by
    obtain ⟨o2, r2, a2⟩ := o.frozen w n sp
    refine ⟨_, ρ', F', t.d, o2, r2, ?_⟩
    cases e1 : g t.d ρ' with
    | none => rw [e1] at q; exact q
    | some ρ2 =>
      rw [e1] at q
      exact fun σ3 H3 Z3 F3 o3 a3 k3 => q σ3 H3 Z3 F3 o3 ((a2 a).trans a3) k3⟩

/-! ### xs.pop(i) -/
def GPopAt (ts as : List OT) : Option (OT × List OT) :=
  match as with
  | [.sh (.int i)] => if ts.length ≤ 1000000 then (ixN ts.length i).bind fun j => (ts[j]?).map fun t => (t, ts.eraseIdx j) else none
  | _ => none
theorem mut_popAt {c : VC} : MutP c rPopAt GPopAt := by
  intro Z H p xs vs ts as t ts' Fi Fs Q s hp p1 p2 l wa n e k
  unfold GPopAt at e
  split at e
  · rename_i i
    split at e
    · rename_i hl
      cases wa with
      | @cons v0 _ _ _ F0 _ w0 wa =>
        cases wa
        have e0 := int_read w0
        subst e0
        cases hj : ixN ts.length i with
        | none => rw [hj] at e; cases e
        | some j =>
          rw [hj, Option.bind_some] at e
          cases h : ts[j]? with
          | none => rw [h] at e; cases e
          | some t0 =>
            rw [h] at e
            cases e
            obtain ⟨v, Ft, G, hv, w, l2, pm⟩ := l.erase h
            have n' : (Ft ++ G).Nodup := (pm.nodup_iff).mp (List.nodup_append.mp n).1
            have inF : ∀ q ∈ Ft ++ G, q ∈ Fi := fun q hq => pm.mem_iff.mpr hq
            have nq : ∀ q ∈ Ft ++ G, ∀ o, H q = some o → upd H p (.lst (xs.eraseIdx j)) q = some o := fun q hq o ho => by rw [upd_off p1 (inF q hq)]; exact ho
            obtain ⟨s1, s2, s3, s4⟩ := ixN_seq hj
            exact ⟨p, xs, i, j, v, rfl, rfl, hp, by omega, by omega, by rw [l.length]; exact s1, hv, k _ v G Ft (l2.frame (Same.refl _) fun q hq => nq q (List.mem_append_right _ hq)) (w.frame (Same.refl _) fun q hq => nq q (List.mem_append_left _ hq)) n' fun q hq => List.mem_append_left _ (inF q hq)⟩
    · cases e
  · cases e
theorem ve_popAt {i : Nat} {x : Str} {fa : Ev → Res (List Arg)} {apos cpos npos : Pos} (hv : PE X (.Name x npos) (tVar i)) (ha : VA X xa E [e] fa)
    (hbase : attributeBase (.Name x npos) "pop" X.env (eval (.Name x npos) X.env) = eval (.Name x npos) X.env := by rfl)
    (hfew : ((backTo cpos (starEach [e] X.env)).all (fun x => !x.1) && (backToKw cpos (keywordEach [] X.env)).all (fun x => x.1.isSome)
      && decide ([e].length + ([] : List Keyword).length + (if ([] : List Keyword).isEmpty then 0 else 1) < 30)) = true := by rfl)
    (hline : (apos.endLine == cpos.line) = true := by rfl) (hs : starEach [e] X.env = (false, eval e X.env) :: starEach [] X.env := by rfl) (hplain : (backTo cpos (starEach [] X.env)).any (·.1) = false := by rfl) :
    VE X xa E false (.Call (.Attribute (.Name x npos) "pop" apos) [e] [] cpos) (fMeth GPopAt i fa) := (pe_bm PySem.F.plainAttrs_list PySem.F.slot_list_pop PySem.F.type_list_pop mt_popAt hv ha hbase hfew hline hs hplain).imp fun σ H Q q => tBM_ok mut_popAt q

/-! ### a list display, used at once -/
def fPn (f : Ev → Res OT) : Ev → Res PH := fun ρ => (f ρ).bind fun t ρ' => .ok (.nest t) ρ'
theorem vp_keep {f : Ev → Res OT} (h : VE X xa E pu e f) : VP X xa E pu e (fPn f) := h.imp fun σ H Q q => by
  obtain ⟨Z, ρ, F, ok, q⟩ := q
  refine ⟨Z, ρ, F, ok, ?_⟩
  unfold fPn at q
  cases r : f ρ with
  | bad => rw [r] at q; exact q
  | ok t ρ' =>
    rw [r] at q
    exact fun v H' Z' F' Ft o w n sp a hp => q v H' Z' F' o ⟨Ft, w⟩ a.less hp
  | exc x ρ' => rw [r] at q; exact q
def gRep (t1 t2 : OT) : Option OT :=
  match t1, t2 with
  | .lst l, .sh (.int k) => if -1000000 ≤ k ∧ k ≤ 1000000 ∧ l.length * k.toNat ≤ 1000000 then (shs l).map fun ds => .lst ((List.replicate k.toNat ds).flatten.map .sh) else none
  | _, _ => none
theorem rpl_rep {c : VC} {Z : Hp} {xs : List V} {ds : List D} (h : RpL c Z xs ds) : ∀ n, RpL c Z (List.replicate n xs).flatten (List.replicate n ds).flatten
  | 0 => .nil
  | n + 1 => by
    rw [List.replicate_succ, List.replicate_succ, List.flatten_cons, List.flatten_cons]
    exact h.append (rpl_rep h n)
theorem prim_rep {c : VC} : Prim2 c rRep gRep := by
  intro Z H v1 v2 t1 t2 F1 F2 t Q s w1 w2 e n
  unfold gRep at e
  split at e
  · rename_i l k
    split at e
    · rename_i hl
      cases h : shs l with
      | none => rw [h] at e; cases e
      | some ds =>
        rw [h] at e
        cases e
        have el := shs_eq h
        subst el
        have e0 := int_read w2
        subst e0
        cases w1 with
        | @lst p xs _ Fi hp lo =>
          obtain ⟨r, _⟩ := lo.shs
          refine ⟨p, k, xs, rfl, rfl, hp, by omega, by omega, ?_, fun p' hp' => n.lstNew s hp' (rpl_rep r _)⟩
          have := hl.2.2
          rw [List.length_map] at this
          rw [r.length]
          exact million_line this
    · cases e
  · cases e
end
end VL

end

section
set_option Elab.async false
set_option linter.all false
set_option maxRecDepth 100000
set_option maxHeartbeats 1000000
namespace VL
open PySem PySem.Spec PyProof.Rows L2

/-! ### min(list), all(list) -/
def gMin1 (ts : List OT) : Option OT :=
  match ts with
  | [t] => ((lItems t).bind intsOf).bind fun ns => ns.min?.map fun m => .sh (.int m)
  | _ => none
theorem prim_min1 {c : VC} : Prim c (L2.rMin c.K) gMin1 := by
  intro Z H vs ts t Q s r e n
  unfold gMin1 at e
  split at e
  · rename_i t0
    cases h : lItems t0 with
    | none => rw [h] at e; cases e
    | some l =>
      rw [h, Option.bind_some] at e
      cases h2 : intsOf l with
      | none => rw [h2] at e; cases e
      | some ns =>
        rw [h2, Option.bind_some] at e
        cases h3 : ns.min? with
        | none => rw [h3] at e; cases e
        | some m =>
          rw [h3] at e
          cases e
          cases r with
          | cons w r =>
            cases r
            obtain ⟨a, xs, rfl, q, rr⟩ := lst_read s w h
            rw [intsOf_eq h2] at rr
            have e1 := rr.ints
            subst e1
            have hm := List.min?_eq_some_iff.mp h3
            refine ⟨a, ns, rfl, q, List.length_pos_of_mem hm.1, fun m' h1 h2 => ?_⟩
            have e2 : m' = m := Int.le_antisymm (h2 m hm.1) (hm.2 m' h1)
            subst e2
            exact n.int s
  · cases e
def boolsOf : List D → Option (List Bool)
  | [] => some []
  | .bool b :: r => (boolsOf r).map (b :: ·)
  | _ :: _ => none
@[simp] theorem boolsOf_map (ns : List Bool) : boolsOf (ns.map .bool) = some ns := by
  induction ns with
  | nil => rfl
  | cons n ns ih => simp [boolsOf, ih]
theorem boolsOf_eq : ∀ {l : List D} {bs : List Bool}, boolsOf l = some bs → l = bs.map .bool
  | [], bs, h => by simp [boolsOf] at h; subst h; rfl
  | d :: l, bs, h => by
    cases d with
    | bool b =>
      cases e : boolsOf l with
      | none => simp [boolsOf, e] at h
      | some r =>
        simp [boolsOf, e] at h
        subst h
        simp [boolsOf_eq e]
    | _ => simp [boolsOf] at h
theorem RpL.bools {c : VC} {Z : Hp} : ∀ {xs : List V} {ns : List Bool}, RpL c Z xs (ns.map .bool) → xs = ns.map V.bl
  | _, [], .nil => rfl
  | _, n :: ns, .cons h l => by cases h; rw [RpL.bools l]; rfl
def gAll (ts : List OT) : Option OT :=
  match ts with
  | [t] => ((lItems t).bind boolsOf).map fun bs => .sh (.bool (bs.all id))
  | _ => none
theorem prim_all {c : VC} : Prim c (L2.rAll c.K) gAll := by
  intro Z H vs ts t Q s r e n
  unfold gAll at e
  split at e
  · rename_i t0
    cases h : lItems t0 with
    | none => rw [h] at e; cases e
    | some l =>
      rw [h, Option.bind_some] at e
      cases h2 : boolsOf l with
      | none => rw [h2] at e; cases e
      | some ns =>
        rw [h2] at e
        cases e
        cases r with
        | cons w r =>
          cases r
          obtain ⟨a, xs, rfl, q, rr⟩ := lst_read s w h
          rw [boolsOf_eq h2] at rr
          have e1 := rr.bools
          subst e1
          exact ⟨a, ns, rfl, q, n.now s (.bl _)⟩
  · cases e
@[simp] theorem gMin1_l (x : List D) : gMin1 [.sh (.list x)] = (intsOf x).bind fun ns => ns.min?.map fun m => .sh (.int m) := rfl
@[simp] theorem gMin1_o (x : List OT) : gMin1 [.lst x] = ((shs x).bind intsOf).bind fun ns => ns.min?.map fun m => .sh (.int m) := rfl
@[simp] theorem gAll_l (x : List D) : gAll [.sh (.list x)] = (boolsOf x).map fun bs => .sh (.bool (bs.all id)) := rfl
@[simp] theorem gAll_o (x : List OT) : gAll [.lst x] = ((shs x).bind boolsOf).map fun bs => .sh (.bool (bs.all id)) := rfl

/-! ### methods of a list within a list of one's own -/
section
variable {c : VC} {Z H : Hp}
theorem Ok.mut2 {σ : St} {ρ : Ev} {F : List Addr} {i j : Nat} {ts us : List OT} (ok : Ok c Z H σ ρ F) (hi : ρ[i]? = some (.lst ts)) (hj : ts[j]? = some (.lst us)) :
    ∃ p xs p2 ys Fy, σ[i]? = some (some (.ref p)) ∧ H p = some (.lst xs) ∧ xs[j]? = some (.ref p2) ∧ xs.length = ts.length ∧ H p2 = some (.lst ys) ∧ OwnL c Z H ys us Fy ∧ Fy.Nodup ∧ p2 ∉ Fy ∧
      ∀ ys' us' Fy' v t Ft, OwnL c Z (upd H p2 (.lst ys')) ys' us' Fy' → Own c Z (upd H p2 (.lst ys')) v t Ft → (Ft ++ Fy').Nodup → (∀ q ∈ Ft ++ Fy', q ∈ Fy) →
      ∃ F', Ok c Z (upd H p2 (.lst ys')) σ (ρ.set i (.lst (ts.set j (.lst us')))) F' ∧ (Ft ++ F').Nodup ∧ (∀ q ∈ Ft, Z q = none) ∧ After Z H F Z (upd H p2 (.lst ys')) (Ft ++ F') := by
  obtain ⟨v0, F0, G, hv, w, o2, n2, sp2, pp⟩ := ok.moved hi (fun z => nomatch z)
  cases w with
  | @lst p xs _ Fi hp l =>
    obtain ⟨m1, m2, m3⟩ := List.nodup_append.mp n2
    obtain ⟨pFi, nFi⟩ := List.nodup_cons.mp m1
    obtain ⟨u, Fu, G1, hu, wu, pu, lens⟩ := l.lens hj
    cases wu with
    | @lst p2 ys _ Fy hy ly =>
      have n3 : (p2 :: Fy ++ G1).Nodup := (pu.nodup_iff).mp nFi
      obtain ⟨c1, c2, c3⟩ := List.nodup_append.mp n3
      obtain ⟨d1, d2⟩ := List.nodup_cons.mp c1
      have inFi : ∀ q ∈ p2 :: Fy, q ∈ Fi := fun q hq => pu.mem_iff.mpr (List.mem_append_left _ hq)
      have inG1 : ∀ q ∈ G1, q ∈ Fi := fun q hq => pu.mem_iff.mpr (List.mem_append_right _ hq)
      have inF : ∀ q ∈ p :: Fi, q ∈ F := fun q hq => pp.mem_iff.mpr (List.mem_append_left _ hq)
      have inG : ∀ q ∈ G, q ∈ F := fun q hq => pp.mem_iff.mpr (List.mem_append_right _ hq)
      have p2p : p ≠ p2 := fun e => pFi (e ▸ inFi p2 (by simp))
      have p2G : p2 ∉ G := fun z => m3 p2 (List.mem_cons_of_mem _ (inFi p2 (by simp))) p2 z rfl
      have p2G1 : p2 ∉ G1 := fun z => c3 p2 (by simp) p2 z rfl
      have hxs : xs.set j (.ref p2) = xs := by
        apply List.ext_getElem?
        intro m
        by_cases hm : j = m
        · subst hm
          rw [List.getElem?_set_self (List.getElem?_eq_some_iff.mp hu).1, hu]
        · rw [List.getElem?_set_ne hm]
      refine ⟨p, xs, p2, ys, Fy, hv, hp, hu, l.length, hy, ly, d2, d1, fun ys' us' Fy' v t Ft l' w' nd sub => ?_⟩
      obtain ⟨k1, k2, k3⟩ := List.nodup_append.mp nd
      have inFy : ∀ q ∈ Fy', q ∈ Fy := fun q hq => sub q (List.mem_append_right _ hq)
      have wl2 : Own c Z (upd H p2 (.lst ys')) (.ref p2) (.lst us') (p2 :: Fy') := .lst upd_same l'
      obtain ⟨F6, l6, pm6⟩ := lens (upd H p2 (.lst ys')) (.ref p2) (.lst us') (p2 :: Fy') (fun q hq o ho => by rw [upd_off p2G1 hq]; exact ho) wl2
      rw [hxs] at l6
      have in6 : ∀ q ∈ F6, q ∈ Fi := fun q hq => by
        rcases List.mem_append.mp (pm6.mem_iff.mp hq) with y | y
        · rcases List.mem_cons.mp y with y | y
          · exact inFi q (by simp [y])
          · exact inFi q (List.mem_cons_of_mem _ (inFy q y))
        · exact inG1 q y
      have n6 : F6.Nodup := by
        refine (pm6.nodup_iff).mpr (List.nodup_append.mpr ⟨List.nodup_cons.mpr ⟨fun y => d1 (inFy p2 y), k2⟩, c2, fun a ha b hb e => ?_⟩)
        subst e
        rcases List.mem_cons.mp ha with y | y
        · exact p2G1 (y ▸ hb)
        · exact c3 a (List.mem_cons_of_mem _ (inFy a y)) a hb rfl
      have z2 : Z p2 = none := sp2 p2 (List.mem_cons_of_mem _ (inFi p2 (by simp)))
      have oG : Ok c Z (upd H p2 (.lst ys')) σ (ρ.set i .mv) G := ⟨fun q o hq => by
        rw [upd_ne (fun e => by rw [e, z2] at hq; cases hq)]
        exact o2.same q o hq, o2.own.frame (Same.refl _) fun q hq o ho => by rw [upd_off p2G hq]; exact ho, o2.nd, o2.sep⟩
      have wl : Own c Z (upd H p2 (.lst ys')) (.ref p) (.lst (ts.set j (.lst us'))) (p :: F6) := .lst (by rw [upd_ne p2p]; exact hp) l6
      have nn : (p :: F6 ++ G).Nodup := List.nodup_cons.mpr ⟨fun z => (List.mem_append.mp z).elim (fun y => pFi (in6 p y)) fun y => m3 p (by simp) p y rfl, List.nodup_append.mpr ⟨n6, m2, fun a ha b hb e => m3 a (List.mem_cons_of_mem _ (in6 a ha)) b hb e⟩⟩
      have nz : ∀ q ∈ p :: F6, Z q = none := fun q hq => (List.mem_cons.mp hq).elim (fun y => by rw [y]; exact sp2 p (by simp)) fun y => sp2 q (List.mem_cons_of_mem _ (in6 q y))
      obtain ⟨F', o', s'⟩ := oG.unlock hv wl nn nz
      rw [List.set_set] at o'
      have ftFy : ∀ q ∈ Ft, q ∈ Fy := fun q hq => sub q (List.mem_append_left _ hq)
      have ftF : ∀ q ∈ Ft, q ∈ Fi := fun q hq => inFi q (List.mem_cons_of_mem _ (ftFy q hq))
      refine ⟨F', o', List.nodup_append.mpr ⟨k1, o'.nd, fun a ha b hb e => ?_⟩, fun q hq => sp2 q (List.mem_cons_of_mem _ (ftF q hq)), ⟨Same.refl _, fun q o hq nq => ?_, fun q hq => .inl ?_, fun q hq => .inl hq⟩⟩
      · subst e
        rcases List.mem_append.mp (s' a hb) with z | z
        · rcases List.mem_cons.mp z with y | y
          · exact pFi (y ▸ ftF a ha)
          · rcases List.mem_append.mp (pm6.mem_iff.mp y) with x | x
            · rcases List.mem_cons.mp x with x | x
              · exact d1 (x ▸ ftFy a ha)
              · exact k3 a ha a x rfl
            · exact c3 a (List.mem_cons_of_mem _ (ftFy a ha)) a x rfl
        · exact m3 a (List.mem_cons_of_mem _ (ftF a ha)) a z rfl
      · rw [upd_ne (fun e => nq (inF q (List.mem_cons_of_mem _ (inFi q (by simp [e])))))]
        exact hq
      · rcases List.mem_append.mp hq with z | z
        · exact inF q (List.mem_cons_of_mem _ (ftF q z))
        · rcases List.mem_append.mp (s' q z) with y | y
          · rcases List.mem_cons.mp y with x | x
            · exact inF q (by simp [x])
            · exact inF q (List.mem_cons_of_mem _ (in6 q x))
          · exact inG q y
end
def fMeth2 (G : List OT → List OT → Option (OT × List OT)) (i : Nat) (f1 : Ev → Res OT) (fa : Ev → Res (List PH)) : Ev → Res OT := fun ρ => match slotAt ρ i with
  | some _ => (f1 ρ).bind fun k ρ1 => (match slotAt ρ1 i, k with
    | some (.lst ts), .sh (.int k) => (match ixN ts.length k with
      | some j => (match ts[j]? with
        | some (.lst us) => (fa ρ1).bind fun hs ρ2 => (match (gets hs ρ2).bind shs with
          | some ds => (match G us (ds.map .sh) with
            | some (t, us') => .ok t (ρ2.set i (.lst (ts.set j (.lst us'))))
            | none => .bad)
          | none => .bad)
        | _ => .bad)
      | none => .bad)
    | _, _ => .bad)
  | none => .bad
section
variable {X : Cx} {xa : Str → Option Addr} {E : XS} {kp : List Nat} {pu p1 p2 : Bool} {e e2 a b : Expr} {es : List Expr} {pos : Pos}
theorem tBM2_ok {i : Nat} {x : Str} {ix : Expr} {name : Str} {id : String} {npos spos apos cpos : Pos} {f1 : Ev → Res OT} {fa : Ev → Res (List PH)} {r : V → List V → Hp → VK → Prop} {G : List OT → List OT → Option (OT × List OT)} (hG : MutP (cc X xa) r G)
    (hv : PE X (.Name x npos) (tVar i)) (h1 : VE X xa E p1 ix f1) (hix : PlainIx ix) (ha : VPs X xa E true (e :: es) fa)
    (pa : PlainAttrs "list") (slot : Slot "list" name id) (hty : typeOf (.builtin id) = pure (.type "method_descriptor")) (hm : MtR X id r)
    (hbase : attributeBase (.Subscript (.Name x npos) ix spos) name X.env (eval (.Subscript (.Name x npos) ix spos) X.env) = eval (.Subscript (.Name x npos) ix spos) X.env)
    (hfew : ((backTo cpos (starEach (e :: es) X.env)).all (fun x => !x.1) && (backToKw cpos (keywordEach [] X.env)).all (fun x => x.1.isSome)
      && decide ((e :: es).length + ([] : List Keyword).length + (if ([] : List Keyword).isEmpty then 0 else 1) < 30)) = true)
    (hline : (apos.endLine == cpos.line) = true) (hs : starEach (e :: es) X.env = (false, eval e X.env) :: starEach es X.env) (hplain : (backTo cpos (starEach es X.env)).any (·.1) = false) :
    VE X xa E false (.Call (.Attribute (.Subscript (.Name x npos) ix spos) name apos) (e :: es) [] cpos) (fMeth2 G i f1 fa) := (pe_bm pa slot hty hm (pe_ix ix_list hv h1 hix) ha hbase hfew hline hs hplain).imp fun σ H Q ⟨Z, ρ, F, ok, q⟩ => by
  unfold fMeth2 at q
  cases e0 : slotAt ρ i with
  | none => rw [e0] at q; exact q.elim
  | some t0 =>
    rw [e0] at q
    dsimp only at q
    obtain ⟨h3, h4⟩ := slotAt_eq e0
    obtain ⟨v0, F0, G0, hv0, _⟩ := ok.own.takeOut h3 h4
    refine ⟨v0, hv0, Z, ρ, F, ok, ?_⟩
    cases r1 : f1 ρ with
    | bad => rw [r1] at q; exact q
    | exc x ρ' => rw [r1] at q; exact q
    | ok kt ρ1 =>
      rw [r1, Res.bind_ok] at q
      intro iv H1 Z1 F1 Fk o1 w1 n1 sp1 a1 _
      have a1' := a1.less
      split at q
      · rename_i ts k e2
        have ei := int_read w1
        subst ei
        split at q
        · rename_i j hj
          split at q
          · rename_i us hus
            obtain ⟨h5, h6⟩ := slotAt_eq e2
            obtain ⟨p, xs, p2, ys, Fy, hv1, hp, hx, hl, hp2, _⟩ := o1.mut2 h5 hus
            rw [hv0] at hv1
            cases hv1
            refine ⟨p, xs, k, .ref p2, rfl, rfl, SqL.of hp, ?_, .inl ⟨rfl, ys, SqL.of hp2⟩, Z1, ρ1, F1, o1, ?_⟩
            · unfold atI
              rw [hl, hj, Option.bind_some]
              exact hx
            cases r2 : fa ρ1 with
            | bad => rw [r2] at q; exact q
            | exc x ρ' =>
              rw [r2] at q
              exact fun cls d H' Z' F' o xr a => q cls d H' Z' F' o xr (a1'.trans a)
            | ok hs' ρ2 =>
              rw [r2, Res.bind_ok] at q
              intro vs H2 Z2 F2 o2 w2 a2 k2
              obtain ⟨sm, e3⟩ := k2 rfl
              subst e3
              cases eg : gets hs' ρ2 with
              | none => rw [eg] at q; exact q.elim
              | some as =>
                rw [eg, Option.bind_some] at q
                cases es2 : shs as with
                | none => rw [es2] at q; exact q.elim
                | some ds =>
                  rw [es2] at q
                  dsimp only at q
                  have rd := gets_rds o2 w2 eg
                  rw [shs_eq es2] at rd
                  have rp := rd.shs
                  obtain ⟨p', xs', p2', ys', Fy', hv', hp', hx', hl', hp2', ow, nd, nin, go⟩ := o2.mut2 h5 hus
                  rw [hv0] at hv'
                  cases hv'
                  have ex : xs' = xs := by
                    have z := sm p _ hp
                    rw [hp'] at z
                    cases z; rfl
                  subst ex
                  rw [hx] at hx'
                  cases hx'
                  cases e4 : G us (ds.map .sh) with
                  | none => rw [e4] at q; exact q.elim
                  | some tt =>
                    obtain ⟨t, us'⟩ := tt
                    rw [e4] at q
                    refine hG Z2 H2 p2 ys' vs us _ t us' Fy' [] Q o2.same hp2' nin (fun z => nomatch z) ow (OwnL.of_rp rp) (by simpa using nd) e4 fun xs2 v Fi' Ft l' w' nd' sub => ?_
                    obtain ⟨F', o', nd'', sp', a'⟩ := go xs2 us' Fi' v t Ft l' w' nd' fun q hq => by simpa using sub q hq
                    exact q v _ Z2 F' Ft o' w' nd'' sp' ((a1'.trans a2).trans a') fun z => nomatch z
          · exact q.elim
        · exact q.elim
      · exact q.elim
theorem ve_popAt2 {i : Nat} {x : Str} {ix : Expr} {npos spos apos cpos : Pos} {f1 : Ev → Res OT} {fa : Ev → Res (List PH)} (hv : PE X (.Name x npos) (tVar i)) (h1 : VE X xa E p1 ix f1) (ha : VPs X xa E true [e] fa) (hix : PlainIx ix)
    (hbase : attributeBase (.Subscript (.Name x npos) ix spos) "pop" X.env (eval (.Subscript (.Name x npos) ix spos) X.env) = eval (.Subscript (.Name x npos) ix spos) X.env := by rfl)
    (hfew : ((backTo cpos (starEach [e] X.env)).all (fun x => !x.1) && (backToKw cpos (keywordEach [] X.env)).all (fun x => x.1.isSome)
      && decide ([e].length + ([] : List Keyword).length + (if ([] : List Keyword).isEmpty then 0 else 1) < 30)) = true := by rfl)
    (hline : (apos.endLine == cpos.line) = true := by rfl) (hs : starEach [e] X.env = (false, eval e X.env) :: starEach [] X.env := by rfl) (hplain : (backTo cpos (starEach [] X.env)).any (·.1) = false := by rfl) :
    VE X xa E false (.Call (.Attribute (.Subscript (.Name x npos) ix spos) "pop" apos) [e] [] cpos) (fMeth2 GPopAt i f1 fa) := tBM2_ok mut_popAt hv h1 hix ha PySem.F.plainAttrs_list PySem.F.slot_list_pop PySem.F.type_list_pop mt_popAt hbase hfew hline hs hplain
theorem ve_insert2 {i : Nat} {x : Str} {ix : Expr} {npos spos apos cpos : Pos} {f1 : Ev → Res OT} {fa : Ev → Res (List PH)} (hv : PE X (.Name x npos) (tVar i)) (h1 : VE X xa E p1 ix f1) (ha : VPs X xa E true [e, e2] fa) (hix : PlainIx ix)
    (hbase : attributeBase (.Subscript (.Name x npos) ix spos) "insert" X.env (eval (.Subscript (.Name x npos) ix spos) X.env) = eval (.Subscript (.Name x npos) ix spos) X.env := by rfl)
    (hfew : ((backTo cpos (starEach [e, e2] X.env)).all (fun x => !x.1) && (backToKw cpos (keywordEach [] X.env)).all (fun x => x.1.isSome)
      && decide ([e, e2].length + ([] : List Keyword).length + (if ([] : List Keyword).isEmpty then 0 else 1) < 30)) = true := by rfl)
    (hline : (apos.endLine == cpos.line) = true := by rfl) (hs : starEach [e, e2] X.env = (false, eval e X.env) :: starEach [e2] X.env := by rfl) (hplain : (backTo cpos (starEach [e2] X.env)).any (·.1) = false := by rfl) :
    VE X xa E false (.Call (.Attribute (.Subscript (.Name x npos) ix spos) "insert" apos) [e, e2] [] cpos) (fMeth2 GInsert i f1 fa) := tBM2_ok mut_insert hv h1 hix ha PySem.F.plainAttrs_list PySem.F.slot_list_insert PySem.F.type_list_insert mt_insert hbase hfew hline hs hplain
end
/-! reckoning -/
section
variable {i : Nat} {ρ : Ev}
def mr3 (i j : Nat) (ts : List OT) (o : Option (OT × List OT)) (ρ2 : Ev) : Res OT := match o with
  | some (t, us') => .ok t (ρ2.set i (.lst (ts.set j (.lst us'))))
  | none => .bad
@[simp] theorem mr3_some (j : Nat) (ts us : List OT) (t : OT) : mr3 i j ts (some (t, us)) ρ = .ok t (ρ.set i (.lst (ts.set j (.lst us)))) := rfl
def mr2 (G : List OT → List OT → Option (OT × List OT)) (i j : Nat) (ts us : List OT) (o : Option (List D)) (ρ2 : Ev) : Res OT := match o with
  | some ds => mr3 i j ts (G us (ds.map .sh)) ρ2
  | none => .bad
@[simp] theorem mr2_some (G : List OT → List OT → Option (OT × List OT)) (j : Nat) (ts us : List OT) (ds : List D) : mr2 G i j ts us (some ds) ρ = mr3 i j ts (G us (ds.map .sh)) ρ := rfl
def mr1 (G : List OT → List OT → Option (OT × List OT)) (i j : Nat) (fa : Ev → Res (List PH)) (ts : List OT) (o : Option OT) (ρ1 : Ev) : Res OT := match o with
  | some (.lst us) => (fa ρ1).bind fun hs ρ2 => mr2 G i j ts us ((gets hs ρ2).bind shs) ρ2
  | _ => .bad
@[simp] theorem mr1_lst (G : List OT → List OT → Option (OT × List OT)) (j : Nat) (fa : Ev → Res (List PH)) (ts us : List OT) : mr1 G i j fa ts (some (.lst us)) ρ = (fa ρ).bind fun hs ρ2 => mr2 G i j ts us ((gets hs ρ2).bind shs) ρ2 := rfl
def mr0b (G : List OT → List OT → Option (OT × List OT)) (i : Nat) (fa : Ev → Res (List PH)) (ts : List OT) (o : Option Nat) (ρ1 : Ev) : Res OT := match o with
  | some j => mr1 G i j fa ts (ts[j]?) ρ1
  | none => .bad
@[simp] theorem mr0b_some (G : List OT → List OT → Option (OT × List OT)) (j : Nat) (fa : Ev → Res (List PH)) (ts : List OT) : mr0b G i fa ts (some j) ρ = mr1 G i j fa ts (ts[j]?) ρ := rfl
def mr0 (G : List OT → List OT → Option (OT × List OT)) (i : Nat) (fa : Ev → Res (List PH)) (o : Option OT) (k : OT) (ρ1 : Ev) : Res OT := match o, k with
  | some (.lst ts), .sh (.int k) => mr0b G i fa ts (ixN ts.length k) ρ1
  | _, _ => .bad
@[simp] theorem mr0_lst (G : List OT → List OT → Option (OT × List OT)) (fa : Ev → Res (List PH)) (ts : List OT) (k : Int) : mr0 G i fa (some (.lst ts)) (.sh (.int k)) ρ = mr0b G i fa ts (ixN ts.length k) ρ := rfl
def mrP (o : Option OT) (r : Res OT) : Res OT := match o with
  | some _ => r
  | none => .bad
@[simp] theorem mrP_some (t : OT) (r : Res OT) : mrP (some t) r = r := rfl
@[simp] theorem fMeth2_ap (G : List OT → List OT → Option (OT × List OT)) (f1 : Ev → Res OT) (fa : Ev → Res (List PH)) : fMeth2 G i f1 fa ρ = mrP (slotAt ρ i) ((f1 ρ).bind fun k ρ1 => mr0 G i fa (slotAt ρ1 i) k ρ1) := rfl
end
end VL

end

section
set_option Elab.async false
set_option linter.all false
set_option maxRecDepth 100000
set_option maxHeartbeats 1000000
namespace VL
open PySem PySem.Spec PyProof.Rows L2
section
variable {i j l : Nat} {ρ : Ev}
@[simp] theorem fPar3_ap (fa : Ev → Res (List Arg)) : fPar3 i j l fa ρ = eS (fa ρ) fun as ρ1 => match as with
  | [s, t, u] => .nx (((ρ1.set i s.1).set j t.1).set l u.1)
  | _ => .bad := rfl
def stG (d : D) (i : Nat) (o : Option OT) (k : OT) (ρ2 : Ev) : Option Ev := match k, o with
  | .sh (.int k), some (.lst ts) => (ixN ts.length k).map fun j => ρ2.set i (.lst (ts.set j (.sh d)))
  | _, _ => none
@[simp] theorem stG_ap (d : D) (i : Nat) (ts : List OT) (k : Int) (ρ2 : Ev) : stG d i (some (.lst ts)) (.sh (.int k)) ρ2 = (ixN ts.length k).map fun j => ρ2.set i (.lst (ts.set j (.sh d))) := rfl
def stGr (d : D) (i : Nat) (o : Option OT) (r : Res OT) : Option Ev := match o, r with
  | some _, .ok k ρ2 => stG d i (slotAt ρ2 i) k ρ2
  | _, _ => none
@[simp] theorem stGr_ap (d : D) (i : Nat) (t k : OT) (ρ2 : Ev) : stGr d i (some t) (.ok k ρ2) = stG d i (slotAt ρ2 i) k ρ2 := rfl
@[simp] theorem gSt_ap (fi : Ev → Res OT) (d : D) : gSt i fi d ρ = stGr d i (slotAt ρ i) (fi ρ) := by
  unfold gSt stGr
  cases slotAt ρ i with
  | none => rfl
  | some t =>
    cases fi ρ with
    | bad => rfl
    | exc x ρ' => rfl
    | ok k ρ2 =>
      dsimp only
      unfold stG
      cases k with
      | sh d0 =>
        cases d0 <;> try rfl
        cases h : slotAt ρ2 i with
        | none => simp only [h]
        | some t2 => cases t2 <;> simp only [h]
      | lst _ => rfl
      | dct _ => rfl
      | mv => rfl
theorem GPopAt_ap (ts : List OT) (k : Int) : GPopAt ts [.sh (.int k)] = if ts.length ≤ 1000000 then (ixN ts.length k).bind fun j => (ts[j]?).map fun t => (t, ts.eraseIdx j) else none := rfl
theorem GPopAt_at {ts : List OT} {k : Nat} {t : OT} (hl : ts.length ≤ 1000000) (h : ts[k]? = some t) : GPopAt ts [.sh (.int k)] = some (t, ts.eraseIdx k) := by
  have hk := (List.getElem?_eq_some_iff.mp h).1
  have e : ixN ts.length (k : Int) = some k := by
    unfold ixN
    rw [if_pos (by omega), if_pos (by omega)]
    rfl
  rw [GPopAt_ap, if_pos hl, e, Option.bind_some, h]
  rfl
theorem GPopAt_0 {ts : List OT} {t : OT} (hl : ts.length < 1000000) : GPopAt (t :: ts) [.sh (.int 0)] = some (t, ts) := by
  have := GPopAt_at (ts := t :: ts) (k := 0) (t := t) (by simp only [List.length_cons]; omega) rfl
  simpa using this
@[simp] theorem fPn_ap (f : Ev → Res OT) : fPn f ρ = (f ρ).bind fun t ρ' => .ok (.nest t) ρ' := rfl
theorem gRep_ap (l : List D) (k : Nat) (h : l.length * k ≤ 1000000) (hk : k ≤ 1000000) : gRep (.lst (l.map .sh)) (.sh (.int k)) = some (.lst ((List.replicate k l).flatten.map .sh)) := by
  have h1 : -1000000 ≤ (k : Int) ∧ (k : Int) ≤ 1000000 ∧ (l.map OT.sh).length * (k : Int).toNat ≤ 1000000 := ⟨by omega, by omega, by rw [List.length_map]; simpa using h⟩
  refine (if_pos h1).trans ?_
  rw [shs_map]
  simp
end
end VL

end

section
set_option Elab.async false
set_option linter.all false
set_option maxRecDepth 100000
set_option maxHeartbeats 4000000
namespace VL
open PySem PySem.Spec PyProof.Rows L2
/-! ### forms as data, their keys -/
def kw : Bool → Str
  | false => "sum"
  | true => "product"
def rkk : Bool → Int
  | false => 1
  | true => 2
@[simp] theorem kw_ne : ¬ ("sum" : Str) = "product" := by decide +kernel
@[simp] theorem kw_ne2 : ¬ ("product" : Str) = "sum" := by decide +kernel
theorem kw_ok (k : Bool) : PyData.strOk (kw k) = true := by cases k <;> decide +kernel
theorem kw_inj {k k' : Bool} (h : kw k = kw k') : k = k' := by
  cases k <;> cases k' <;> first | rfl | (simp [kw] at h)
def fop (k : Bool) (more off : List D) : D := .tuple [.str (kw k), .tuple more, .tuple off]
def IsF : Nat → D → Prop
  | 0, _ => False
  | n + 1, d => (∃ i : Int, d = .int i) ∨ (∃ k more off, d = fop k more off ∧ (∀ x ∈ more, IsF n x) ∧ (∀ x ∈ off, IsF n x) ∧ more.length + off.length ≤ 1000)
theorem IsF.succ : ∀ {n : Nat} {d : D}, IsF n d → IsF (n + 1) d
  | 0, _, h => h.elim
  | n + 1, d, h => by
    rcases h with h | ⟨k, more, off, e, h1, h2, h3⟩
    · exact .inl h
    · exact .inr ⟨k, more, off, e, fun x hx => IsF.succ (h1 x hx), fun x hx => IsF.succ (h2 x hx), h3⟩
theorem IsF.mono {n m : Nat} {d : D} (h : IsF n d) (l : n ≤ m) : IsF m d := by
  obtain ⟨k, rfl⟩ : ∃ k, m = n + k := ⟨m - n, by omega⟩
  clear l
  induction k with
  | zero => exact h
  | succ k ih => exact ih.succ
theorem IsF.flat : ∀ {n : Nat} {d : D}, IsF n d → Flat (2 * n) d
  | 0, _, h => h.elim
  | n + 1, d, h => by
    rcases h with ⟨i, rfl⟩ | ⟨k, more, off, rfl, h1, h2, _⟩
    · exact flat_int _ _
    · refine (flat_tup (n := 2 * n + 1) fun x hx => ?_).mono (by omega)
      simp only [List.mem_cons, List.not_mem_nil, or_false] at hx
      rcases hx with rfl | rfl | rfl
      · exact flat_str _ (kw_ok k) _
      · exact flat_tup fun y hy => (h1 y hy).flat
      · exact flat_tup fun y hy => (h2 y hy).flat
def ky : Nat → D → D
  | 0, _ => .none
  | n + 1, d => match d with
    | .int i => .tuple [.int 0, .int i]
    | .tuple [.str w, .tuple more, .tuple off] => .tuple [.int (if w = "product" then 2 else 1), .tuple (more.map (ky n)), .tuple (off.map (ky n))]
    | _ => .none
theorem ky_int (n : Nat) (i : Int) : ky (n + 1) (.int i) = .tuple [.int 0, .int i] := rfl
theorem ky_op (n : Nat) (k : Bool) (m o : List D) : ky (n + 1) (fop k m o) = .tuple [.int (rkk k), .tuple (m.map (ky n)), .tuple (o.map (ky n))] := by
  cases k <;> simp [ky, fop, kw, rkk]
theorem ky_mono : ∀ {n m : Nat} {d : D}, IsF n d → n ≤ m → ky m d = ky n d
  | 0, _, _, h, _ => h.elim
  | n + 1, 0, _, _, l => absurd l (by omega)
  | n + 1, m + 1, d, h, l => by
    rcases h with ⟨i, rfl⟩ | ⟨k, more, off, rfl, h1, h2, _⟩
    · rfl
    · rw [ky_op, ky_op, List.map_congr_left fun x hx => ky_mono (h1 x hx) (Nat.le_of_succ_le_succ l), List.map_congr_left fun x hx => ky_mono (h2 x hx) (Nat.le_of_succ_le_succ l)]
theorem ky_flat : ∀ {n : Nat} {d : D}, IsF n d → Flat (2 * n) (ky n d)
  | 0, _, h => h.elim
  | n + 1, d, h => by
    rcases h with ⟨i, rfl⟩ | ⟨k, more, off, rfl, h1, h2, _⟩
    · rw [ky_int]
      refine (flat_tup (n := 0) fun x hx => ?_).mono (by omega)
      simp only [List.mem_cons, List.not_mem_nil, or_false] at hx
      rcases hx with rfl | rfl <;> exact flat_int _ _
    · rw [ky_op]
      refine (flat_tup (n := 2 * n + 1) fun x hx => ?_).mono (by omega)
      simp only [List.mem_cons, List.not_mem_nil, or_false] at hx
      rcases hx with rfl | rfl | rfl
      · exact flat_int _ _
      · refine flat_tup fun y hy => ?_
        obtain ⟨z, hz, rfl⟩ := List.mem_map.mp hy
        exact ky_flat (h1 z hz)
      · refine flat_tup fun y hy => ?_
        obtain ⟨z, hz, rfl⟩ := List.mem_map.mp hy
        exact ky_flat (h2 z hz)
@[simp] theorem eqv_t (a b : List D) : PyData.eqv (.tuple a) (.tuple b) = PyData.eqvAll a b := by rw [PyData.eqv]
@[simp] theorem eqv_i (a b : Int) : PyData.eqv (.int a) (.int b) = decide (a = b) := by
  by_cases h : a = b <;> simp [PyData.eqv, h]
@[simp] theorem eqva_c (x y : D) (a b : List D) : PyData.eqvAll (x :: a) (y :: b) = (PyData.eqv x y && PyData.eqvAll a b) := by rw [PyData.eqvAll]
@[simp] theorem eqva_n : PyData.eqvAll [] [] = true := by simp [PyData.eqvAll]
theorem eqva_map {f : D → D} : ∀ {a b : List D}, (∀ x ∈ a, ∀ y ∈ b, (PyData.eqv (f x) (f y) = true ↔ x = y)) → (PyData.eqvAll (a.map f) (b.map f) = true ↔ a = b)
  | [], [], _ => by simp
  | [], y :: b, _ => by simp [PyData.eqvAll]
  | x :: a, [], _ => by simp [PyData.eqvAll]
  | x :: a, y :: b, h => by
    have h1 := h x (List.mem_cons_self ..) y (List.mem_cons_self ..)
    have h2 := eqva_map (f := f) (a := a) (b := b) fun u hu v hv => h u (List.mem_cons_of_mem _ hu) v (List.mem_cons_of_mem _ hv)
    simp only [List.map_cons, eqva_c, Bool.and_eq_true, h1, h2, List.cons.injEq]
theorem rkk_inj {k k' : Bool} (h : rkk k = rkk k') : k = k' := by cases k <;> cases k' <;> first | rfl | (simp [rkk] at h)
theorem rkk_0 (k : Bool) : rkk k ≠ 0 := by cases k <;> simp [rkk]
theorem ky_eqv : ∀ {n : Nat} {a b : D}, IsF n a → IsF n b → (PyData.eqv (ky n a) (ky n b) = true ↔ a = b)
  | 0, _, _, h, _ => h.elim
  | n + 1, a, b, h, h' => by
    rcases h with ⟨i, rfl⟩ | ⟨k, m, o, rfl, h1, h2, _⟩
    · rcases h' with ⟨j, rfl⟩ | ⟨k', m', o', rfl, h1', h2', _⟩
      · rw [ky_int, ky_int]
        simp
      · rw [ky_int, ky_op]
        have := rkk_0 k'
        simp [fop, PyData.eqvAll]
        try (intro z; exact absurd z.symm this)
    · rcases h' with ⟨j, rfl⟩ | ⟨k', m', o', rfl, h1', h2', _⟩
      · rw [ky_int, ky_op]
        have := rkk_0 k
        simp [fop, PyData.eqvAll]
        try (intro z; exact absurd z this)
      · rw [ky_op, ky_op]
        have e1 := eqva_map (f := ky n) (a := m) (b := m') fun x hx y hy => ky_eqv (h1 x hx) (h1' y hy)
        have e2 := eqva_map (f := ky n) (a := o) (b := o') fun x hx y hy => ky_eqv (h2 x hx) (h2' y hy)
        simp only [eqv_t, eqva_c, eqv_i, eqva_n, Bool.and_true, Bool.and_eq_true, decide_eq_true_eq, e1, e2, fop, PyData.tuple.injEq, List.cons.injEq, PyData.str.injEq, and_true]
        constructor
        · rintro ⟨a, b, c⟩
          exact ⟨by rw [rkk_inj a], b, c⟩
        · rintro ⟨a, b, c⟩
          exact ⟨by rw [kw_inj a], b, c⟩
theorem cmpbs_map {f : D → D} : ∀ {a b : List D}, (∀ x ∈ a, ∀ y ∈ b, cmpb (f x) (f y) = true) → cmpbs (a.map f) (b.map f) = true
  | [], _, _ => by simp [cmpbs]
  | x :: a, [], _ => by simp [cmpbs]
  | x :: a, y :: b, h => by
    have h2 := cmpbs_map (f := f) (a := a) (b := b) fun u hu v hv => h u (List.mem_cons_of_mem _ hu) v (List.mem_cons_of_mem _ hv)
    simp [cmpbs, h x (List.mem_cons_self ..) y (List.mem_cons_self ..), h2]
theorem ky_cmp : ∀ {n : Nat} {a b : D}, IsF n a → IsF n b → cmpb (ky n a) (ky n b) = true
  | 0, _, _, h, _ => h.elim
  | n + 1, a, b, h, h' => by
    rcases h with ⟨i, rfl⟩ | ⟨k, m, o, rfl, h1, h2, _⟩
    · rcases h' with ⟨j, rfl⟩ | ⟨k', m', o', rfl, h1', h2', _⟩
      · rw [ky_int, ky_int]
        simp [cmpb, cmpbs]
      · rw [ky_int, ky_op]
        have := rkk_0 k'
        have e : ¬ (0 : Int) = rkk k' := fun z => this z.symm
        simp [cmpb, cmpbs, e]
    · rcases h' with ⟨j, rfl⟩ | ⟨k', m', o', rfl, h1', h2', _⟩
      · rw [ky_int, ky_op]
        simp [cmpb, cmpbs, rkk_0 k]
      · rw [ky_op, ky_op]
        have e1 := cmpbs_map (f := ky n) (a := m) (b := m') fun x hx y hy => ky_cmp (h1 x hx) (h1' y hy)
        have e2 := cmpbs_map (f := ky n) (a := o) (b := o') fun x hx y hy => ky_cmp (h2 x hx) (h2' y hy)
        simp [cmpb, cmpbs, e1, e2]
/-! ### the order of data -/
theorem dlt_irr (a : D) : dlt a a = false := lex_irrefl _
theorem dlt_tr {a b c : D} : dlt a b = true → dlt b c = true → dlt a c = true := lex_trans _ _ _
theorem dlt_asym {a b : D} (h : dlt a b = true) : dlt b a = false := by
  cases e : dlt b a with
  | false => rfl
  | true =>
    have := dlt_tr h e
    rw [dlt_irr] at this
    cases this
theorem dlt_tot {a b : D} (h : cmpb a b = true) (h1 : dlt a b = false) (h2 : dlt b a = false) : PyData.eqv a b = true := by
  have e : tkA a = tkA b := lex_total _ _ h1 h2
  cases q : PyData.eqv a b with
  | true => rfl
  | false =>
    have z := (tok_eqv a b h).2 q [] [.inl 0]
    rw [e] at z
    have z2 : lxt (tkA b ++ []) (tkA b ++ [.inl 0]) = lxt [] [.inl 0] := PySem.W.lex_pre _ _ _
    have z3 : lxt (tkA b) (tkA b) = false := lex_irrefl _
    rw [z2, z3] at z
    exact absurd z (by decide)
/-- a is not above b -/
def dle (a b : D) : Bool := !dlt b a
theorem dle_tr {a b c : D} (h1 : dle a b = true) (h2 : dle b c = true) : dle a c = true := by
  unfold dle at *
  cases e : dlt c a with
  | false => rfl
  | true =>
    have := lex_negTrans (O := itemOrd) (tkA c) (tkA b) (tkA a) e
    rcases this with z | z
    · have z' : dlt c b = true := z
      rw [z'] at h2; cases h2
    · have z' : dlt b a = true := z
      rw [z'] at h1; cases h1
theorem dle_tot (a b : D) : (dle a b || dle b a) = true := by
  unfold dle
  cases e : dlt b a with
  | false => rfl
  | true => rw [dlt_asym e]; rfl
theorem dle_ant {n : Nat} {a b : D} (ha : IsF n a) (hb : IsF n b) (h1 : dle (ky n a) (ky n b) = true) (h2 : dle (ky n b) (ky n a) = true) : a = b := by
  unfold dle at *
  refine (ky_eqv ha hb).mp (dlt_tot (ky_cmp ha hb) ?_ ?_)
  · cases e : dlt (ky n a) (ky n b) with
    | false => rfl
    | true => rw [e] at h2; cases h2
  · cases e : dlt (ky n b) (ky n a) with
    | false => rfl
    | true => rw [e] at h1; cases h1
/-- in order -/
def srt (n : Nat) (l : List D) : List D := sortKD (l.map (ky n)) l
def Ord (n : Nat) (l : List D) : Prop := l.Pairwise fun a b => dle (ky n a) (ky n b) = true
theorem zip_keys (n : Nat) (l : List D) : l.zip (l.map (ky n)) = l.map fun d => (d, ky n d) := by
  induction l with
  | nil => rfl
  | cons a l ih => simp [ih]
theorem srt_eq (n : Nat) (l : List D) : srt n l = l.mergeSort fun a b => dle (ky n a) (ky n b) := by
  unfold srt sortKD
  rw [zip_keys]
  have := List.map_mergeSort (r := fun a b => dle (ky n a) (ky n b)) (s := PySem.W.dataLe false Prod.snd) (f := fun d => (d, ky n d)) (l := l) (fun a _ b _ => rfl)
  rw [← this, List.map_map]
  simp [Function.comp_def]
theorem srt_perm (n : Nat) (l : List D) : (srt n l).Perm l := by
  rw [srt_eq]
  exact List.mergeSort_perm _ _
theorem srt_ord (n : Nat) (l : List D) : Ord n (srt n l) := by
  rw [srt_eq]
  exact List.pairwise_mergeSort (le := fun a b => dle (ky n a) (ky n b)) (fun a b c h1 h2 => dle_tr h1 h2) (fun a b => dle_tot _ _) l
theorem srt_uniq {n : Nat} {l m : List D} (hm : ∀ x ∈ m, IsF n x) (p : l.Perm m) (o : Ord n l) : l = srt n m := by
  refine List.Perm.eq_of_pairwise (le := fun a b => dle (ky n a) (ky n b) = true) (fun a b ha hb h1 h2 => ?_) o (srt_ord n m) (p.trans (srt_perm n m).symm)
  exact dle_ant (hm a (p.mem_iff.mp ha)) (hm b ((srt_perm n m).mem_iff.mp hb)) h1 h2
theorem srt_congr {n : Nat} {l m : List D} (hm : ∀ x ∈ m, IsF n x) (p : l.Perm m) : srt n l = srt n m := srt_uniq hm ((srt_perm n l).trans p) (srt_ord n l)
theorem srt_mono {n m : Nat} {l : List D} (h : ∀ x ∈ l, IsF n x) (le : n ≤ m) : srt m l = srt n l := by
  unfold srt
  rw [List.map_congr_left fun x hx => ky_mono (h x hx) le]
theorem keys_ok {n : Nat} {l : List D} (hn : n ≤ 30) (h : ∀ x ∈ l, IsF n x) : KeysOk (l.map (ky n)) := by
  refine ⟨fun d hd => ?_, fun d hd e he => ?_, .inl ⟨1, by decide, fun d hd => ?_⟩⟩
  · obtain ⟨x, hx, rfl⟩ := List.mem_map.mp hd
    have := ky_flat (h x hx)
    exact ⟨this.1, by have := this.2; omega⟩
  · obtain ⟨x, hx, rfl⟩ := List.mem_map.mp hd
    obtain ⟨y, hy, rfl⟩ := List.mem_map.mp he
    exact ky_cmp (h x hx) (h y hy)
  · obtain ⟨x, hx, rfl⟩ := List.mem_map.mp hd
    have hx' := h x hx
    cases n with
    | zero => exact hx'.elim
    | succ n =>
      rcases hx' with ⟨i, rfl⟩ | ⟨k, m, o, rfl, _⟩
      · exact ⟨_, _, ky_int n i, rfl⟩
      · exact ⟨_, _, ky_op n k m o, rfl⟩
theorem mapM_map {g : D → Option D} {f : D → D} : ∀ {l : List D}, (∀ x ∈ l, g x = some (f x)) → l.mapM g = some (l.map f)
  | [], _ => rfl
  | x :: l, h => by
    rw [List.mapM_cons, h x (List.mem_cons_self ..), mapM_map fun y hy => h y (List.mem_cons_of_mem _ hy)]
    rfl
theorem gSortDs_f {n : Nat} {g : D → Option D} {l : List D} (hn : n ≤ 30) (h : ∀ x ∈ l, IsF n x) (hg : ∀ x ∈ l, g x = some (ky n x)) (hl : l.length ≤ 1000000) : gSortDs g l = some (.lst ((srt n l).map .sh)) := by
  unfold gSortDs
  rw [mapM_map hg]
  exact if_pos ⟨keys_ok hn h, hl⟩
/-! ### < of two forms -/
theorem dlt_tt (a b : List D) : dlt (.tuple a) (.tuple b) = lxt (tkL a) (tkL b) := PySem.W.dataLt_tuple a b
theorem dlt_ii (a b : Int) : dlt (.int a) (.int b) = decide (a < b) := PySem.W.dataLt_int a b
theorem lxt_nil : lxt (tkL []) (tkL []) = false := lex_irrefl _
theorem lxt_nc (y : D) (b : List D) : lxt (tkL []) (tkL (y :: b)) = true := by
  simp only [lxt, tkL]
  rw [PySem.W.toks_all_cons]
  simp only [PySem.W.keyToksAll]
  rw [lex_diff (O := itemOrd) (by simp)]
  simp [itemLt]
theorem lxt_cn (x : D) (a : List D) : lxt (tkL (x :: a)) (tkL []) = false := by
  simp only [lxt, tkL]
  rw [PySem.W.toks_all_cons]
  simp only [PySem.W.keyToksAll]
  rw [lex_diff (O := itemOrd) (by simp)]
  simp [itemLt]
theorem lxt_cc {x y : D} {a b : List D} (h : cmpb x y = true) : lxt (tkL (x :: a)) (tkL (y :: b)) = if PyData.eqv x y = true then lxt (tkL a) (tkL b) else dlt x y := by
  cases e : PyData.eqv x y with
  | true => rw [dlt_yes h e]; rfl
  | false => rw [dlt_no h e]; rfl
/-- -1, 0 or 1 -/
def sgn (a b : Bool) : Int := if a = true then -1 else if b = true then 1 else 0
def cpr (n : Nat) (a b : D) : Int := sgn (dlt (ky n a) (ky n b)) (dlt (ky n b) (ky n a))
def lxr (n : Nat) (a b : List D) : Bool := lxt (tkL (a.map (ky n))) (tkL (b.map (ky n)))
def cprs (n : Nat) (a b : List D) : Int := sgn (lxr n a b) (lxr n b a)
theorem sgn_0 {a b : Bool} (h : sgn a b = 0) : a = false ∧ b = false := by
  cases a <;> cases b <;> simp [sgn] at h <;> exact ⟨rfl, rfl⟩
theorem cpr_self (n : Nat) (a : D) : cpr n a a = 0 := by simp [cpr, dlt_irr, sgn]
theorem cpr_0 {n : Nat} {a b : D} (ha : IsF n a) (hb : IsF n b) (h : cpr n a b = 0) : a = b := by
  obtain ⟨h1, h2⟩ := sgn_0 h
  exact (ky_eqv ha hb).mp (dlt_tot (ky_cmp ha hb) h1 h2)
theorem cpr_le {n : Nat} {a b : D} : cpr n a b ≤ 0 ↔ dle (ky n a) (ky n b) = true := by
  unfold cpr dle sgn
  cases e : dlt (ky n b) (ky n a) with
  | false => cases e2 : dlt (ky n a) (ky n b) <;> simp
  | true => simp [dlt_asym e]
open Classical in
theorem lxr_cc {n : Nat} {x y : D} {a b : List D} (hx : IsF n x) (hy : IsF n y) : lxr n (x :: a) (y :: b) = if x = y then lxr n a b else dlt (ky n x) (ky n y) := by
  unfold lxr
  rw [List.map_cons, List.map_cons, lxt_cc (ky_cmp hx hy)]
  by_cases h : x = y
  · rw [if_pos h, if_pos ((ky_eqv hx hy).mpr h)]
  · rw [if_neg h, if_neg (fun z => h ((ky_eqv hx hy).mp z))]
open Classical in
theorem cprs_cc {n : Nat} {x y : D} {a b : List D} (hx : IsF n x) (hy : IsF n y) : cprs n (x :: a) (y :: b) = if cpr n x y = 0 then cprs n a b else cpr n x y := by
  unfold cprs
  rw [lxr_cc hx hy, lxr_cc hy hx]
  by_cases h : x = y
  · subst h
    rw [if_pos rfl, if_pos rfl, if_pos (cpr_self n x)]
  · rw [if_neg h, if_neg (fun z => h z.symm), if_neg (fun z => h (cpr_0 hx hy z))]
    rfl
def firstC (n : Nat) : List D → List D → Option Int
  | x :: a, y :: b => if cpr n x y = 0 then firstC n a b else some (cpr n x y)
  | _, _ => none
def lenC (a b : List D) : Int := if a.length = b.length then 0 else if a.length < b.length then -1 else 1
theorem cprs_first {n : Nat} : ∀ {a b : List D}, (∀ x ∈ a, IsF n x) → (∀ y ∈ b, IsF n y) → cprs n a b = (firstC n a b).getD (lenC a b)
  | [], [], _, _ => by simp [cprs, lxr, lxt_nil, sgn, firstC, lenC]
  | [], y :: b, _, _ => by simp [cprs, lxr, lxt_nc, lxt_cn, sgn, firstC, lenC]
  | x :: a, [], _, _ => by simp [cprs, lxr, lxt_nc, lxt_cn, sgn, firstC, lenC]
  | x :: a, y :: b, h, h' => by
    rw [cprs_cc (h x (List.mem_cons_self ..)) (h' y (List.mem_cons_self ..)), cprs_first (fun u hu => h u (List.mem_cons_of_mem _ hu)) fun u hu => h' u (List.mem_cons_of_mem _ hu)]
    rw [show firstC n (x :: a) (y :: b) = if cpr n x y = 0 then firstC n a b else some (cpr n x y) from rfl]
    by_cases e : cpr n x y = 0
    · rw [if_pos e, if_pos e]
      congr 1
      unfold lenC
      simp only [List.length_cons, Nat.add_right_cancel_iff, Nat.add_lt_add_iff_right]
    · rw [if_neg e, if_neg e]
      rfl
theorem firstC_ne {n : Nat} {v : Int} : ∀ {a b : List D}, firstC n a b = some v → v ≠ 0
  | x :: a, y :: b, h => by
    unfold firstC at h
    split at h
    · exact firstC_ne h
    · rename_i e
      cases h
      exact e
  | [], _, h => by simp [firstC] at h
  | _ :: _, [], h => by simp [firstC] at h
theorem cprs_0 {n : Nat} {a b : List D} (h : ∀ x ∈ a, IsF n x) (h' : ∀ y ∈ b, IsF n y) (e : cprs n a b = 0) : a = b := by
  induction a generalizing b with
  | nil => cases b with
    | nil => rfl
    | cons y b => simp [cprs, lxr, lxt_nc, sgn] at e
  | cons x a ih => cases b with
    | nil => simp [cprs, lxr, lxt_nc, lxt_cn, sgn] at e
    | cons y b =>
      rw [cprs_cc (h x (List.mem_cons_self ..)) (h' y (List.mem_cons_self ..))] at e
      split at e
      · rename_i c
        rw [cpr_0 (h x (List.mem_cons_self ..)) (h' y (List.mem_cons_self ..)) c, ih (fun u hu => h u (List.mem_cons_of_mem _ hu)) (fun u hu => h' u (List.mem_cons_of_mem _ hu)) e]
      · rename_i c
        exact absurd e c
theorem cpr_ii (n : Nat) (i j : Int) : cpr (n + 1) (.int i) (.int j) = sgn (decide (i < j)) (decide (j < i)) := by
  have h : ∀ i j : Int, dlt (ky (n + 1) (.int i)) (ky (n + 1) (.int j)) = decide (i < j) := fun i j => by
    rw [ky_int, ky_int, dlt_tt, dlt_yes (by simp [cmpb]) (by simp), lxt_cc (by simp [cmpb])]
    by_cases e : i = j
    · subst e
      simp [lxt_nil]
    · simp [e, dlt_ii]
  unfold cpr
  rw [h, h]
theorem cpr_io (n : Nat) (i : Int) (k : Bool) (m o : List D) : cpr (n + 1) (.int i) (fop k m o) = -1 := by
  have h : dlt (ky (n + 1) (.int i)) (ky (n + 1) (fop k m o)) = true := by
    rw [ky_int, ky_op, dlt_tt, dlt_no (by simp [cmpb]) (by simp; exact fun z => rkk_0 k z.symm), dlt_ii]
    cases k <;> simp [rkk]
  simp [cpr, h, sgn]
theorem cpr_oi (n : Nat) (i : Int) (k : Bool) (m o : List D) : cpr (n + 1) (fop k m o) (.int i) = 1 := by
  have h : dlt (ky (n + 1) (.int i)) (ky (n + 1) (fop k m o)) = true := by
    rw [ky_int, ky_op, dlt_tt, dlt_no (by simp [cmpb]) (by simp; exact fun z => rkk_0 k z.symm), dlt_ii]
    cases k <;> simp [rkk]
  simp [cpr, h, dlt_asym h, sgn]
theorem cpr_kk (n : Nat) {k k' : Bool} (hk : k ≠ k') (m o m' o' : List D) : cpr (n + 1) (fop k m o) (fop k' m' o') = if rkk k < rkk k' then -1 else 1 := by
  have h : ∀ {k k' : Bool} (m o m' o' : List D), k ≠ k' → dlt (ky (n + 1) (fop k m o)) (ky (n + 1) (fop k' m' o')) = decide (rkk k < rkk k') := fun {k k'} m o m' o' hk => by
    rw [ky_op, ky_op, dlt_tt, dlt_no (by simp [cmpb]) (by simp; exact fun z => hk (rkk_inj z)), dlt_ii]
  unfold cpr
  rw [h m o m' o' hk, h m' o' m o (fun z => hk z.symm)]
  cases k <;> cases k' <;> simp [rkk, sgn] at hk ⊢
open Classical in
theorem cpr_oo (n : Nat) (k : Bool) {m o m' o' : List D} (h1 : ∀ x ∈ m, IsF n x) (h2 : ∀ x ∈ m', IsF n x) (h3 : ∀ x ∈ o, IsF n x) (h4 : ∀ x ∈ o', IsF n x) : cpr (n + 1) (fop k m o) (fop k m' o') = if cprs n m m' = 0 then cprs n o o' else cprs n m m' := by
  have h : ∀ {m o m' o' : List D}, (∀ x ∈ m, IsF n x) → (∀ x ∈ m', IsF n x) → (∀ x ∈ o, IsF n x) → (∀ x ∈ o', IsF n x) → dlt (ky (n + 1) (fop k m o)) (ky (n + 1) (fop k m' o')) = if m = m' then lxr n o o' else lxr n m m' := fun {m o m' o'} h1 h2 h3 h4 => by
    have c1 := cmpbs_map (f := ky n) fun x hx y hy => ky_cmp (h1 x hx) (h2 y hy)
    have c2 := cmpbs_map (f := ky n) fun x hx y hy => ky_cmp (h3 x hx) (h4 y hy)
    have e1 := eqva_map (f := ky n) fun x hx y hy => ky_eqv (h1 x hx) (h2 y hy)
    rw [ky_op, ky_op, dlt_tt, dlt_yes (by simp [cmpb]) (by simp), lxt_cc (by simpa [cmpb] using c1)]
    by_cases e : m = m'
    · rw [if_pos e, if_pos (by rw [eqv_t]; exact e1.mpr e), lxt_cc (by simpa [cmpb] using c2), eqv_t, lxt_nil, dlt_tt]
      split
      · rename_i q
        have e2 := (eqva_map (f := ky n) fun x hx y hy => ky_eqv (h3 x hx) (h4 y hy)).mp q
        subst e2
        exact (lex_irrefl _).symm
      · rfl
    · rw [if_neg e, if_neg (fun z => e (e1.mp (by rw [eqv_t] at z; exact z))), dlt_tt]
      rfl
  unfold cpr
  rw [h h1 h2 h3 h4, h h2 h1 h4 h3]
  by_cases e : m = m'
  · subst e
    have : cprs n m m = 0 := by
      have z : lxr n m m = false := lex_irrefl _
      simp [cprs, z, sgn]
    rw [if_pos rfl, if_pos rfl, if_pos this]
    rfl
  · rw [if_neg e, if_neg (fun z => e z.symm), if_neg (fun z => e (cprs_0 h1 h2 z))]
    rfl
end VL

end

section
set_option Elab.async false
set_option linter.all false
set_option maxRecDepth 100000
set_option maxHeartbeats 4000000
namespace VL
open PySem PySem.Spec PyProof.Rows L2
theorem cut_1 {α : Type} (a : α) (l : List α) : cut (a :: l) (some 1) none = l := by
  unfold cut
  have h1 : HT.sIx (a :: l).length 0 (some 1) = 1 := by simp [HT.sIx]
  have h2 : HT.sIx (a :: l).length (a :: l).length none = (a :: l).length := rfl
  rw [h1, h2]
  simp
theorem cut_0 {α : Type} (l : List α) : cut l (some 0) none = l := by
  unfold cut
  have h1 : HT.sIx l.length 0 (some 0) = 0 := by simp [HT.sIx]
  have h2 : HT.sIx l.length l.length none = l.length := rfl
  rw [h1, h2]
  simp
/-- a loop that may return -/
theorem fLoop_out {P : Ev → Prop} {Q : OT → Ev → Prop} {g : D → Ev → Option Ev} {fb : Ev → Out} : ∀ {ds : List D} {ρ : Ev}, P ρ → (∀ d ∈ ds, ∀ ρ, P ρ → ∃ ρ1, g d ρ = some ρ1 ∧ ((∃ ρ2, fb ρ1 = .nx ρ2 ∧ P ρ2) ∨ (∃ t ρ2, fb ρ1 = .rt t ρ2 ∧ Q t ρ2))) →
    (∃ ρ', fLoop g fb ds ρ = .nx ρ' ∧ P ρ') ∨ (∃ t ρ', fLoop g fb ds ρ = .rt t ρ' ∧ Q t ρ')
  | [], ρ, h, _ => .inl ⟨ρ, rfl, h⟩
  | d :: ds, ρ, h, st => by
    obtain ⟨ρ1, e1, ⟨ρ2, e2, h2⟩ | ⟨t, ρ2, e2, h2⟩⟩ := st d (List.mem_cons_self ..) ρ h
    · rcases fLoop_out (ds := ds) h2 fun d hd => st d (List.mem_cons_of_mem _ hd) with ⟨ρ', e3, h3⟩ | ⟨t, ρ', e3, h3⟩
      · exact .inl ⟨ρ', by rw [fLoop_cons, e1, loopG_some, e2, loopK_nx, e3], h3⟩
      · exact .inr ⟨t, ρ', by rw [fLoop_cons, e1, loopG_some, e2, loopK_nx, e3], h3⟩
    · exact .inr ⟨t, ρ2, by rw [fLoop_cons, e1, loopG_some, e2, loopK_rt], h2⟩
theorem mem_zipD : ∀ {xs ys : List D} {d : D}, d ∈ zipD xs ys → ∃ x ∈ xs, ∃ y ∈ ys, d = .tuple [x, y]
  | [], _, _, h => by simp [zipD] at h
  | _ :: _, [], _, h => by simp [zipD] at h
  | x :: xs, y :: ys, d, h => by
    have h' : d ∈ PyData.tuple [x, y] :: zipD xs ys := h
    rcases List.mem_cons.mp h' with rfl | h'
    · exact ⟨x, List.mem_cons_self .., y, List.mem_cons_self .., rfl⟩
    · obtain ⟨a, ha, b, hb, e⟩ := mem_zipD h'
      exact ⟨a, List.mem_cons_of_mem _ ha, b, List.mem_cons_of_mem _ hb, e⟩
def mthG (g : List OT → Option OT) (h : PH) (hs : List PH) (ρ : Ev) : Res OT := opn g (gets (h :: hs) ρ) ρ
@[simp] theorem fMth_ap (T : String) (g : List OT → Option OT) (p2 : Bool) (f1 : Ev → Res PH) (f2 : Ev → Res (List PH)) (ρ : Ev) : fMth T g p2 f1 f2 ρ = (f1 ρ).bind fun h ρ1 => mthAt T g p2 h (h.get ρ1) f2 ρ1 := rfl
@[simp] theorem mthAt_l (g : List OT → Option OT) (p2 : Bool) (h : PH) (l : List D) (f2 : Ev → Res (List PH)) (ρ : Ev) : mthAt "list" g p2 h (some (.sh (.list l))) f2 ρ = (f2 ρ).bind fun hs ρ2 => opn g (gets (h.un p2 :: hs) ρ2) ρ2 := rfl
@[simp] theorem mthAt_o (g : List OT → Option OT) (p2 : Bool) (h : PH) (l : List OT) (f2 : Ev → Res (List PH)) (ρ : Ev) : mthAt "list" g p2 h (some (.lst l)) f2 ρ = (f2 ρ).bind fun hs ρ2 => opn g (gets (h.un p2 :: hs) ρ2) ρ2 := rfl
theorem gIndex_strs {ws : List Str} {w : Str} {j : Nat} (ho : ∀ x ∈ ws, PyData.strOk x = true) (h : PyData.strOk w = true) (hj : ws.findIdx? (fun z => decide (z = w)) = some j) : gIndex [.sh (.list (ws.map .str)), .sh (.str w)] = some (.sh (.int j)) := by
  have f1 : SeqAt.shaped (.list (ws.map .str)) = true := (flat_list (n := 1) fun d hd => by
    obtain ⟨x, hx, rfl⟩ := List.mem_map.mp hd
    exact flat_str _ (ho x hx) _).shaped (by decide)
  have f2 : SeqAt.shaped (.str w) = true := (flat_str w h 1).shaped (by decide)
  have f3 : (SeqAt.shaped (.list (ws.map .str)) && SeqAt.shaped (.str w)) = true := by rw [f1, f2]; rfl
  refine (if_pos f3).trans ?_
  have : (ws.map PyData.str).findIdx? (fun z => PyData.eqv z (.str w)) = some j := by
    rw [List.findIdx?_map, ← hj]
    congr 1
  simp only [d_sh]
  rw [this]
  rfl
end VL
namespace VL
open PySem PySem.Spec PyProof.Rows L2
theorem fLoop_oidx {g : D → Ev → Option Ev} {fb : Ev → Out} {Q : OT → Ev → Prop} : ∀ {ds : List D} {P : Nat → Ev → Prop} {ρ : Ev}, P 0 ρ → (∀ i d ρ, ds[i]? = some d → P i ρ → ∃ ρ1, g d ρ = some ρ1 ∧ ((∃ ρ2, fb ρ1 = .nx ρ2 ∧ P (i + 1) ρ2) ∨ (∃ t ρ2, fb ρ1 = .rt t ρ2 ∧ Q t ρ2))) →
    (∃ ρ', fLoop g fb ds ρ = .nx ρ' ∧ P ds.length ρ') ∨ (∃ t ρ', fLoop g fb ds ρ = .rt t ρ' ∧ Q t ρ')
  | [], P, ρ, h, _ => .inl ⟨ρ, rfl, h⟩
  | d :: ds, P, ρ, h, st => by
    obtain ⟨ρ1, e1, ⟨ρ2, e2, h2⟩ | ⟨t, ρ2, e2, h2⟩⟩ := st 0 d ρ rfl h
    · rcases fLoop_oidx (ds := ds) (P := fun i => P (i + 1)) h2 fun i d' ρ e p => st (i + 1) d' ρ (by simpa using e) p with ⟨ρ', e3, h3⟩ | ⟨t, ρ', e3, h3⟩
      · exact .inl ⟨ρ', by rw [fLoop_cons, e1, loopG_some, e2, loopK_nx, e3], h3⟩
      · exact .inr ⟨t, ρ', by rw [fLoop_cons, e1, loopG_some, e2, loopK_nx, e3], h3⟩
    · exact .inr ⟨t, ρ2, by rw [fLoop_cons, e1, loopG_some, e2, loopK_rt], h2⟩
end VL
namespace VL
open PySem PySem.Spec PyProof.Rows L2
theorem shaped_strs {ws : List Str} (ho : ∀ x ∈ ws, PyData.strOk x = true) : SeqAt.shaped (.list (ws.map .str)) = true := (flat_list (n := 1) fun d hd => by
    obtain ⟨x, hx, rfl⟩ := List.mem_map.mp hd
    exact flat_str _ (ho x hx) _).shaped (by decide)
theorem any_strs (w : Str) : ∀ ws : List Str, ((ws.map PyData.str).any fun z => PyData.eqv z (.str w)) = decide (w ∈ ws)
  | [] => by simp
  | x :: ws => by
    rw [List.map_cons, List.any_cons, any_strs w ws]
    by_cases h : x = w
    · simp [PyData.eqv, h]
    · have h' : ¬ w = x := fun z => h z.symm
      simp [PyData.eqv, h, h']
theorem gIn_strs {ws : List Str} {w : Str} {b : Bool} (ho : ∀ x ∈ ws, PyData.strOk x = true) (h : PyData.strOk w = true) : gInB b (.sh (.str w)) (.sh (.list (ws.map .str))) = some (.sh (.bool (b != decide (w ∈ ws)))) := by
  have f1 := shaped_strs ho
  have f2 : SeqAt.shaped (.str w) = true := (flat_str w h 1).shaped (by decide)
  have f3 : (SeqAt.shaped (.str w) && SeqAt.shaped (.list (ws.map .str))) = true := by rw [f1, f2]; rfl
  refine (if_pos f3).trans ?_
  simp only [d_sh]
  rw [any_strs]
end VL

end

section
set_option Elab.async false
set_option linter.all false
set_option maxRecDepth 100000
set_option maxHeartbeats 1000000
namespace VL
open PySem PySem.Spec PyProof.Rows L2
/-! ### x is True, x is not True, of truth values -/
def gIsB (b : Bool) (t1 t2 : OT) : Option OT :=
  match t1, t2 with
  | .sh (.bool x), .sh (.bool y) => some (.sh (.bool (decide (x = y) == b)))
  | _, _ => none
@[simp] theorem gIsB_bb (b x y : Bool) : gIsB b (.sh (.bool x)) (.sh (.bool y)) = some (.sh (.bool (decide (x = y) == b))) := rfl
theorem prim_isB {c : VC} : Prim2 c rIsB (gIsB true) := by
  intro Z H v1 v2 t1 t2 F1 F2 t Q s w1 w2 e n
  unfold gIsB at e
  split at e
  · cases e
    cases w1 with
    | sh r1 => cases w2 with
      | sh r2 =>
        cases r1
        cases r2
        rename_i x y
        refine ⟨x, y, rfl, rfl, ?_⟩
        have e1 : (decide (x = y) == true) = decide (x = y) := by cases decide (x = y) <;> rfl
        rw [e1] at n
        exact n.bool s
  · cases e
theorem prim_notB {c : VC} : Prim2 c rNotB (gIsB false) := by
  intro Z H v1 v2 t1 t2 F1 F2 t Q s w1 w2 e n
  unfold gIsB at e
  split at e
  · cases e
    cases w1 with
    | sh r1 => cases w2 with
      | sh r2 =>
        cases r1
        cases r2
        rename_i x y
        refine ⟨x, y, rfl, rfl, ?_⟩
        have e1 : (decide (x = y) == false) = !decide (x = y) := by cases decide (x = y) <;> rfl
        rw [e1] at n
        exact n.bool s
  · cases e
/-! ### a quicker rule for an if -/
def ifS (r : Res Bool) (f g : Ev → Out) : Out := match r with
  | .bad => .bad
  | .ok b ρ => if b = true then f ρ else g ρ
  | .exc x ρ => .exc x ρ
@[simp] theorem ifS_ok (b : Bool) (ρ : Ev) (f g : Ev → Out) : ifS (.ok b ρ) f g = if b = true then f ρ else g ρ := rfl
@[simp] theorem ifS_exc (x : Exn) (ρ : Ev) (f g : Ev → Out) : ifS (.exc x ρ) f g = .exc x ρ := rfl
@[simp] theorem ifS_bad (f g : Ev → Out) : ifS .bad f g = .bad := rfl
theorem fIfS_if (t : Ev → Res Bool) (f g : Ev → Out) (ρ : Ev) : fIfS t f g ρ = ifS (t ρ) f g := by
  unfold ifS
  rw [fIfS_ap]
  cases t ρ <;> rfl
end VL

end

section
set_option Elab.async false
set_option linter.all false
set_option maxRecDepth 100000
set_option maxHeartbeats 1000000
namespace VL
open PySem PySem.Spec PyProof.Rows L2
/-! ### sorted whole numbers -/
def sortI (l : List Int) : List Int := l.mergeSort fun a b => decide (a ≤ b)
theorem sortI_perm (l : List Int) : (sortI l).Perm l := List.mergeSort_perm _ _
theorem sortI_ord (l : List Int) : (sortI l).Pairwise (· ≤ ·) := by
  have h := List.pairwise_mergeSort (le := fun a b : Int => decide (a ≤ b)) (fun a b c h1 h2 => by simp only [decide_eq_true_eq] at *; omega) (fun a b => by simp only [Bool.or_eq_true, decide_eq_true_eq]; omega) l
  exact h.imp fun {a b} h => by simpa using h
theorem ord_uniq : ∀ {a b : List Int}, a.Perm b → a.Pairwise (· ≤ ·) → b.Pairwise (· ≤ ·) → a = b := fun p h1 h2 => p.eq_of_pairwise (fun a b _ _ x y => by omega) h1 h2
theorem sortI_congr {a b : List Int} (p : a.Perm b) : sortI a = sortI b := ord_uniq ((sortI_perm a).trans (p.trans (sortI_perm b).symm)) (sortI_ord a) (sortI_ord b)
theorem sortI_uniq {a b : List Int} (p : a.Perm b) (h : a.Pairwise (· ≤ ·)) : a = sortI b := ord_uniq (p.trans (sortI_perm b).symm) h (sortI_ord b)
theorem keys_ints (l : List Int) : KeysOk (l.map .int) := by
  refine ⟨fun d hd => ?_, fun d hd e he => ?_, .inr (.inl ⟨scalT (.int 0), by decide, fun d hd => ?_⟩)⟩
  · obtain ⟨i, _, rfl⟩ := List.mem_map.mp hd
    exact ⟨by simp [PyData.canLay0], by simp [PyData.depth]⟩
  · obtain ⟨i, _, rfl⟩ := List.mem_map.mp hd
    obtain ⟨j, _, rfl⟩ := List.mem_map.mp he
    simp [cmpb]
  · obtain ⟨i, _, rfl⟩ := List.mem_map.mp hd
    rfl
theorem sortD_ints (l : List Int) : sortD (l.map .int) = (sortI l).map .int := by
  unfold sortD sortI
  refine (List.map_mergeSort fun a _ b _ => ?_).symm
  simp only [PySem.W.dataLe_eq, cond_false, id, PySem.W.dataLt_int]
  rw [← decide_not]
  exact decide_eq_decide.mpr ⟨fun h => by omega, fun h => by omega⟩
theorem gSorted_ints {t : OT} {l : List Int} (h : qItems t = some (l.map .int)) (hl : l.length ≤ 1000000) : gSorted [t] = some (.lst ((sortI l).map (OT.sh ∘ PyData.int))) := by
  have e : gSorted [t] = (qItems t).bind gSort0 := by
    show (match qItems t with
      | some ds => gSort0 ds
      | none => none) = _
    cases qItems t <;> rfl
  rw [e, h, Option.bind_some]
  unfold gSort0
  rw [if_pos ⟨keys_ints l, by rw [List.length_map]; exact hl⟩, sortD_ints, List.map_map]
end VL

end

section
set_option Elab.async false
set_option linter.all false
set_option maxRecDepth 100000
set_option maxHeartbeats 4000000
namespace VL
open PySem PySem.Spec PyProof.Rows L2
/-! ### dicts whose keys are numbers and tuples together: what a look-up finds -/
structure RK (w : World) (h : Heap) (es : Array DictEntry) (ks : List NestedKey) : Prop where
  len : es.size = ks.length
  each : ∀ (i : Nat) (hi : i < es.size), ∃ k, ks[i]? = some k ∧ NestedIs h k es[i].key ∧ k.depth ≤ 8 ∧ es[i].hash = k.hash w
  nd : ks.Nodup
theorem nd_ix {α : Type} {l : List α} (h : l.Nodup) {i j : Nat} {x : α} (hi : l[i]? = some x) (hj : l[j]? = some x) : i = j := by
  exact (List.getElem?_inj (List.getElem?_eq_some_iff.mp hi).1 h).mp (hi.trans hj.symm)
section
variable {prog : Program} {w : World} {A : Around} {E : Value → Shared → Prop} {s : Shared}
def Hashed (es : Array DictEntry) (z : Int) (j : Nat) : Bool := (es[j]?.map (·.hash)) == some z
def left (es : Array DictEntry) (z : Int) (i : Nat) : List Nat := (List.range' i (es.size - i)).filter fun j => Hashed es z j
theorem left_cons {es : Array DictEntry} {z : Int} {i x : Nat} {r : List Nat} (h : x :: r = left es z i) : i ≤ x ∧ x < es.size ∧ Hashed es z x = true ∧ (∀ j, i ≤ j → j < x → Hashed es z j = false) ∧ r = left es z (x + 1) := by
  obtain ⟨h1, h2, h3, h4, h5⟩ := filter_range'_cons _ _ _ _ _ h.symm
  refine ⟨h1, by omega, h3, fun j a b => h4 j a b, ?_⟩
  rw [h5]
  unfold left
  congr 2
  omega
theorem left_nil {es : Array DictEntry} {z : Int} {i : Nat} (h : [] = left es z i) : ∀ j, i ≤ j → j < es.size → Hashed es z j = false := fun j a b => by
  have := List.filter_eq_nil_iff.mp h.symm j (List.mem_range'_1.mpr ⟨a, by omega⟩)
  simpa using this
theorem quiet_all {k : NestedKey} {v : Value} {l : List Value} {Q : Bool → Shared → Prop} (hk : NestedIs s.heap k v) (h8 : k.depth ≤ 8) (hl : ∀ u ∈ l, ∃ j, NestedIs s.heap j u ∧ j.depth ≤ 8) (q : Q false s) :
    wpAny (model prog w) A (tableMayTell v l) Q E s := by
  unfold tableMayTell
  split
  · exact wpAny_pure q
  · refine wpAny_bind (quiet_key k v 8 s hk h8 A E _ ?_)
    simp only [Bool.not_true, Bool.false_eq_true, if_false]
    refine wpAny_bind (wpAny_forIn_list _ (fun us b t => t = s ∧ b = (none, ()) ∧ ∀ u ∈ us, ∃ j, NestedIs s.heap j u ∧ j.depth ≤ 8) _ ?_ ?_ _ _ ⟨rfl, rfl, hl⟩)
    · intro u us b t ⟨e1, e2, e3⟩
      subst e1 e2
      obtain ⟨j, hj, hj8⟩ := e3 u (List.mem_cons_self ..)
      refine wpAny_bind (quiet_key j u 8 t hj hj8 A E _ ?_)
      simp only [Bool.not_true, Bool.false_eq_true, if_false]
      exact wpAny_pure ⟨rfl, rfl, fun y hy => e3 y (List.mem_cons_of_mem _ hy)⟩
    · intro b t ⟨e1, e2, _⟩
      subst e1 e2
      exact wpAny_pure q
theorem w_ite {α : Type} {c : Prop} [Decidable c] {x y : Sem α} {T : α → Shared → Prop} (h1 : c → wpAny (model prog w) A x T E s) (h2 : ¬ c → wpAny (model prog w) A y T E s) : wpAny (model prog w) A (if c then x else y) T E s := by
  by_cases h : c
  · rw [if_pos h]; exact h1 h
  · rw [if_neg h]; exact h2 h
theorem rk_find {d : Addr} {o : Obj} {es : Array DictEntry} {ep : Nat} {ks : List NestedKey} {k : NestedKey} {v : Value} {Q : Option Nat → Shared → Prop} (hu : A.units + 8 < cLine) (hv : NestedIs s.heap k v) (h8 : k.depth ≤ 8)
    (nt : ∀ x t, v ≠ .str x t) (ho : s.heap.get? d = some o) (hd : o.data = .dict es ep) (R : RK w s.heap es ks) (q0 : k ∉ ks → Q none s) (q1 : ∀ j, ks[j]? = some k → Q (some j) s) :
    wpAny (model prog w) A (dictFind d v (k.hash w)) Q E s := by
  have hit : ∀ j, ks[j]? = some k → Hashed es (k.hash w) j = true := fun j e => by
    have hj : j < es.size := by rw [R.len]; exact (List.getElem?_eq_some_iff.mp e).1
    obtain ⟨k', e1, _, _, e4⟩ := R.each j hj
    rw [e] at e1
    cases e1
    unfold Hashed
    rw [Array.getElem?_eq_getElem hj, Option.map_some, e4]
    simp
  have small : ∀ j, ks[j]? = some k → j < es.size := fun j e => by rw [R.len]; exact (List.getElem?_eq_some_iff.mp e).1
  have none_left : ∀ i, (∀ j, j < i → ks[j]? ≠ some k) → (∀ j, i ≤ j → j < es.size → Hashed es (k.hash w) j = false) → k ∉ ks := fun i a b m => by
    obtain ⟨j, e⟩ := List.getElem?_of_mem m
    rcases Nat.lt_or_ge j i with z | z
    · exact a j z e
    · have := b j z (small j e)
      rw [hit j e] at this
      cases this
  have grow : ∀ {i x : Nat}, i ≤ x → (∀ j, i ≤ j → j < x → Hashed es (k.hash w) j = false) → (∀ j, j < i → ks[j]? ≠ some k) → ∀ j, j < x → ks[j]? ≠ some k := fun {i x} _ b a j hj e => by
    rcases Nat.lt_or_ge j i with z | z
    · exact a j z e
    · have := b j z hj
      rw [hit j e] at this
      cases this
  have stored : ∀ u ∈ (placesWithHash es.size (fun i => es[i]?.map (·.hash)) (k.hash w)).filterMap (fun i => es[i]?.map (·.key)), ∃ j, NestedIs s.heap j u ∧ j.depth ≤ 8 := fun u hu' => by
    obtain ⟨i, _, e⟩ := List.mem_filterMap.mp hu'
    cases ei : es[i]? with
    | none => rw [ei] at e; cases e
    | some en =>
      rw [ei] at e
      obtain rfl : en.key = u := by simpa using e
      obtain ⟨hi, rfl⟩ := Array.getElem?_eq_some_iff.mp ei
      obtain ⟨j, _, a, b, _⟩ := R.each i hi
      exact ⟨j, a, b⟩
  have first : placesWithHash es.size (fun i => es[i]?.map (·.hash)) (k.hash w) = left es (k.hash w) 0 := by
    rw [placesWithHash, List.range_eq_range']
    rfl
  -- one place: the entry there, and what comparing it says
  have same : ∀ {x : Nat} {T : Bool → Shared → Prop} (hx : x < es.size), (∀ k', ks[x]? = some k' → T (decide (k' = k)) s) → wpAny (model prog w) A (eqBool es[x].key v) T E s := fun {x T} hx g => by
    obtain ⟨k', e1, e2, e3, _⟩ := R.each x hx
    refine eqAt_key k' k A s _ _ e2 hv (by omega) _ _ _ _ ?_
    rw [← NestedKey.decide_eq]
    exact g k' e1
  have plain : wpAny (model prog w) A (dictWalkPlain d v (k.hash w) es (placesWithHash es.size (fun i => es[i]?.map (·.hash)) (k.hash w))) Q E s := by
    rw [first]
    refine wpAny_bind (wpAny_forIn_list _ (fun r b t => t = s ∧ b = (none, ()) ∧ ∃ i, r = left es (k.hash w) i ∧ ∀ j, j < i → ks[j]? ≠ some k) _ ?_ ?_ _ _ ⟨rfl, rfl, 0, rfl, fun j z => absurd z (Nat.not_lt_zero _)⟩)
    · intro x r b t ⟨e1, e2, i, hr, no⟩
      subst e1 e2
      obtain ⟨l1, l2, l3, l4, l5⟩ := left_cons hr
      have no' := grow l1 l4 no
      have next : ks[x]? ≠ some k → ∃ i, r = left es (k.hash w) i ∧ ∀ j, j < i → ks[j]? ≠ some k := fun z => ⟨x + 1, l5, fun j hj => by
        rcases Nat.lt_succ_iff_lt_or_eq.mp hj with y | y
        · exact no' j y
        · rw [y]; exact z⟩
      simp only [Array.getElem?_eq_getElem l2]
      by_cases hh : (es[x].hash == k.hash w) = true
      · rw [if_pos hh]
        refine wpAny_bind (wpAny_dictEpoch ho hd (wpAny_bind (same l2 fun k' ek => wpAny_bind (wpAny_dictEpoch ho hd ?_))))
        show wpAny _ _ (if (ep != ep) = true then _ else _) _ E _
        rw [if_neg (by simp)]
        by_cases hk : k' = k
        · rw [decide_eq_true hk]
          subst hk
          exact wpAny_bind (wpAny_rule (wpAny_pure (wpAny_pure (q1 x ek))))
        · rw [decide_eq_false hk]
          exact wpAny_bind (wpAny_rule (wpAny_pure ⟨rfl, rfl, next fun z => hk (by rw [ek] at z; exact Option.some.inj z)⟩))
      · rw [if_neg hh]
        refine wpAny_pure ⟨rfl, rfl, next fun z => hh ?_⟩
        have := hit x z
        unfold Hashed at this
        rw [Array.getElem?_eq_getElem l2] at this
        simpa using this
    · intro b t ⟨e1, e2, i, hr, no⟩
      subst e1 e2
      exact wpAny_pure (q0 (none_left i no (left_nil hr)))
  unfold dictFind
  try with_reducible refine wpAny_holding ?_
  refine wpAny_bind (wpAny_dictEntries ho hd ?_)
  have sh : v = .none ∨ (∃ b, v = .bool b) ∨ (∃ i t, v = .int i t) ∨ ∃ a, v = .ref a := by
    cases hv with
    | none => exact .inl rfl
    | bool e => exact .inr (.inl ⟨_, rfl⟩)
    | int i t => exact .inr (.inr (.inl ⟨_, _, rfl⟩))
    | text x t => exact absurd rfl (nt x t)
    | tup _ _ _ _ => exact .inr (.inr (.inr ⟨_, rfl⟩))
  have other : ∀ a, v = .ref a → ¬ (es.any fun en => en.key == Value.ref a && en.hash != k.hash w) = true := fun a ea => by
    rw [← Array.any_toList, List.any_eq_true]
    rintro ⟨en, hen, hc⟩
    obtain ⟨i, hi, rfl⟩ := Array.mem_iff_getElem.mp (Array.mem_toList_iff.mp hen)
    obtain ⟨k', _, e2, _, e4⟩ := R.each i hi
    simp only [Bool.and_eq_true, beq_iff_eq, bne_iff_ne, ne_eq] at hc
    rw [hc.1, ← ea] at e2
    exact hc.2 (by rw [e4, NestedIs.inj _ _ _ e2 hv])
  rcases sh with rfl | ⟨b, rfl⟩ | ⟨iv, tv, rfl⟩ | ⟨a, rfl⟩ <;> dsimp only <;> refine w_ite (fun c => ?_) fun _ => ?_
  case inr.inr.inr.refine_1 => exact absurd c (by simp [carriedByValue])
  case inl.refine_1 => exact plain
  case inr.inl.refine_1 => exact plain
  case inr.inr.inl.refine_1 => exact plain
  case inr.inr.inr.refine_2 =>
    rw [if_neg (other a rfl)]
    refine w_ite (fun _ => wpAny_bind (wpAny_pure ?_)) fun _ => wpAny_bind (quiet_all hv h8 stored ?_)
    all_goals
      rw [if_neg (by rw [Bool.false_and]; exact Bool.false_ne_true), first]
      refine wpAny_bind (wpAny_forIn_list _ (fun r b t => t = s ∧ ∃ i y, b = (none, y) ∧ r = left es (k.hash w) i ∧ ((y = none ∧ ∀ j, j < i → ks[j]? ≠ some k) ∨ ∃ j, y = some j ∧ j < i ∧ ks[j]? = some k)) _ ?_ ?_ _ _
        ⟨rfl, 0, none, rfl, rfl, .inl ⟨rfl, fun j z => absurd z (Nat.not_lt_zero _)⟩⟩)
      · intro x r b t ⟨e1, i, y, e2, hr, hy⟩
        subst e1 e2
        obtain ⟨l1, l2, l3, l4, l5⟩ := left_cons hr
        have hy' : (y = none ∧ ∀ j, j < x → ks[j]? ≠ some k) ∨ ∃ j, y = some j ∧ j < x ∧ ks[j]? = some k := by
          rcases hy with ⟨z, no⟩ | ⟨j, z, hj, e⟩
          · exact .inl ⟨z, grow l1 l4 no⟩
          · exact .inr ⟨j, z, by omega, e⟩
        have next : ks[x]? ≠ some k → ((y = none ∧ ∀ j, j < x + 1 → ks[j]? ≠ some k) ∨ ∃ j, y = some j ∧ j < x + 1 ∧ ks[j]? = some k) := fun z => by
          rcases hy' with ⟨q, no⟩ | ⟨j, q, hj, e⟩
          · refine .inl ⟨q, fun j hj => ?_⟩
            rcases Nat.lt_succ_iff_lt_or_eq.mp hj with u | u
            · exact no j u
            · rw [u]; exact z
          · exact .inr ⟨j, q, by omega, e⟩
        rw [Array.getElem?_eq_getElem l2]
        dsimp only
        refine w_ite (fun hh => ?_) fun hh => ?_
        · refine wpAny_bind (wpAny_dictEpoch ho hd (wpAny_bind (same l2 fun k' ek => wpAny_bind (wpAny_dictEpoch ho hd ?_))))
          rw [if_neg (show ¬ (ep != ep) = true by simp)]
          by_cases hk : k' = k
          · rw [decide_eq_true hk]
            subst hk
            rcases hy' with ⟨rfl, _⟩ | ⟨j, _, hj, e⟩
            · rw [if_pos rfl, if_neg (show ¬ (none : Option Nat).isSome = true by simp)]
              refine wpAny_bind (wpAny_rule (w_ite (fun _ => wpAny_pure (wpAny_pure (q1 x ek))) fun _ => wpAny_pure ⟨rfl, x + 1, some x, rfl, l5, .inr ⟨x, rfl, Nat.lt_succ_self x, ek⟩⟩))
            · exact absurd (nd_ix R.nd e ek) (by omega)
          · rw [decide_eq_false hk, if_neg Bool.false_ne_true]
            refine wpAny_bind (wpAny_rule ?_)
            rw [if_neg (by rw [Bool.false_and]; exact Bool.false_ne_true)]
            exact wpAny_pure ⟨rfl, x + 1, y, rfl, l5, next fun z => hk (by rw [ek] at z; exact Option.some.inj z)⟩
        · refine wpAny_pure ⟨rfl, x + 1, y, rfl, l5, next fun z => hh ?_⟩
          have := hit x z
          unfold Hashed at this
          rw [Array.getElem?_eq_getElem l2] at this
          simpa using this
      · intro b t ⟨e1, i, y, e2, hr, hy⟩
        subst e1 e2
        rcases hy with ⟨rfl, no⟩ | ⟨j, rfl, _, e⟩
        · exact wpAny_pure (q0 (none_left i no (left_nil hr)))
        · exact wpAny_pure (q1 j e)
  all_goals
    refine w_ite (fun _ => wpAny_bind (wpAny_pure ?_)) fun _ => wpAny_bind (quiet_all hv h8 stored ?_)
  all_goals
    rw [if_neg (by rw [Bool.false_and]; exact Bool.false_ne_true), first]
    refine wpAny_bind (wpAny_forIn_list _ (fun r b t => t = s ∧ ∃ i y, b = (none, y) ∧ r = left es (k.hash w) i ∧ ((y = none ∧ ∀ j, j < i → ks[j]? ≠ some k) ∨ ∃ j, y = some j ∧ j < i ∧ ks[j]? = some k)) _ ?_ ?_ _ _
      ⟨rfl, 0, none, rfl, rfl, .inl ⟨rfl, fun j z => absurd z (Nat.not_lt_zero _)⟩⟩)
    · intro x r b t ⟨e1, i, y, e2, hr, hy⟩
      subst e1 e2
      obtain ⟨l1, l2, l3, l4, l5⟩ := left_cons hr
      have hy' : (y = none ∧ ∀ j, j < x → ks[j]? ≠ some k) ∨ ∃ j, y = some j ∧ j < x ∧ ks[j]? = some k := by
        rcases hy with ⟨z, no⟩ | ⟨j, z, hj, e⟩
        · exact .inl ⟨z, grow l1 l4 no⟩
        · exact .inr ⟨j, z, by omega, e⟩
      have next : ks[x]? ≠ some k → ((y = none ∧ ∀ j, j < x + 1 → ks[j]? ≠ some k) ∨ ∃ j, y = some j ∧ j < x + 1 ∧ ks[j]? = some k) := fun z => by
        rcases hy' with ⟨q, no⟩ | ⟨j, q, hj, e⟩
        · refine .inl ⟨q, fun j hj => ?_⟩
          rcases Nat.lt_succ_iff_lt_or_eq.mp hj with u | u
          · exact no j u
          · rw [u]; exact z
        · exact .inr ⟨j, q, by omega, e⟩
      rw [Array.getElem?_eq_getElem l2]
      dsimp only
      refine w_ite (fun hh => ?_) fun hh => ?_
      · refine wpAny_bind (wpAny_dictEpoch ho hd (wpAny_bind (same l2 fun k' ek => wpAny_bind (wpAny_dictEpoch ho hd ?_))))
        rw [if_neg (show ¬ (ep != ep) = true by simp)]
        by_cases hk : k' = k
        · rw [decide_eq_true hk]
          subst hk
          rcases hy' with ⟨rfl, _⟩ | ⟨j, _, hj, e⟩
          · rw [if_pos rfl, if_neg (show ¬ (none : Option Nat).isSome = true by simp)]
            refine wpAny_bind (wpAny_rule (w_ite (fun _ => wpAny_pure (wpAny_pure (q1 x ek))) fun _ => wpAny_pure ⟨rfl, x + 1, some x, rfl, l5, .inr ⟨x, rfl, Nat.lt_succ_self x, ek⟩⟩))
          · exact absurd (nd_ix R.nd e ek) (by omega)
        · rw [decide_eq_false hk, if_neg Bool.false_ne_true]
          refine wpAny_bind (wpAny_rule ?_)
          rw [if_neg (by rw [Bool.false_and]; exact Bool.false_ne_true)]
          exact wpAny_pure ⟨rfl, x + 1, y, rfl, l5, next fun z => hk (by rw [ek] at z; exact Option.some.inj z)⟩
      · refine wpAny_pure ⟨rfl, x + 1, y, rfl, l5, next fun z => hh ?_⟩
        have := hit x z
        unfold Hashed at this
        rw [Array.getElem?_eq_getElem l2] at this
        simpa using this
    · intro b t ⟨e1, i, y, e2, hr, hy⟩
      subst e1 e2
      rcases hy with ⟨rfl, no⟩ | ⟨j, rfl, _, e⟩
      · exact wpAny_pure (q0 (none_left i no (left_nil hr)))
      · exact wpAny_pure (q1 j e)
end
end VL

end

section
set_option Elab.async false
set_option linter.all false
set_option maxRecDepth 100000
set_option maxHeartbeats 4000000
namespace VL
open PySem PySem.Spec PyProof.Rows L2
/-! ### the machine's look-up and store -/
section
variable {prog : Program} {w : World} {A : Around} {E : Value → Shared → Prop} {s : Shared}
theorem rk_get {d : Addr} {o : Obj} {es : Array DictEntry} {ep : Nat} {ks : List NestedKey} {k : NestedKey} {v : Value} {Q : Option Value → Shared → Prop} (hu : A.units + 8 < cLine) (hv : NestedIs s.heap k v) (h8 : k.depth ≤ 8)
    (nt : ∀ x t, v ≠ .str x t) (ho : s.heap.get? d = some o) (hd : o.data = .dict es ep) (R : RK w s.heap es ks) (q0 : k ∉ ks → Q none { s with toks := s.toks + k.draws })
    (q1 : ∀ j (hj : j < es.size), ks[j]? = some k → Q (some es[j].val) { s with toks := s.toks + k.draws }) : wpAny (model prog w) A (dictGet d v) Q E s := by
  unfold dictGet
  try with_reducible refine wpAny_holding ?_
  refine wpAny_bind (pyHash_key k v A s _ hv (by omega) (wpAny_bind (rk_find (s := { s with toks := s.toks + k.draws }) hu hv h8 nt ho hd R (fun z => wpAny_pure (q0 z)) fun j e => ?_)))
  have hj : j < es.size := by rw [R.len]; exact (List.getElem?_eq_some_iff.mp e).1
  refine wpAny_bind (wpAny_dictEntries (s := { s with toks := s.toks + k.draws }) ho hd ?_)
  rw [Array.getElem?_eq_getElem hj]
  exact wpAny_pure (q1 j hj e)
theorem rk_set {d : Addr} {o : Obj} {es : Array DictEntry} {ep : Nat} {ks : List NestedKey} {k : NestedKey} {v x : Value} {Q : Unit → Shared → Prop} (hu : A.units + 8 < cLine) (hv : NestedIs s.heap k v) (h8 : k.depth ≤ 8)
    (nt : ∀ x t, v ≠ .str x t) (ho : s.heap.get? d = some o) (hx : o.ExactDict) (hd : o.data = .dict es ep) (R : RK w s.heap es ks) (hz : es.size ≤ sizeLine)
    (q0 : k ∉ ks → ∀ h' o', h'.get? d = some o' → o'.ExactDict → o'.data = .dict (es.push ⟨k.hash w, v, x⟩) (ep + 1) → Heap.SameBut d s.heap h' → Q () { s with heap := h', toks := s.toks + k.draws })
    (q1 : ∀ j (hj : j < es.size), ks[j]? = some k → ∀ h' o', h'.get? d = some o' → o'.ExactDict → o'.data = .dict (es.modify j fun en => { en with val := x }) ep → Heap.SameBut d s.heap h' → Q () { s with heap := h', toks := s.toks + k.draws }) :
    wpAny (model prog w) A (dictSet d v x) Q E s := by
  unfold dictSet
  try with_reducible refine wpAny_holding ?_
  refine wpAny_bind (pyHash_key k v A s _ hv (by omega) ?_)
  unfold dictSetHashed
  try with_reducible refine wpAny_holding ?_
  refine wpAny_bind (rk_find (s := { s with toks := s.toks + k.draws }) hu hv h8 nt ho hd R (fun z => ?_) fun j e => ?_)
  · exact wpAny_bind (wpAny_rule (wpAny_updateDictKeys (hz := hz) (s := { s with toks := s.toks + k.draws }) ho hd
      (q0 z _ _ (Heap.get?_update_self _ ho (Obj.isFreed_of_dict (Obj.data_mapDictKeys hd _))) (hx.mapDictKeys _) (Obj.data_mapDictKeys hd _) (Heap.SameBut.update ..))))
  · have hj : j < es.size := by rw [R.len]; exact (List.getElem?_eq_some_iff.mp e).1
    exact wpAny_bind (wpAny_rule (wpAny_bind (wpAny_updateDict (s := { s with toks := s.toks + k.draws }) ho hd (wpAny_point
      (q1 j hj e _ _ (Heap.get?_update_self _ ho (Obj.isFreed_of_dict (Obj.data_mapDict hd _))) (hx.mapDict _) (Obj.data_mapDict hd _) (Heap.SameBut.update ..))))))
theorem ex_ty {d : Addr} {o : Obj} (ho : s.heap.get? d = some o) (hx : o.ExactDict) : s.TypeIs (.ref d) "dict" := ⟨o, ho, hx.1⟩
theorem rk_contains {d : Addr} {o : Obj} {es : Array DictEntry} {ep : Nat} {ks : List NestedKey} {k : NestedKey} {v : Value} {Q : Bool → Shared → Prop} (hu : A.units + 9 < cLine) (hv : NestedIs s.heap k v) (h8 : k.depth ≤ 8)
    (nt : ∀ x t, v ≠ .str x t) (ho : s.heap.get? d = some o) (hx : o.ExactDict) (hd : o.data = .dict es ep) (hs : (d == sysModules) = false) (R : RK w s.heap es ks) (q : Q (decide (k ∈ ks)) { s with toks := s.toks + k.draws }) :
    wpAny (model prog w) A (contains (.ref d) v) Q E s := by
  refine wpAny_contains_slot (ex_ty ho hx) F.slot_dict_contains ?_
  refine call_meetsIn F.slot_dict_contains (ex_ty ho hx) F.entry_dict_contains (F.args_dict_contains_2 _ _) (S := fun B R' t => B = A ∧ t = s ∧ R' (.ok (.ret (.bool (decide (k ∈ ks))))) { s with toks := s.toks + k.draws }) (fun B R' t hS => ?_) ⟨rfl, rfl, wpAny_truthy_bool q⟩
  obtain ⟨e1, e2, hq⟩ := hS
  subst e1 e2
  show wpAny _ _ (dictGet d v >>= _) _ _ _
  refine wpAny_bind (rk_get (by rw [Around.in1_units]; omega) hv h8 nt ho hd R (fun z => ?_) fun j hj e => ?_)
  · rw [decide_eq_false z] at hq
    show wpAny _ _ (Builtin.Dict.pendingKey? d v >>= _) _ _ _
    exact wpAny_bind (wpAny_pendingKey_other hs (wpAny_pure hq))
  · rw [decide_eq_true (List.mem_of_getElem? e)] at hq
    show wpAny _ _ (ret (.bool true)) _ _ _
    exact wpAny_pure hq
theorem rk_item {d : Addr} {o : Obj} {es : Array DictEntry} {ep : Nat} {ks : List NestedKey} {k : NestedKey} {v : Value} {j : Nat} {Q : Value → Shared → Prop} (hu : A.units + 9 < cLine) (hv : NestedIs s.heap k v) (h8 : k.depth ≤ 8)
    (nt : ∀ x t, v ≠ .str x t) (ho : s.heap.get? d = some o) (hx : o.ExactDict) (hd : o.data = .dict es ep) (R : RK w s.heap es ks) (hj : j < es.size) (e : ks[j]? = some k) (q : Q es[j].val { s with toks := s.toks + k.draws }) :
    wpAny (model prog w) A (getItem (.ref d) v) Q E s := by
  unfold getItem
  try with_reducible refine wpAny_holding ?_
  refine wpAny_bind (wpAny_sequenceKey (ex_ty ho hx) (by decide) ?_)
  refine wpAny_bind (wpAny_callSpecial?_slot (name := Str.ofString "__getitem__") (ex_ty ho hx) slot_dict_getitem
    (wpAny_call_entry slot_dict_getitem (ex_ty ho hx) entry_dict_getitem ?_ (args_dict_getitem _ _)))
  show wpAny _ _ (dictGet d v >>= _) _ _ s
  refine wpAny_bind (rk_get (by rw [Around.in1_units]; omega) hv h8 nt ho hd R (fun z => absurd (List.mem_of_getElem? e) z) fun j' hj' e' => ?_)
  obtain rfl := nd_ix R.nd e e'
  exact wpAny_pure ⟨_, rfl, wpAny_pure q⟩
theorem rk_store {d : Addr} {o : Obj} {es : Array DictEntry} {ep : Nat} {ks : List NestedKey} {k : NestedKey} {v x : Value} {Q : Unit → Shared → Prop} (hu : A.units + 9 < cLine) (hv : NestedIs s.heap k v) (h8 : k.depth ≤ 8)
    (nt : ∀ x t, v ≠ .str x t) (ho : s.heap.get? d = some o) (hx : o.ExactDict) (hd : o.data = .dict es ep) (R : RK w s.heap es ks) (hz : es.size ≤ sizeLine)
    (q0 : k ∉ ks → ∀ h' o', h'.get? d = some o' → o'.ExactDict → o'.data = .dict (es.push ⟨k.hash w, v, x⟩) (ep + 1) → Heap.SameBut d s.heap h' → Q () { s with heap := h', toks := s.toks + k.draws })
    (q1 : ∀ j (hj : j < es.size), ks[j]? = some k → ∀ h' o', h'.get? d = some o' → o'.ExactDict → o'.data = .dict (es.modify j fun en => { en with val := x }) ep → Heap.SameBut d s.heap h' → Q () { s with heap := h', toks := s.toks + k.draws }) :
    wpAny (model prog w) A (setItem (.ref d) v x) Q E s := by
  unfold setItem
  try with_reducible refine wpAny_holding ?_
  refine wpAny_bind (wpAny_sequenceKey (ex_ty ho hx) (by decide) ?_)
  refine wpAny_bind (wpAny_callSpecial?_slot (name := Str.ofString "__setitem__") (ex_ty ho hx) slot_dict_setitem
    (wpAny_call_entry slot_dict_setitem (ex_ty ho hx) entry_dict_setitem ?_ (args_dict_setitem _ _ _)))
  show wpAny _ _ (Builtin.Dict.notOrdered "__setitem__" ⟨[.ref d, v, x], []⟩ >>= _) _ _ s
  refine wpAny_bind (wpAny_notOrdered_dict (ex_ty ho hx) ?_)
  show wpAny _ _ (dictSet d v x >>= _) _ _ s
  exact wpAny_bind (rk_set (by rw [Around.in1_units]; omega) hv h8 nt ho hx hd R hz (fun z h' o' a b c e => wpAny_pure ⟨.none, rfl, wpAny_pure (q0 z h' o' a b c e)⟩) fun j hj z h' o' a b c e => wpAny_pure ⟨.none, rfl, wpAny_pure (q1 j hj z h' o' a b c e)⟩)
theorem rk_getD {d : Addr} {o : Obj} {es : Array DictEntry} {ep : Nat} {ks : List NestedKey} {k : NestedKey} {v x : Value} {Q : Value → Shared → Prop} (hu : A.units + 9 < cLine) (hv : NestedIs s.heap k v) (h8 : k.depth ≤ 8)
    (nt : ∀ x t, v ≠ .str x t) (ho : s.heap.get? d = some o) (hx : o.ExactDict) (hd : o.data = .dict es ep) (hs : (d == sysModules) = false) (R : RK w s.heap es ks) (q0 : k ∉ ks → Q x { s with toks := s.toks + k.draws })
    (q1 : ∀ j (hj : j < es.size), ks[j]? = some k → Q es[j].val { s with toks := s.toks + k.draws }) : wpAny (model prog w) A (call (.builtin "dict.get") [.ref d, v, x]) Q E s := by
  refine call_meetsIn F.slot_dict_get (ex_ty ho hx) F.entry_dict_get (F.args_dict_get_3 _ _ _) (S := fun B R' t => B = A ∧ t = s ∧ (k ∉ ks → R' (.ok (.ret x)) { s with toks := s.toks + k.draws }) ∧
    ∀ j (hj : j < es.size), ks[j]? = some k → R' (.ok (.ret es[j].val)) { s with toks := s.toks + k.draws }) (fun B R' t hS => ?_) ⟨rfl, rfl, q0, q1⟩
  obtain ⟨e1, e2, p0, p1⟩ := hS
  subst e1 e2
  show wpAny _ _ (dictGet d v >>= _) _ _ _
  refine wpAny_bind (rk_get (by rw [Around.in1_units]; omega) hv h8 nt ho hd R (fun z => ?_) fun j hj e => ?_)
  · show wpAny _ _ (Builtin.Dict.missed d v >>= _) _ _ _
    exact wpAny_bind (wpAny_missed_other hs (wpAny_pure (p0 z)))
  · exact wpAny_pure (p1 j hj e)
end
end VL

end

section
set_option Elab.async false
set_option linter.all false
set_option maxRecDepth 100000
set_option maxHeartbeats 4000000
namespace VL
open PySem PySem.Spec PyProof.Rows L2
section
variable {X : Cx} {xa : Str → Option Addr} {pins : List (Addr × Obj)} {σ : St} {H Z : Hp} {s : Shared}
mutual
/-- data that may be a key stands in the heap as that key -/
theorem nest_of (I : Inv X pins σ H s) (sm : Same Z H) : ∀ {v : V} {d : D} {u : Value}, Rp (cc X xa) Z v d → keyD d = true → RelV v u → NestedIs s.heap (nk d) u
  | _, _, _, .non, _, r => by cases r; exact .none
  | _, _, _, .bl b, _, r => by cases r; exact .bool rfl
  | _, _, _, .int i, _, r => by obtain ⟨t, rfl⟩ := r; exact .int i t
  | _, _, _, .str x, _, r => by obtain ⟨t, rfl⟩ := r; exact .text x t
  | _, _, _, .tup h l _, k, r => by
    cases r
    obtain ⟨its, rv, ⟨o, e1, e2, n, e3⟩, _⟩ := I.tuple (SqT.mono sm h)
    exact .tup e1 e2 e3 (nests_of I sm l (by simpa [keyD] using k) rv)
  | _, _, _, .lst h l, k, _ => by simp [keyD] at k
  | _, _, _, .dct _ _ _ _ _ _, k, _ => by simp [keyD] at k
  | _, _, _, .ex _, k, _ => by simp [keyD] at k
theorem nests_of (I : Inv X pins σ H s) (sm : Same Z H) : ∀ {vs : List V} {ds : List D} {us : List Value}, RpL (cc X xa) Z vs ds → keyDs ds = true → Vals vs us → NestedAll s.heap (nks ds) us
  | _, _, _, .nil, _, r => by cases r; exact .nil
  | _, _, _, .cons h l, k, r => by
    cases r with
    | cons r rs =>
      rw [keyDs, Bool.and_eq_true] at k
      exact .cons (nest_of I sm h k.1 r) (nests_of I sm l k.2 rs)
end
theorem kOk_of {d : D} (h : kOk d = true) : keyD d = true ∧ topStr d = false ∧ (nk d).depth ≤ 8 := by
  simp only [kOk, Bool.and_eq_true, Bool.not_eq_true', decide_eq_true_eq] at h
  exact ⟨h.1.1, h.1.2, h.2⟩
theorem noText {v : V} {d : D} {u : Value} (r : Rp (cc X xa) Z v d) (h : topStr d = false) (ru : RelV v u) : ∀ x t, u ≠ .str x t := fun x t e => by
  subst e
  cases r with
  | str y => cases h
  | non => cases ru
  | bl b => cases ru
  | int i => obtain ⟨t, z⟩ := ru; cases z
  | tup _ _ _ => cases ru
  | lst _ _ => cases ru
  | dct _ _ _ _ _ _ => cases ru
  | ex _ => cases ru
theorem RpE.len {c : VC} {Z : Hp} : ∀ {es : List DictEntry} {l : List (D × D)}, RpE c Z es l → es.length = l.length
  | _, _, .nil => rfl
  | _, _, .cons _ _ _ _ _ _ r => by simp [RpE.len r]
theorem RpE.at {c : VC} {Z : Hp} : ∀ {es : List DictEntry} {l : List (D × D)} {j : Nat} {en : DictEntry}, RpE c Z es l → es[j]? = some en →
    ∃ k d vk v, l[j]? = some (k, d) ∧ RelV vk en.key ∧ Rp c Z vk k ∧ kOk k = true ∧ en.hash = (nk k).hash c.w ∧ RelV v en.val ∧ Rp c Z v d
  | _, _, _, _, .nil, e => by simp at e
  | _, _, 0, _, .cons a b o x y z r, e => by simp at e; subst e; exact ⟨_, _, _, _, rfl, a, b, o, x, y, z⟩
  | _, _, j + 1, en, .cons a b o x y z r, e => by
    obtain ⟨k, d, vk, v, h⟩ := RpE.at (j := j) (en := en) r (by simpa using e)
    exact ⟨k, d, vk, v, by simpa using h⟩
theorem RpE.snoc {c : VC} {Z : Hp} {k d : D} {vk v : V} {u x : Value} (hu : RelV vk u) (hk : Rp c Z vk k) (ok : kOk k = true) (hx : RelV v x) (hd : Rp c Z v d) : ∀ {es : List DictEntry} {l : List (D × D)}, RpE c Z es l → RpE c Z (es ++ [⟨(nk k).hash c.w, u, x⟩]) (l ++ [(k, d)])
  | _, _, .nil => .cons hu hk ok rfl hx hd .nil
  | _, _, .cons a b o x' y z r => .cons a b o x' y z (RpE.snoc hu hk ok hx hd r)
theorem RpE.modify {c : VC} {Z : Hp} {d : D} {v : V} {x : Value} (hx : RelV v x) (hd : Rp c Z v d) : ∀ {es : List DictEntry} {l : List (D × D)} (j : Nat), RpE c Z es l → RpE c Z (es.modify j fun en => { en with val := x }) (l.modify j fun p => (p.1, d))
  | _, _, j, .nil => by simp; exact .nil
  | _, _, 0, .cons a b o x' y z r => .cons a b o x' hx hd r
  | _, _, j + 1, .cons a b o x' y z r => by
    simp only [List.modify_succ_cons]
    exact .cons a b o x' y z (RpE.modify hx hd j r)
theorem rk_of (I : Inv X pins σ H s) (sm : Same Z H) {es : Array DictEntry} {l : List (D × D)} (r : RpE (cc X xa) Z es.toList l) (nd : (l.map fun p => nk p.1).Nodup) : RK X.w s.heap es (l.map fun p => nk p.1) := by
  refine ⟨by rw [List.length_map, ← r.len, Array.length_toList], fun i hi => ?_, nd⟩
  obtain ⟨k, d, vk, v, h1, h2, h3, h4, h5, _⟩ := r.at (j := i) (en := es[i]) (by simp [hi])
  exact ⟨nk k, by rw [List.getElem?_map, h1]; rfl, nest_of I sm h3 (kOk_of h4).1 h2, (kOk_of h4).2.2, h5⟩
/-- where a key stands -/
def dix (l : List (D × D)) (k : D) : Option Nat := l.findIdx? fun p => decide (nk p.1 = nk k)
def dget (l : List (D × D)) (k : D) : Option D := (dix l k).bind fun j => (l[j]?).map (·.2)
def dput (l : List (D × D)) (k v : D) : List (D × D) := match dix l k with
  | some j => l.modify j fun p => (p.1, v)
  | none => l ++ [(k, v)]
theorem dix_none {l : List (D × D)} {k : D} (h : nk k ∉ l.map fun p => nk p.1) : dix l k = none := by
  unfold dix
  rw [List.findIdx?_eq_none_iff]
  intro p hp
  exact decide_eq_false fun z => h (z ▸ List.mem_map_of_mem (f := fun p : D × D => nk p.1) hp)
theorem dix_some {l : List (D × D)} {k : D} {j : Nat} (nd : (l.map fun p => nk p.1).Nodup) (h : (l.map fun p => nk p.1)[j]? = some (nk k)) : dix l k = some j := by
  have hj := (List.getElem?_eq_some_iff.mp h).1
  rw [List.length_map] at hj
  unfold dix
  rw [List.findIdx?_eq_some_iff_getElem]
  refine ⟨hj, ?_, fun i hi => ?_⟩
  · rw [List.getElem?_map, List.getElem?_eq_getElem hj] at h
    exact decide_eq_true (Option.some.inj h)
  · simp only [decide_eq_true_eq]
    intro z
    have hi' : i < l.length := by omega
    have e : (l.map fun p => nk p.1)[i]? = some (nk k) := by rw [List.getElem?_map, List.getElem?_eq_getElem hi']; exact congrArg some z
    have := nd_ix nd e h
    omega
theorem dix_at {l : List (D × D)} {k : D} {j : Nat} (h : dix l k = some j) : ∃ p, l[j]? = some p ∧ nk p.1 = nk k := by
  unfold dix at h
  obtain ⟨h1, h2, _⟩ := List.findIdx?_eq_some_iff_getElem.mp h
  exact ⟨l[j], List.getElem?_eq_getElem h1, of_decide_eq_true h2⟩
theorem dix_mem {l : List (D × D)} {k : D} : (dix l k).isSome = decide (nk k ∈ l.map fun p => nk p.1) := by
  cases e : dix l k with
  | some j =>
    obtain ⟨p, h1, h2⟩ := dix_at e
    exact (decide_eq_true (h2 ▸ List.mem_map_of_mem (f := fun p : D × D => nk p.1) (List.mem_of_getElem? h1))).symm
  | none =>
    refine (decide_eq_false fun z => ?_).symm
    obtain ⟨p, hp, ep⟩ := List.mem_map.mp z
    unfold dix at e
    rw [List.findIdx?_eq_none_iff] at e
    have := e p hp
    simp [ep] at this
theorem modify_keys (l : List (D × D)) (j : Nat) (v : D) : (l.modify j fun p => (p.1, v)).map (fun p => nk p.1) = l.map fun p => nk p.1 := by
  induction l generalizing j with
  | nil => simp
  | cons p l ih => cases j <;> simp [ih]
theorem dput_nd {l : List (D × D)} {k v : D} (nd : (l.map fun p => nk p.1).Nodup) : ((dput l k v).map fun p => nk p.1).Nodup := by
  unfold dput
  cases e : dix l k with
  | some j => dsimp only; rw [modify_keys]; exact nd
  | none =>
    dsimp only
    rw [List.map_append, List.nodup_append]
    refine ⟨nd, by simp, fun a ha b hb z => ?_⟩
    simp only [List.map_cons, List.map_nil, List.mem_singleton] at hb
    subst hb
    subst z
    have := dix_mem (l := l) (k := k)
    rw [e, decide_eq_true ha] at this
    cases this
/-- at a stands a dict of l -/
def DRd (c : VC) (Z H : Hp) (a : Addr) (l : List (D × D)) : Prop :=
  ∃ (o : Obj) (es : Array DictEntry) (ep : Nat), (H a = some (dOb a o) ∨ c.K.lookup a = some o) ∧ o.ExactDict ∧ o.data = .dict es ep ∧ (a == sysModules) = false ∧ RpE c Z es.toList l ∧ (l.map fun p => nk p.1).Nodup
theorem ob_at (I : Inv X pins σ H s) {a : Addr} {o : Obj} (h : H a = some (dOb a o) ∨ X.K.lookup a = some o) : s.heap.get? a = some o := by
  rcases h with h | h
  · have x : ObjOk X.prog X.w H s.heap a (.ext fun h => h.get? a = some o) := I.hok a _ h
    exact x.1
  · exact I.kIn a o h
/-- the entries of a tree, if it is a dict -/
def dOf : OT → Option (List (D × D))
  | .sh (.dict l) => if exK l = true then none else some l
  | .dct l => some l
  | _ => none
theorem dOf_eq {t : OT} {l : List (D × D)} (h : dOf t = some l) : t.d = .dict l := by
  unfold dOf at h
  split at h
  · split at h
    · cases h
    · cases h; rfl
  · cases h; rfl
  · cases h
theorem rd_of_own {c : VC} {v : V} {t : OT} {F : List Addr} {l : List (D × D)} (sm : Same Z H) (w : Own c Z H v t F) (h : dOf t = some l) : ∃ a, v = .ref a ∧ DRd c Z H a l := by
  unfold dOf at h
  split at h
  · split at h
    · cases h
    · rename_i hk
      cases h
      cases w with
      | sh r =>
        cases r with
        | dct h1 h2 h3 h4 h5 h6 => exact ⟨_, rfl, _, _, _, h1.imp (sm _ _) id, h2, h3, h4, h5, h6⟩
        | ex => exact absurd rfl hk
  · cases h
    cases w with
    | dct h1 h2 h3 h4 h5 h6 => exact ⟨_, rfl, _, _, _, .inl h1, h2, h3, h4, h5, h6⟩
  · cases h
theorem key_own {c : VC} {v : V} {t : OT} {F : List Addr} (w : Own c Z H v t F) (h : kOk t.d = true) : Rp c Z v t.d := by
  cases w with
  | sh r => exact r
  | lst _ _ => simp [kOk, OT.d, keyD] at h
  | dct _ _ _ _ _ _ => simp [kOk, OT.d, keyD] at h
/-! ### d[k], k in d -/
def rIxD (c : VC) : R2 := fun x y H Q => ∃ a l k d Z, x = .ref a ∧ Same Z H ∧ DRd c Z H a l ∧ Rp c Z y k ∧ kOk k = true ∧ dget l k = some d ∧ ∀ v, Rp c Z v d → Q v H
theorem ix_dct (hu : X.A.units + 9 < cLine) : IxR X (rIxD (cc X xa)) := by
  intro value slice pins s σ H x y v u Q I rx ry h hs
  obtain ⟨a, l, k, d, Z, rfl, sm, ⟨o, es, ep, h1, h2, h3, h4, h5, h6⟩, rk, ok, hd, q⟩ := h
  cases rx
  obtain ⟨k1, k2, k3⟩ := kOk_of ok
  have ho := ob_at I h1
  have R := rk_of I sm h5 h6
  unfold dget at hd
  cases e : dix l k with
  | none => rw [e] at hd; cases hd
  | some j =>
    rw [e, Option.bind_some] at hd
    obtain ⟨p, hp, ep'⟩ := dix_at e
    rw [hp] at hd
    cases hd
    have hj : j < es.size := by
      rw [R.len, List.length_map]
      exact (List.getElem?_eq_some_iff.mp hp).1
    obtain ⟨k', d', vk, v', g1, _, _, _, _, g5, g6⟩ := h5.at (j := j) (en := es[j]) (by simp [hj])
    rw [hp] at g1
    cases g1
    refine subscriptTail_builtinR (x := es[j].val) (ex_ty ho h2) slot_dict_getitem.lookup
      (rk_item (Q := fun r s' => r = es[j].val ∧ EP X pins σ Q r s') hu (nest_of I sm rk k1 ry) k3 (noText rk k2 ry) ho h2 h3 R hj (by rw [List.getElem?_map, hp]; exact congrArg some ep') ⟨rfl, v', H, I.tok _, g5, q v' g6⟩) hs
def gIxD (t1 t2 : OT) : Option OT := match dOf t1 with
  | some l => if kOk t2.d = true then (dget l t2.d).map .sh else none
  | none => none
theorem prim_ixD {c : VC} : Prim2 c (rIxD c) gIxD := by
  intro Z H v1 v2 t1 t2 F1 F2 t Q s w1 w2 e n
  unfold gIxD at e
  split at e
  · rename_i l hl
    split at e
    · rename_i hk
      cases hd : dget l t2.d with
      | none => rw [hd] at e; cases e
      | some d =>
        rw [hd] at e
        cases e
        obtain ⟨a, rfl, r⟩ := rd_of_own s w1 hl
        exact ⟨a, l, t2.d, d, Z, rfl, s, r, key_own w2 hk, hk, hd, fun v rv => n v H Z [] (Same.refl _) (Same.refl _) s (fun _ z => .inl z) (.sh rv) List.nodup_nil fun _ z => nomatch z⟩
    · cases e
  · cases e
def rInD (c : VC) (b : Bool) : R2 := fun x y H Q => ∃ a l k Z, y = .ref a ∧ Same Z H ∧ DRd c Z H a l ∧ Rp c Z x k ∧ kOk k = true ∧ Q (.bl (b != (dix l k).isSome)) H
theorem op_inD (hu : X.A.units + 9 < cLine) : OpR X (compareOp .In) (rInD (cc X xa) false) := by
  intro pins s σ H x y v u Q I rx ry h
  obtain ⟨a, l, k, Z, rfl, sm, ⟨o, es, ep, h1, h2, h3, h4, h5, h6⟩, rk, ok, q⟩ := h
  cases ry
  obtain ⟨k1, k2, k3⟩ := kOk_of ok
  show wpAny _ _ (contains (.ref a) v >>= fun b => pure (Value.bool b)) _ _ s
  refine wpAny_bind (rk_contains hu (nest_of I sm rk k1 rx) k3 (noText rk k2 rx) (ob_at I h1) h2 h3 h4 (rk_of I sm h5 h6) (wpAny_pure ⟨.bl _, H, I.tok _, rfl, ?_⟩))
  rw [dix_mem] at q
  cases hh : decide (nk k ∈ l.map fun p => nk p.1) <;> rw [hh] at q <;> exact q
theorem op_notInD (hu : X.A.units + 9 < cLine) : OpR X (compareOp .NotIn) (rInD (cc X xa) true) := by
  intro pins s σ H x y v u Q I rx ry h
  obtain ⟨a, l, k, Z, rfl, sm, ⟨o, es, ep, h1, h2, h3, h4, h5, h6⟩, rk, ok, q⟩ := h
  cases ry
  obtain ⟨k1, k2, k3⟩ := kOk_of ok
  show wpAny _ _ (contains (.ref a) v >>= fun b => pure (Value.bool (!b))) _ _ s
  refine wpAny_bind (rk_contains hu (nest_of I sm rk k1 rx) k3 (noText rk k2 rx) (ob_at I h1) h2 h3 h4 (rk_of I sm h5 h6) (wpAny_pure ⟨.bl _, H, I.tok _, rfl, ?_⟩))
  rw [dix_mem] at q
  cases hh : decide (nk k ∈ l.map fun p => nk p.1) <;> rw [hh] at q <;> exact q
def gInD (b : Bool) (t1 t2 : OT) : Option OT := match dOf t2 with
  | some l => if kOk t1.d = true then some (.sh (.bool (b != (dix l t1.d).isSome))) else none
  | none => none
theorem prim_inD {c : VC} {b : Bool} : Prim2 c (rInD c b) (gInD b) := by
  intro Z H v1 v2 t1 t2 F1 F2 t Q s w1 w2 e n
  unfold gInD at e
  split at e
  · rename_i l hl
    split at e
    · rename_i hk
      cases e
      obtain ⟨a, rfl, r⟩ := rd_of_own s w2 hl
      exact ⟨a, l, t1.d, Z, rfl, s, r, key_own w1 hk, hk, n.bool s⟩
    · cases e
  · cases e
end
end VL

end

section
set_option Elab.async false
set_option linter.all false
set_option maxRecDepth 100000
set_option maxHeartbeats 4000000
namespace VL
open PySem PySem.Spec PyProof.Rows L2
theorem dob_ok {P : Program} {w : World} {H : Hp} {h : Heap} {a : Addr} {o : Obj} (e : h.get? a = some o) : ObjOk P w H h a (dOb a o) := ⟨e, ⟨o, e⟩, fun _ _ z k => k _ z⟩
/-! ### a dict of our own, changed -/
theorem Ok.mutD {c : VC} {Z H : Hp} {σ : St} {ρ : Ev} {F : List Addr} {i : Nat} {l : List (D × D)} (ok : Ok c Z H σ ρ F) (hi : ρ[i]? = some (.dct l)) :
    ∃ (p : Addr) (o : Obj) (es : Array DictEntry) (ep : Nat), σ[i]? = some (some (.ref p)) ∧ H p = some (dOb p o) ∧ o.ExactDict ∧ o.data = .dict es ep ∧ (p == sysModules) = false ∧ RpE c Z es.toList l ∧ (l.map fun p => nk p.1).Nodup ∧
      ∀ (o' : Obj) (es' : Array DictEntry) (ep' : Nat) (l' : List (D × D)), o'.ExactDict → o'.data = .dict es' ep' → RpE c Z es'.toList l' → (l'.map fun p => nk p.1).Nodup →
        ∃ F', Ok c Z (upd H p (dOb p o')) σ (ρ.set i (.dct l')) F' ∧ After Z H F Z (upd H p (dOb p o')) F' := by
  obtain ⟨v, Fp, G, hv, w, k, pm⟩ := ok.own.takeOut hi (fun z => nomatch z)
  cases w with
  | @dct p o es ep _ h1 h2 h3 h4 h5 h6 =>
    refine ⟨p, o, es, ep, hv, h1, h2, h3, h4, h5, h6, fun o' es' ep' l' g1 g2 g3 g4 => ?_⟩
    have pF : p ∈ F := pm.mem_iff.mpr (by simp)
    have nd := (pm.nodup_iff).mp ok.nd
    have pG : p ∉ G := fun z => (List.nodup_append.mp nd).2.2 p (by simp) p z rfl
    have k2 : OwnS c Z (upd H p (dOb p o')) σ (ρ.set i .mv) G := k.frame (Same.refl _) fun q hq u hu => by rw [upd_ne (fun z : q = p => pG (by rw [← z]; exact hq))]; exact hu
    have il : i < ρ.length := (List.getElem?_eq_some_iff.mp hi).1
    obtain ⟨F', k3, p3⟩ := k2.putBack (i := i) (v := .ref p) (t := .dct l') (Ft := [p]) (by rw [List.getElem?_set_self il]) hv (.dct upd_same g1 g2 h4 g3 g4)
    rw [List.set_set] at k3
    have sub : ∀ q ∈ F', q ∈ F := fun q hq => pm.mem_iff.mpr (p3.mem_iff.mp hq)
    refine ⟨F', ⟨fun q u hu => ?_, k3, (p3.nodup_iff).mpr nd, fun q hq => ok.sep q (sub q hq)⟩, ⟨Same.refl _, fun q u hu hq => ?_, fun q hq => .inl (sub q hq), fun q hq => .inl hq⟩⟩
    · rw [upd_ne (fun z => by rw [z, ok.sep p pF] at hu; cases hu)]
      exact ok.same q u hu
    · rw [upd_ne (fun z : q = p => hq (by rw [z]; exact pF))]
      exact hu
/-- what a store asks -/
def tStD (c : VC) : TSet := fun o i v H Q => ∃ (p : Addr) (ob : Obj) (es : Array DictEntry) (ep : Nat) (l : List (D × D)) (Z : Hp) (k d : D), o = .ref p ∧ Same Z H ∧ H p = some (dOb p ob) ∧ ob.ExactDict ∧ ob.data = .dict es ep ∧ RpE c Z es.toList l ∧ (l.map fun p => nk p.1).Nodup ∧
  l.length < 1000000 ∧ Rp c Z i k ∧ kOk k = true ∧ Rp c Z v d ∧ ∀ (ob' : Obj) (es' : Array DictEntry) (ep' : Nat), ob'.ExactDict → ob'.data = .dict es' ep' → RpE c Z es'.toList (dput l k d) → Q (upd H p (dOb p ob'))
section
variable {X : Cx} {xa : Str → Option Addr} {E : XS} {kp : List Nat} {pu p1 p2 : Bool} {e e1 e2 : Expr} {pos : Pos}
theorem set_dct (hu : X.A.units + 9 < cLine) : PSet X (tStD (cc X xa)) := by
  intro pins s σ H o i v ov iv u Q I ro ri rv h
  obtain ⟨p, ob, es, ep, l, Z, k, d, rfl, sm, hp, h2, h3, h5, h6, hl, rk, ok, rd, q⟩ := h
  cases ro
  obtain ⟨k1, k2, k3⟩ := kOk_of ok
  have ho := ob_at I (.inl hp)
  have R := rk_of I sm h5 h6
  have el : es.size = l.length := by rw [R.len, List.length_map]
  refine rk_store hu (nest_of I sm rk k1 ri) k3 (noText rk k2 ri) ho h2 h3 R (by rw [el, sizeLine_eq]; omega) (fun z h' o' g1 g2 g3 g4 => ?_) fun j hj z h' o' g1 g2 g3 g4 => ?_
  · refine ⟨_, d_write I (ob := dOb p o') (by rw [hp]; exact True.intro) g4 ⟨o', g1⟩ (dob_ok g1), q o' _ _ g2 g3 ?_⟩
    have e : dput l k d = l ++ [(k, d)] := by unfold dput; rw [dix_none z]
    rw [e, Array.toList_push]
    exact RpE.snoc ri rk ok rv rd h5
  · refine ⟨_, d_write I (ob := dOb p o') (by rw [hp]; exact True.intro) g4 ⟨o', g1⟩ (dob_ok g1), q o' _ _ g2 g3 ?_⟩
    have e : dput l k d = l.modify j fun p => (p.1, d) := by unfold dput; rw [dix_some h6 z]
    rw [e, Array.toList_modify]
    exact RpE.modify rv rd j h5
def dst (i : Nat) (d : D) (k : OT) (o : Option OT) (ρ : Ev) : Out := match o, k with
  | some (.dct l), .sh kd => if (kOk kd && decide (l.length < 1000000)) = true then .nx (ρ.set i (.dct (dput l kd d))) else .bad
  | _, _ => .bad
def fStoreD (i : Nat) (fe fk : Ev → Res OT) : Ev → Out := fun ρ => eS (fe ρ) fun t ρ1 => st0 (slotAt ρ1 i) (eS (fk ρ1) fun k ρ2 => dst i t.d k (slotAt ρ2 i) ρ2)
theorem vs_storeD {i : Nat} {x : Str} {ix : Expr} {fe fk : Ev → Res OT} {npos spos : Pos} (hu : X.A.units + 9 < cLine) (hv : PE X (.Name x npos) (tVar i)) (he : VE X xa E p1 e fe) (hi : VE X xa E p2 ix fk)
    (ha : ∀ v, assign (.Subscript (.Name x npos) ix spos) X.env v = (do
      let ov ← holding [v] (eval (.Name x npos) X.env)
      let iv ← holding [v, ov] (eval ix X.env)
      standAt spos
      holding [v, ov, iv] (setItem ov iv v)
      release [v, ov, iv] []) := by intro _; rfl)
    (hs : swapsWithSole [.Subscript (.Name x npos) ix spos] e pos.line X.env = pure false := by rfl) (hw : swappedStores [.Subscript (.Name x npos) ix spos] e X.env = pure none := by rfl)
    (h1 : (assignEach [.Subscript (.Name x npos) ix spos] X.env).map (·.2) = [assign (.Subscript (.Name x npos) ix spos) X.env] := by rfl) :
    VS X xa E kp (.Assign [.Subscript (.Name x npos) ix spos] e pos) (fStoreD i fe fk) := (ps_asg he (pg_sub hv hi (set_dct hu) ha) hs hw h1).imp fun D σ H ⟨Z, ρ, F, ok, q⟩ =>
  ⟨Z, ρ, F, ok, rV_of q fun t ρ1 v H1 Z1 F1 Ft o1 w1 n1 sp1 a1 q => by
    cases e1 : slotAt ρ1 i with
    | none => rw [e1] at q; exact q.elim
    | some t1 =>
      rw [e1, st0_some] at q
      obtain ⟨g1, g2⟩ := slotAt_eq e1
      obtain ⟨v0, F0, G0, hv0, _⟩ := o1.own.takeOut g1 g2
      obtain ⟨o1', r1, fz⟩ := o1.frozen w1 n1 sp1
      have a1' := fz a1
      refine ⟨v0, hv0, frz Z1 H1 Ft, ρ1, F1, o1', ?_⟩
      cases r2 : fk ρ1 with
      | bad => rw [r2] at q; exact q
      | exc x ρ' =>
        rw [r2] at q
        exact fun cls d H' Z' F' o xr a => q cls d σ H' Z' F' o xr (a1'.trans a) (Kept.refl _ _)
      | ok kt ρ2 =>
        rw [r2, eS_ok] at q
        intro iv H2 Z2 F2 Fk o2 w2 n2 sp2 a2 _
        unfold dst at q
        split at q
        · rename_i l kd e2
          split at q
          · rename_i hg
            rw [Bool.and_eq_true, decide_eq_true_eq] at hg
            cases w2 with
            | sh rk =>
              obtain ⟨h3, h4⟩ := slotAt_eq e2
              obtain ⟨p, ob, es, ep, hs', hp, x1, x2, x3, x4, x5, go⟩ := o2.mutD h3
              rw [hv0] at hs'
              cases hs'
              refine ⟨p, ob, es, ep, l, Z2, kd, t.d, rfl, o2.same, hp, x1, x2, x4, x5, hg.2, rk, hg.1, r1.mono a2.same, fun ob' es' ep' y1 y2 y3 => ?_⟩
              obtain ⟨F', o3, a3⟩ := go ob' es' ep' (dput l kd t.d) y1 y2 y3 (dput_nd x5)
              exact q σ _ Z2 F' o3 ((a1'.trans a2.less).trans a3) (Kept.refl _ _)
          · exact q.elim
        · exact q.elim⟩
@[simp] theorem fStoreD_ap (i : Nat) (fe fk : Ev → Res OT) (ρ : Ev) : fStoreD i fe fk ρ = eS (fe ρ) fun t ρ1 => st0 (slotAt ρ1 i) (eS (fk ρ1) fun k ρ2 => dst i t.d k (slotAt ρ2 i) ρ2) := rfl
@[simp] theorem dst_ap (i : Nat) (d kd : D) (l : List (D × D)) (ρ : Ev) : dst i d (.sh kd) (some (.dct l)) ρ = if (kOk kd && decide (l.length < 1000000)) = true then .nx (ρ.set i (.dct (dput l kd d))) else .bad := rfl
/-! ### {} -/
def tNewD : TE := fun _ H Q => ∀ p o, H p = none → o.ExactDict → o.data = .dict #[] 0 → (p == sysModules) = false → Q (.ref p) (upd H p (dOb p o))
theorem pe_dnew : PE X (.Dict [] [] pos) tNewD := ⟨fun pins s σ H Q I h =>
  wpAny_Dict_empty ⟨.ref s.heap.objs.size, _, I.laid (a := s.heap.objs.size) (o := dOb s.heap.objs.size { cls := .type "dict", data := .dict #[] }) (t' := s.toks) (fun _ _ q => Heap.get?_push_of_some _ q) (Nat.le_refl _) (dob_ok (Heap.get?_push_size _ rfl)), rfl,
    h _ _ (I.hok.fresh (Nat.le_refl _)) ⟨rfl, rfl, rfl⟩ rfl (beq_eq_false_iff_ne.mpr (Ne.symm (Nat.ne_of_lt I.big)))⟩⟩
def fNewD : Ev → Res OT := fun ρ => .ok (.dct []) ρ
@[simp] theorem fNewD_ap (ρ : Ev) : fNewD ρ = .ok (.dct []) ρ := rfl
/-- a new dict of our own -/
theorem own_new {c : VC} {Z H : Hp} {σ : St} {ρ : Ev} {F : List Addr} {p : Addr} {o : Obj} (ok : Ok c Z H σ ρ F) (n : H p = none) (h1 : o.ExactDict) (h2 : o.data = .dict #[] 0) (h3 : (p == sysModules) = false) :
    Ok c Z (upd H p (dOb p o)) σ ρ F ∧ Own c Z (upd H p (dOb p o)) (.ref p) (.dct []) [p] ∧ ([p] ++ F).Nodup ∧ (∀ q ∈ [p], Z q = none) ∧ After Z H F Z (upd H p (dOb p o)) ([p] ++ F) ∧ Same H (upd H p (dOb p o)) := by
  have sm := same_upd (o := dOb p o) n
  have pF : p ∉ F := fun z => by
    obtain ⟨u, hu⟩ := ok.own.there p z
    rw [n] at hu; cases hu
  refine ⟨⟨ok.same.trans sm, ok.own.frame (Same.refl _) fun q _ u hu => sm q u hu, ok.nd, ok.sep⟩, .dct upd_same h1 h2 h3 (by simp; exact .nil) (by simp), ?_, fun q hq => ?_, ⟨Same.refl _, fun q u hu _ => sm q u hu, fun q hq => ?_, fun q hq => .inl hq⟩, sm⟩
  · simpa using ⟨pF, ok.nd⟩
  · rw [List.mem_singleton.mp hq]; exact ok.same.free n
  · rcases List.mem_append.mp hq with z | z
    · rw [List.mem_singleton.mp z]; exact .inr n
    · exact .inl z
theorem ve_newD : VE X xa E true (.Dict [] [] pos) fNewD := pe_dnew.imp fun σ H Q ⟨Z, ρ, F, ok, q⟩ => fun p o n h1 h2 h3 => by
  obtain ⟨k1, k2, k3, k4, k5, k6⟩ := own_new ok n h1 h2 h3
  exact q _ _ _ _ _ k1 k2 k3 k4 k5 fun _ => ⟨k6, rfl⟩
/-! ### a value that is frozen -/
def fFrz (f : Ev → Res OT) : Ev → Res OT := fun ρ => (f ρ).bind fun t ρ' => .ok (.sh t.d) ρ'
@[simp] theorem fFrz_ap (f : Ev → Res OT) (ρ : Ev) : fFrz f ρ = (f ρ).bind fun t ρ' => .ok (.sh t.d) ρ' := rfl
theorem ve_frz {f : Ev → Res OT} (h : VE X xa E pu e f) : VE X xa E pu e (fFrz f) := h.imp fun σ H Q q => by
  obtain ⟨Z, ρ, F, ok, q⟩ := q
  refine ⟨Z, ρ, F, ok, ?_⟩
  unfold fFrz at q
  cases r : f ρ with
  | bad => rw [r] at q; exact q
  | ok t ρ' =>
    rw [r] at q
    intro v H' Z' F' Ft o w n sp a hp
    obtain ⟨o2, r2, a2⟩ := o.frozen w n sp
    exact q v H' _ F' [] o2 (.sh r2) o2.nd (fun _ z => nomatch z) (a2 a) hp
  | exc x ρ' => rw [r] at q; exact q
end
end VL

end

section
set_option Elab.async false
set_option linter.all false
set_option maxRecDepth 100000
set_option maxHeartbeats 4000000
namespace VL
open PySem PySem.Spec PyProof.Rows L2
/-! ### walks of a dict that stands -/
def Dat (K : PySem.W.Frag) (H : Hp) (d : Addr) (o : Obj) : Prop := H d = some (dOb d o) ∨ K.lookup d = some o
def goD (K : PySem.W.Frag) (d : Addr) (o : Obj) (es : Array DictEntry) (i : Nat) (H : Hp) : Prop := Dat K H d o ∧ ∃ (en : DictEntry) (x y : V), es[i]? = some en ∧ RelV x en.key ∧ RelV y en.val
/-- by keys -/
def ItDk (K : PySem.W.Frag) (d : Addr) (o : Obj) (es : Array DictEntry) : It := ⟨goD K d o es, fun i H x H' => H' = H ∧ ∃ en, es[i]? = some en ∧ RelV x en.key, fun i H => Dat K H d o ∧ es.size ≤ i⟩
/-- by values -/
def ItDv (K : PySem.W.Frag) (d : Addr) (o : Obj) (es : Array DictEntry) : It := ⟨goD K d o es, fun i H x H' => H' = H ∧ ∃ en, es[i]? = some en ∧ RelV x en.val, fun i H => Dat K H d o ∧ es.size ≤ i⟩
/-- by both, each a new pair -/
def ItDi (K : PySem.W.Frag) (d : Addr) (o : Obj) (es : Array DictEntry) : It := ⟨goD K d o es, fun i H x H' => ∃ T en a b, es[i]? = some en ∧ RelV a en.key ∧ RelV b en.val ∧ x = .ref T ∧ H T = none ∧ H' = upd H T (.tup [a, b]), fun i H => Dat K H d o ∧ es.size ≤ i⟩
section
variable {P : Program} {w : World} {K : PySem.W.Frag} {tg : Expr} {d : Addr} {o : Obj} {es : Array DictEntry} {ep : Nat}
theorem raw_at {X : Cx} {pins : List (Addr × Obj)} {σ : St} {H : Hp} {s : Shared} (I : Inv X pins σ H s) (h : Dat X.K H d o) (hx : o.ExactDict) (hod : o.data = .dict es ep) : s.heap.DictRaw d es ep := ⟨o, ob_at I h, hx, hod⟩
theorem turn_Dk (it : Addr) (hx : o.ExactDict) (hod : o.data = .dict es ep) : Turn P w K tg (ItDk K d o es) [it] it (fun i h => h.IsKeyIter it d i es.size ep) where
  mem := List.mem_cons_self ..
  obj := fun i h st b hb => by
    rw [List.mem_singleton.mp hb]
    obtain ⟨u, e, c, z⟩ := st
    exact ⟨u, e, fun v y => by rw [z] at y; cases y⟩
  keep := fun i h h' st k => st.at fun u e => k it (List.mem_cons_self ..) u e
  item := by
    intro X e1 e2 e3 calm i pins s σ H E I fr st go
    subst e1 e2 e3
    obtain ⟨hd, en, x, y, hen, rx, ry⟩ := go
    obtain ⟨hi, rfl⟩ := Array.getElem?_eq_some_iff.mp hen
    obtain ⟨f0, f1, f2, f3, f4, f5⟩ := fr it (List.mem_cons_self ..)
    refine wpAny_pyNext_keys_item_raw st (raw_at I hd hx hod) hi fun h' st' sb => ?_
    obtain ⟨u, e, c, z⟩ := id st'
    exact ⟨_, rfl, go_of (s := { s with heap := h' }) e c z (by decide) ⟨x, H, I.turned (t' := s.toks) (fun b ob hb q => (sb.2 b hb).trans q) f0 f1 f3 f4 f5, rx, ⟨rfl, _, hen, rx⟩, st', fun b hb => (fr b hb).1⟩⟩
  done := by
    intro X e1 e2 e3 calm i pins s σ H E I fr st stp
    subst e1 e2 e3
    obtain ⟨hd, hi⟩ := stp
    obtain ⟨f0, f1, f2, f3, f4, f5⟩ := fr it (List.mem_cons_self ..)
    exact wpAny_pyNext_keys_end_raw (I.ok.hd calm) st (raw_at I hd hx hod) hi fun h' eb => ⟨rfl, I.turned (t' := s.toks) (fun b ob hb q => eb b ob hb q) f0 f1 f3 f4 f5⟩
  self := fun A i s Q E st q => by
    refine wpAny_pyIter_slot st.typeIs F.slot_dict_keyiterator_iter (wpAny_call_entry F.slot_dict_keyiterator_iter st.typeIs F.entry_dict_keyiterator_iter ?_ (F.args_dict_keyiterator_iter_1 _))
    show wpAny _ _ (ret (Value.ref it)) _ _ _
    exact wpAny_pure ⟨Value.ref it, rfl, "dict_keyiterator", _, st.typeIs, F.slot_dict_keyiterator_next.lookup, q⟩
theorem turn_Dv (it : Addr) (hx : o.ExactDict) (hod : o.data = .dict es ep) : Turn P w K tg (ItDv K d o es) [it] it (fun i h => h.IsValIter it d i es.size ep) where
  mem := List.mem_cons_self ..
  obj := fun i h st b hb => by
    rw [List.mem_singleton.mp hb]
    obtain ⟨u, e, c, z⟩ := st
    exact ⟨u, e, fun v y => by rw [z] at y; cases y⟩
  keep := fun i h h' st k => st.at fun u e => k it (List.mem_cons_self ..) u e
  item := by
    intro X e1 e2 e3 calm i pins s σ H E I fr st go
    subst e1 e2 e3
    obtain ⟨hd, en, x, y, hen, rx, ry⟩ := go
    obtain ⟨hi, rfl⟩ := Array.getElem?_eq_some_iff.mp hen
    obtain ⟨f0, f1, f2, f3, f4, f5⟩ := fr it (List.mem_cons_self ..)
    refine wpAny_pyNext_values_item_raw st (raw_at I hd hx hod) hi fun h' st' sb => ?_
    obtain ⟨u, e, c, z⟩ := id st'
    exact ⟨_, rfl, go_of (s := { s with heap := h' }) e c z (by decide) ⟨y, H, I.turned (t' := s.toks) (fun b ob hb q => (sb.2 b hb).trans q) f0 f1 f3 f4 f5, ry, ⟨rfl, _, hen, ry⟩, st', fun b hb => (fr b hb).1⟩⟩
  done := by
    intro X e1 e2 e3 calm i pins s σ H E I fr st stp
    subst e1 e2 e3
    obtain ⟨hd, hi⟩ := stp
    obtain ⟨f0, f1, f2, f3, f4, f5⟩ := fr it (List.mem_cons_self ..)
    exact wpAny_pyNext_values_end_raw (I.ok.hd calm) st (raw_at I hd hx hod) hi fun h' eb => ⟨rfl, I.turned (t' := s.toks) (fun b ob hb q => eb b ob hb q) f0 f1 f3 f4 f5⟩
  self := fun A i s Q E st q => wpAny_pyIter_valiter st q
theorem turn_Di {elts : List Expr} {kk : Nat} {tpos : Pos} (it : Addr) (hx : o.ExactDict) (hod : o.data = .dict es ep) :
    Turn P w K (.Tuple elts kk tpos) (ItDi K d o es) [it] it (fun i h => ∃ ok ov, IsItemIter h it d i es.size ep ok ov) where
  mem := List.mem_cons_self ..
  obj := fun i h st b hb => by
    rw [List.mem_singleton.mp hb]
    obtain ⟨ok, ov, e⟩ := st
    exact ⟨_, e, fun v z => nomatch z⟩
  keep := fun i h h' st k => let ⟨ok, ov, e⟩ := st; ⟨ok, ov, k it (List.mem_cons_self ..) _ e⟩
  item := by
    intro X e1 e2 e3 calm i pins s σ H E I fr st go
    subst e1 e2 e3
    obtain ⟨hd, en, x, y, hen, rx, ry⟩ := go
    obtain ⟨hi, rfl⟩ := Array.getElem?_eq_some_iff.mp hen
    obtain ⟨ok, ov, he⟩ := st
    have lt : it < s.heap.objs.size := Heap.lt_size he
    refine wpAny_pyNext_items_item_raw he (raw_at I hd hx hod) hi fun h' ho hT hz hk => ?_
    refine ⟨_, rfl, wpAny_letOwnedTupleGo_items (s := { s with heap := h' }) ho fun h2 he2 sb => ?_⟩
    have hT2 : h2.get? s.heap.objs.size = some { cls := .type "tuple", data := .seq #[es[i].key, es[i].val] } := (sb.2 _ (Nat.ne_of_gt lt)).trans hT
    have new : ObjOk X.prog X.w (upd H s.heap.objs.size (.tup [x, y])) h2 s.heap.objs.size (.tup [x, y]) :=
      ⟨(by decide : 2 ≤ sizeLine), [es[i].key, es[i].val], .cons rx (.cons ry .nil), ⟨_, hT2, rfl, _, rfl⟩⟩
    refine ⟨.ref s.heap.objs.size, _, I.turnedNew (t' := s.toks) (ch := [it]) (fun b ob nb q => (sb.2 b fun z => nb (by rw [z]; exact List.mem_cons_self ..)).trans (hk b ob (fun z => nb (by rw [z]; exact List.mem_cons_self ..)) q)) fr (Nat.le_refl _) new, rfl,
      ⟨_, _, x, y, hen, rx, ry, rfl, I.hok.fresh (Nat.le_refl _), rfl⟩, ⟨_, _, he2⟩, fun b hb => ?_⟩
    rw [List.mem_singleton.mp hb, upd_ne (Nat.ne_of_lt lt)]
    exact (fr it (List.mem_cons_self ..)).1
  done := by
    intro X e1 e2 e3 calm i pins s σ H E I fr st stp
    subst e1 e2 e3
    obtain ⟨hd, hi⟩ := stp
    obtain ⟨ok, ov, he⟩ := st
    obtain ⟨f0, f1, f2, f3, f4, f5⟩ := fr it (List.mem_cons_self ..)
    exact wpAny_pyNext_items_end_raw (I.ok.hd calm) he (raw_at I hd hx hod) hi fun h' eb => ⟨rfl, I.turned (t' := s.toks) (fun b ob hb q => eb b ob hb q) f0 f1 f3 f4 f5⟩
  self := fun A i s Q E st q => let ⟨_, _, e⟩ := st; PySem.W.kcp_self e q
/-! what is walked -/
def iDk (K : PySem.W.Frag) (td : TE) : TI := fun σ H R => td σ H fun x H1 => ∃ d o es ep, x = .ref d ∧ Dat K H1 d o ∧ o.ExactDict ∧ o.data = .dict es ep ∧ (d == sysModules) = false ∧ R (ItDk K d o es) H1
def iDv (K : PySem.W.Frag) (td : TE) : TI := fun σ H R => td σ H fun x H1 => ∃ d o es ep, x = .ref d ∧ Dat K H1 d o ∧ o.ExactDict ∧ o.data = .dict es ep ∧ (d == sysModules) = false ∧ R (ItDv K d o es) H1
def iDi (K : PySem.W.Frag) (td : TE) : TI := fun σ H R => td σ H fun x H1 => ∃ d o es ep, x = .ref d ∧ Dat K H1 d o ∧ o.ExactDict ∧ o.data = .dict es ep ∧ (d == sysModules) = false ∧ R (ItDi K d o es) H1
end
section
variable {X : Cx} {tg e : Expr} {td : TE} {apos cpos tpos : Pos} {elts : List Expr} {kk : Nat}
theorem pi_Dk (he : PE X e td) : PI X tg e (iDk X.K td) := by
  refine ⟨fun pins s σ H R I h => ?_⟩
  refine thn (he.run pins s σ H _ I h) fun u s1 ⟨x, H1, I1, rx, d, o, es, ep, ex, hd, h2, h3, hs, q⟩ => ?_
  subst ex
  obtain rfl : u = Value.ref d := rx
  exact wpAny_pyIter_dict_raw hs (raw_at I1 hd h2 h3) (pi_one (tk := s1.toks) I1 _ (turn_Dk _ h2 h3) ⟨_, Heap.get?_push_size _ rfl, rfl, rfl⟩ q)
theorem pi_Dv (he : PE X e td) (hb : attributeBase e "values" X.env (eval e X.env) = eval e X.env := by rfl) (hl : (apos.endLine == cpos.line) = true := by rfl) : PI X tg (.Call (.Attribute e "values" apos) [] [] cpos) (iDv X.K td) := by
  refine ⟨fun pins s σ H R I h => ?_⟩
  refine wpAny_Call_method (T := "dict") (id := "dict.values") hb rfl hl F.plainAttrs_dict F.slot_dict_values F.type_dict_values (thn (he.run pins s σ H _ I h) fun u s1 ⟨x, H1, I1, rx, d, o, es, ep, ex, hd, h2, h3, hs, q⟩ => ?_)
  subst ex
  obtain rfl : u = Value.ref d := rx
  have ho := ob_at I1 hd
  refine ⟨ex_ty ho h2, fun b z => by cases z; exact ⟨o, ho, h2.2.1⟩, ?_⟩
  have I2 : Inv X pins σ H1 { s1 with heap := s1.heap.push { cls := .type "dict_values", data := .fields #[.ref d] } } := I1.kept (t' := s1.toks) fun b ob q => Heap.get?_push_of_some _ q
  show wpAny _ _ (callWith cpos (.builtin "dict.values") [.ref d] [] []) _ X.xe s1
  exact method_meetsIn F.slot_dict_values F.entry_dict_values rfl (PySem.evalArgs_none ⟨rfl, ex_ty ho h2, F.args_dict_values_1 _, _, meets_dict_values_raw d hs, ⟨es, ep, raw_at I1 hd h2 h3⟩,
    wpAny_pyIter_values_raw ⟨_, Heap.get?_push_size _ rfl, rfl, rfl⟩ (raw_at I2 hd h2 h3) (pi_one (tk := s1.toks) I2 _ (turn_Dv _ h2 h3) ⟨_, Heap.get?_push_size _ rfl, rfl, rfl⟩ q)⟩)
theorem pi_Di (he : PE X e td) (hb : attributeBase e "items" X.env (eval e X.env) = eval e X.env := by rfl) (hl : (apos.endLine == cpos.line) = true := by rfl) : PI X (.Tuple elts kk tpos) (.Call (.Attribute e "items" apos) [] [] cpos) (iDi X.K td) := by
  refine ⟨fun pins s σ H R I h => ?_⟩
  refine wpAny_Call_method (T := "dict") (id := "dict.items") hb rfl hl F.plainAttrs_dict F.slot_dict_items F.type_dict_items (thn (he.run pins s σ H _ I h) fun u s1 ⟨x, H1, I1, rx, d, o, es, ep, ex, hd, h2, h3, hs, q⟩ => ?_)
  subst ex
  obtain rfl : u = Value.ref d := rx
  have ho := ob_at I1 hd
  refine ⟨ex_ty ho h2, fun b z => by cases z; exact ⟨o, ho, h2.2.1⟩, ?_⟩
  have I2 : Inv X pins σ H1 { s1 with heap := s1.heap.push { cls := .type "dict_items", data := .fields #[.ref d] } } := I1.kept (t' := s1.toks) fun b ob q => Heap.get?_push_of_some _ q
  show wpAny _ _ (callWith cpos (.builtin "dict.items") [.ref d] [] []) _ X.xe s1
  exact method_meetsIn F.slot_dict_items F.entry_dict_items rfl (PySem.evalArgs_none ⟨rfl, ex_ty ho h2, F.args_dict_items_1 _, _, meets_dict_items_raw d hs, ⟨es, ep, raw_at I1 hd h2 h3⟩,
    wpAny_pyIter_items_raw ⟨_, Heap.get?_push_size _ rfl, rfl, rfl⟩ (raw_at I2 hd h2 h3) (pi_one (tk := s1.toks) I2 _ (turn_Di _ h2 h3) ⟨_, _, Heap.get?_push_size _ rfl⟩ q)⟩)
end
/-! the walks as data -/
theorem walk_Dk {c : VC} {Z H : Hp} {d : Addr} {o : Obj} {es : Array DictEntry} {l : List (D × D)} (hd : Dat c.K Z d o) (r : RpE c Z es.toList l) : Walk c (ItDk c.K d o es) Z H [] (l.map (·.1)) where
  go := fun i Z' H' hi s1 s2 _ => by
    rw [List.length_map, ← r.len, Array.length_toList] at hi
    obtain ⟨k, e, vk, v, h1, h2, h3, h4, h5, h6, h7⟩ := r.at (j := i) (en := es[i]) (by simp [hi])
    refine ⟨⟨hd.imp (fun z => s2 _ _ (s1 _ _ z)) id, es[i], vk, v, Array.getElem?_eq_getElem hi, h2, h6⟩, fun x Hx y => ?_⟩
    obtain ⟨e1, en, e2, e3⟩ := y
    subst e1
    rw [Array.getElem?_eq_getElem hi] at e2
    cases e2
    rw [← h2.inj e3]
    exact ⟨Z', k, by rw [List.getElem?_map, h1]; rfl, Same.refl _, Same.refl _, s2, fun p h => .inl h, h3.mono s1⟩
  stop := fun Z' H' s1 s2 _ => ⟨hd.imp (fun z => s2 _ _ (s1 _ _ z)) id, by rw [List.length_map, ← r.len, Array.length_toList]; exact Nat.le_refl _⟩
theorem walk_Dv {c : VC} {Z H : Hp} {d : Addr} {o : Obj} {es : Array DictEntry} {l : List (D × D)} (hd : Dat c.K Z d o) (r : RpE c Z es.toList l) : Walk c (ItDv c.K d o es) Z H [] (l.map (·.2)) where
  go := fun i Z' H' hi s1 s2 _ => by
    rw [List.length_map, ← r.len, Array.length_toList] at hi
    obtain ⟨k, e, vk, v, h1, h2, h3, h4, h5, h6, h7⟩ := r.at (j := i) (en := es[i]) (by simp [hi])
    refine ⟨⟨hd.imp (fun z => s2 _ _ (s1 _ _ z)) id, es[i], vk, v, Array.getElem?_eq_getElem hi, h2, h6⟩, fun x Hx y => ?_⟩
    obtain ⟨e1, en, e2, e3⟩ := y
    subst e1
    rw [Array.getElem?_eq_getElem hi] at e2
    cases e2
    rw [← h6.inj e3]
    exact ⟨Z', e, by rw [List.getElem?_map, h1]; rfl, Same.refl _, Same.refl _, s2, fun p h => .inl h, h7.mono s1⟩
  stop := fun Z' H' s1 s2 _ => ⟨hd.imp (fun z => s2 _ _ (s1 _ _ z)) id, by rw [List.length_map, ← r.len, Array.length_toList]; exact Nat.le_refl _⟩
theorem walk_Di {c : VC} {Z H : Hp} {d : Addr} {o : Obj} {es : Array DictEntry} {l : List (D × D)} (nb : (l.all fun p => !isBl p.1) = true) (hd : Dat c.K Z d o) (r : RpE c Z es.toList l) : Walk c (ItDi c.K d o es) Z H [] (l.map fun p => .tuple [p.1, p.2]) where
  go := fun i Z' H' hi s1 s2 _ => by
    rw [List.length_map, ← r.len, Array.length_toList] at hi
    obtain ⟨k, e, vk, v, h1, h2, h3, h4, h5, h6, h7⟩ := r.at (j := i) (en := es[i]) (by simp [hi])
    refine ⟨⟨hd.imp (fun z => s2 _ _ (s1 _ _ z)) id, es[i], vk, v, Array.getElem?_eq_getElem hi, h2, h6⟩, fun x Hx y => ?_⟩
    obtain ⟨T, en, a, b, e2, e3, e4, rfl, hT, rfl⟩ := y
    rw [Array.getElem?_eq_getElem hi] at e2
    cases e2
    rw [← h2.inj e3, ← h6.inj e4]
    have nd : isBl k = false := by simpa using List.all_eq_true.mp nb _ (List.mem_of_getElem? h1)
    obtain ⟨k1, k2, k3, k4, k5⟩ := pair_new s2 hT (h3.mono s1) (h7.mono s1) nd
    exact ⟨_, _, by rw [List.getElem?_map, h1]; rfl, k1, k2, k3, k4, k5⟩
  stop := fun Z' H' s1 s2 _ => ⟨hd.imp (fun z => s2 _ _ (s1 _ _ z)) id, by rw [List.length_map, ← r.len, Array.length_toList]; exact Nat.le_refl _⟩
/-! the rules: a frozen dict, or one that is a value -/
def dItems (sel : List (D × D) → Option (List D)) (o : Option OT) (ρ : Ev) : Res Its' := match o with
  | some (.sh (.dict l)) => if exK l = true then .bad else (match sel l with | some xs => .ok (xs, none) ρ | none => .bad)
  | _ => .bad
def fDictI (sel : List (D × D) → Option (List D)) (f : Ev → Res PH) : Ev → Res Its' := fun ρ => (f ρ).bind fun h ρ1 => dItems sel (h.get ρ1) ρ1
@[simp] theorem fDictI_ap (sel : List (D × D) → Option (List D)) (f : Ev → Res PH) (ρ : Ev) : fDictI sel f ρ = (f ρ).bind fun h ρ1 => dItems sel (h.get ρ1) ρ1 := rfl
@[simp] theorem dItems_ap (sel : List (D × D) → Option (List D)) (l : List (D × D)) (ρ : Ev) : dItems sel (some (.sh (.dict l))) ρ = if exK l = true then .bad else (match sel l with | some xs => .ok (xs, none) ρ | none => .bad) := rfl
def selK (l : List (D × D)) : Option (List D) := some (l.map (·.1))
def selV (l : List (D × D)) : Option (List D) := some (l.map (·.2))
/-- no key is a bool -/
def nbK (l : List (D × D)) : Bool := l.all fun p => !isBl p.1
def selI (l : List (D × D)) : Option (List D) := if nbK l = true then some (l.map fun p => .tuple [p.1, p.2]) else none
section
variable {X : Cx} {xa : Str → Option Addr} {E : XS} {pu : Bool} {tg e : Expr} {apos cpos tpos : Pos} {elts : List Expr} {kk : Nat}
theorem dict_walked {f : Ev → Res PH} {sel : List (D × D) → Option (List D)} {σ : St} {H : Hp} {R : It → Hp → Prop} {J : Addr → Obj → Array DictEntry → It} (q : tI (cc X xa) E (fDictI sel f) σ H R)
    (hw : ∀ Z H d o es l xs, sel l = some xs → Dat X.K Z d o → RpE (cc X xa) Z es.toList l → Walk (cc X xa) (J d o es) Z H [] xs) :
    tP (cc X xa) E pu f σ H fun x H1 => ∃ d o es ep, x = .ref d ∧ Dat X.K H1 d o ∧ o.ExactDict ∧ o.data = .dict es ep ∧ (d == sysModules) = false ∧ R (J d o es) H1 := by
  obtain ⟨Z, ρ, F, ok, q⟩ := q
  refine ⟨Z, ρ, F, ok, ?_⟩
  unfold fDictI at q
  cases r : f ρ with
  | bad => rw [r] at q; exact q
  | exc x ρ' => rw [r] at q; exact q
  | ok h ρ1 =>
    rw [r, Res.bind_ok] at q
    intro v H1 Z1 F1 o1 w1 a1 _
    unfold dItems at q
    split at q
    · rename_i l hd
      by_cases hk : exK l = true
      · rw [if_pos hk] at q
        exact q.elim
      rw [if_neg hk] at q
      split at q
      case h_2 => exact q.elim
      rename_i xs hsel
      obtain ⟨Ft, w⟩ := w1.read o1 hd
      cases w with
      | sh w =>
        cases w with
        | ex => exact absurd rfl hk
        | @dct a o es ep _ g1 g2 g3 g4 g5 g6 =>
          exact ⟨a, o, es, ep, rfl, g1.imp (o1.same _ _) id, g2, g3, g4, q _ H1 Z1 F1 [] o1 (hw Z1 H1 a o es l xs hsel g1 g5) o1.nd (fun _ z => nomatch z) rfl a1⟩
    · exact q.elim
theorem vi_Dk {f : Ev → Res PH} (h : VP X xa E pu e f) : VI X xa E tg e (fDictI selK f) := (pi_Dk h).imp fun σ H R q => dict_walked (J := ItDk X.K) q fun Z H d o es l xs hs h1 h2 => by cases hs; exact walk_Dk h1 h2
theorem vi_Dv {f : Ev → Res PH} (h : VP X xa E pu e f) (hb : attributeBase e "values" X.env (eval e X.env) = eval e X.env := by rfl) (hl : (apos.endLine == cpos.line) = true := by rfl) : VI X xa E tg (.Call (.Attribute e "values" apos) [] [] cpos) (fDictI selV f) :=
  (pi_Dv h hb hl).imp fun σ H R q => dict_walked (J := ItDv X.K) q fun Z H d o es l xs hs h1 h2 => by cases hs; exact walk_Dv h1 h2
theorem vi_Di {f : Ev → Res PH} (h : VP X xa E pu e f) (hb : attributeBase e "items" X.env (eval e X.env) = eval e X.env := by rfl) (hl : (apos.endLine == cpos.line) = true := by rfl) : VI X xa E (.Tuple elts kk tpos) (.Call (.Attribute e "items" apos) [] [] cpos) (fDictI selI f) :=
  (pi_Di h hb hl).imp fun σ H R q => dict_walked (J := ItDi X.K) q fun Z H d o es l xs hs h1 h2 => by
    unfold selI at hs
    split at hs
    case isFalse => cases hs
    rename_i nb
    cases hs
    exact walk_Di nb h1 h2
end
theorem lk_D (sel : List (D × D) → Option (List D)) (f : Ev → Res PH) : ∀ ρ (p : Its') ρ', fDictI sel f ρ = .ok p ρ' → p.2 = none ∨ p.2 = none := fun ρ p ρ' h => by
  unfold fDictI at h
  cases e : f ρ with
  | bad => rw [e] at h; cases h
  | exc x ρ1 => rw [e] at h; cases h
  | ok t ρ1 =>
    rw [e, Res.bind_ok] at h
    unfold dItems at h
    split at h
    · split at h
      · cases h
      · split at h
        · cases h; exact .inl rfl
        · cases h
    · cases h
end VL

end

section
set_option Elab.async false
set_option linter.all false
set_option maxRecDepth 100000
set_option maxHeartbeats 4000000
namespace VL
open PySem PySem.Spec PyProof.Rows L2
/-! ### methods of a dict -/
def IsDv (K : PySem.W.Frag) (x : V) (H : Hp) : Prop := ∃ a o, x = .ref a ∧ Dat K H a o ∧ o.ExactDict
def tBMD (K : PySem.W.Frag) (r : V → List V → Hp → VK → Prop) (to : TE) (t : TA) : TE := fun σ H Q => to σ H fun x H1 => IsDv K x H1 ∧ t σ H1 fun xs H2 => r x xs H2 Q
section
variable {X : Cx} {xa : Str → Option Addr} {E : XS} {p1 p2 : Bool} {o e : Expr} {es : List Expr} {apos cpos : Pos}
theorem pe_bmD {name : Str} {id : String} {r : V → List V → Hp → VK → Prop} {to : TE} {t : TA} (slot : Slot "dict" name id) (hty : typeOf (.builtin id) = pure (.type "method_descriptor")) (hm : MtR X id r) (ho : PE X o to) (ha : PA X (e :: es) t)
    (hbase : attributeBase o name X.env (eval o X.env) = eval o X.env := by rfl)
    (hfew : ((backTo cpos (starEach (e :: es) X.env)).all (fun x => !x.1) && (backToKw cpos (keywordEach [] X.env)).all (fun x => x.1.isSome)
      && decide ((e :: es).length + ([] : List Keyword).length + (if ([] : List Keyword).isEmpty then 0 else 1) < 30)) = true := by rfl)
    (hline : (apos.endLine == cpos.line) = true := by rfl) (hs : starEach (e :: es) X.env = (false, eval e X.env) :: starEach es X.env := by rfl) (hplain : (backTo cpos (starEach es X.env)).any (·.1) = false := by rfl) :
    PE X (.Call (.Attribute o name apos) (e :: es) [] cpos) (tBMD X.K r to t) := by
  refine ⟨fun pins s σ H Q I h => ?_⟩
  refine wpAny_Call_method_late hbase hfew hline rfl (thn (ho.run pins s σ H _ I h) fun v s1 ⟨x, H1, I1, r1, ty, q1⟩ => ?_)
  obtain ⟨a, ob, rfl, hd, hx⟩ := ty
  obtain rfl : v = Value.ref a := r1
  have hob := ob_at I1 hd
  refine ⟨"dict", id, PySem.F.plainAttrs_dict, slot, hty, ex_ty hob hx, fun b z => by cases z; exact ⟨ob, hob, hx.2.1⟩, ?_⟩
  have hA := ha.run cpos pins s1 σ H1 _ I1 q1
  rw [hs] at hA ⊢
  refine Calls.callWith_builtin (by show (false || (backTo cpos (starEach es X.env)).any (·.1)) = false; rw [hplain] <;> rfl) (Calls.evalArgs_plain ?_)
  exact thn hA fun us s2 ⟨vs, H2, I2, r2, q2⟩ => hm pins s2 σ H2 (.ref a) vs (.ref a) us Q I2 rfl r2 q2
def mthD (g : List OT → Option OT) (p2 : Bool) (h : PH) (o : Option OT) (f2 : Ev → Res (List PH)) (ρ1 : Ev) : Res OT := match o with
  | some t => if (dOf t).isSome = true then (f2 ρ1).bind fun hs ρ2 => opn g (gets (h.un p2 :: hs) ρ2) ρ2 else .bad
  | none => .bad
def fMthD (g : List OT → Option OT) (p2 : Bool) (f1 : Ev → Res PH) (f2 : Ev → Res (List PH)) : Ev → Res OT := fun ρ => (f1 ρ).bind fun h ρ1 => mthD g p2 h (h.get ρ1) f2 ρ1
@[simp] theorem fMthD_ap (g : List OT → Option OT) (p2 : Bool) (f1 : Ev → Res PH) (f2 : Ev → Res (List PH)) (ρ : Ev) : fMthD g p2 f1 f2 ρ = (f1 ρ).bind fun h ρ1 => mthD g p2 h (h.get ρ1) f2 ρ1 := rfl
@[simp] theorem mthD_sh (g : List OT → Option OT) (p2 : Bool) (h : PH) (l : List (D × D)) (f2 : Ev → Res (List PH)) (ρ : Ev) (hx : exK l = false) : mthD g p2 h (some (.sh (.dict l))) f2 ρ = (f2 ρ).bind fun hs ρ2 => opn g (gets (h.un p2 :: hs) ρ2) ρ2 := by
  have e : dOf (.sh (.dict l)) = some l := by show (if exK l = true then none else some l) = some l; rw [hx]; rfl
  unfold mthD; simp only [e, Option.isSome_some, if_true]
@[simp] theorem mthD_dct (g : List OT → Option OT) (p2 : Bool) (h : PH) (l : List (D × D)) (f2 : Ev → Res (List PH)) (ρ : Ev) : mthD g p2 h (some (.dct l)) f2 ρ = (f2 ρ).bind fun hs ρ2 => opn g (gets (h.un p2 :: hs) ρ2) ρ2 := rfl
theorem tMthD {r : V → List V → Hp → VK → Prop} {g : List OT → Option OT} (hg : PrimM (cc X xa) r g) {f1 : Ev → Res PH} {f2 : Ev → Res (List PH)} {σ : St} {H : Hp} {Q : VK}
    (q : tV (cc X xa) E (p1 && p2) (fMthD g p2 f1 f2) σ H Q) : tBMD X.K r (tP (cc X xa) E p1 f1) (tPs (cc X xa) E p2 f2) σ H Q := by
  obtain ⟨Z, ρ, F, ok, q⟩ := q
  refine ⟨Z, ρ, F, ok, ?_⟩
  unfold fMthD at q
  cases r1 : f1 ρ with
  | bad => rw [r1] at q; exact q
  | exc x ρ' => rw [r1] at q; exact q
  | ok h1 ρ1 =>
    rw [r1] at q
    intro v1 H1 Z1 F1 o1 w1 a1 k1
    have q1 := rV.later (pu' := p2) q a1 fun z => by
      rw [Bool.and_eq_true] at z
      exact ⟨z.2, k1 z.1⟩
    rw [Res.bind_ok] at q1
    cases e0 : h1.get ρ1 with
    | none => rw [e0] at q1; exact q1.elim
    | some t0 =>
      rw [e0] at q1
      obtain ⟨G0, x0⟩ := w1.read o1 e0
      unfold mthD at q1
      dsimp only at q1
      cases hl : dOf t0 with
      | none => rw [hl] at q1; simp only [Option.isSome_none, Bool.false_eq_true, if_false] at q1; exact q1.elim
      | some l =>
        rw [hl] at q1; simp only [Option.isSome_some, if_true] at q1
        obtain ⟨a, rfl, ob, es', ep, g1, g2, _⟩ := rd_of_own o1.same x0 hl
        refine ⟨⟨a, ob, rfl, g1, g2⟩, Z1, ρ1, F1, o1, ?_⟩
        cases r2 : f2 ρ1 with
        | bad => rw [r2] at q1; exact q1
        | exc x ρ' => rw [r2] at q1; exact q1
        | ok h2 ρ2 =>
          rw [r2] at q1
          intro v2 H2 Z2 F2 o2 w2 a2 k2
          have q2 := rV.later (pu' := true) q1 a2 fun z => ⟨rfl, k2 z⟩
          rw [Res.bind_ok] at q2
          cases e1 : gets (h1.un p2 :: h2) ρ2 with
          | none => rw [e1] at q2; exact q2.elim
          | some ts =>
            rw [e1] at q2
            have x1 := gets_rds o2 (.cons (w1.stay a2.same p2 fun z => (k2 z).1) w2) e1
            have q3 : rV (cc X xa) E true Z2 H2 σ ρ2 F2 (Res.of (g ts) ρ2) Q := q2
            cases e3 : g ts with
            | none => rw [e3] at q3; exact q3.elim
            | some t =>
              rw [e3] at q3
              obtain ⟨v, us, e4, rr⟩ := hg Z2 H2 (.ref a :: v2) ts t Q o2.same x1 e3 (o2.newR q3)
              cases e4
              exact rr
theorem ve_methD {name : Str} {id : String} {r : V → List V → Hp → VK → Prop} {g : List OT → Option OT} {f1 : Ev → Res PH} {f2 : Ev → Res (List PH)} (slot : Slot "dict" name id) (hty : typeOf (.builtin id) = pure (.type "method_descriptor")) (hm : MtR X id r) (hg : PrimM (cc X xa) r g)
    (h1 : VP X xa E p1 o f1) (ha : VPs X xa E p2 (e :: es) f2) (hbase : attributeBase o name X.env (eval o X.env) = eval o X.env := by rfl)
    (hfew : ((backTo cpos (starEach (e :: es) X.env)).all (fun x => !x.1) && (backToKw cpos (keywordEach [] X.env)).all (fun x => x.1.isSome)
      && decide ((e :: es).length + ([] : List Keyword).length + (if ([] : List Keyword).isEmpty then 0 else 1) < 30)) = true := by rfl)
    (hline : (apos.endLine == cpos.line) = true := by rfl) (hs : starEach (e :: es) X.env = (false, eval e X.env) :: starEach es X.env := by rfl) (hplain : (backTo cpos (starEach es X.env)).any (·.1) = false := by rfl) :
    VE X xa E (p1 && p2) (.Call (.Attribute o name apos) (e :: es) [] cpos) (fMthD g p2 f1 f2) := (pe_bmD slot hty hm h1 ha hbase hfew hline hs hplain).imp fun σ H Q q => tMthD hg q
/-! d.get(k, x) -/
def rGetD (c : VC) : V → List V → Hp → VK → Prop := fun x ys H Q => ∃ a l y z k d Z, x = .ref a ∧ ys = [y, z] ∧ Same Z H ∧ DRd c Z H a l ∧ Rp c Z y k ∧ kOk k = true ∧ Rp c Z z d ∧ ∀ v, Rp c Z v ((dget l k).getD d) → Q v H
theorem mt_getD (hu : X.A.units + 9 < cLine) : MtR X "dict.get" (rGetD (cc X xa)) := by
  intro pins s σ H x xs v us Q I rx rs h
  obtain ⟨a, l, y, z, k, d, Z, rfl, rfl, sm, ⟨ob, es, ep, h1, h2, h3, h4, h5, h6⟩, rk, ok, rd, q⟩ := h
  obtain ⟨u1, u2, rfl, r1, r2⟩ := Vals.two rs
  cases rx
  obtain ⟨k1, k2, k3⟩ := kOk_of ok
  have R := rk_of I sm h5 h6
  refine rk_getD hu (nest_of I sm rk k1 r1) k3 (noText rk k2 r1) (ob_at I h1) h2 h3 h4 R (fun n => ⟨z, H, I.tok _, r2, q z ?_⟩) fun j hj e => ?_
  · unfold dget
    rw [dix_none n]
    exact rd
  · obtain ⟨k', d', vk, v', g1, _, _, _, _, g5, g6⟩ := h5.at (j := j) (en := es[j]) (by simp [hj])
    refine ⟨v', H, I.tok _, g5, q v' ?_⟩
    unfold dget
    rw [dix_some h6 e, Option.bind_some, g1]
    exact g6
def gGetD (ts : List OT) : Option OT := match ts with
  | [t1, t2, .sh d] => (dOf t1).bind fun l => if kOk t2.d = true then some (.sh ((dget l t2.d).getD d)) else none
  | _ => none
theorem prim_getD {c : VC} : PrimM c (rGetD c) gGetD := by
  intro Z H vs ts t Q s r e n
  unfold gGetD at e
  split at e
  · rename_i t1 t2 d
    cases hl : dOf t1 with
    | none => rw [hl] at e; cases e
    | some l =>
      rw [hl, Option.bind_some] at e
      split at e
      · rename_i hk
        cases e
        cases r with
        | @cons v1 _ _ _ _ w1 r =>
          cases r with
          | @cons v2 _ _ _ _ w2 r =>
            cases r with
            | @cons v3 _ _ _ _ w3 r =>
              cases r
              cases w3 with
              | sh r3 =>
                obtain ⟨a, rfl, rr⟩ := rd_of_own s w1 hl
                exact ⟨_, _, rfl, a, l, v2, v3, t2.d, d, Z, rfl, rfl, s, rr, key_own w2 hk, hk, r3, fun v rv => n v H Z [] (Same.refl _) (Same.refl _) s (fun _ z => .inl z) (.sh rv) List.nodup_nil fun _ z => nomatch z⟩
      · cases e
  · cases e
@[simp] theorem gGetD_sh (l : List (D × D)) (k d : D) (hx : exK l = false) : gGetD [.sh (.dict l), .sh k, .sh d] = if kOk k = true then some (.sh ((dget l k).getD d)) else none := by
  have e : dOf (.sh (.dict l)) = some l := by show (if exK l = true then none else some l) = some l; rw [hx]; rfl
  unfold gGetD; simp only [e, Option.bind_some]; rfl
@[simp] theorem gGetD_dct (l : List (D × D)) (k d : D) : gGetD [.dct l, .sh k, .sh d] = if kOk k = true then some (.sh ((dget l k).getD d)) else none := rfl
@[simp] theorem gIxD_sh (l : List (D × D)) (k : D) (hx : exK l = false) : gIxD (.sh (.dict l)) (.sh k) = if kOk k = true then (dget l k).map .sh else none := by
  have e : dOf (.sh (.dict l)) = some l := by show (if exK l = true then none else some l) = some l; rw [hx]; rfl
  unfold gIxD; simp only [e]; rfl
@[simp] theorem gIxD_dct (l : List (D × D)) (k : D) : gIxD (.dct l) (.sh k) = if kOk k = true then (dget l k).map .sh else none := rfl
@[simp] theorem gInD_sh (b : Bool) (l : List (D × D)) (k : D) (hx : exK l = false) : gInD b (.sh k) (.sh (.dict l)) = if kOk k = true then some (.sh (.bool (b != (dix l k).isSome))) else none := by
  have e : dOf (.sh (.dict l)) = some l := by show (if exK l = true then none else some l) = some l; rw [hx]; rfl
  unfold gInD; simp only [e]; rfl
@[simp] theorem gInD_dct (b : Bool) (l : List (D × D)) (k : D) : gInD b (.sh k) (.dct l) = if kOk k = true then some (.sh (.bool (b != (dix l k).isSome))) else none := rfl
end
/-! ### sum of numbers and truths -/
def numD : D → Option Int
  | .int i => some i
  | .bool b => some (if b = true then 1 else 0)
  | _ => none
def numsD (l : List D) : Option (List Int) := l.mapM numD
theorem numsD_cons {d : D} {l : List D} {ns : List Int} (h : numsD (d :: l) = some ns) : ∃ n r, numD d = some n ∧ numsD l = some r ∧ ns = n :: r := by
  unfold numsD at h
  rw [List.mapM_cons] at h
  cases e1 : numD d with
  | none => rw [e1] at h; cases h
  | some n =>
    cases e2 : l.mapM numD with
    | none => rw [e1, e2] at h; cases h
    | some r =>
      rw [e1, e2] at h
      cases h
      exact ⟨n, r, rfl, e2, rfl⟩
theorem num_of {c : VC} {Z : Hp} {v : V} {d : D} {u : Value} {n : Int} (r : Rp c Z v d) (ru : RelV v u) (h : numD d = some n) : NumOf n u := by
  cases r with
  | int i =>
    cases h
    exact .inl ru
  | bl b =>
    cases h
    cases ru
    exact .inr ⟨b, rfl, rfl⟩
  | _ => cases h
theorem nums_at {c : VC} {Z : Hp} : ∀ {vs : List V} {ds : List D} {us : List Value} {ns : List Int}, RpL c Z vs ds → Vals vs us → numsD ds = some ns → ns.length = us.length ∧ ∀ (i : Nat) (u : Value), us[i]? = some u → ∃ n, ns[i]? = some n ∧ NumOf n u
  | _, _, _, _, .nil, r, h => by
    cases r
    cases h
    exact ⟨rfl, fun i u e => by simp at e⟩
  | _, _, _, _, .cons p l, r, h => by
    cases r with
    | cons r rs =>
      obtain ⟨n, ns, e1, e2, rfl⟩ := numsD_cons h
      obtain ⟨h1, h2⟩ := nums_at l rs e2
      refine ⟨by simp [h1], fun i u e => ?_⟩
      cases i with
      | zero => simp at e; subst e; exact ⟨n, rfl, num_of p r e1⟩
      | succ i => simpa using h2 i u (by simpa using e)
theorem preSum_take (ns : List Int) : ∀ k, k ≤ ns.length → preSum (fun i => ns.getD i 0) k = (ns.take k).sum
  | 0, _ => rfl
  | k + 1, h => by
    rw [preSum, preSum_take ns k (by omega), List.take_add_one, List.getElem?_eq_getElem (by omega), List.sum_append]
    simp [List.getD_eq_getElem?_getD, List.getElem?_eq_getElem (show k < ns.length by omega)]
section
variable {prog : Program} {w : World} {A : Around} {E : Value → Shared → Prop} {s : Shared}
theorem sum_seq {a : Addr} {us : List Value} {ns : List Int} {Q : Value → Shared → Prop} (hh : A.handled = none) (hs : s.heap.IsList a us.toArray ∨ s.heap.IsTuple a us.toArray) (hl : ns.length = us.length) (hn : ∀ (i : Nat) (u : Value), us[i]? = some u → ∃ n, ns[i]? = some n ∧ NumOf n u)
    (q : ∀ h' tk t', (∀ b o, s.heap.get? b = some o → h'.get? b = some o) → Q (.int ns.sum t') { s with heap := h', toks := tk }) : wpAny (model prog w) A (call (.builtin "sum") [.ref a]) Q E s := by
  have val : ∀ (i : Nat) (u : Value), us.toArray[i]? = some u → NumOf (ns.getD i 0) u := fun i u e => by
    obtain ⟨n, e1, e2⟩ := hn i u (by simpa using e)
    rw [List.getD_eq_getElem?_getD, e1]
    exact e2
  have fin : preSum (fun i => ns.getD i 0) us.toArray.size = ns.sum := by
    rw [preSum_take ns _ (by rw [List.size_toArray]; omega), List.take_of_length_le (by rw [List.size_toArray]; omega)]
  have la : a < s.heap.objs.size := by
    rcases hs with ⟨o, e, _⟩ | ⟨o, e, _⟩
    · exact Heap.lt_size e
    · exact Heap.lt_size e
  have keep : ∀ {o : Obj} {wr : List Addr} {s2 s' : Shared}, s2 = { s with heap := s.heap.push o } → Moved [s.heap.objs.size] (fun a b => b = a) s2 s' → ∀ b ob, s.heap.get? b = some ob → s'.heap.get? b = some ob := fun {o wr s2 s'} e hm b ob hb => by
    subst e
    exact hm.heap b ob (fun z => Nat.ne_of_lt (Heap.lt_size hb) (List.mem_singleton.mp z)) (Heap.get?_push_of_some _ hb)
  rcases hs with hs | hs
  · refine call_sum_walkAnyB (wpAny_pyIter_list hs ?_)
    refine ⟨s.heap.objs.size, _, _, _, _, _, _, fun i => ns.getD i 0, rfl, (Walks.list (A := A.in1) hh s.heap.objs.size a (Nat.ne_of_lt la) us.toArray).toS, ⟨⟨_, Heap.get?_push_size _ rfl, rfl, rfl⟩, hs.push _⟩, fun b hb => ?_, val, fun s' t' hm => ?_⟩
    · simp only [List.mem_cons, List.not_mem_nil, or_false] at hb
      show b < (Heap.push s.heap _).objs.size
      rw [Heap.size_push]
      rcases hb with e | e <;> rw [e]
      · exact Nat.lt_succ_self _
      · exact Nat.lt_succ_of_lt la
    · rw [fin, Moved.eq_with hm]
      exact q s'.heap s'.toks t' (keep (wr := []) rfl hm)
  · refine call_sum_walkAnyB (wpAny_pyIter_tuple hs ?_)
    refine ⟨s.heap.objs.size, _, _, _, _, _, _, fun i => ns.getD i 0, rfl, (Walks.tuple (A := A.in1) hh s.heap.objs.size a (Nat.ne_of_lt la) us.toArray).toS, ⟨⟨_, Heap.get?_push_size _ rfl, rfl, rfl⟩, hs.push _⟩, fun b hb => ?_, val, fun s' t' hm => ?_⟩
    · simp only [List.mem_cons, List.not_mem_nil, or_false] at hb
      show b < (Heap.push s.heap _).objs.size
      rw [Heap.size_push]
      rcases hb with e | e <;> rw [e]
      · exact Nat.lt_succ_self _
      · exact Nat.lt_succ_of_lt la
    · rw [fin, Moved.eq_with hm]
      exact q s'.heap s'.toks t' (keep (wr := []) rfl hm)
end
section
variable {X : Cx} {xa : Str → Option Addr} {pins : List (Addr × Obj)} {σ : St} {H Z : Hp} {s : Shared}
/-- the items of a list or tuple, as the heap has them -/
theorem seq_at (I : Inv X pins σ H s) (sm : Same Z H) {x : V} {u : Value} {t : OT} {F : List Addr} {ds : List D} (r : RelV x u) (w : Own (cc X xa) Z H x t F) (e : qItems t = some ds) :
    ∃ a xs us, u = .ref a ∧ Vals xs us ∧ RpL (cc X xa) Z xs ds ∧ us.length ≤ sizeLine ∧ (s.heap.IsList a us.toArray ∨ s.heap.IsTuple a us.toArray) := by
  obtain ⟨a, xs, rfl, h, rp⟩ := q_read sm w e
  cases r
  rcases h with h | h
  · obtain ⟨its, rv, p, hz⟩ := I.list h
    exact ⟨a, xs, its, rfl, rv, rp, by rw [← rv.length]; exact hz, .inl p.isList⟩
  · obtain ⟨its, rv, p, hz⟩ := I.tuple h
    exact ⟨a, xs, its, rfl, rv, rp, by rw [← rv.length]; exact hz, .inr p⟩
def rSumB (c : VC) : List V → Hp → VK → Prop := fun vs H Q => ∃ x Z t F ds ns, vs = [x] ∧ Same Z H ∧ Own c Z H x t F ∧ qItems t = some ds ∧ numsD ds = some ns ∧ Q (.int ns.sum) H
theorem cr_sumB (hc : X.calm = true) : CallR X (.builtin "sum") (rSumB (cc X xa)) := by
  intro pins s σ H vs us Q I rv h
  obtain ⟨x, Z, t, F, ds, ns, rfl, sm, w, e1, e2, q⟩ := h
  obtain ⟨u, rfl, ru⟩ := vals1 rv
  obtain ⟨a, xs, vs, rfl, r1, r2, _, hs⟩ := seq_at I sm ru w e1
  obtain ⟨l1, l2⟩ := nums_at r2 r1 e2
  exact sum_seq (I.ok.hd hc) hs l1 l2 fun h' tk t' k => ⟨.int _, H, I.kept k, ⟨_, rfl⟩, q⟩
def gSumB (ts : List OT) : Option OT := match ts with
  | [t] => (qItems t).bind fun ds => (numsD ds).map fun ns => .sh (.int ns.sum)
  | _ => none
theorem prim_sumB {c : VC} : Prim c (rSumB c) gSumB := by
  intro Z H vs ts t Q s r e n
  unfold gSumB at e
  split at e
  · rename_i t1
    cases e1 : qItems t1 with
    | none => rw [e1] at e; cases e
    | some ds =>
      rw [e1, Option.bind_some] at e
      cases e2 : numsD ds with
      | none => rw [e2] at e; cases e
      | some ns =>
        rw [e2] at e
        cases e
        cases r with
        | @cons v _ _ _ F0 w r =>
          cases r
          exact ⟨v, Z, t1, F0, ds, ns, rfl, s, w, e1, e2, n.int s⟩
  · cases e
/-! ### sorting by sum, by len -/
def sumF (d : D) : Option D := match d with
  | .tuple l => (numsD l).map fun ns => .int ns.sum
  | .list l => (numsD l).map fun ns => .int ns.sum
  | _ => none
def lenF (d : D) : Option D := match d with
  | .tuple l => some (.int l.length)
  | .list l => some (.int l.length)
  | _ => none
theorem key_post {c : VC} (I : Inv X pins σ H s) (sm : Same Z H) {h' : Heap} {tk t : Nat} {i : Int} (k : ∀ b o, s.heap.get? b = some o → h'.get? b = some o) : KeyPost X c s H Z (.int i) (.int i t) { s with heap := h', toks := tk } :=
  ⟨.int i, H, Z, rfl, I.bare, Un.kept k, I.hok.kept k, ⟨t, rfl⟩, Same.refl _, Same.refl _, sm, .int i⟩
theorem keyRun_sum (hc : X.calm = true) : KeyRun X (cc X xa) (.builtin "sum") sumF := by
  intro pins s σ H Z x u d k I rx sm rp hg
  have hh : X.A.in1.in1.handled = none := I.ok.hd hc
  unfold sumF at hg
  split at hg
  · rename_i l
    cases e : numsD l with
    | none => rw [e] at hg; cases hg
    | some ns =>
      rw [e] at hg
      cases hg
      obtain ⟨a, xs, us, rfl, r1, r2, _, hs⟩ := seq_at (t := .sh (.tuple l)) (F := []) I sm rx (.sh rp) rfl
      obtain ⟨l1, l2⟩ := nums_at r2 r1 e
      exact sum_seq hh hs l1 l2 fun h' tk t' kp => key_post I sm kp
  · rename_i l
    cases e : numsD l with
    | none => rw [e] at hg; cases hg
    | some ns =>
      rw [e] at hg
      cases hg
      obtain ⟨a, xs, us, rfl, r1, r2, _, hs⟩ := seq_at (t := .sh (.list l)) (F := []) I sm rx (.sh rp) rfl
      obtain ⟨l1, l2⟩ := nums_at r2 r1 e
      exact sum_seq hh hs l1 l2 fun h' tk t' kp => key_post I sm kp
  · cases hg
end
end VL

end

section
set_option Elab.async false
set_option linter.all false
set_option maxRecDepth 100000
set_option maxHeartbeats 1000000
namespace VL
open PySem PySem.Spec PyProof.Rows L2
/-! ### an error class that keeps its word: raise C(word) -/
theorem passF {X : Cx} : Passes (L2.CX X.prog X.w) X (fun _ _ _ => False) := fun pins σ H s e s' I c => by
  obtain ⟨_, _, _, _, _, _, _, _, _, _, _, _, z⟩ := c
  exact z.elim
theorem passN {X : Cx} : ∀ σ, PassesAt (L2.CX X.prog X.w) X σ (EN σ) := fun σ pins H s e s' I c => passF pins σ H s e s' I c
/-- what __init__ promises: self.word = word -/
def spWord (K : PySem.W.Frag) : Sp := fun vs H Q _ => ∃ (a C : Addr) (x : Str), vs = [.ref a, .str x] ∧ x.length ≤ 1000 ∧ OexC K C ∧ PySem.W.findIn K (.ref C) "word" = some none ∧ H a = some (exo a C none) ∧
  ∀ dx, H dx = none → dx ≠ a → Q .non (upd (upd H dx (exd dx [("word", .str x)])) a (exo a C (some dx)))
structure ErrAt (P : Program) (w : World) (K : PySem.W.Frag) (mg : Str → Option Value) (base : Heap) (xa : Str → Option Addr) (x : Str) (k : Nat) : Prop where
  ex : ∃ (C fI : Addr) (fd : FuncData) (ps : List Str), xa x = some C ∧ mg x = some (.ref C) ∧ OexC K C ∧ PySem.W.findIn K (.ref C) "__init__" = some (some (.ref fI)) ∧ PySem.W.typeIn K (.ref fI) = some (.type "function") ∧
    PySem.W.findIn K (.ref C) "word" = some none ∧ FnOk P w K mg base (L2.CX P w) k fI fd ps (spWord K) ∧ Binds K fd ps []
def fRaise (x : Str) (f : Ev → Res (List PH)) : Ev → Out := fun ρ => eS (f ρ) fun hs ρ1 => match gets hs ρ1 with
  | some [.sh (.str y)] => if y.length ≤ 1000 then .exc ⟨x, some y⟩ ρ1 else .bad
  | _ => .bad
def rz (x : Str) (o : Option (List OT)) (ρ1 : Ev) : Out := match o with
  | some [.sh (.str y)] => if y.length ≤ 1000 then .exc ⟨x, some y⟩ ρ1 else .bad
  | _ => .bad
@[simp] theorem fRaise_ap (x : Str) (f : Ev → Res (List PH)) (ρ : Ev) : fRaise x f ρ = eS (f ρ) fun hs ρ1 => rz x (gets hs ρ1) ρ1 := rfl
@[simp] theorem rz_str (x y : Str) (ρ : Ev) : rz x (some [.sh (.str y)]) ρ = if y.length ≤ 1000 then .exc ⟨x, some y⟩ ρ else .bad := rfl
section
variable {X : Cx} {xa : Str → Option Addr} {E : XS} {kp : List Nat} {pu p1 p2 : Bool} {e : Expr} {es : List Expr} {pos : Pos}
theorem rPs_of {c : VC} {Z H : Hp} {σ : St} {ρ : Ev} {F : List Addr} {r : Res (List PH)} {k : List PH → Ev → Out} {D : Ends} {Q : List V → Hp → Prop} (q : rS c E kp Z H σ F (eS r k) D)
    (h : ∀ t ρ' vs H' Z' F', Ok c Z' H' σ ρ' F' → PHrs c Z' H' σ t vs → After Z H F Z' H' F' → rS c E kp Z H σ F (k t ρ') D → Q vs H') : rPs c E pu Z H σ ρ F r Q := by
  cases r with
  | bad => exact q
  | exc x ρ' => exact fun cls d H' Z' F' o xr a => q cls d σ H' Z' F' o xr a (Kept.refl _ _)
  | ok t ρ' => exact fun vs H' Z' F' o w a _ => h t ρ' vs H' Z' F' o w a q
theorem upd_del {H : Hp} {a dx C : Addr} {fs : List (Str × V)} (ha : H a = none) : upd (L2.del (upd (upd (upd H a (exo a C none)) dx (exd dx fs)) a (exo a C (some dx))) a) dx (.xd fs) = upd H dx (.xd fs) := by
  funext b
  by_cases h1 : b = dx
  · rw [h1, upd_same, upd_same]
  · rw [upd_ne h1, upd_ne h1]
    by_cases h2 : b = a
    · rw [h2, del_same, ha]
    · rw [del_ne h2, upd_ne h2, upd_ne h1, upd_ne h2]
/-- a new frozen object, of no value -/
theorem Ok.froze {c : VC} {Z H : Hp} {σ : St} {ρ : Ev} {F : List Addr} {p : Addr} {o : HO} (ok : Ok c Z H σ ρ F) (n : H p = none) : Ok c (upd Z p o) (upd H p o) σ ρ F ∧ After Z H F (upd Z p o) (upd H p o) F := by
  have sz := same_upd (o := o) (ok.same.free n)
  have sh := same_upd (o := o) n
  have pF : ∀ q ∈ F, q ≠ p := fun q hq z => by
    obtain ⟨u, hu⟩ := ok.own.there q hq
    rw [z, n] at hu; cases hu
  refine ⟨⟨upd_mono ok.same, ok.own.frame sz fun q _ u hu => sh q u hu, ok.nd, fun q hq => by rw [upd_ne (pF q hq)]; exact ok.sep q hq⟩, sz, fun q u hu _ => sh q u hu, fun q hq => .inl hq, fun q hq => ?_⟩
  by_cases h : q = p
  · rw [h]; exact .inr (.inr n)
  · rw [upd_ne h] at hq; exact .inl hq
theorem vs_raise {k j : Nat} {x : Str} {p q pos : Pos} {f : Ev → Res (List PH)} (g : ErrAt X.prog X.w X.K X.mg X.base xa x k) (B : Bd X E j) (hk : k + 1 ≤ j) (hg : Gl X x) (h : VPs X xa E pu [e] f)
    (hdb : (x == ("__debug__" : Str)) = false := by decide) (he : starEach [e] X.env = (false, eval e X.env) :: starEach [] X.env := by rfl) :
    VS X xa E kp (.Raise (some (.Call (.Name x p) [e] [] q)) none pos) (fRaise x f) := by
  obtain ⟨C, fI, fd, ps, hx, hm, T, iC, tI, nW, G, hb⟩ := g
  refine (ps_raise B.hc B.tk (pmk_oex T iC tI G (B.hr.mono hk) hb .nil passF hg hm h hdb he)).imp fun D σ H ⟨Z, ρ, F, ok, q⟩ => ?_
  refine ⟨Z, ρ, F, ok, rPs_of q fun hs ρ1 vs H1 Z1 F1 o1 w1 a1 q => ?_⟩
  split at q
  · rename_i y ey
    have r := gets_rds o1 w1 ey
    cases r with
    | cons w r =>
      cases r
      cases w with
      | sh w =>
        cases w
        by_cases hy : y.length ≤ 1000
        case neg => rw [if_neg hy] at q; exact q.elim
        rw [if_pos hy] at q
        refine ⟨by simp, fun a ha => ⟨a, C, y, by simp, hy, T, nW, upd_same, fun dx hd hda => ⟨rfl, dx, [("word", .str y)], upd_same, ?_, ?_, ?_⟩⟩⟩
        · rw [upd_ne hda, upd_same]
        · rw [upd_ne hda] at hd; exact hd
        · rw [upd_ne hda] at hd
          rw [upd_del ha]
          obtain ⟨o2, a2⟩ := o1.froze (o := .xd [("word", .str y)]) hd
          exact q _ _ σ _ _ F1 o2 ⟨C, hx, rfl, dx, rfl, upd_same⟩ (a1.trans a2) (Kept.refl _ _)
  · exact q.elim
end
end VL

end

section
set_option Elab.async false
set_option linter.all false
set_option maxRecDepth 100000
set_option maxHeartbeats 1000000
namespace VL
open PySem PySem.Spec PyProof.Rows L2
/-! ### the __init__ that keeps a word: W.__init__(self, "..." + word); self.word = word -/
section
variable {X : Cx} {o e : Expr} {es : List Expr} {ta : TA} {p1 p2 pos : Pos}
/-- W.__init__(self, ..), W an own class over ValueError -/
theorem pe_weinit {pl : Sem Bool} {x : Str} {W : Addr} {mc : Value} (hg : Gl X x) (hm : X.mg x = some (.ref W)) (hr : PySem.W.readsIn X.K W mc = true) (sp : PySem.W.specialIn X.K (.ref W) "__getattribute__" = some (some (.builtin "type.__getattribute__")))
    (vV : PySem.W.findCls X.K (.ref W) mc "__init__" = some (.val (.builtin "ValueError.__init__"))) (ha : PA X (e :: es) ta) (hdb : (x == ("__debug__" : Str)) = false := by decide)
    (hc : eval (.Call (.Attribute (.Name x p1) "__init__" p2) (e :: es) [] pos) X.env = (do
      let ov ← eval (.Name x p1) X.env
      standAt p2.atName
      let (f, first) ← holding [ov] (getMethod ov "__init__" pl)
      callWith pos f first (backTo pos (starEach (e :: es) X.env)) (backToKw pos (keywordEach [] X.env))) := by rfl)
    (he : starEach (e :: es) X.env = (false, eval e X.env) :: starEach es X.env := by rfl) (hpl : (backTo pos (starEach es X.env)).any (·.1) = false := by rfl) :
    PE X (.Call (.Attribute (.Name x p1) "__init__" p2) (e :: es) [] pos) (tVeI X.K ta) := by
  refine ⟨fun pins s σ H Q I h => ?_⟩
  refine PySem.W.methodCall_KW (ld_glob I hg hm ?_ hdb) hc
  refine PySem.W.method_cls I.kIn sp (PySem.W.cls_value I.kIn hr vV (by decide +kernel) ?_)
  show wpAny _ _ (callWith pos (Value.builtin "ValueError.__init__") [] (backTo pos (starEach (e :: es) X.env)) []) _ _ _
  refine PyProof.Rows.callWith_method1 (thn (ha.run pos pins _ σ H _ (I.tok _) h) fun us s1 ⟨vs, H1, I1, r1, a, C, ws, ev, hl, T, ea, q⟩ => ?_) he hpl
  subst ev
  cases r1 with
  | @cons _ u0 _ ur ra rw' =>
    obtain rfl : u0 = Value.ref a := ra
    have hlen : ur.length ≤ sizeLine := by
      rw [← Paired.length rw', sizeLine_eq]
      omega
    exact oinit_ok T I1 ea hlen fun s' J => ⟨.non, H1, J, rfl, q⟩
end
/-- what the top has of the class that is asked by W.__init__ -/
structure BaseAt (K : PySem.W.Frag) (mg : Str → Option Value) (x : Str) : Prop where
  ex : ∃ W, mg x = some (.ref W) ∧ PySem.W.readsIn K W (.type "type") = true ∧ PySem.W.specialIn K (.ref W) "__getattribute__" = some (some (.builtin "type.__getattribute__")) ∧ PySem.W.findCls K (.ref W) (.type "type") "__init__" = some (.val (.builtin "ValueError.__init__"))
section
variable {P : Program} {w : World} {K : PySem.W.Frag} {mg : Str → Option Value} {base : Heap}
def rCatS : R2 := fun x y H Q => ∃ i j, x = .str i ∧ y = .str j ∧ i.length + j.length ≤ sizeLine ∧ Q (.str (i ++ j)) H
theorem op_catS {X : Cx} : OpR X (binaryOp .Add) rCatS := op_add_str
def tInit (K : PySem.W.Frag) (m : Str) : TS := tSeq (tDrop (tVeI K (tCons (tVar 0) (tCons (tOp rCatS (tC (.str m)) (tVar 1)) tNil)))) (tOst K "word" (tVar 0) (tVar 1))
theorem init_ok {m qual : Str} {st : Stmt} {f : Addr} {fd : FuncData} (Fu : Fun K "__init__" qual st f fd) (S : FnScope ["self", "word"] ["self", "word"] (defScope st)) (hm : m.length ≤ 1000)
    (hb : ∀ (cdv : Value) (A : Around) (outer : List Env) (s : Shared) (H : Hp) (E : XK), PSs (cxOf (L2.CX P w) P w K mg base ["self", "word"] qual (defScope st) f cdv A outer s H E) (defBody st) (tInit K m)) :
    FnOk P w K mg base (L2.CX P w) 1 f fd ["self", "word"] (spWord K) := by
  refine Fu.okX S (fun vs H Q E h => ?_) fun cdv A outer s H vs Q E hr h => ⟨_, hb cdv A outer s H E, ?_⟩
  · obtain ⟨a, C, y, rfl, _⟩ := h
    rfl
  · obtain ⟨a, C, y, rfl, hy, T, nW, ha, q⟩ := h
    exact ⟨_, rfl, _, rfl, m, y, rfl, rfl, by rw [sizeLine_eq]; omega, a, C, _, rfl, by simp, T, ha, _, rfl, _, rfl, a, C, rfl, T, nW, .inl ⟨ha, fun dx h1 h2 => q dx h1 h2⟩⟩
end
end VL

end

section
set_option Elab.async false
set_option linter.all false
set_option maxRecDepth 100000
set_option maxHeartbeats 1000000
namespace VL
open PySem PySem.Spec PyProof.Rows L2
/-! ### try: .. except C: suite -/
def nox : Out → Out
  | .exc _ _ => .bad
  | o => o
def fTry (ct : Str → Option Bool) (fb fs : Ev → Out) : Ev → Out := fun ρ => match fb ρ with
  | .exc x ρ' => (match ct x.cls with
    | some true => nox (fs ρ')
    | some false => .exc x ρ'
    | none => .bad)
  | o => o
def tryX (b : Option Bool) (fs : Ev → Out) (x : Exn) (ρ' : Ev) : Out := match b with
  | some true => nox (fs ρ')
  | some false => .exc x ρ'
  | none => .bad
def tryO (ct : Str → Option Bool) (fs : Ev → Out) (o : Out) : Out := match o with
  | .exc x ρ' => tryX (ct x.cls) fs x ρ'
  | o => o
theorem fTry_ap (ct : Str → Option Bool) (fb fs : Ev → Out) (ρ : Ev) : fTry ct fb fs ρ = tryO ct fs (fb ρ) := by
  unfold fTry tryO
  cases fb ρ <;> rfl
@[simp] theorem fTry_ap' (ct : Str → Option Bool) (fb fs : Ev → Out) (ρ : Ev) : fTry ct fb fs ρ = tryO ct fs (fb ρ) := fTry_ap ct fb fs ρ
@[simp] theorem tryO_nx (ct : Str → Option Bool) (fs : Ev → Out) (ρ : Ev) : tryO ct fs (.nx ρ) = .nx ρ := rfl
@[simp] theorem tryO_rt (ct : Str → Option Bool) (fs : Ev → Out) (t : OT) (ρ : Ev) : tryO ct fs (.rt t ρ) = .rt t ρ := rfl
@[simp] theorem tryO_exc (ct : Str → Option Bool) (fs : Ev → Out) (x : Exn) (ρ : Ev) : tryO ct fs (.exc x ρ) = tryX (ct x.cls) fs x ρ := rfl
@[simp] theorem tryX_t (fs : Ev → Out) (x : Exn) (ρ : Ev) : tryX (some true) fs x ρ = nox (fs ρ) := rfl
@[simp] theorem tryX_f (fs : Ev → Out) (x : Exn) (ρ : Ev) : tryX (some false) fs x ρ = .exc x ρ := rfl
@[simp] theorem nox_nx (ρ : Ev) : nox (.nx ρ) = .nx ρ := rfl
@[simp] theorem nox_rt (t : OT) (ρ : Ev) : nox (.rt t ρ) = .rt t ρ := rfl
/-- what a clause's class catches, of the classes that xa knows -/
structure CatchAt (K : PySem.W.Frag) (mg : Str → Option Value) (xa : Str → Option Addr) (x : Str) (ct : Str → Option Bool) : Prop where
  ex : ∃ C0, mg x = some (.ref C0) ∧ ∀ y b C, ct y = some b → xa y = some C → PySem.W.exmOne K (.ref C) (.ref C0) = some b
abbrev EX : XS := fun _ _ _ _ => False
theorem rS_nox {c : VC} {E : XS} {kp : List Nat} {Z H : Hp} {σ : St} {F : List Addr} {o : Out} {D : Ends} (q : rS c E kp Z H σ F (nox o) D) : rS c EX kp Z H σ F o D := by
  cases o with
  | exc x ρ => exact q.elim
  | _ => exact q
section
variable {X : Cx} {xa : Str → Option Addr} {E : XS} {kp : List Nat} {k : Nat} {x n : Str} {body suite : List Stmt} {b₀ : Stmt} {np pos pos' : Pos} {ct : Str → Option Bool} {fb fs : Ev → Out}
theorem bd_tr {W : WX} {pn : List (Addr × Obj)} {xe : Value → Shared → Prop} (B : Bd X E k) (tk : Takes (X.tr pn xe) W) (hp : PassesOwn (model X.prog X.w) X.A X.env xe) : Bd (X.tr pn xe) (WE W) k := ⟨B.hr, fun σ => passAt tk σ, hp, B.hc, tk⟩
theorem vs_tryOnly (hs : X.stack = X.env :: X.outer) (hf : X.env.frame = some X.env.locals) (B : Bd X E k) (hg : Gl X x) (ca : CatchAt X.K X.mg xa x ct)
    (hb : ∀ (pn : List (Addr × Obj)) (xe : Value → Shared → Prop) (E' : XS), Bd (X.tr pn xe) E' k → VSs (X.tr pn xe) xa E' kp body fb) (hsu : ∀ (a : Addr) (pn : List (Addr × Obj)), VSs (X.suite a pn) xa EX kp (b₀ :: suite) fs)
    (hdb : (x == ("__debug__" : Str)) = false := by decide) : VS X xa E kp (.Try body [.ExceptHandler (some (.Name x np)) none (b₀ :: suite) pos'] [] [] pos) (fTry ct fb fs) := by
  obtain ⟨C0, hm, hct⟩ := ca
  refine (ps_try_only (c := .ref C0) (Wout := fun cls d σ H => E σ cls d H) (tb := fun W => tS (cc X xa) (WE W) kp fb) (ts := fun a cls d => tS (cc X xa) EX kp fs) hs hf ⟨hg, hdb, .inl hm⟩ B.tk
    (fun W pn xe tk hp => hb pn xe _ (bd_tr B tk hp)) fun a oe cls d pn _ _ => hsu a _).imp fun D σ H ⟨Z, ρ, F, ok, q⟩ => ⟨Z, ρ, F, ok, ?_⟩
  unfold fTry at q
  cases r : fb ρ with
  | exc y ρ' =>
    rw [r] at q
    intro cls d σ' H' Z' F' o xr a kk
    obtain ⟨C, hC, rfl, hw⟩ := id xr
    dsimp only at q
    cases e : ct y.cls with
    | none => rw [e] at q; exact q.elim
    | some b =>
      rw [e] at q
      refine ⟨b, hct _ _ _ e hC, fun z a' _ => ?_, fun z => ?_⟩
      · subst z
        exact ⟨Z', ρ', F', o, rS_nox (rS.later q a kk)⟩
      · subst z
        exact q _ _ σ' H' Z' F' o xr a kk
  | bad => rw [r] at q; exact q
  | nx ρ' => rw [r] at q; exact q
  | rt t ρ' => rw [r] at q; exact q
  | bk ρ' => rw [r] at q; exact q
  | ct ρ' => rw [r] at q; exact q
end
/-! ### put together -/
inductive CP (K : PySem.W.Frag) (C0 : Addr) : List (Str × Addr) → List (Str × Bool) → Prop
  | nil : CP K C0 [] []
  | cons {y : Str} {C : Addr} {b : Bool} {xl : List (Str × Addr)} {cl : List (Str × Bool)} : PySem.W.exmOne K (.ref C) (.ref C0) = some b → CP K C0 xl cl → CP K C0 ((y, C) :: xl) ((y, b) :: cl)
theorem CP.at {K : PySem.W.Frag} {C0 : Addr} : ∀ {xl : List (Str × Addr)} {cl : List (Str × Bool)} {y : Str} {b : Bool} {C : Addr}, CP K C0 xl cl → cl.lookup y = some b → xl.lookup y = some C → PySem.W.exmOne K (.ref C) (.ref C0) = some b
  | _, _, _, _, _, .nil, e, _ => by cases e
  | _, _, y, b, C, .cons (y := z) h t, e1, e2 => by
    rw [List.lookup_cons] at e1 e2
    cases hz : y == z with
    | true =>
      rw [hz] at e1 e2
      cases e1
      cases e2
      exact h
    | false =>
      rw [hz] at e1 e2
      exact CP.at t e1 e2
theorem catch_mk {K : PySem.W.Frag} {mg : Str → Option Value} {x : Str} {C0 : Addr} {xl : List (Str × Addr)} {cl : List (Str × Bool)} (hm : mg x = some (.ref C0)) (p : CP K C0 xl cl) : CatchAt K mg (fun y => List.lookup y xl) x (fun y => List.lookup y cl) :=
  ⟨C0, hm, fun y b C h1 h2 => p.at h1 h2⟩
theorem err_mk {P : Program} {w : World} {K : PySem.W.Frag} {mg : Str → Option Value} {base : Heap} {xa : Str → Option Addr} {x : Str} {k : Nat} {C fI : Addr} {fd : FuncData} {ps : List Str} (h1 : xa x = some C) (h2 : mg x = some (.ref C)) (h3 : OexC K C)
    (h4 : PySem.W.findIn K (.ref C) "__init__" = some (some (.ref fI))) (h5 : PySem.W.typeIn K (.ref fI) = some (.type "function")) (h6 : PySem.W.findIn K (.ref C) "word" = some none) (h7 : FnOk P w K mg base (L2.CX P w) k fI fd ps (spWord K)) (h8 : Binds K fd ps []) :
    ErrAt P w K mg base xa x k := ⟨C, fI, fd, ps, h1, h2, h3, h4, h5, h6, h7, h8⟩
end VL

end

section
set_option Elab.async false
set_option linter.all false
set_option maxRecDepth 100000
set_option maxHeartbeats 1000000
namespace VL
open PySem PySem.Spec PyProof.Rows L2
/-! ### a name that is frozen where it stands -/
def fzAt (i : Nat) (o : Option OT) (ρ : Ev) : Res OT := match o with
  | some (.sh d) => .ok (.sh d) ρ
  | some (.lst l) => .ok (.sh (.list (OT.ds l))) (ρ.set i (.sh (.list (OT.ds l))))
  | some (.dct l) => .ok (.sh (.dict l)) (ρ.set i (.sh (.dict l)))
  | _ => .bad
def fFz (i : Nat) : Ev → Res OT := fun ρ => fzAt i ρ[i]? ρ
@[simp] theorem fFz_ap (i : Nat) (ρ : Ev) : fFz i ρ = fzAt i ρ[i]? ρ := rfl
@[simp] theorem fzAt_sh (i : Nat) (d : D) (ρ : Ev) : fzAt i (some (.sh d)) ρ = .ok (.sh d) ρ := rfl
@[simp] theorem fzAt_lst (i : Nat) (l : List OT) (ρ : Ev) : fzAt i (some (.lst l)) ρ = .ok (.sh (.list (OT.ds l))) (ρ.set i (.sh (.list (OT.ds l)))) := rfl
@[simp] theorem fzAt_dct (i : Nat) (l : List (D × D)) (ρ : Ev) : fzAt i (some (.dct l)) ρ = .ok (.sh (.dict l)) (ρ.set i (.sh (.dict l))) := rfl
section
variable {X : Cx} {xa : Str → Option Addr} {E : XS}
theorem ve_fz {i : Nat} {x : Str} {pos : Pos} (h : PE X (.Name x pos) (tVar i)) : VE X xa E false (.Name x pos) (fFz i) := h.imp fun σ H Q q => by
  obtain ⟨Z, ρ, F, ok, q⟩ := q
  unfold fFz fzAt at q
  have go : ∀ t, ρ[i]? = some t → t ≠ .mv → rV (cc X xa) E false Z H σ ρ F (.ok (.sh t.d) (ρ.set i (.sh t.d))) Q → tVar i σ H Q := fun t h1 h2 q => by
    obtain ⟨v, Ft, G, hv, w, o, nd, sp, p⟩ := ok.moved h1 h2
    obtain ⟨o2, r2, a2⟩ := o.frozen w nd sp
    have il : i < ρ.length := (List.getElem?_eq_some_iff.mp h1).1
    obtain ⟨F', k3, p3⟩ := o2.own.putBack (i := i) (t := .sh t.d) (Ft := []) (by rw [List.getElem?_set_self il]) hv (.sh r2)
    rw [List.set_set] at k3
    rw [List.nil_append] at p3
    refine ⟨v, hv, q v H _ F' [] ⟨o2.same, k3, (p3.nodup_iff).mpr o2.nd, fun b hb => o2.sep b (p3.mem_iff.mp hb)⟩ (.sh r2) ((p3.nodup_iff).mpr o2.nd) (fun _ z => nomatch z) ?_ fun z => nomatch z⟩
    exact (a2 (After.perm p)).to fun b hb => p3.mem_iff.mp hb
  split at q
  · rename_i d hd
    obtain ⟨v, Ft, G, hv, w, o, nd, sp, p⟩ := ok.moved hd (fun z => nomatch z)
    cases w with
    | sh r => exact ⟨v, hv, q v H Z F [] ok (.sh r) ok.nd (fun _ z => nomatch z) (After.refl _ _ _) fun z => nomatch z⟩
  · rename_i l hd
    exact go _ hd (fun z => nomatch z) q
  · rename_i l hd
    exact go _ hd (fun z => nomatch z) q
  · exact q.elim
end
theorem any_ints (w : Int) : ∀ ws : List Int, ((ws.map PyData.int).any fun z => PyData.eqv z (.int w)) = decide (w ∈ ws)
  | [] => by simp
  | x :: ws => by
    rw [List.map_cons, List.any_cons, any_ints w ws]
    by_cases h : x = w
    · simp [PyData.eqv, h]
    · have h' : ¬ w = x := fun z => h z.symm
      simp [PyData.eqv, h, h']
theorem shaped_ints (ws : List Int) : SeqAt.shaped (.list (ws.map .int)) = true := (flat_list (n := 1) fun d hd => by
    obtain ⟨x, hx, rfl⟩ := List.mem_map.mp hd
    exact flat_int _ _).shaped (by decide)
theorem shaped_intsT (ws : List Int) : SeqAt.shaped (.tuple (ws.map .int)) = true := (flat_tup (n := 1) fun d hd => by
    obtain ⟨x, hx, rfl⟩ := List.mem_map.mp hd
    exact flat_int _ _).shaped (by decide)
theorem shaped_int (w : Int) : SeqAt.shaped (.int w) = true := (flat_int w 1).shaped (by decide)
theorem gIn_ints (b : Bool) (w : Int) (ws : List Int) : gInB b (.sh (.int w)) (.sh (.list (ws.map .int))) = some (.sh (.bool (b != decide (w ∈ ws)))) := by
  have f3 : (SeqAt.shaped (.int w) && SeqAt.shaped (.list (ws.map .int))) = true := by rw [shaped_int, shaped_ints]; rfl
  refine (if_pos f3).trans ?_
  simp only [d_sh]
  rw [any_ints]
theorem gIn_intsT (b : Bool) (w : Int) (ws : List Int) : gInB b (.sh (.int w)) (.sh (.tuple (ws.map .int))) = some (.sh (.bool (b != decide (w ∈ ws)))) := by
  have f3 : (flatD (.int w) && (ws.map PyData.int).all flatD) = true := by
    rw [Bool.and_eq_true]
    exact ⟨rfl, List.all_eq_true.mpr fun x hx => by obtain ⟨i, _, rfl⟩ := List.mem_map.mp hx; rfl⟩
  refine (if_pos f3).trans ?_
  simp only [d_sh]
  rw [any_ints]
end VL

end

section
set_option Elab.async false
set_option linter.all false
set_option maxRecDepth 100000
set_option maxHeartbeats 1000000
namespace VL
open PySem PySem.Spec PyProof.Rows L2
/-! ### try: .. except C as n: y = n -- the error is kept as a value -/
theorem exv_ok {P : Program} {w : World} {H : Hp} {h : Heap} {a : Addr} {C : Value} {d : Option Addr} {oe : Obj} {vs : Array Value} (e : h.get? a = some oe) (z : Zc C d oe) (hd : oe.data = .fields vs) : ObjOk P w H h a (exv a C d) :=
  ⟨⟨oe, vs, e, z, hd⟩, ⟨oe, e⟩, fun _ _ y k => by
    obtain ⟨o2, v2, e2, r⟩ := y
    exact ⟨o2, v2, k _ e2, r⟩⟩
section
variable {X : Cx} {pins : List (Addr × Obj)} {σ : St} {H : Hp} {s : Shared}
/-- an object of the heap that is new since the entry is tracked from here on -/
theorem inv_track (I : Inv X pins σ H s) {a : Addr} {C : Value} {d : Option Addr} {oe : Obj} {vs : Array Value} (e : s.heap.get? a = some oe) (z : Zc C d oe) (hd : oe.data = .fields vs) (n : H a = none) (n0 : X.s_0.heap.get? a = none) (np : ∀ p ∈ X.pn ++ pins, p.1 ≠ a) (nL : a ≠ X.env.locals) :
    Inv X pins σ (upd H a (exv a C d)) s := by
  have ne : ∀ {b : Addr} {u : HO}, H b = some u → b ≠ a := fun {b u} h q => by rw [q, n] at h; cases h
  have n0' : ∀ {b : Addr} {o : Obj}, X.s_0.heap.get? b = some o → b ≠ a := fun {b o} h q => by rw [q, n0] at h; cases h
  have B := I.base
  refine { I with
    base := ⟨B.keep, B.slot, fun b o h1 h2 h3 => by rw [upd_ne (n0' h1)]; exact B.free b o h1 h2 h3, B.there, fun b xs h => ?_, fun b o u h => ?_, fun b ps h => ?_⟩
    free := by rw [upd_ne (Ne.symm nL)]; exact I.free
    freeC := fun x c h => ?_
    pin := fun p hp => by
      obtain ⟨h1, h2, h3, h4, h5⟩ := I.pin p hp
      exact ⟨h1, by rw [upd_ne (np p hp)]; exact h2, h3, h4, h5⟩
    hok := fun b u h => ?_ }
  · have q := B.tups b xs h
    rw [upd_ne (ne q)]; exact q
  · have q := B.frzs b o u h
    rw [upd_ne (ne q)]; exact q
  · obtain ⟨m, q⟩ := B.tbls b ps h
    exact ⟨m, by rw [upd_ne (ne q)]; exact q⟩
  · have hc : c ≠ a := fun q => by
      obtain ⟨v, o, ho, hcell⟩ := I.cell x c h
      rw [q, e] at ho
      cases ho
      rw [hd] at hcell
      cases hcell
    rw [upd_ne hc]; exact I.freeC x c h
  · by_cases hb : b = a
    · subst hb
      rw [upd_same] at h
      cases h
      exact exv_ok e z hd
    · rw [upd_ne hb] at h
      exact (I.hok b u h).stay (fun _ _ _ q => q) (fun c q => by rw [upd_ne (ne q)]; exact q) fun c xs q => by rw [upd_ne (ne q)]; exact q
/-- what is known of an error that came -/
structure Come (X : Cx) (pins : List (Addr × Obj)) (a : Addr) : Prop where
  n0 : X.s_0.heap.get? a = none
  np : ∀ p ∈ X.pn ++ pins, p.1 ≠ a
theorem Come.of {sI : Shared} {B : Heap} {a : Addr} (J : Inv X pins σ H sI) (nb : ∀ b o, sI.heap.get? b = some o → b ∉ frs X.stack → B.get? b = some o) (nB : B.get? a = none) (nf : a ∉ frs X.stack) (hex : X.ex = []) : Come X pins a := by
  have nI : sI.heap.get? a = none := by
    cases e : sI.heap.get? a with
    | none => rfl
    | some o => rw [nb a o e nf] at nB; cases nB
  refine ⟨?_, fun p hp q => ?_⟩
  · cases e : X.s_0.heap.get? a with
    | none => rfl
    | some o =>
      obtain ⟨o', e'⟩ := J.base.there a o e (by rw [hex]; exact fun z => nomatch z)
      rw [nI] at e'; cases e'
  · have h1 := (J.pin p hp).1
    rw [q, nI] at h1; cases h1
end
/-- what the clause wishes of an error of the body: i the clause's name, j the name that keeps -/
def wKeep (K : PySem.W.Frag) (c : Value) (i j : Nat) (Wout : WX) (D : Ends) : WX := fun cls d σ H => ∃ b, PySem.W.exmOne K cls c = some b ∧
  (b = true → ∀ a, H a = none → D.nx (((σ.set i (some (.ref a))).set j (some (.ref a))).set i none) (upd H a (exv a cls d))) ∧ (b = false → Wout cls d σ H)
section
variable {X : Cx} {x n y : Str} {c : Value} {i j : Nat} {body : List Stmt} {np pos pos' : Pos} {p1 p2 p3 : Pos} {tb : WX → TS} {Wout : WX}
theorem suite_keep (hN : X.N.Nodup) (hj : X.N[j]? = some y) (hly : Loc X.env.scope y) (hpv : ∀ (a : Addr) (pn : List (Addr × Obj)), PE (X.suite a pn) (.Name n p2) (tVar i)) (hf : X.fn y = true ∨ X.env.scope.names.lookup y = some .local) (a : Addr) (pn : List (Addr × Obj))
    (hs : swapsWith (.Name n p2) (some (.Name y p1)) p3.line X.env = pure false) : PSs (X.suite a pn) [.Assign [.Name y p1] (.Name n p2) p3] (fun D σ H => ∃ v, σ[i]? = some (some v) ∧ D.nx (σ.set j (some v)) H) :=
  (pss_one (ps_set (X := X.suite a pn) (i := j) hN hj hly (hpv a pn) hs hf)).imp fun D σ H ⟨v, h1, h2⟩ => ⟨v, h1, h2⟩
theorem ps_try_keep (hs : X.stack = X.env :: X.outer) (hf : X.env.frame = some X.env.locals) (hex : X.ex = []) (hN : X.N.Nodup) (hi : X.N[i]? = some n) (hln : X.env.kindOf n = some .local) (hij : i ≠ j) (hc : Names X x c) (tk : Takes X Wout)
    (hb : ∀ (W : WX) (pn : List (Addr × Obj)) (xe : Value → Shared → Prop), Takes (X.tr pn xe) W → PassesOwn (model X.prog X.w) X.A X.env xe → PSs (X.tr pn xe) body (tb W))
    (hsu : ∀ (a : Addr) (pn : List (Addr × Obj)), PSs (X.suite a pn) [.Assign [.Name y p1] (.Name n p2) p3] (fun D σ H => ∃ v, σ[i]? = some (some v) ∧ D.nx (σ.set j (some v)) H)) :
    PS X (.Try body [.ExceptHandler (some (.Name x np)) (some n) [.Assign [.Name y p1] (.Name n p2) p3] pos'] [] [] pos) (fun D σ H => tb (wKeep X.K c i j Wout D) D σ H) := by
  refine ⟨fun pins s σ H D I h => ?_⟩
  have OK := I.ok
  have FR : X.A.frames = some (X.env :: X.outer) := OK.frames.trans (by rw [hs])
  refine wpAny_Try_except ?_
  have run := (hb (wKeep X.K c i j Wout D) (X.pn ++ pins) (fun u t1 => wpAny (model X.prog X.w) X.A (noteFrame u X.env)
    (fun _ t2 => wpAny (model X.prog X.w) X.A (setFlight u none) (fun _ t3 => wpAny (model X.prog X.w) X.A (handleBy u X.env [.ExceptHandler (some (.Name x np)) (some n) [.Assign [.Name y p1] (.Name n p2) p3] pos'])
      (SP X pins D) X.xe t3) X.xe t2) X.xe t1) (fun u s' xx => ?A) PassesOwn.looking).run [] s σ H D (I.toTry _) h
  refine wpAny_mono run (fun f s1 hsp => ?B) (fun _ _ q => q)
  case B =>
    cases f with
    | ret u => obtain ⟨v, a1, a2, J', r, q⟩ := hsp; exact ⟨v, a1, a2, J'.ofTry OK, r, q⟩
    | next => obtain ⟨a1, a2, J', q⟩ := hsp; exact wpAny_execs_nil ⟨a1, a2, J'.ofTry OK, q⟩
    | brk => obtain ⟨a1, a2, J', q⟩ := hsp; exact ⟨a1, a2, J'.ofTry OK, q⟩
    | cont => obtain ⟨a1, a2, J', q⟩ := hsp; exact ⟨a1, a2, J'.ofTry OK, q⟩
  case A =>
    obtain ⟨a, B, sI, pn', σ', H', cls, d, rfl, J', nb, up, sky, na, os, ag, b, hb1, yes, no⟩ := xx
    have J : Inv X pins σ' H' sI := J'.ofTry OK
    have sky2 : Sky B (X.env :: X.outer) a (Zc cls d) X.env.locals s'.heap := hs ▸ sky
    show wpAny (model X.prog X.w) X.A (noteFrame (.ref a) X.env) _ _ _
    refine Sky.land Zc.steady FR hf sky2 fun h3 f3 u3 => ?_
    have K3 : Inv X pins σ' H' { s' with heap := h3 } := J.landed nb f3.1 (up.trans u3) os ag
    obtain ⟨o3, v3, e3, z3, d3⟩ := f3.there
    have notIn : a ∉ frs (X.env :: X.outer) := fun hm => by
      obtain ⟨_, o', e', hnf⟩ := f3.2.2.1.mem hm
      rw [e3] at e'; cases e'
      exact hnf _ d3
    have nLoc : a ≠ X.env.locals := fun z => notIn (List.mem_filterMap.mpr ⟨X.env, List.mem_cons_self .., by rw [hf, z]⟩)
    have nFs : a ∉ X.fs := fun hm => by
      obtain ⟨en, he, q⟩ := List.mem_filterMap.mp hm
      exact notIn (List.mem_filterMap.mpr ⟨en, List.mem_cons_of_mem _ he, q⟩)
    have CM : Come X pins a := Come.of J nb f3.2.1 (by rw [hs]; exact notIn) hex
    have S3 := K3.suite e3 d3 na nLoc nFs
    refine wpAny_handleBy_cons (codeAny_handlers_test ?_) (by intro q; cases q)
    have LT : PySem.W.Looks (model X.prog X.w) h3 (typeOf (.ref a)) cls := fun A Q E s k q => wpAny_typeOf_ref (k _ _ e3) (z3.1 ▸ q)
    have LM := PySem.W.exm_one (M := model X.prog X.w) K3.kIn LT hb1
    have ask : ∀ {Q E : Value → Shared → Prop}, Q c { s' with heap := h3 } → wpAny (model X.prog X.w) (X.A.mark (some (.ref a))) (eval (.Name x np) X.env) Q E { s' with heap := h3 } := fun {Q E} q => by
      obtain ⟨hg, hdb, hm | ⟨hm, hv, hnn⟩⟩ := hc
      · exact ld_glob (X := X.suite a ((a, o3) :: (X.pn ++ pins))) S3 hg hm q hdb
      · exact ld_blt (X := X.suite a ((a, o3) :: (X.pn ++ pins))) S3 hg hm hv q hnn hdb
    refine ask (LM.here ?_)
    cases b with
    | false =>
      show wpAny _ X.A (handleBy (.ref a) X.env []) _ _ _
      refine wpAny_handleBy_nil ?_
      obtain ⟨_, _, _, oe, vs, T, oT, ts', he, _, hd, h1, _⟩ := id f3
      unfold PySem.passOn
      refine wpAny_bind (wpAny_field he hd h1 ?_)
      rw [if_neg (show ¬ ((Value.ref T == Value.none) = true) by simp)]
      have rest : wpAny (model X.prog X.w) X.A (setFlight (.ref a) X.env.frame) (fun _ t => wpAny (model X.prog X.w) X.A (throw (.ref a) : Sem Flow) (SP X pins D) X.xe t) X.xe { s' with heap := h3 } := by
        rw [hf]
        exact HandSPX.setFlight_upZ f3 fun h4 g4 u4 => wpAny_throw (tk _ _ ⟨a, B, sI, pins, σ', H', cls, d, rfl, J, nb, (up.trans u3).trans u4, .inr (.inr (by rw [hs]; exact g4)), na, os, ag, no rfl⟩)
      first
        | exact wpAny_bind (wpAny_pure (wpAny_bind rest))
        | exact wpAny_bind rest
    | true =>
      refine codeAny_handlers_suite_as (HandSPX.lands_againZ f3 fun h4 f4 u4 => ?_)
      have K4 : Inv X pins σ' H' { s' with heap := h4 } := J.landed nb f4.1 ((up.trans u3).trans u4) os ag
      obtain ⟨o4, v4, e4, z4, d4⟩ := f4.there
      have S4 := K4.suite e4 d4 na nLoc nFs
      refine store_ok (X := X.suite a ((a, o4) :: (X.pn ++ pins))) (v := .ref a) S4 hN hi (.inl hln) rfl (fun s5 S5 => ?_) (.inr hln)
      have il : i < σ'.length := by
        rw [J.len]
        exact (List.getElem?_eq_some_iff.mp hi).1
      refine wpAny_mono ((hsu a ((a, o4) :: (X.pn ++ pins))).run [] s5 _ H' { nx := fun σ6 H6 => σ6 = (σ'.set i (some (.ref a))).set j (some (.ref a)) ∧ H6 = H', rt := fun _ _ => False, bk := fun _ _ => False, ct := fun _ _ => False } S5 ⟨.ref a, by rw [List.getElem?_set_self il], rfl, rfl⟩) (fun f s6 hsp => ?_) (fun _ _ z => False.elim z)
      cases f with
      | next =>
        obtain ⟨σ6, H6, S6, rfl, rfl⟩ := hsp
        have g6 : s6.heap.get? a = some o4 := (S6.pin (a, o4) (List.mem_append_left _ (List.mem_cons_self ..))).1
        have U6 := inv_track (S6.unsuite OK) g6 z4 d4 na CM.n0 CM.np nLoc
        exact gone_ok U6 hN hi hln fun s7 J7 => ⟨_, _, J7, yes rfl a na⟩
      | brk => obtain ⟨_, _, _, q⟩ := hsp; exact q.elim
      | cont => obtain ⟨_, _, _, q⟩ := hsp; exact q.elim
      | ret u => obtain ⟨_, _, _, _, _, q⟩ := hsp; exact q.elim
end
/-! as data -/
def keepE (i j : Nat) (x : Exn) (ρ : Ev) : Ev := ((ρ.set i (.sh (.dict (exL x)))).set j (.sh (.dict (exL x)))).set i .mv
def keepX (b : Option Bool) (i j : Nat) (x : Exn) (ρ : Ev) : Out := match b with
  | some true => .nx (keepE i j x ρ)
  | some false => .exc x ρ
  | none => .bad
def keepO (ct : Str → Option Bool) (i j : Nat) (o : Out) : Out := match o with
  | .exc x ρ => keepX (ct x.cls) i j x ρ
  | o => o
def fTryKeep (ct : Str → Option Bool) (i j : Nat) (fb : Ev → Out) : Ev → Out := fun ρ => keepO ct i j (fb ρ)
@[simp] theorem fTryKeep_ap (ct : Str → Option Bool) (i j : Nat) (fb : Ev → Out) (ρ : Ev) : fTryKeep ct i j fb ρ = keepO ct i j (fb ρ) := rfl
@[simp] theorem keepO_nx (ct : Str → Option Bool) (i j : Nat) (ρ : Ev) : keepO ct i j (.nx ρ) = .nx ρ := rfl
@[simp] theorem keepO_exc (ct : Str → Option Bool) (i j : Nat) (x : Exn) (ρ : Ev) : keepO ct i j (.exc x ρ) = keepX (ct x.cls) i j x ρ := rfl
@[simp] theorem keepX_t (i j : Nat) (x : Exn) (ρ : Ev) : keepX (some true) i j x ρ = .nx (keepE i j x ρ) := rfl
@[simp] theorem keepX_f (i j : Nat) (x : Exn) (ρ : Ev) : keepX (some false) i j x ρ = .exc x ρ := rfl
@[simp] theorem keepE_ap (i j : Nat) (x : Exn) (ρ : Ev) : keepE i j x ρ = ((ρ.set i (.sh (.dict (exL x)))).set j (.sh (.dict (exL x)))).set i .mv := rfl
/-- a slot that is forgotten -/
theorem Ok.clear {c : VC} {Z H : Hp} {σ : St} {ρ : Ev} {F : List Addr} (o : Ok c Z H σ ρ F) (i : Nat) : ∃ G, Ok c Z H (σ.set i none) (ρ.set i .mv) G ∧ ∀ p ∈ G, p ∈ F := by
  obtain ⟨Fd, G, k, p⟩ := o.own.drop i
  have n := (List.nodup_append.mp ((p.nodup_iff).mp o.nd)).2.1
  have sub : ∀ q ∈ G, q ∈ F := fun q hq => p.mem_iff.mpr (List.mem_append_right _ hq)
  refine ⟨G, ⟨o.same, ?_, n, fun q hq => o.sep q (sub q hq)⟩, sub⟩
  by_cases il : i < ρ.length
  · exact k.anyAt none (by rw [List.getElem?_set_self il])
  · rw [List.set_eq_of_length_le (show σ.length ≤ i by rw [o.own.length]; omega)]
    exact k
section
variable {X : Cx} {xa : Str → Option Addr} {E : XS} {kp : List Nat} {k : Nat} {x n y : Str} {body : List Stmt} {np pos pos' p1 p2 p3 : Pos} {ct : Str → Option Bool} {fb : Ev → Out} {i j : Nat}
theorem vs_tryKeep (hs : X.stack = X.env :: X.outer) (hf : X.env.frame = some X.env.locals) (hex : X.ex = []) (B : Bd X E k) (hg : Gl X x) (ca : CatchAt X.K X.mg xa x ct) (hN : X.N.Nodup) (hi : X.N[i]? = some n) (hj : X.N[j]? = some y) (hln : X.env.kindOf n = some .local)
    (hly : Loc X.env.scope y) (hij : i ≠ j) (hki : i ∉ kp) (hkj : j ∉ kp) (hpv : ∀ (a : Addr) (pn : List (Addr × Obj)), PE (X.suite a pn) (.Name n p2) (tVar i))
    (hb : ∀ (pn : List (Addr × Obj)) (xe : Value → Shared → Prop) (E' : XS), Bd (X.tr pn xe) E' k → VSs (X.tr pn xe) xa E' kp body fb) (hdb : (x == ("__debug__" : Str)) = false := by decide) (hD : ct "Desk" = none := by decide +kernel)
    (hfn : X.fn y = true ∨ X.env.scope.names.lookup y = some .local := by first | exact .inl rfl | exact .inr rfl | assumption) (hsw : swapsWith (.Name n p2) (some (.Name y p1)) p3.line X.env = pure false := by rfl) :
    VS X xa E kp (.Try body [.ExceptHandler (some (.Name x np)) (some n) [.Assign [.Name y p1] (.Name n p2) p3] pos'] [] [] pos) (fTryKeep ct i j fb) := by
  obtain ⟨C0, hm, hct⟩ := ca
  refine (ps_try_keep (c := .ref C0) (i := i) (j := j) (Wout := fun cls d σ H => E σ cls d H) (tb := fun W => tS (cc X xa) (WE W) kp fb) hs hf hex hN hi hln hij ⟨hg, hdb, .inl hm⟩ B.tk
    (fun W pn xe tk hp => hb pn xe _ (bd_tr B tk hp)) fun a pn => suite_keep hN hj hly hpv hfn a pn hsw).imp fun D σ H ⟨Z, ρ, F, ok, q⟩ => ⟨Z, ρ, F, ok, ?_⟩
  unfold fTryKeep keepO at q
  cases r : fb ρ with
  | exc e ρ' =>
    rw [r] at q
    intro cls d σ' H' Z' F' o xr a kk
    obtain ⟨C, hC, rfl, hw⟩ := id xr
    unfold keepX at q
    dsimp only at q
    cases ec : ct e.cls with
    | none => rw [ec] at q; exact q.elim
    | some b =>
      rw [ec] at q
      refine ⟨b, hct _ _ _ ec hC, fun z a' na => ?_, fun z => ?_⟩
      · subst z
        obtain ⟨o2, a2⟩ := o.froze (o := exv a' (.ref C) d) na
        have sz := same_upd (o := exv a' (.ref C) d) (o.same.free na)
        have v : Own (cc X xa) (upd Z' a' (exv a' (.ref C) d)) (upd H' a' (exv a' (.ref C) d)) (.ref a') (.sh (.dict (exL e))) [] :=
          .sh (.ex (.inl ⟨C, d, (fun z => by rw [z, hD] at ec; cases ec), hC, upd_same, hw.mono sz⟩))
        obtain ⟨F3, o3, s3⟩ := o2.assign i v o2.nd (fun _ z => nomatch z)
        obtain ⟨F4, o4, s4⟩ := o3.assign j v o3.nd (fun _ z => nomatch z)
        obtain ⟨G, o5, s5⟩ := o4.clear i
        have sub : ∀ p ∈ G, p ∈ F' := fun p hp => by simpa using s3 p (by simpa using s4 p (s5 p hp))
        exact q _ _ _ G o5 ((a.trans a2).to sub) (((kk.trans (kept_set hki)).trans (kept_set hkj)).trans (kept_set hki))
      · subst z
        exact q _ _ σ' H' Z' F' o xr a kk
  | bad => rw [r] at q; exact q
  | nx ρ' => rw [r] at q; exact q
  | rt t ρ' => rw [r] at q; exact q
  | bk ρ' => rw [r] at q; exact q
  | ct ρ' => rw [r] at q; exact q
end
end VL

end

section
set_option Elab.async false
set_option linter.all false
set_option maxRecDepth 100000
set_option maxHeartbeats 1000000
namespace VL
open PySem PySem.Spec PyProof.Rows L2
/-! ### isinstance of an error that is kept, its word -/
/-- what the class C says, so that its errors may be asked -/
structure InstF (K : PySem.W.Frag) (C : Addr) : Prop where
  hcl : PySem.W.isClsIn K C = true
  hga : PySem.W.findIn K (.ref C) "__getattribute__" = some (some (.builtin "BaseException.__getattribute__"))
  hgt : PySem.W.findIn K (.ref C) "__getattr__" = some none
  hsub : PySem.W.subIn K (.ref C) (.type "BaseException") = some true
  ha : PySem.W.findIn K (.ref C) "__class__" = some (some (.builtin "object.__class__"))
  hn : PySem.W.specialIn K (.builtin "object.__class__") "__get__" = some (some (.builtin "getset_descriptor.__get__"))
  htk : PySem.W.takesIn K (.builtin "object.__class__") = some true
  hm : PySem.W.mroIn K C (.type "object") = some true
theorem exL_word {x y : Exn} (h : exL x = exL y) : x = y := by
  obtain ⟨c1, w1⟩ := x
  obtain ⟨c2, w2⟩ := y
  simp only [exL, List.cons.injEq, Prod.mk.injEq, PyData.str.injEq, true_and, and_true] at h
  obtain ⟨rfl, h2⟩ := h
  cases w1 <;> cases w2 <;> simp [wD] at h2
  · rfl
  · subst h2; rfl
theorem ExAt.cls {c : VC} {Z : Hp} {a : Addr} {x : Exn} (h : ExAt c Z a x) : ∃ C, c.xa x.cls = some C := by
  rcases h with ⟨C, _, _, h, _⟩ | ⟨_, _, C, _, _, h, _⟩ <;> exact ⟨C, h⟩
theorem ex_of_rp {c : VC} {Z : Hp} {v : V} {x : Exn} (r : Rp c Z v (.dict (exL x))) : ∃ a, v = .ref a ∧ ExAt c Z a x := by
  generalize hl : PyData.dict (exL x) = d at r
  cases r <;> first | (cases hl; done) | skip
  · cases hl
    rename_i h
    exact absurd h (by simp [exL])
  · rename_i a y h
    have e := exL_word (PyData.dict.inj hl)
    subst e
    exact ⟨a, rfl, h⟩
theorem exv_at {P : Program} {w : World} {H : Hp} {h : Heap} {a : Addr} {C : Value} {d : Option Addr} (hok : HOk P w H h) (e : H a = some (exv a C d)) : ∃ (oe : Obj) (vs : Array Value), h.get? a = some oe ∧ Zc C d oe ∧ oe.data = .fields vs := by
  have x : ObjOk P w H h a (.ext fun h => ∃ (oe : Obj) (vs : Array Value), h.get? a = some oe ∧ Zc C d oe ∧ oe.data = .fields vs) := hok a _ e
  exact x.1
section
variable {X : Cx} {xa : Str → Option Addr} {pins : List (Addr × Obj)} {σ : St} {H Z : Hp} {s : Shared}
/-- the object, as the library asks of it -/
theorem inst_at (I : Inv X pins σ H s) (sm : Same Z H) {a : Addr} {x : Exn} (h : ExAt (cc X xa) Z a x) : ∃ (C : Addr) (oe : Obj) (od : Option Obj), xa x.cls = some C ∧ PySem.W.InstAt s.heap a oe C od ∧ (∀ y, x.word = some y → ∃ (o : Obj) (u : Value), od = some o ∧ PySem.W.lookIn "word" o = some (some u) ∧ RelV (.str y) u) := by
  rcases h with ⟨C, d, _, h1, h2, h3⟩ | ⟨_, h0, C, dx, fs, h1, h2, _⟩
  case inr =>
    have ok : ObjOk X.prog X.w H s.heap a (.ins C dx fs) := I.hok a _ (sm _ _ h2)
    obtain ⟨_, _, _, g1, mA, hns, _⟩ := ok
    obtain ⟨od, ho, _⟩ := lookIn_ns hns
    exact ⟨C, _, some od, h1, ⟨g1, rfl, rfl, ho⟩, fun y hy => by rw [h0] at hy; cases hy⟩
  obtain ⟨oe, vs, g1, g2, g3⟩ := exv_at I.hok (sm _ _ h2)
  have nc : PySem.W.notCls oe = true := by unfold PySem.W.notCls; rw [g3] <;> rfl
  cases hw : x.word with
  | none =>
    rw [hw] at h3
    cases (show d = none from h3)
    exact ⟨C, oe, none, h1, ⟨g1, g2.1, nc, by rw [g2.2]; trivial⟩, fun y hy => nomatch hy⟩
  | some y =>
    rw [hw] at h3
    obtain ⟨b, rfl, h4⟩ := h3
    have hx : ObjOk X.prog X.w H s.heap b (.xd [("word", .str y)]) := I.hok b _ (sm _ _ h4)
    obtain ⟨mA, hns, hr⟩ := hx
    obtain ⟨od, ho, hl⟩ := lookIn_ns hns
    obtain ⟨u, hu, ru⟩ := RelO.some_of (v := .str y) (o := mA "word") (by have := hr "word"; simpa [List.lookup] using this)
    refine ⟨C, oe, some od, h1, ⟨g1, g2.1, nc, by rw [g2.2]; exact ho⟩, fun z hz => ?_⟩
    cases hz
    exact ⟨od, u, rfl, by rw [hl, hu], ru⟩
/-- what is asked of a value, and the answer -/
inductive IsV (K : PySem.W.Frag) (xa : Str → Option Addr) (cv : Value) : D → Bool → Prop
  | non {b : Bool} : PySem.W.kitOne K (.type "NoneType") cv = some b → IsV K xa cv .none b
  | ex {x : Exn} {C : Addr} {b : Bool} : xa x.cls = some C → InstF K C → PySem.W.kitOne K (.ref C) cv = some b → IsV K xa cv (.dict (exL x)) b
inductive IsVs (K : PySem.W.Frag) (xa : Str → Option Addr) (cvs : List Value) : D → Bool → Prop
  | non {b : Bool} : PySem.W.kitAny K (.type "NoneType") cvs = some b → IsVs K xa cvs .none b
  | ex {x : Exn} {C : Addr} {b : Bool} : xa x.cls = some C → InstF K C → PySem.W.kitAny K (.ref C) cvs = some b → IsVs K xa cvs (.dict (exL x)) b
theorem kit_inst {C a : Addr} {oe : Obj} {od : Option Obj} (F : InstF X.K C) : PySem.W.KitX X.K (.ref a) (.ref C) (fun h => PySem.W.InstAt h a oe C od) := PySem.W.kitx_exc F.hcl F.hga F.hgt F.hsub F.ha F.hn F.htk F.hm
def rIsX (c : VC) : List V → Hp → VK → Prop := fun xs H Q => ∃ (x cl : V) (cv : Value) (Z : Hp) (d : D) (b : Bool), xs = [x, cl] ∧ ClsV cl cv ∧ Same Z H ∧ Rp c Z x d ∧ IsV c.K c.xa cv d b ∧ Q (.bl b) H
theorem call_isX : CallR X (.builtin "isinstance") (rIsX (cc X xa)) := by
  intro pins s σ H xs us Q I r h
  obtain ⟨x, cl, cv, Z, d, b, rfl, hcl, sm, rx, hv, q⟩ := h
  obtain ⟨u1, u2, rfl, r1, r2⟩ := vals2 r
  have e2 := hcl.eq r2
  subst e2
  have fin : ∀ tk, EP X pins σ Q (.bool b) { s with toks := tk } := fun tk => ⟨.bl b, H, I.tok tk, rfl, q⟩
  cases hv with
  | non e =>
    cases rx
    cases (show u1 = Value.none from r1)
    exact PySem.W.kia_one PySem.W.kitx_none I.kIn trivial e (fun z => nomatch z) fin
  | @ex y C _ hC F e =>
    obtain ⟨a, rfl, h⟩ := ex_of_rp rx
    cases (show u1 = Value.ref a from r1)
    obtain ⟨C', oe, od, h1, J, _⟩ := inst_at I sm h
    rw [show xa y.cls = some C from hC] at h1
    cases h1
    exact PySem.W.kia_one (kit_inst F) I.kIn J e (fun z => nomatch z) fin
def rIsXT (c : VC) : List V → Hp → VK → Prop := fun xs H Q => ∃ (x : V) (tp : Addr) (cs : List V) (cvs : List Value) (Z : Hp) (d : D) (b : Bool), xs = [x, .ref tp] ∧ H tp = some (.tup cs) ∧ Paired ClsV cs cvs ∧ Same Z H ∧ Rp c Z x d ∧ IsVs c.K c.xa cvs d b ∧ Q (.bl b) H
theorem call_isXT : CallR X (.builtin "isinstance") (rIsXT (cc X xa)) := by
  intro pins s σ H xs us Q I r h
  obtain ⟨x, tp, cs, cvs, Z, d, b, rfl, hT, hcl, sm, rx, hv, q⟩ := h
  obtain ⟨u1, u2, rfl, r1, r2⟩ := vals2 r
  cases (show u2 = Value.ref tp from r2)
  obtain ⟨_, its, rv, o, h1, h2, n, h3⟩ := (show ObjOk X.prog X.w H s.heap tp (.tup cs) from I.hok tp _ hT)
  have e3 := ClsV.all hcl rv
  subst e3
  obtain ⟨oc, od', dt, sl⟩ := o
  simp only at h2 h3
  subst h2 h3
  have fin : ∀ tk, EP X pins σ Q (.bool b) { s with toks := tk } := fun tk => ⟨.bl b, H, I.tok tk, rfl, q⟩
  cases hv with
  | non e =>
    cases rx
    cases (show u1 = Value.none from r1)
    exact PySem.W.kia_tup PySem.W.kitx_none I.kIn trivial h1 e (fun z => nomatch z) fin
  | @ex y C _ hC F e =>
    obtain ⟨a, rfl, h⟩ := ex_of_rp rx
    cases (show u1 = Value.ref a from r1)
    obtain ⟨C', oe, od, g1, J, _⟩ := inst_at I sm h
    rw [show xa y.cls = some C from hC] at g1
    cases g1
    exact PySem.W.kia_tup (kit_inst F) I.kIn J h1 e (fun z => nomatch z) fin
end
/-- a class as isinstance is asked of it: of none False, of the known errors what it says -/
structure AskAt (K : PySem.W.Frag) (mg : Str → Option Value) (xa : Str → Option Addr) (x : Str) (it : Str → Option Bool) : Prop where
  ex : ∃ (vv : V) (cv : Value), ClsV vv cv ∧ (mg x = some cv ∨ (mg x = none ∧ bootBuiltins x = some cv ∧ x ≠ "__name__")) ∧ PySem.W.kitOne K (.type "NoneType") cv = some false ∧
    ∀ y b C, it y = some b → xa y = some C → InstF K C ∧ PySem.W.kitOne K (.ref C) cv = some b
def isEx (it : Str → Option Bool) : D → Option Bool
  | .none => some false
  | .dict [(.none, .str y), (.none, .str _)] => it y
  | .dict [(.none, .str y), (.none, .none)] => it y
  | _ => none
theorem isEx_of {K : PySem.W.Frag} {mg : Str → Option Value} {c : VC} {Z : Hp} {v : V} {d : D} {it : Str → Option Bool} {b : Bool} (r : Rp c Z v d) (h : isEx it d = some b) : (d = .none ∧ b = false) ∨ ∃ x : Exn, d = .dict (exL x) ∧ it x.cls = some b := by
  unfold isEx at h
  split at h
  · cases h; exact .inl ⟨rfl, rfl⟩
  · rename_i y z; exact .inr ⟨⟨y, some z⟩, rfl, h⟩
  · rename_i y; exact .inr ⟨⟨y, none⟩, rfl, h⟩
  · cases h
def isxAt (it : Str → Option Bool) (o : Option OT) (ρ : Ev) : Res OT := match o with
  | some t => Res.of ((isEx it t.d).map fun b => .sh (.bool b)) ρ
  | none => .bad
def fIsX (it : Str → Option Bool) (f : Ev → Res PH) : Ev → Res OT := fun ρ => (f ρ).bind fun h ρ1 => isxAt it (h.get ρ1) ρ1
@[simp] theorem fIsX_ap (it : Str → Option Bool) (f : Ev → Res PH) (ρ : Ev) : fIsX it f ρ = (f ρ).bind fun h ρ1 => isxAt it (h.get ρ1) ρ1 := rfl
@[simp] theorem isxAt_non (it : Str → Option Bool) (ρ : Ev) : isxAt it (some (.sh .none)) ρ = .ok (.sh (.bool false)) ρ := rfl
@[simp] theorem isxAt_ex (it : Str → Option Bool) (x : Exn) (ρ : Ev) : isxAt it (some (.sh (.dict (exL x)))) ρ = Res.of ((it x.cls).map fun b => .sh (.bool b)) ρ := by
  obtain ⟨c, w⟩ := x
  cases w <;> rfl
def orIt (i1 i2 : Str → Option Bool) : Str → Option Bool := fun y => (i1 y).bind fun a => (i2 y).map fun b => a || b
section
variable {X : Cx} {xa : Str → Option Addr} {E : XS} {pu : Bool} {e : Expr} {p q pos : Pos} {f : Ev → Res PH} {it it2 : Str → Option Bool} {x x2 : Str}
theorem isx_run {σ : St} {H : Hp} {Q : VK} {r : V → Hp → Prop} (qq : tV (cc X xa) E pu (fIsX it f) σ H Q) (go : ∀ Z H1 v t G b, Same Z H1 → Own (cc X xa) Z H1 v t G → isEx it t.d = some b → NewR (cc X xa) Z H1 (.sh (.bool b)) Q → r v H1) : tP (cc X xa) E pu f σ H fun v H1 => r v H1 := by
  obtain ⟨Z, ρ, F, ok, qq⟩ := qq
  refine ⟨Z, ρ, F, ok, ?_⟩
  unfold fIsX at qq
  cases r1 : f ρ with
  | bad => rw [r1] at qq; exact qq
  | exc x ρ' => rw [r1] at qq; exact qq
  | ok h1 ρ1 =>
    rw [r1] at qq
    intro v1 H1 Z1 F1 o1 w1 a1 k1
    have q1 := rV.later (pu' := true) qq a1 fun z => ⟨rfl, k1 z⟩
    rw [Res.bind_ok] at q1
    unfold isxAt at q1
    cases e1 : h1.get ρ1 with
    | none => rw [e1] at q1; exact q1.elim
    | some t1 =>
      rw [e1] at q1
      dsimp only at q1
      obtain ⟨G1, x1⟩ := w1.read o1 e1
      cases e3 : isEx it t1.d with
      | none => rw [e3] at q1; exact q1.elim
      | some b =>
        rw [e3] at q1
        exact go Z1 H1 v1 t1 G1 b o1.same x1 e3 (o1.newR q1)
theorem ve_isX (h : VP X xa E pu e f) (hg : Gl X "isinstance") (hm : X.mg "isinstance" = none) (hg2 : Gl X x) (ca : AskAt X.K X.mg xa x it) (hd2 : (x == ("__debug__" : Str)) = false := by decide)
    (hs : starEach [e, .Name x q] X.env = (false, eval e X.env) :: starEach [.Name x q] X.env := by rfl) (hs2 : starEach [.Name x q] X.env = (false, eval (.Name x q) X.env) :: starEach [] X.env := by rfl) (hpl : (backTo pos (starEach [.Name x q] X.env)).any (·.1) = false := by rfl) :
    VE X xa E pu (.Call (.Name "isinstance" p) [e, .Name x q] [] pos) (fIsX it f) := by
  obtain ⟨vv, cv, k1, k2, k3, k4⟩ := ca
  have hr : RelV vv cv := by cases k1 <;> rfl
  have hn : PE X (.Name x q) (tC vv) := by
    rcases k2 with k2 | ⟨k2, k5, k6⟩
    · exact pe_glob hg2 k2 hr hd2
    · exact pe_bltn hg2 k2 k5 hr k6 hd2
  refine (pe_callB (call_isX (xa := xa)) hg hm (by decide +kernel) (pa_cons h (pa_cons hn pa_nil hs2) hs) (by decide) (by decide) hs hpl).imp fun σ H Q qq => ?_
  refine isx_run (r := fun v H1 => rIsX (cc X xa) [v, vv] H1 Q) qq fun Z H1 v t G b sm w e3 q2 => ?_
  have r := w.flat sm
  generalize t.d = d at r e3
  refine ⟨v, vv, cv, H1, d, b, rfl, k1, Same.refl _, r, ?_, q2.bool sm⟩
  rcases isEx_of (K := X.K) (mg := X.mg) r e3 with ⟨h1, h2⟩ | ⟨y, h1, h2⟩
  · rw [h1, h2]; exact .non k3
  · rw [h1]
    cases r with
    | dct _ _ _ _ _ nd => cases h1; exact absurd nd (by simp [exL])
    | ex hx =>
      have e4 := exL_word (PyData.dict.inj h1)
      subst e4
      obtain ⟨C, hC⟩ := hx.cls
      exact .ex hC (k4 _ _ _ h2 hC).1 (k4 _ _ _ h2 hC).2
    | _ => cases h1
/-- isinstance(e, (C1, C2)) -/
theorem ve_isX2 {q2 : Pos} {kk : Nat} {tpos : Pos} (h : VP X xa E pu e f) (hg : Gl X "isinstance") (hm : X.mg "isinstance" = none) (hg2 : Gl X x) (ca : AskAt X.K X.mg xa x it) (hg3 : Gl X x2) (ca2 : AskAt X.K X.mg xa x2 it2) (hd2 : (x == ("__debug__" : Str)) = false := by decide) (hd3 : (x2 == ("__debug__" : Str)) = false := by decide)
    (hs : starEach [e, .Tuple [.Name x q, .Name x2 q2] kk tpos] X.env = (false, eval e X.env) :: starEach [.Tuple [.Name x q, .Name x2 q2] kk tpos] X.env := by rfl) (hs2 : starEach [.Tuple [.Name x q, .Name x2 q2] kk tpos] X.env = (false, eval (.Tuple [.Name x q, .Name x2 q2] kk tpos) X.env) :: starEach [] X.env := by rfl)
    (hs3 : starEach [.Name x q, .Name x2 q2] X.env = (false, eval (.Name x q) X.env) :: starEach [.Name x2 q2] X.env := by rfl) (hs4 : starEach [.Name x2 q2] X.env = (false, eval (.Name x2 q2) X.env) :: starEach [] X.env := by rfl)
    (hpl : (backTo pos (starEach [.Tuple [.Name x q, .Name x2 q2] kk tpos] X.env)).any (·.1) = false := by rfl) :
    VE X xa E pu (.Call (.Name "isinstance" p) [e, .Tuple [.Name x q, .Name x2 q2] kk tpos] [] pos) (fIsX (orIt it it2) f) := by
  obtain ⟨vv, cv, k1, k2, k3, k4⟩ := ca
  obtain ⟨vw, cw, l1, l2, l3, l4⟩ := ca2
  have hr : RelV vv cv := by cases k1 <;> rfl
  have hr2 : RelV vw cw := by cases l1 <;> rfl
  have hn : PE X (.Name x q) (tC vv) := by
    rcases k2 with k2 | ⟨k2, k5, k6⟩
    · exact pe_glob hg2 k2 hr hd2
    · exact pe_bltn hg2 k2 k5 hr k6 hd2
  have hn2 : PE X (.Name x2 q2) (tC vw) := by
    rcases l2 with l2 | ⟨l2, l5, l6⟩
    · exact pe_glob hg3 l2 hr2 hd3
    · exact pe_bltn hg3 l2 l5 hr2 l6 hd3
  refine (pe_callB (call_isXT (xa := xa)) hg hm (by decide +kernel) (pa_cons h (pa_cons (pe_tup (pa_cons hn (pa_cons hn2 pa_nil hs4) hs3)) pa_nil hs2) hs) (by decide) (by decide) hs hpl).imp fun σ H Q qq => ?_
  refine isx_run (r := fun v H1 => ([vv, vw] : List V).length ≤ sizeLine ∧ ∀ tp, H1 tp = none → rIsXT (cc X xa) [v, .ref tp] (upd H1 tp (.tup [vv, vw])) Q) qq fun Z H1 v t G b sm w e3 q2 => ?_
  have r := w.flat sm
  generalize t.d = d at r e3
  refine ⟨by show 2 ≤ sizeLine; rw [sizeLine_eq]; omega, fun tp hp => ⟨v, tp, [vv, vw], [cv, cw], H1, d, b, rfl, upd_same, .cons k1 (.cons l1 .nil), same_upd hp, r, ?_, ?_⟩⟩
  · rcases isEx_of (K := X.K) (mg := X.mg) r e3 with ⟨h1, h2⟩ | ⟨y, h1, h2⟩
    · rw [h1, h2]; exact .non (kitAny_cons k3 (fun _ => kitAny_cons l3 (fun _ => rfl) fun z => nomatch z) fun z => nomatch z)
    · rw [h1]
      cases r with
      | dct _ _ _ _ _ nd => cases h1; exact absurd nd (by simp [exL])
      | @ex a' z hx =>
        have e4 := exL_word (PyData.dict.inj h1)
        subst e4
        obtain ⟨C, hC⟩ := hx.cls
        unfold orIt at h2
        cases ea : it z.cls with
        | none => rw [ea] at h2; cases h2
        | some a1 =>
          cases eb : it2 z.cls with
          | none => rw [ea, eb] at h2; cases h2
          | some a2 =>
            rw [ea, eb] at h2
            cases h2
            refine .ex hC (k4 _ _ _ ea hC).1 (kitAny_cons (k4 _ _ _ ea hC).2 (fun z => ?_) fun z => ?_)
            · subst z
              exact kitAny_cons (l4 _ _ _ eb hC).2 (fun z => by subst z; rfl) fun z => by subst z; rfl
            · subst z; rfl
      | _ => cases h1
  · exact q2 (.bl b) (upd H1 tp _) Z [] (same_upd hp) (Same.refl _) (sm.trans (same_upd hp)) (fun _ z => .inl z) (.sh (.bl b)) List.nodup_nil fun _ z => nomatch z
/-! ### its word -/
structure WordAt (K : PySem.W.Frag) (xa : Str → Option Addr) (wt : Str → Bool) : Prop where
  ex : ∀ y C, wt y = true → xa y = some C → XfC K C ∧ PySem.W.findIn K (.ref C) "word" = some none
def wordE (wt : Str → Bool) : D → Option D
  | .dict [(.none, .str y), (.none, .str z)] => if wt y = true then some (.str z) else none
  | _ => none
def wdAt (wt : Str → Bool) (o : Option OT) (ρ : Ev) : Res OT := match o with
  | some t => Res.of ((wordE wt t.d).map .sh) ρ
  | none => .bad
def fWord (wt : Str → Bool) (f : Ev → Res PH) : Ev → Res OT := fun ρ => (f ρ).bind fun h ρ1 => wdAt wt (h.get ρ1) ρ1
@[simp] theorem fWord_ap (wt : Str → Bool) (f : Ev → Res PH) (ρ : Ev) : fWord wt f ρ = (f ρ).bind fun h ρ1 => wdAt wt (h.get ρ1) ρ1 := rfl
@[simp] theorem wdAt_ex (wt : Str → Bool) (y z : Str) (ρ : Ev) : wdAt wt (some (.sh (.dict (exL ⟨y, some z⟩)))) ρ = Res.of ((if wt y = true then some (.str z) else none : Option D).map .sh) ρ := rfl
theorem ve_word {wt : Str → Bool} (T : WordAt X.K xa wt) (h : VP X xa E pu e f) (hb : attributeBase e "word" X.env (eval e X.env) = eval e X.env := by rfl) : VE X xa E pu (.Attribute e "word" pos) (fWord wt f) := by
  refine ⟨fun pins s σ H Q I qq => ?_⟩
  obtain ⟨Z, ρ, F, ok, qq⟩ := qq
  have go : tP (cc X xa) E pu f σ H fun v H1 => ∃ (Z1 : Hp) (x : Exn) (z : Str), Same Z1 H1 ∧ Rp (cc X xa) Z1 v (.dict (exL x)) ∧ x.word = some z ∧ wt x.cls = true ∧ Q (.str z) H1 := by
    refine ⟨Z, ρ, F, ok, ?_⟩
    unfold fWord at qq
    cases r1 : f ρ with
    | bad => rw [r1] at qq; exact qq
    | exc x ρ' => rw [r1] at qq; exact qq
    | ok h1 ρ1 =>
      rw [r1] at qq
      intro v1 H1 Z1 F1 o1 w1 a1 k1
      have q1 := rV.later (pu' := true) qq a1 fun z => ⟨rfl, k1 z⟩
      rw [Res.bind_ok] at q1
      unfold wdAt at q1
      cases e1 : h1.get ρ1 with
      | none => rw [e1] at q1; exact q1.elim
      | some t1 =>
        rw [e1] at q1
        dsimp only at q1
        obtain ⟨G1, x1⟩ := w1.read o1 e1
        have r := x1.flat o1.same
        cases e3 : wordE wt t1.d with
        | none => rw [e3] at q1; exact q1.elim
        | some d =>
          rw [e3] at q1
          unfold wordE at e3
          split at e3
          · rename_i y z ed
            split at e3
            · rename_i hw
              cases e3
              rw [ed] at r
              exact ⟨H1, ⟨y, some z⟩, z, Same.refl _, r, rfl, hw, (o1.newR q1) (.str z) H1 Z1 [] (Same.refl _) (Same.refl _) o1.same (fun _ z => .inl z) (.sh (.str z)) List.nodup_nil fun _ z => nomatch z⟩
            · cases e3
          · cases e3
  refine attr_of hb (thn (h.run pins s σ H _ I go) fun u s1 ⟨v, H1, I1, rv, Z1, x, z, sm, r, hz, hw, q⟩ => ?_)
  obtain ⟨a, rfl, ha⟩ := ex_of_rp r
  cases (show u = Value.ref a from rv)
  obtain ⟨C, oe, od, hC, J, hword⟩ := inst_at I1 sm ha
  obtain ⟨o, u2, rfl, hl, ru⟩ := hword z hz
  obtain ⟨TF, hno⟩ := T.ex _ _ hw hC
  exact HandSPX.exc_get I1.kIn J TF.ga TF.gg TF.exC (PySem.W.findObj_own TF.hdC hno rfl hl) (handed_of ru) ⟨.str z, H1, I1.tok _, ru, q⟩
end
inductive AP (K : PySem.W.Frag) (cv : Value) : List (Str × Addr) → List (Str × Bool) → Prop
  | nil : AP K cv [] []
  | cons {y : Str} {C : Addr} {b : Bool} {xl : List (Str × Addr)} {cl : List (Str × Bool)} : InstF K C → PySem.W.kitOne K (.ref C) cv = some b → AP K cv xl cl → AP K cv ((y, C) :: xl) ((y, b) :: cl)
theorem AP.at {K : PySem.W.Frag} {cv : Value} : ∀ {xl : List (Str × Addr)} {cl : List (Str × Bool)} {y : Str} {b : Bool} {C : Addr}, AP K cv xl cl → cl.lookup y = some b → xl.lookup y = some C → InstF K C ∧ PySem.W.kitOne K (.ref C) cv = some b
  | _, _, _, _, _, .nil, e, _ => by cases e
  | _, _, y, b, C, .cons (y := z) f h t, e1, e2 => by
    rw [List.lookup_cons] at e1 e2
    cases hz : y == z with
    | true =>
      rw [hz] at e1 e2
      cases e1
      cases e2
      exact ⟨f, h⟩
    | false =>
      rw [hz] at e1 e2
      exact AP.at t e1 e2
theorem ask_own {K : PySem.W.Frag} {mg : Str → Option Value} {x : Str} {C0 : Addr} {xl : List (Str × Addr)} {cl : List (Str × Bool)} (hm : mg x = some (.ref C0)) (hn : PySem.W.kitOne K (.type "NoneType") (.ref C0) = some false) (p : AP K (.ref C0) xl cl) : AskAt K mg (fun y => List.lookup y xl) x (fun y => List.lookup y cl) :=
  ⟨.ref C0, .ref C0, .own C0, .inl hm, hn, fun y b C h1 h2 => p.at h1 h2⟩
theorem ask_ty {K : PySem.W.Frag} {mg : Str → Option Value} {x : Str} {T : String} {xl : List (Str × Addr)} {cl : List (Str × Bool)} (hm : mg x = none) (hb : bootBuiltins x = some (.type T)) (hx : x ≠ "__name__") (hn : PySem.W.kitOne K (.type "NoneType") (.type T) = some false) (p : AP K (.type T) xl cl) : AskAt K mg (fun y => List.lookup y xl) x (fun y => List.lookup y cl) :=
  ⟨.ty T, .type T, .ty T, .inr ⟨hm, hb, hx⟩, hn, fun y b C h1 h2 => p.at h1 h2⟩
theorem word_mk {K : PySem.W.Frag} {x : Str} {C : Addr} {xl : List (Str × Addr)} (h : List.lookup x xl = some C) (f : XfC K C) (n : PySem.W.findIn K (.ref C) "word" = some none) : WordAt K (fun y => List.lookup y xl) (fun y => y == x) := ⟨fun y C' h1 h2 => by
  have e : y = x := by simpa using h1
  subst e
  have h2' : List.lookup y xl = some C' := h2
  rw [h] at h2'
  cases h2'
  exact ⟨f, n⟩⟩
end VL

end

section
set_option Elab.async false
set_option linter.all false
set_option maxRecDepth 100000
set_option maxHeartbeats 1000000
namespace VL
open PySem PySem.Spec PyProof.Rows L2
/-! ### an error made as a value: C(word), C(e) -/
theorem pe_of_mk {X : Cx} {e : Expr} {t : St → Hp → XK → Prop} (hex : X.ex = []) (h : PMk X e t) : PE X e (fun σ H Q => t σ H fun cls d H' => ∀ a, H' a = none → Q (.ref a) (upd H' a (exv a cls d))) := by
  refine ⟨fun pins s σ H Q I q => ?_⟩
  refine wpAny_mono (h pins s σ H _ I q) (fun u s1 hu => ?_) fun _ _ x => x
  obtain ⟨a, oe, vs, sI, H', cls, d, rfl, J, k, n, e, z, hd, h1, na, os, ag, r, qq⟩ := hu
  have J2 : Inv X pins σ H' s1 := J.call' (ch := []) os (Un.kept k) (J.hok.kept k) ag (fun b z => absurd z (by simp))
  have n0 : X.s_0.heap.get? a = none := by
    cases e0 : X.s_0.heap.get? a with
    | none => rfl
    | some o =>
      obtain ⟨o', e'⟩ := J.base.there a o e0 (by rw [hex]; exact fun z => nomatch z)
      rw [n] at e'; cases e'
  have np : ∀ p ∈ X.pn ++ pins, p.1 ≠ a := fun p hp q => by
    have h1 := (J.pin p hp).1
    rw [q, n] at h1; cases h1
  have nL : a ≠ X.env.locals := fun q => by
    obtain ⟨m, ⟨o, es, ep, ho, r⟩, hl⟩ := J.loc
    rw [← q, n] at ho; cases ho
  exact ⟨.ref a, _, inv_track J2 e z hd na n0 np nL, rfl, qq a na⟩
def gErrW (x : Str) : List OT → Option OT
  | [.sh (.str y)] => if y.length ≤ 1000 then some (.sh (.dict (exL ⟨x, some y⟩))) else none
  | _ => none
def gErr0 (x : Str) : List OT → Option OT
  | [_] => some (.sh (.dict (exL ⟨x, none⟩)))
  | _ => none
@[simp] theorem gErrW_ap (x y : Str) : gErrW x [.sh (.str y)] = if y.length ≤ 1000 then some (.sh (.dict (exL ⟨x, some y⟩))) else none := rfl
@[simp] theorem gErr0_ap (x : Str) (t : OT) : gErr0 x [t] = some (.sh (.dict (exL ⟨x, none⟩))) := rfl
def rErrW (K : PySem.W.Frag) (C : Addr) : List V → Hp → VK → Prop := fun vs H1 Q => vs.length ≤ 1000 ∧ ∀ a, H1 a = none → spWord K (.ref a :: (vs ++ [])) (upd H1 a (exo a C none))
  (fun v H2 => v = .non ∧ ∃ (d : Addr) (fs : List (Str × V)), H2 a = some (exo a C (some d)) ∧ H2 d = some (exd d fs) ∧ H1 d = none ∧ ∀ a', upd (del H2 a) d (.xd fs) a' = none → Q (.ref a') (upd (upd (del H2 a) d (.xd fs)) a' (exv a' (.ref C) (some d)))) (fun _ _ _ => False)
theorem prim_errW {c : VC} {x : Str} {C : Addr} (hxd : ¬ x = "Desk") (hx : c.xa x = some C) (T : OexC c.K C) (nW : PySem.W.findIn c.K (.ref C) "word" = some none) : Prim c (rErrW c.K C) (gErrW x) := fun Z H vs ts t Q sm r e n => by
  unfold gErrW at e
  split at e
  · rename_i y
    split at e
    · rename_i hy
      cases e
      cases r with
      | cons w r =>
        cases r
        cases w with
        | sh w =>
          cases w
          refine ⟨by simp, fun a ha => ⟨a, C, y, by simp, hy, T, nW, upd_same, fun dx hd hda => ⟨rfl, dx, [("word", .str y)], upd_same, ?_, ?_, ?_⟩⟩⟩
          · rw [upd_ne hda, upd_same]
          · rw [upd_ne hda] at hd; exact hd
          · rw [upd_ne hda] at hd
            rw [upd_del ha]
            intro a' ha'
            have nd : dx ≠ a' := fun q => by rw [← q, upd_same] at ha'; cases ha'
            have hna : H a' = none := by rw [upd_ne (Ne.symm nd)] at ha'; exact ha'
            have s1 : Same H (upd H dx (.xd [("word", V.str y)])) := same_upd hd
            have s2 : Same Z (upd Z dx (.xd [("word", V.str y)])) := same_upd (sm.free hd)
            have s3 : Same (upd Z dx (.xd [("word", V.str y)])) (upd H dx (.xd [("word", V.str y)])) := upd_mono sm
            refine n (.ref a') _ (upd (upd Z dx (.xd [("word", V.str y)])) a' (exv a' (.ref C) (some dx))) [] (s1.trans (same_upd ha')) (s2.trans (same_upd (s3.free ha'))) (upd_mono s3) (fun b hb => ?_) (.sh (.ex (.inl ⟨C, some dx, hxd, hx, upd_same, dx, rfl, ?_⟩))) List.nodup_nil fun _ z => nomatch z
            · by_cases e1 : b = a'
              · rw [e1]; exact .inr hna
              · rw [upd_ne e1] at hb
                by_cases e2 : b = dx
                · rw [e2]; exact .inr hd
                · rw [upd_ne e2] at hb; exact .inl hb
            · rw [upd_ne nd, upd_same]
    · cases e
  · cases e
def rErr0 (C : Addr) : List V → Hp → VK → Prop := fun vs H1 Q => vs.length ≤ sizeLine ∧ ∀ a, H1 a = none → Q (.ref a) (upd H1 a (exv a (.ref C) none))
theorem prim_err0 {c : VC} {x : Str} {C : Addr} (hxd : ¬ x = "Desk") (hx : c.xa x = some C) : Prim c (rErr0 C) (gErr0 x) := fun Z H vs ts t Q sm r e n => by
  unfold gErr0 at e
  split at e
  · cases e
    cases r with
    | cons w r =>
      cases r
      exact ⟨by show 1 ≤ sizeLine; rw [sizeLine_eq]; omega, fun a ha => n.shNew sm ha (.ex (.inl ⟨C, none, hxd, hx, upd_same, rfl⟩))⟩
  · cases e
structure Err0At (K : PySem.W.Frag) (mg : Str → Option Value) (xa : Str → Option Addr) (x : Str) : Prop where
  ex : ∃ C : Addr, xa x = some C ∧ mg x = some (.ref C) ∧ PySem.W.excIn K C [.type "ValueError", .type "Exception", .type "BaseException", .type "object"] "ValueError.__new__" = true ∧ PySem.W.keepIn K (.ref C) = true ∧
    PySem.W.subIn K (.ref C) (.type "BaseException") = some true ∧ PySem.W.typeIn K (.ref C) = some (.type "type")
section
variable {X : Cx} {xa : Str → Option Addr} {E : XS} {kp : List Nat} {pu : Bool} {e : Expr} {pos : Pos}
theorem ve_errW {k j : Nat} {x : Str} {p q : Pos} {f : Ev → Res (List PH)} (hex : X.ex = []) (g : ErrAt X.prog X.w X.K X.mg X.base xa x k) (B : Bd X E j) (hk : k + 1 ≤ j) (hg : Gl X x) (h : VPs X xa E pu [e] f)
    (hdb : (x == ("__debug__" : Str)) = false := by decide) (hxd : ¬ x = "Desk" := by decide +kernel) (he : starEach [e] X.env = (false, eval e X.env) :: starEach [] X.env := by rfl) :
    VE X xa E pu (.Call (.Name x p) [e] [] q) (fOps (gErrW x) f) := by
  obtain ⟨C, fI, fd, ps, hx, hm, T, iC, tI, nW, G, hb⟩ := g
  exact (pe_of_mk hex (pmk_oex T iC tI G (B.hr.mono hk) hb .nil passF hg hm h hdb he)).imp fun σ H Q q => tOps (r := rErrW X.K C) (prim_errW (c := cc X xa) hxd hx T nW) q
theorem ve_err0 {x : Str} {p q : Pos} {f : Ev → Res (List PH)} (hex : X.ex = []) (g : Err0At X.K X.mg xa x) (hg : Gl X x) (h : VPs X xa E pu [e] f)
    (hdb : (x == ("__debug__" : Str)) = false := by decide) (hxd : ¬ x = "Desk" := by decide +kernel) (he : starEach [e] X.env = (false, eval e X.env) :: starEach [] X.env := by rfl) :
    VE X xa E pu (.Call (.Name x p) [e] [] q) (fOps (gErr0 x) f) := by
  obtain ⟨C, hx, hm, q, kC, t1, t2⟩ := g
  exact (pe_of_mk hex (pmk_ownA PySem.F.excBase_ValueError q hm kC (raises_own t1 t2) hg h hdb he)).imp fun σ H Q q => tOps (r := rErr0 C) (prim_err0 (c := cc X xa) hxd hx) q
end
end VL

end

section
set_option Elab.async false
set_option linter.all false
set_option maxRecDepth 100000
set_option maxHeartbeats 4000000
namespace VL
open PySem PySem.Spec PyProof.Rows L2
/-! ### texts: str(i), t.count(u), t.join(parts) -/
def rStrI : List V → Hp → VK → Prop := fun xs H Q => ∃ i : Int, xs = [.int i] ∧ i.natAbs.log2 < 1920 ∧ Q (.str (toString i)) H
def gStrI (ts : List OT) : Option OT := match ts with
  | [.sh (.int i)] => if i.natAbs.log2 < 1920 then some (.sh (.str (toString i))) else none
  | _ => none
theorem prim_strI {c : VC} : Prim c rStrI gStrI := by
  intro Z H vs ts t Q s r e n
  unfold gStrI at e
  split at e
  · rename_i i
    split at e
    · rename_i hi
      cases e
      cases r with
      | cons w r =>
        cases r
        cases w with
        | sh w =>
          cases w
          exact ⟨i, rfl, hi, n.str s⟩
    · cases e
  · cases e
@[simp] theorem gStrI_i (i : Int) : gStrI [.sh (.int i)] = if i.natAbs.log2 < 1920 then some (.sh (.str (toString i))) else none := rfl
def rCountS : V → List V → Hp → VK → Prop := fun x xs H Q => ∃ a b : Str, x = .str a ∧ xs = [.str b] ∧ Q (.int (Txt.count a b)) H
def gCountS (ts : List OT) : Option OT := match ts with
  | [.sh (.str a), .sh (.str b)] => some (.sh (.int (Txt.count a b)))
  | _ => none
theorem prim_countS {c : VC} : PrimM c rCountS gCountS := by
  intro Z H vs ts t Q s r e n
  unfold gCountS at e
  split at e
  · rename_i a b
    cases e
    cases r with
    | cons w r =>
      cases r with
      | cons w2 r =>
        cases r
        have e1 := str_read w
        have e2 := str_read w2
        subst e1 e2
        exact ⟨_, _, rfl, a, b, rfl, rfl, n.int s⟩
  · cases e
@[simp] theorem gCountS_s (a b : Str) : gCountS [.sh (.str a), .sh (.str b)] = some (.sh (.int (Txt.count a b))) := rfl
def strsOf : List D → Option (List Str)
  | [] => some []
  | .str x :: r => (strsOf r).map (x :: ·)
  | _ :: _ => none
theorem strsOf_eq : ∀ {l : List D} {ys : List Str}, strsOf l = some ys → l = ys.map .str
  | [], ys, h => by simp [strsOf] at h; subst h; rfl
  | d :: l, ys, h => by
    unfold strsOf at h
    split at h
    · rename_i he; cases he
    · rename_i x r he
      cases he
      cases e : strsOf l with
      | none => rw [e] at h; cases h
      | some zs =>
        rw [e] at h
        cases h
        rw [strsOf_eq e]
        rfl
    · cases h
theorem strsOf_map : ∀ ys : List Str, strsOf (ys.map .str) = some ys
  | [] => rfl
  | y :: ys => by
    show (strsOf (ys.map .str)).map (y :: ·) = _
    rw [strsOf_map ys]
    rfl
theorem rp_strs {c : VC} {Z : Hp} : ∀ {ys : List Str} {xs : List V}, RpL c Z xs (ys.map .str) → xs = ys.map V.str
  | [], _, .nil => rfl
  | y :: ys, _, .cons h t => by
    cases h
    rw [rp_strs t]
    rfl
def partsOf : D → Option (List Str)
  | .list l => strsOf l
  | .tuple l => strsOf l
  | _ => none
def rJoin (K : PySem.W.Frag) : V → List V → Hp → VK → Prop := fun x xs H Q => ∃ a p, ∃ ys : List Str, x = .str a ∧ xs = [.ref p] ∧ (SqL K H p (ys.map V.str) ∨ SqT K H p (ys.map V.str)) ∧ (ys.map (·.length)).sum + ys.length * a.length ≤ 16777216 ∧ Q (.str (Txt.join a ys)) H
def gJoin (ts : List OT) : Option OT := match ts with
  | [.sh (.str a), t] => (partsOf t.d).bind fun ys => if (ys.map (·.length)).sum + ys.length * a.length ≤ 16777216 then some (.sh (.str (Txt.join a ys))) else none
  | _ => none
theorem prim_join {c : VC} : PrimM c (rJoin c.K) gJoin := by
  intro Z H vs ts t Q s r e n
  unfold gJoin at e
  split at e
  · rename_i a t1
    cases e1 : partsOf t1.d with
    | none => rw [e1] at e; cases e
    | some ys =>
      rw [e1, Option.bind_some] at e
      split at e
      · rename_i hz
        cases e
        cases r with
        | cons w r =>
          cases r with
          | cons w2 r =>
            cases r
            have e2 := str_read w
            subst e2
            have r2 := w2.flat s
            unfold partsOf at e1
            split at e1
            · rename_i l hl
              rw [hl, strsOf_eq e1] at r2
              cases r2 with
              | @lst p xs _ hq ll => exact ⟨_, _, rfl, a, p, ys, rfl, rfl, .inl (by rw [← rp_strs ll]; exact hq), hz, n.str s⟩
            · rename_i l hl
              rw [hl, strsOf_eq e1] at r2
              cases r2 with
              | @tup p xs _ hq ll _ => exact ⟨_, _, rfl, a, p, ys, rfl, rfl, .inr (by rw [← rp_strs ll]; exact hq), hz, n.str s⟩
            · cases e1
      · cases e
  · cases e
theorem gJoin_l (a : Str) (ys : List Str) (h : (ys.map (·.length)).sum + ys.length * a.length ≤ 16777216) : gJoin [.sh (.str a), .sh (.list (ys.map .str))] = some (.sh (.str (Txt.join a ys))) := by
  show ((strsOf (ys.map .str)).bind fun ys => if (ys.map (·.length)).sum + ys.length * a.length ≤ 16777216 then some (OT.sh (.str (Txt.join a ys))) else none) = _
  rw [strsOf_map, Option.bind_some, if_pos h]
end VL

end

section
set_option Elab.async false
set_option linter.all false
set_option maxRecDepth 100000
set_option maxHeartbeats 4000000
namespace VL
open PySem PySem.Spec PyProof.Rows L2
/-! ### the keys of a dict, gone through -/
section
variable {X : Cx} {xa : Str → Option Addr} {pins : List (Addr × Obj)} {σ : St} {H Z : Hp} {s : Shared}
theorem keys_rp {c : VC} {Z : Hp} : ∀ {es : List DictEntry} {l : List (D × D)}, RpE c Z es l → ∃ xs, Vals xs (es.map (·.key)) ∧ RpL c Z xs (l.map (·.1))
  | _, _, .nil => ⟨[], .nil, .nil⟩
  | _, _, .cons (vk := vk) a b _ _ _ _ r => by
    obtain ⟨xs, h1, h2⟩ := keys_rp r
    exact ⟨vk :: xs, .cons a h1, .cons b h2⟩
theorem items_keys {es : Array DictEntry} {acc : Array Value} (h : ItemsOf (fun i v => ∃ hi : i < es.size, v = es[i].key) acc es.size) : acc.toList = es.toList.map (·.key) := by
  obtain ⟨h1, h2⟩ := h
  apply List.ext_getElem?
  intro j
  rw [List.getElem?_map]
  by_cases hj : j < es.size
  · have hj2 : j < acc.size := by omega
    obtain ⟨hi, e⟩ := h2 j acc[j] (Array.getElem?_eq_getElem hj2)
    rw [Array.getElem?_toList, Array.getElem?_toList, Array.getElem?_eq_getElem hj2, Array.getElem?_eq_getElem hj]
    simp [e]
  · rw [Array.getElem?_toList, Array.getElem?_toList, Array.getElem?_eq_none (by omega), Array.getElem?_eq_none (by omega)]
    rfl
theorem colls_dict {d : Addr} {es : Array DictEntry} {ep : Nat} (h : s.heap.DictRaw d es ep) (lo : (d == sysModules) = false) (hz : es.size ≤ sizeLine) : Colls X.prog X.w s (.ref d) (es.toList.map (·.key)) :=
  ⟨by rw [List.length_map, Array.length_toList]; exact hz, fun A E R hh q => PySem.W.kdu_collect (PySem.KdlSrc.rawDict lo) hh h hz fun h' tk acc k it => by
    rw [items_keys it]
    exact q h' tk k⟩
theorem dict_colls (I : Inv X pins σ H s) (sm : Same Z H) {x : V} {u : Value} {t : OT} {F : List Addr} {l : List (D × D)} (r : RelV x u) (w : Own (cc X xa) Z H x t F) (e : dOf t = some l) (hz : l.length ≤ 1000000) :
    ∃ xs vs, Vals xs vs ∧ RpL (cc X xa) Z xs (l.map (·.1)) ∧ Colls X.prog X.w s u vs := by
  obtain ⟨a, rfl, o, es, ep, g1, g2, g3, g4, g5, g6⟩ := rd_of_own sm w e
  cases r
  obtain ⟨xs, h1, h2⟩ := keys_rp g5
  have es' : es.size = l.length := by rw [← Array.length_toList, g5.len]
  exact ⟨xs, _, h1, h2, colls_dict (raw_at I g1 g2 g3) g4 (by rw [es', sizeLine_eq]; omega)⟩
end
/-! ### sorted(d) -/
open Classical in
noncomputable def gSortedD (ts : List OT) : Option OT :=
  match ts with
  | [t] => (dOf t).bind fun l => if l.length ≤ 1000000 then gSort0 (l.map (·.1)) else none
  | _ => none
@[simp] theorem gSortedD_dct (l : List (D × D)) (h : l.length ≤ 1000000) : gSortedD [.dct l] = gSort0 (l.map (·.1)) := by unfold gSortedD; simp [dOf, h]
@[simp] theorem gSortedD_sh (l : List (D × D)) (hx : exK l = false) (h : l.length ≤ 1000000) : gSortedD [.sh (.dict l)] = gSort0 (l.map (·.1)) := by unfold gSortedD; simp [dOf, hx, h]
/-- sorted, of anything that is gone through -/
def rSortG (X : Cx) (xa : Str → Option Addr) : List V → Hp → VK → Prop := fun vs H Q => ∃ x ds t' Z, vs = [x] ∧ Same Z H ∧ gSort0 ds = some t' ∧ NewR (cc X xa) Z H t' Q ∧
  ∀ (pins : List (Addr × Obj)) (s : Shared) (σ : St) (u : Value), Inv X pins σ H s → RelV x u → ∃ xs vs, Vals xs vs ∧ RpL (cc X xa) Z xs ds ∧ Colls X.prog X.w s u vs
section
variable {X : Cx} {xa : Str → Option Addr}
theorem cr_sortG (hc : X.calm = true) (hu : X.A.in1.in1.units + 64 < cLine) : CallR X (.builtin "sorted") (rSortG X xa) := by
  intro pins s σ H vs us Q I rv h
  obtain ⟨x, ds, t', Z, rfl, sm, e2, n, hcl⟩ := h
  obtain ⟨u, rfl, ru⟩ := vals1 rv
  obtain ⟨xs, vs, rx, rp, hcol⟩ := hcl pins s σ u I ru
  obtain ⟨k1, k2, rfl⟩ := gSort0_eq e2
  refine sorted_src hcol (I.ok.hd hc) (args_sorted1 _) (fun _ => args_list_sort _) fun h' tk E' kp => ?_
  have na : s.heap.get? h'.objs.size = none := by
    cases e : s.heap.get? h'.objs.size with
    | none => rfl
    | some o => exact absurd (Heap.lt_size (kp _ o e)) (Nat.lt_irrefl _)
  have ho : (h'.push (seqObj "list" vs.toArray 0)).get? h'.objs.size = some (seqObj "list" vs.toArray 0) := Heap.get?_push_size _ rfl
  have kp2 : Keeps s.heap (PySem.W.sortingHeap (h'.push (seqObj "list" vs.toArray 0)) h'.objs.size vs) := fun b o hb => PySem.W.sortingHeap_old (fun z => by (rw [z, na] at hb; cases hb)) (Heap.get?_push_of_some _ (kp b o hb))
  have rd : PySem.W.EachIs (fun v d => ∃ as, Reads (PySem.W.sortingHeap (h'.push (seqObj "list" vs.toArray 0)) h'.objs.size vs) v d as) vs ds :=
    (reads_of I sm rx rp fun d hd => (k1.lay d hd).1).mono fun v d ⟨as, q⟩ => ⟨as, PyProof.Rows.Reads.keeps kp2 q⟩
  have S : PySem.W.SortsAt X.prog X.w X.A.in1.in1 { s with heap := PySem.W.sortingHeap (h'.push (seqObj "list" vs.toArray 0)) h'.objs.size vs, toks := tk } (PySem.W.dataKind (PySem.W.sortingHeap (h'.push (seqObj "list" vs.toArray 0)) h'.objs.size vs) ds) vs :=
    sorts_cmp (s := { s with heap := PySem.W.sortingHeap (h'.push (seqObj "list" vs.toArray 0)) h'.objs.size vs, toks := tk }) rd k1 hu
  refine PySem.W.list_sort_vals (s := { s with heap := h'.push (seqObj "list" vs.toArray 0), toks := tk }) ho S hcol.1 ⟨rfl, ?_⟩
  have zs := PySem.W.sortVals_each (κ := PySem.W.dataKind (PySem.W.sortingHeap (h'.push (seqObj "list" vs.toArray 0)) h'.objs.size vs) ds) (rev := false) (bs := ds) (R := fun u d => ∃ x, RelV x u ∧ Rp (cc X xa) Z x d) (fun d => tkA d)
    (each_of rx rp fun x u d r p => ⟨x, r, p⟩) ((PySem.W.each_mem rd).mono fun u k ⟨⟨as, q⟩, m⟩ => kd_some (fun d hd => (k1.lay d hd).1) m q)
  obtain ⟨ys, y1, y2⟩ : ∃ ys, Vals ys (PySem.W.sortVals (PySem.W.dataKind (PySem.W.sortingHeap (h'.push (seqObj "list" vs.toArray 0)) h'.objs.size vs) ds) false vs vs) ∧ RpL (cc X xa) Z ys (sortD ds) := by
    have go : ∀ {us : List Value} {ps : List D}, PySem.W.EachIs (fun u p => ∃ x, RelV x u ∧ Rp (cc X xa) Z x p) us ps → ∃ xs, Vals xs us ∧ RpL (cc X xa) Z xs ps := by
      intro us ps r
      induction r with
      | nil => exact ⟨[], .nil, .nil⟩
      | cons h _ ih =>
        obtain ⟨x, r, p⟩ := h
        obtain ⟨xs, h1, h2⟩ := ih
        exact ⟨x :: xs, .cons r h1, .cons p h2⟩
    exact go zs
  obtain ⟨ep, at3⟩ := PyProof.Rows.sortedHeap_at (vs := vs) (out := (PySem.W.sortVals (PySem.W.dataKind (PySem.W.sortingHeap (h'.push (seqObj "list" vs.toArray 0)) h'.objs.size vs) ds) false vs vs).toArray) ho
  have hz3 : ys.length ≤ sizeLine := by
    have e1 := y1.length
    rw [PySem.W.sortVals_length false rfl] at e1
    have := hcol.1
    omega
  refine ⟨.ref h'.objs.size, upd H h'.objs.size (.lst ys), I.put (fun b o hb => ?_) na ⟨hz3, _, ep, y1, at3⟩, rfl, new_list n sm (Same.refl _) (I.noTrack na) y2⟩
  have hb2 := Heap.get?_push_of_some (seqObj "list" vs.toArray 0) (kp b o hb)
  show (PyProof.Rows.sortedHeap (h'.push (seqObj "list" vs.toArray 0)) h'.objs.size vs _).get? b = some o
  rw [PyProof.Rows.sortedHeap_old (fun z => by (rw [z, na] at hb; cases hb)) (Heap.lt_size hb2)]
  exact hb2
theorem prim_sortD {c : VC} {X : Cx} {xa : Str → Option Addr} (e : c = cc X xa) : Prim c (rSortG X xa) gSortedD := by
  subst e
  intro Z H vs ts t Q s r e n
  unfold gSortedD at e
  split at e
  · rename_i t1
    cases hl : dOf t1 with
    | none => rw [hl] at e; cases e
    | some l =>
      rw [hl, Option.bind_some] at e
      split at e
      · rename_i hz
        cases r with
        | @cons v _ _ _ F0 w r =>
          cases r
          exact ⟨v, _, t, Z, rfl, s, e, n, fun pins s' σ u I ru => dict_colls I s ru w hl hz⟩
      · cases e
  · cases e
theorem ve_sortedD {E : XS} {pu : Bool} {e : Expr} {f : Ev → Res (List PH)} {p pos : Pos} {A : Around} {k : Nat} (hc : X.calm = true) (hr : Room k A) (hg : Gl X "sorted") (hm : X.mg "sorted" = none) (ha : VPs X xa E pu [e] f) (e1 : X.A = A := by rfl)
    (he : starEach [e] X.env = (false, eval e X.env) :: starEach [] X.env := by rfl) (hpl : (backTo pos (starEach [] X.env)).any (·.1) = false := by rfl) : VE X xa E pu (.Call (.Name "sorted" p) [e] [] pos) (fOps gSortedD f) := by
  subst e1
  exact ve_callB (cr_sortG (xa := xa) hc (by have := hr.un; show X.A.units + 1 + 1 + 64 < _; omega)) (prim_sortD rfl) hg hm (by decide +kernel) ha (by decide) (by decide) he hpl
/-! ### sorted(xs, key=a built-in function) -/
theorem cr_sortB {kid : String} {g : D → Option D} (hc : X.calm = true) (hu : X.A.in1.in1.units + 64 < cLine) (KR : KeyRun X (cc X xa) (.builtin kid) g) (pins : List (Addr × Obj)) (s : Shared) (σ : St) (H : Hp) (vs : List V) (us : List Value) (Q : VK) (I : Inv X pins σ H s) (rv : Vals vs us)
    (h : ∃ x Z t F ds t', vs = [x] ∧ Same Z H ∧ Own (cc X xa) Z H x t F ∧ qItems t = some ds ∧ gSortDs g ds = some t' ∧ NewR (cc X xa) Z H t' Q) : wpAny (model X.prog X.w) X.A (call (.builtin "sorted") us [(Str.ofString "key", .builtin kid)]) (EP X pins σ Q) X.xe s := by
  obtain ⟨x, Z, t, F, ds, t', rfl, sm, w, e1, e2, n⟩ := h
  obtain ⟨u, rfl, ru⟩ := vals1 rv
  obtain ⟨ks, k1, k2, k3, rfl⟩ := gSortDs_eq e2
  obtain ⟨hl, hg⟩ := mapM_at k1
  obtain ⟨xs, vs, rx, rp, hcol⟩ := src_colls I sm ru w e1
  refine sorted_src hcol (I.ok.hd hc) (ksk_s1 _ _) (fun _ => ksk_l1 _ _) fun h' tk E' kp => ?_
  show wpAny _ _ (Builtin.«list.sort» ⟨[.ref h'.objs.size], [(Str.ofString "key", .builtin kid)]⟩) _ _ _
  rw [ksk_t4]
  exact sort_tree KR rfl I rx sm rp hcol.1 hg hl k2 hu kp fun s' H' ys I' hh aN y3 => ⟨rfl, .ref h'.objs.size, _, I', rfl, new_list n sm hh aN y3⟩
theorem ve_sortB {E : XS} {pu : Bool} {e : Expr} {f : Ev → Res (List PH)} {kx : Str} {kid : String} {g : D → Option D} {j : Nat} {p fp kp pos : Pos} {A : Around}
    (hc : X.calm = true) (KR : KeyRun X (cc X xa) (.builtin kid) g) (hr : Room j A) (hg : Gl X "sorted") (hm : X.mg "sorted" = none) (hf : Gl X kx) (hmf : X.mg kx = none) (hkb : bootBuiltins kx = some (.builtin kid)) (ha : VPs X xa E pu [e] f) (e6 : X.A = A := by rfl)
    (hn : kx ≠ "__name__" := by decide) (hdf : (kx == ("__debug__" : Str)) = false := by decide)
    (he : backTo pos (starEach [e] X.env) = (false, eval e X.env) :: backTo pos (starEach [] X.env) := by rfl) (hpl : (backTo pos (starEach [e] X.env)).any (·.1) = false := by rfl)
    (hall : (backToKw pos (keywordEach [⟨some "key", .Name kx fp, kp⟩] X.env)).all (·.1.isSome) = true := by rfl) (hnone : (backToKw pos (keywordEach [⟨some "key", .Name kx fp, kp⟩] X.env)).any (·.1.isNone) = false := by rfl)
    (hks : (backToKw pos (keywordEach [⟨some "key", .Name kx fp, kp⟩] X.env)).filterMap (·.1) = [Str.ofString "key"] := by rfl) :
    VE X xa E pu (.Call (.Name "sorted" p) [e] [⟨some "key", .Name kx fp, kp⟩] pos) (fOps (gSortL g) f) := by
  subst e6
  have hu : X.A.in1.in1.units + 64 < cLine := by have := hr.un; show X.A.units + 1 + 1 + 64 < _; omega
  refine ⟨fun pins s σ H Q I h => ?_⟩
  have z : tCB (fun vs H1 Q' => ∃ x Z t F ds t', vs = [x] ∧ Same Z H1 ∧ Own (cc X xa) Z H1 x t F ∧ qItems t = some ds ∧ gSortDs g ds = some t' ∧ NewR (cc X xa) Z H1 t' Q') (tPs (cc X xa) E pu f) σ H Q := tOps (g := gSortL g) (fun Z H vs ts t Q s r e n => by
    unfold gSortL at e
    split at e
    · rename_i t1
      cases r with
      | @cons v _ _ _ F0 w r =>
        cases r
        unfold gSortBy at e
        split at e
        · rename_i ds hd
          exact ⟨v, Z, t1, F0, ds, t, rfl, s, w, hd, e, n⟩
        · cases e
    · cases e) h
  refine wpAny_Call_Name_kw (ld_blt I hg hm (by decide +kernel : bootBuiltins "sorted" = some (.builtin "sorted")) ?_ (by decide) (by decide))
  refine PyProof.Rows.callWith_kw (thn (ha.run pos pins s σ H _ I z) fun us s1 ⟨vs, H1, I1, r1, q1⟩ => ?_) he hpl hall hnone
  have key : wpAny (model X.prog X.w) X.A (evalAll ((backToKw pos (keywordEach [⟨some "key", .Name kx fp, kp⟩] X.env)).map (·.2))) (fun kvs s2 => kvs = [.builtin kid] ∧ s2 = s1) X.xe s1 := by
    show wpAny _ _ (evalAll ((do let v ← eval (.Name kx fp) X.env; standAt pos; pure v) :: (backToKw pos (keywordEach [] X.env)).map (·.2))) _ _ s1
    refine wpAny_evalAll_cons (wpAny_bind (ld_blt I1 hf hmf hkb (wpAny_bind (wpAny_standAt (wpAny_pure ?_))) hn hdf))
    exact wpAny_evalAll_nil ⟨rfl, rfl⟩
  refine wpAny_mono key (fun kvs s2 hh => ?_) fun _ _ z => z
  obtain ⟨rfl, rfl⟩ := hh
  rw [hks]
  exact cr_sortB hc hu KR pins s2 σ H1 vs us Q I1 r1 q1
end
end VL

end

section
set_option Elab.async false
set_option linter.all false
set_option maxRecDepth 100000
set_option maxHeartbeats 4000000
namespace VL
open PySem PySem.Spec PyProof.Rows L2
/-! ### t.index(b), t of bools -/
def isB (b : Bool) : D → Bool
  | .bool c => c == b
  | _ => false
def chIx (b : Bool) (l : List D) : Option Nat := l.findIdx? (isB b)
def IsTv (K : PySem.W.Frag) (x : V) (H : Hp) : Prop := ∃ a xs, x = .ref a ∧ SqT K H a xs ∧ NdT K H a
def tBMT (K : PySem.W.Frag) (r : V → List V → Hp → VK → Prop) (to : TE) (t : TA) : TE := fun σ H Q => to σ H fun x H1 => IsTv K x H1 ∧ t σ H1 fun xs H2 => r x xs H2 Q
theorem bools_of {c : VC} {Z : Hp} : ∀ {xs : List V} {ds : List D}, RpL c Z xs ds → ds.all isBl = true → ∃ bs : List Bool, xs = bs.map V.bl ∧ ds = bs.map PyData.bool
  | _, _, .nil, _ => ⟨[], rfl, rfl⟩
  | _, _, .cons r t, h => by
    rw [List.all_cons, Bool.and_eq_true] at h
    obtain ⟨bs, e1, e2⟩ := bools_of t h.2
    cases r with
    | bl b => exact ⟨b :: bs, by rw [e1]; rfl, by rw [e2]; rfl⟩
    | _ => cases h.1
section
variable {X : Cx} {xa : Str → Option Addr} {E : XS} {p1 p2 : Bool} {o e : Expr} {es : List Expr} {apos cpos : Pos}
theorem nd_at {pins : List (Addr × Obj)} {σ : St} {H : Hp} {s : Shared} {a : Addr} (I : Inv X pins σ H s) (h : NdT X.K H a) : ∃ ob, s.heap.get? a = some ob ∧ ob.dict = none := by
  rcases h with ⟨ob, u, h, g⟩ | ⟨ob, h, g⟩
  · exact ⟨ob, (show ObjOk X.prog X.w H s.heap a (.frz ob u) from I.hok a _ h).1, g⟩
  · exact ⟨ob, I.kIn a ob h, g⟩
theorem pe_bmT {name : Str} {id : String} {r : V → List V → Hp → VK → Prop} {to : TE} {t : TA} (slot : Slot "tuple" name id) (hty : typeOf (.builtin id) = pure (.type "method_descriptor")) (hm : MtR X id r) (ho : PE X o to) (ha : PA X (e :: es) t)
    (hbase : attributeBase o name X.env (eval o X.env) = eval o X.env := by rfl)
    (hfew : ((backTo cpos (starEach (e :: es) X.env)).all (fun x => !x.1) && (backToKw cpos (keywordEach [] X.env)).all (fun x => x.1.isSome)
      && decide ((e :: es).length + ([] : List Keyword).length + (if ([] : List Keyword).isEmpty then 0 else 1) < 30)) = true := by rfl)
    (hline : (apos.endLine == cpos.line) = true := by rfl) (hs : starEach (e :: es) X.env = (false, eval e X.env) :: starEach es X.env := by rfl) (hplain : (backTo cpos (starEach es X.env)).any (·.1) = false := by rfl) :
    PE X (.Call (.Attribute o name apos) (e :: es) [] cpos) (tBMT X.K r to t) := by
  refine ⟨fun pins s σ H Q I h => wpAny_Call_method_late hbase hfew hline rfl (thn (ho.run pins s σ H _ I h) fun v s1 ⟨x, H1, I1, r1, ⟨a, ws, ex, hq, hd⟩, q1⟩ => ?_)⟩
  subst ex
  obtain rfl : v = Value.ref a := r1
  obtain ⟨its, _, tt, _⟩ := I1.tuple hq
  refine ⟨"tuple", id, PySem.F.plainAttrs_tuple, slot, hty, tt.typeIs, fun b z => by cases z; exact nd_at I1 hd, ?_⟩
  have hA := ha.run cpos pins s1 σ H1 _ I1 q1
  rw [hs] at hA ⊢
  refine Calls.callWith_builtin (by show (false || (backTo cpos (starEach es X.env)).any (·.1)) = false; rw [hplain] <;> rfl) (Calls.evalArgs_plain ?_)
  exact thn hA fun us s2 ⟨vs, H2, I2, r2, q2⟩ => hm pins s2 σ H2 (.ref a) vs (.ref a) us Q I2 rfl r2 q2
def rIndexT (c : VC) : V → List V → Hp → VK → Prop := fun x ys H Q => ∃ (a : Addr) (bs : List Bool) (b : Bool) (j : Nat), x = .ref a ∧ ys = [.bl b] ∧ SqT c.K H a (bs.map V.bl) ∧ bs[j]? = some b ∧ (∀ m, m < j → bs[m]? ≠ some b) ∧ Q (.int (j : Nat)) H
theorem mt_indexT : MtR X "tuple.index" (rIndexT (cc X xa)) := by
  intro pins s σ H x ys v us Q I rx ry ⟨a, bs, b, j, e1, e2, hq, hb, hno, q⟩
  subst e1 e2
  cases rx
  obtain ⟨u, rfl, ru⟩ := vals1 ry
  obtain ⟨its, rv, ⟨⟨cls, od, dt, sl⟩, ho, hc, n, hd⟩, hz⟩ := I.tuple hq
  simp only at hc hd
  subst hc hd
  have fl : (bs.map V.bl).all flatV = true := by rw [List.all_map]; exact List.all_eq_true.mpr fun _ _ => rfl
  have len : its.length = bs.length := by rw [← rv.length, List.length_map]
  have jl : j < its.toArray.size := by rw [List.size_toArray, len]; exact (List.getElem?_eq_some_iff.mp hb).1
  have val : ∀ (m : Nat) (hm : m < its.toArray.size), ∃ c, bs[m]? = some c ∧ its.toArray[m] = Value.bool c := fun m hm => by
    have hm' : m < bs.length := by rw [← len, ← List.size_toArray]; exact hm
    obtain ⟨w, hw, rw'⟩ := rv.get (i := m) (x := .bl bs[m]) (by simp [hm'])
    refine ⟨bs[m], List.getElem?_eq_getElem hm', ?_⟩
    have e := (List.getElem?_eq_some_iff.mp hw).2
    have rw'' : w = Value.bool bs[m] := rw'
    rw [← rw'', ← e]
    simp
  refine call_meets PySem.F.slot_tuple_index ⟨_, ho, rfl⟩ PySem.F.entry_tuple_index (PySem.F.args_tuple_index_2 _ _) (TI.tuple_indexAt a its.toArray n od sl u (eqU (.bl b)) j jl ?_ fun m hm hmj => ?_)
    ⟨ho, fun w hw => mem_eqAt (x := .bl b) ru rfl rv fl w (by simpa using hw), .int (j : Nat), H, I.tok _, ⟨_, rfl⟩, q⟩
  · obtain ⟨c, h1, h2⟩ := val j jl
    rw [hb] at h1
    cases h1
    rw [h2]
    exact beq_self_eq_true b
  · obtain ⟨c, h1, h2⟩ := val m hm
    rw [h2]
    exact beq_eq_false_iff_ne.mpr fun e => hno m hmj (e ▸ h1)
def gIndexT (ts : List OT) : Option OT := match ts with
  | [.sh (.tuple l), .sh (.bool b)] => if isCh l = true then (chIx b l).map fun j => .sh (.int (j : Nat)) else none
  | _ => none
@[simp] theorem gIndexT_sh (l : List D) (b : Bool) : gIndexT [.sh (.tuple l), .sh (.bool b)] = if isCh l = true then (chIx b l).map fun j => .sh (.int (j : Nat)) else none := rfl
theorem prim_indexT {c : VC} : PrimM c (rIndexT c) gIndexT := by
  intro Z H vs ts t Q s r e n
  unfold gIndexT at e
  split at e
  · rename_i l b
    split at e
    case isFalse => cases e
    rename_i hc
    cases hf : chIx b l with
    | none => rw [hf] at e; cases e
    | some j =>
      rw [hf] at e
      cases e
      cases r with
      | @cons v1 _ _ _ _ w1 r =>
        cases r with
        | @cons v2 _ _ _ _ w2 r =>
          cases r
          obtain rfl := bool_read w2
          obtain ⟨a, xs, rfl, hq, hl, _, _⟩ := tup_read s w1 (ds := l) rfl
          obtain ⟨bs, rfl, rfl⟩ := bools_of hl (by rw [isCh, Bool.and_eq_true] at hc; exact hc.2)
          obtain ⟨hj, h1, h2⟩ := List.findIdx?_eq_some_iff_getElem.mp hf
          have hj' : j < bs.length := by simpa using hj
          refine ⟨_, _, rfl, a, bs, b, j, rfl, rfl, hq, ?_, fun m hm z => ?_, n.int s⟩
          · rw [List.getElem?_eq_getElem hj']
            have := beq_iff_eq.mp (show (bs[j] == b) = true by simpa [isB] using h1)
            rw [this]
          · obtain ⟨h3, h4⟩ := List.getElem?_eq_some_iff.mp z
            have := h2 m hm
            simp [isB, h4] at this
  · cases e
/-- the object: a choice -/
def mthT (g : List OT → Option OT) (p2 : Bool) (h : PH) (o : Option OT) (f2 : Ev → Res (List PH)) (ρ1 : Ev) : Res OT := match o with
  | some (.sh (.tuple l)) => if isCh l = true then (f2 ρ1).bind fun hs ρ2 => opn g (gets (h.un p2 :: hs) ρ2) ρ2 else .bad
  | _ => .bad
def fMthT (g : List OT → Option OT) (p2 : Bool) (f1 : Ev → Res PH) (f2 : Ev → Res (List PH)) : Ev → Res OT := fun ρ => (f1 ρ).bind fun h ρ1 => mthT g p2 h (h.get ρ1) f2 ρ1
@[simp] theorem fMthT_ap (g : List OT → Option OT) (p2 : Bool) (f1 : Ev → Res PH) (f2 : Ev → Res (List PH)) (ρ : Ev) : fMthT g p2 f1 f2 ρ = (f1 ρ).bind fun h ρ1 => mthT g p2 h (h.get ρ1) f2 ρ1 := rfl
@[simp] theorem mthT_sh (g : List OT → Option OT) (p2 : Bool) (h : PH) (l : List D) (f2 : Ev → Res (List PH)) (ρ : Ev) : mthT g p2 h (some (.sh (.tuple l))) f2 ρ = if isCh l = true then (f2 ρ).bind fun hs ρ2 => opn g (gets (h.un p2 :: hs) ρ2) ρ2 else .bad := rfl
theorem ch_read {c : VC} {Z H : Hp} {v : V} {l : List D} {F : List Addr} (s : Same Z H) (w : Own c Z H v (.sh (.tuple l)) F) (h : isCh l = true) : IsTv c.K v H := by
  cases w with
  | sh r =>
    cases r with
    | tup hq l k => exact ⟨_, _, rfl, SqT.mono s hq, (k h).mono s⟩
theorem tMthT {r : V → List V → Hp → VK → Prop} {g : List OT → Option OT} (hg : PrimM (cc X xa) r g) {f1 : Ev → Res PH} {f2 : Ev → Res (List PH)} {σ : St} {H : Hp} {Q : VK}
    (q : tV (cc X xa) E (p1 && p2) (fMthT g p2 f1 f2) σ H Q) : tBMT X.K r (tP (cc X xa) E p1 f1) (tPs (cc X xa) E p2 f2) σ H Q := by
  obtain ⟨Z, ρ, F, ok, q⟩ := q
  refine ⟨Z, ρ, F, ok, ?_⟩
  unfold fMthT at q
  cases r1 : f1 ρ with
  | bad => rw [r1] at q; exact q
  | exc x ρ' => rw [r1] at q; exact q
  | ok h1 ρ1 =>
    rw [r1] at q
    intro v1 H1 Z1 F1 o1 w1 a1 k1
    have q1 := rV.later (pu' := p2) q a1 fun z => by
      rw [Bool.and_eq_true] at z
      exact ⟨z.2, k1 z.1⟩
    rw [Res.bind_ok] at q1
    unfold mthT at q1
    split at q1
    · rename_i l e0
      split at q1
      case isFalse => exact q1.elim
      rename_i hc
      obtain ⟨G0, x0⟩ := w1.read o1 e0
      refine ⟨ch_read o1.same x0 hc, Z1, ρ1, F1, o1, ?_⟩
      cases r2 : f2 ρ1 with
      | bad => rw [r2] at q1; exact q1
      | exc x ρ' => rw [r2] at q1; exact q1
      | ok h2 ρ2 =>
        rw [r2] at q1
        intro v2 H2 Z2 F2 o2 w2 a2 k2
        have q2 := rV.later (pu' := true) q1 a2 fun z => ⟨rfl, k2 z⟩
        rw [Res.bind_ok] at q2
        cases e1 : gets (h1.un p2 :: h2) ρ2 with
        | none => rw [e1] at q2; exact q2.elim
        | some ts =>
          rw [e1] at q2
          have x1 := gets_rds o2 (.cons (w1.stay a2.same p2 fun z => (k2 z).1) w2) e1
          have q3 : rV (cc X xa) E true Z2 H2 σ ρ2 F2 (Res.of (g ts) ρ2) Q := q2
          cases e3 : g ts with
          | none => rw [e3] at q3; exact q3.elim
          | some t =>
            rw [e3] at q3
            obtain ⟨v, us, e4, rr⟩ := hg Z2 H2 (v1 :: v2) ts t Q o2.same x1 e3 (o2.newR q3)
            cases e4
            exact rr
    · exact q1.elim
theorem ve_indexT {f1 : Ev → Res PH} {f2 : Ev → Res (List PH)} (h1 : VP X xa E p1 o f1) (ha : VPs X xa E p2 (e :: es) f2) (hbase : attributeBase o "index" X.env (eval o X.env) = eval o X.env := by rfl)
    (hfew : ((backTo cpos (starEach (e :: es) X.env)).all (fun x => !x.1) && (backToKw cpos (keywordEach [] X.env)).all (fun x => x.1.isSome)
      && decide ((e :: es).length + ([] : List Keyword).length + (if ([] : List Keyword).isEmpty then 0 else 1) < 30)) = true := by rfl)
    (hline : (apos.endLine == cpos.line) = true := by rfl) (hs : starEach (e :: es) X.env = (false, eval e X.env) :: starEach es X.env := by rfl) (hplain : (backTo cpos (starEach es X.env)).any (·.1) = false := by rfl) :
    VE X xa E (p1 && p2) (.Call (.Attribute o "index" apos) (e :: es) [] cpos) (fMthT gIndexT p2 f1 f2) :=
  (pe_bmT PySem.F.slot_tuple_index PySem.F.type_tuple_index mt_indexT h1 ha hbase hfew hline hs hplain).imp fun σ H Q q => tMthT prim_indexT q
end
/-! ### t * n -/
open AutoSeq1 (wpAny_loadPart')
theorem mul_one (l : Addr) (xs : Array Value) (n : Nat) (od : Option Addr) (sl : Array (Option Value)) (x : Int) (u : Tok) (r : -(2 ^ 63) ≤ x ∧ x < 2 ^ 63) (c1 : (xs.isEmpty || x == 1) = true) :
    Meets (Builtin.«tuple.__mul__» ⟨[.ref l, .int x u], []⟩) (fun _ R s => s.heap.get? l = some { cls := .type "tuple", dict := od, data := .seq xs n, slots := sl } ∧ R (.ok (.ret (Value.ref l))) s) :=
  .of_wp fun prog w A R s h => by
    obtain ⟨hp, g, d, tk, os⟩ := s
    obtain ⟨hl, h⟩ := h
    have f1 := AutoSeq1.idx_int
    have c0 : (decide (x < -(2 ^ 63)) || decide (x ≥ 2 ^ 63)) = false := by rw [decide_eq_false (by omega), decide_eq_false (by omega)] <;> rfl
    wp_walk using wpAny_loadPart' hl
    repeat (first
      | (refine wpAny_ite_false (decide_eq_false (by rw [c0]; exact Bool.false_ne_true)) ?_; wp_walk using wpAny_loadPart' hl)
      | (refine wpAny_ite_true (decide_eq_true c1) ?_; wp_walk using wpAny_loadPart' hl))
    exact ⟨_, rfl, h⟩
theorem mul_none (l : Addr) (xs : Array Value) (n : Nat) (od : Option Addr) (sl : Array (Option Value)) (x : Int) (u : Tok) (r : -(2 ^ 63) ≤ x ∧ x ≤ 0) (ne : xs.isEmpty = false) :
    Meets (Builtin.«tuple.__mul__» ⟨[.ref l, .int x u], []⟩) (fun _ R s => s.heap.get? l = some { cls := .type "tuple", dict := od, data := .seq xs n, slots := sl } ∧
      R (.ok (.ret (Value.ref s.heap.objs.size))) { s with heap := s.heap.push { cls := Value.type "tuple", data := Data.seq #[] }, toks := s.toks }) :=
  .of_wp fun prog w A R s h => by
    obtain ⟨hp, g, d, tk, os⟩ := s
    obtain ⟨hl, h⟩ := h
    have f1 := AutoSeq1.idx_int
    have c0 : (decide (x < -(2 ^ 63)) || decide (x ≥ 2 ^ 63)) = false := by rw [decide_eq_false (by omega), decide_eq_false (by omega)] <;> rfl
    have c1 : (xs.isEmpty || x == 1) = false := by rw [ne, Bool.false_or]; exact beq_eq_false_iff_ne.mpr (by omega)
    have c2 : (decide (x ≤ 0) || xs.isEmpty) = true := by rw [decide_eq_true r.2, Bool.true_or]
    wp_walk using wpAny_loadPart' hl
    repeat (first
      | (refine wpAny_ite_false (decide_eq_false (by rw [c0]; exact Bool.false_ne_true)) ?_; wp_walk using wpAny_loadPart' hl)
      | (refine wpAny_ite_false (decide_eq_false (by rw [c1]; exact Bool.false_ne_true)) ?_; wp_walk using wpAny_loadPart' hl)
      | (refine wpAny_ite_true (decide_eq_true c2) ?_; wp_walk using wpAny_loadPart' hl))
    exact ⟨_, rfl, h⟩
def rRep (K : PySem.W.Frag) : R2 := fun x y H Q => ∃ a xs n, x = .ref a ∧ y = .int n ∧ SqT K H a xs ∧ xs ≠ [] ∧ xs.length ≤ 1000 ∧ -1000 ≤ n ∧ n ≤ 1000 ∧ (n = 1 → Q (.ref a) H) ∧
  (n ≠ 1 → ∀ p o, H p = none → o.dict = none → Q (.ref p) (upd H p (.frz o (.tup (List.replicate n.toNat xs).flatten))))
theorem op_repF {X : Cx} : OpR X (binaryOp .Mult) (rRep X.K) := by
  intro pins s σ H x y v u Q I rx ry ⟨a, xs, n, e1, e2, hq, hne, hz, n1, n2, q1, q2⟩
  subst e1 e2
  cases rx
  obtain ⟨t, rfl⟩ := ry
  obtain ⟨its, rv, ⟨⟨cls, od, dt, sl⟩, ho, hc, ep, hd⟩, hs⟩ := I.tuple hq
  simp only at hc hd
  subst hc hd
  have len : its.length = xs.length := rv.length.symm
  have emp : its.toArray.isEmpty = false := by
    cases its with
    | nil => cases rv; exact absurd rfl hne
    | cons _ _ => rfl
  refine wpAny_binaryOp_repeat_ref (T := "tuple") (U := "int") (by decide) ⟨_, ho, rfl⟩ (fun s' => typeIs_int s' n t) noFill_tuple_mul F.fills_int_mul F.slot_int_rmul repeat_tuple F.slot_int_index.lookup
    (call_meets F.slot_int_rmul (typeIs_int s n t) F.entry_int_rmul (F.args_int_rmul_2 _ _) (int_rmul_tuple n t a its.toArray ep od sl) ⟨ho, rfl, ⟨_, ho, rfl⟩, ?_⟩)
  by_cases h1 : n = 1
  · exact call_meets F.slot_tuple_mul ⟨_, ho, rfl⟩ F.entry_tuple_mul (F.args_tuple_mul_2 _ _) (mul_one a its.toArray ep od sl n t (by omega) (by rw [h1, emp]; rfl)) ⟨ho, .ref a, H, I, rfl, q1 h1⟩
  by_cases h0 : n ≤ 0
  · refine call_meets F.slot_tuple_mul ⟨_, ho, rfl⟩ F.entry_tuple_mul (F.args_tuple_mul_2 _ _) (mul_none a its.toArray ep od sl n t (by omega) emp) ⟨ho, ?_⟩
    have z : n.toNat = 0 := by omega
    have q3 := q2 h1
    rw [z] at q3
    have new : (s.heap.push { cls := .type "tuple", data := .seq #[] }).get? s.heap.objs.size = _ := Heap.get?_push_size _ rfl
    exact ⟨.ref s.heap.objs.size, upd H s.heap.objs.size (.frz { cls := .type "tuple", data := .seq #[] } (.tup [])), I.laid (t' := s.toks) (fun b ob q => Heap.get?_push_of_some _ q) (Nat.le_refl _)
      ⟨new, Nat.zero_le _, [], .nil, _, new, rfl, _, rfl⟩, rfl, q3 _ _ (I.hok.fresh (Nat.le_refl _)) rfl⟩
  · have z1 : ((its.toArray.size : Nat) : Int) * n ≤ 1000000 := by
      rw [List.size_toArray, len]
      have : ((xs.length : Nat) : Int) * n ≤ 1000 * n := Int.mul_le_mul_of_nonneg_right (by omega) (by omega)
      omega
    have fl : n.toNat * xs.length ≤ 1000 * 1000 := Nat.mul_le_mul (by omega) hz
    have z2 : (List.replicate n.toNat its).flatten.length ≤ sizeLine := by rw [PyProof.Rows.lm_len_rep_flat, len, sizeLine_eq]; omega
    have z3 : (List.replicate n.toNat xs).flatten.length ≤ sizeLine := by rw [PyProof.Rows.lm_len_rep_flat, sizeLine_eq]; omega
    have c0 : (decide (n < -(2 ^ 63)) || decide (n ≥ 2 ^ 63)) = false := by rw [decide_eq_false (by omega), decide_eq_false (by omega)] <;> rfl
    have c1 : (its.toArray.isEmpty || n == 1) = false := by rw [emp, Bool.false_or]; exact beq_eq_false_iff_ne.mpr h1
    have c2 : (decide (n ≤ 0) || its.toArray.isEmpty) = false := by rw [emp, Bool.or_false]; exact decide_eq_false h0
    have c4 : Builtin.Tuple.tupleTooMany (((its.toArray.size : Nat) : Int) * n) = false := by
      unfold Builtin.Tuple.tupleTooMany
      rw [sizeLine_eq]
      exact decide_eq_false (by omega)
    refine call_meets F.slot_tuple_mul ⟨_, ho, rfl⟩ F.entry_tuple_mul (F.args_tuple_mul_2 _ _) (tuple_mulW a its.toArray ep od sl n t c0 c1 c2 (by omega) c4 (by rw [size_rep, List.size_toArray]; exact z2)) ⟨ho, ?_⟩
    rw [size_rep]
    have new : (s.heap.push { cls := .type "tuple", data := .seq (List.replicate n.toNat its).flatten.toArray }).get? s.heap.objs.size = _ := Heap.get?_push_size _ rfl
    exact ⟨.ref s.heap.objs.size, upd H s.heap.objs.size (.frz { cls := .type "tuple", data := .seq (List.replicate n.toNat its).flatten.toArray } (.tup (List.replicate n.toNat xs).flatten)),
      I.laid (t' := s.toks) (fun b ob q => Heap.get?_push_of_some _ q) (Nat.le_refl _) ⟨new, z3, _, rv.rep n.toNat, _, new, rfl, _, rfl⟩, rfl, q2 h1 _ _ (I.hok.fresh (Nat.le_refl _)) rfl⟩
def gRepT (t1 t2 : OT) : Option OT := match t1, t2 with
  | .sh (.tuple l), .sh (.int n) => if l ≠ [] ∧ l.length ≤ 1000 ∧ -1000 ≤ n ∧ n ≤ 1000 then some (.sh (.tuple (List.replicate n.toNat l).flatten)) else none
  | _, _ => none
@[simp] theorem gRepT_sh (l : List D) (n : Int) : gRepT (.sh (.tuple l)) (.sh (.int n)) = if l ≠ [] ∧ l.length ≤ 1000 ∧ -1000 ≤ n ∧ n ≤ 1000 then some (.sh (.tuple (List.replicate n.toNat l).flatten)) else none := rfl
theorem rep_rp {c : VC} {Z : Hp} {xs : List V} {l : List D} (r : RpL c Z xs l) : ∀ m : Nat, RpL c Z (List.replicate m xs).flatten (List.replicate m l).flatten
  | 0 => .nil
  | m + 1 => by rw [List.replicate_succ, List.replicate_succ, List.flatten_cons, List.flatten_cons]; exact r.append (rep_rp r m)
theorem prim_repT {c : VC} : Prim2 c (rRep c.K) gRepT := by
  intro Z H v1 v2 t1 t2 F1 F2 t Q s w1 w2 e n
  unfold gRepT at e
  split at e
  · rename_i l k
    split at e
    case isFalse => cases e
    rename_i h
    obtain ⟨h1, h2, h3, h4⟩ := h
    cases e
    obtain rfl := int_read w2
    obtain ⟨a, xs, rfl, hq, hl, _, rp⟩ := tup_read s w1 (ds := l) rfl
    refine ⟨a, xs, k, rfl, rfl, hq, fun z => h1 ?_, hl.length ▸ h2, h3, h4, fun z => ?_, fun _ p o hp hd => n.shNew s hp (.tupF upd_same hd ((rep_rp hl _).mono (same_upd (s.free hp))))⟩
    · subst z; cases hl; rfl
    · subst z
      simp at n
      exact n.now s rp
  · cases e
theorem u9 {k : Nat} {A : Around} (r : Room k A) : A.units + 9 < cLine := by have := r.un; omega
end VL

end

section
set_option Elab.async false
set_option linter.all false
set_option maxRecDepth 100000
set_option maxHeartbeats 4000000
namespace VL
open PySem PySem.Spec PyProof.Rows L2
/-- i += j -/
abbrev gAddI : OT → OT → Option OT := gII fun i j => some (i + j)
/-! ### NAMES.index(t), NAMES a written tuple of texts -/
structure CIxAt (K : PySem.W.Frag) (mg : Str → Option Value) (x : Str) (ys : List Str) : Prop where
  ex : ∃ (q : Addr) (es : Array Value) (n : Nat) (sl : Array (Option Value)), mg x = some (.ref q) ∧ K.lookup q = some ⟨.type "tuple", none, .seq es n, sl⟩ ∧ Vals (ys.map V.str) es.toList ∧ es.size ≤ 1000
def gCIx (ys : List Str) (ts : List OT) : Option OT := match ts with
  | [.sh (.str z)] => (ys.findIdx? fun y => decide (y = z)).map fun j => .sh (.int (j : Nat))
  | _ => none
@[simp] theorem gCIx_s (ys : List Str) (z : Str) : gCIx ys [.sh (.str z)] = (ys.findIdx? fun y => decide (y = z)).map fun j => .sh (.int (j : Nat)) := rfl
def rTIx (K : PySem.W.Frag) : V → List V → Hp → VK → Prop := fun x xs H Q => ∃ p, ∃ ys : List Str, ∃ z j, x = .ref p ∧ xs = [.str z] ∧ SqT K H p (ys.map V.str) ∧ ys[j]? = some z ∧ (∀ m, m < j → ys[m]? ≠ some z) ∧ Q (.int (j : Nat)) H
theorem prim_cIx {c : VC} {q : Addr} {ys : List Str} (hq : ∀ H, SqT c.K H q (ys.map V.str)) : Prim c (rTIx c.K (.ref q)) (gCIx ys) := by
  intro Z H vs ts t Q s r e n
  unfold gCIx at e
  split at e
  · rename_i z
    cases hf : ys.findIdx? fun y => decide (y = z) with
    | none => rw [hf] at e; cases e
    | some j =>
      rw [hf] at e
      cases e
      cases r with
      | cons w r =>
        cases r
        have e2 := str_read w
        subst e2
        obtain ⟨hj, h1, h2⟩ := List.findIdx?_eq_some_iff_getElem.mp hf
        refine ⟨q, ys, z, j, rfl, rfl, hq H, by rw [List.getElem?_eq_getElem hj]; simpa using h1, fun m hm y => ?_, n.int s⟩
        obtain ⟨h3, h4⟩ := List.getElem?_eq_some_iff.mp y
        have := h2 m hm
        simp [h4] at this
  · cases e
section
variable {X : Cx} {xa : Str → Option Addr} {E : XS} {pu : Bool} {e : Expr} {np apos cpos : Pos}
theorem ve_cIx {x : Str} {ys : List Str} {f : Ev → Res (List PH)} (hg : Gl X x) (T : CIxAt X.K X.mg x ys) (ha : VPs X xa E pu [e] f) (hdb : (x == ("__debug__" : Str)) = false := by decide) (hbase : attributeBase (.Name x np) "index" X.env (eval (.Name x np) X.env) = eval (.Name x np) X.env := by rfl)
    (hfew : ((backTo cpos (starEach [e] X.env)).all (fun x => !x.1) && (backToKw cpos (keywordEach [] X.env)).all (fun x => x.1.isSome)
      && decide ([e].length + ([] : List Keyword).length + (if ([] : List Keyword).isEmpty then 0 else 1) < 30)) = true := by rfl)
    (hline : (apos.endLine == cpos.line) = true := by rfl) (hs : starEach [e] X.env = (false, eval e X.env) :: starEach [] X.env := by rfl) (hplain : (backTo cpos (starEach [] X.env)).any (·.1) = false := by rfl) :
    VE X xa E pu (.Call (.Attribute (.Name x np) "index" apos) [e] [] cpos) (fOps (gCIx ys) f) := by
  obtain ⟨q, es, n, sl, hm, hl, rv, hz⟩ := T
  have hq : ∀ H, SqT X.K H q (ys.map V.str) := fun H => .inr ⟨_, es, n, hl, rfl, rfl, by rw [sizeLine_eq]; omega, rv⟩
  exact (pe_bmT (r := rTIx X.K) PySem.F.slot_tuple_index PySem.F.type_tuple_index mt_tup_index (pe_glob (v := .ref q) hg hm rfl hdb) ha hbase hfew hline hs hplain).imp fun σ H Q qq => ⟨⟨q, _, rfl, hq H, .inr ⟨_, hl, rfl⟩⟩, tOps (r := rTIx X.K (.ref q)) (prim_cIx (c := cc X xa) hq) qq⟩
end
end VL

end

section
set_option Elab.async false
set_option linter.all false
set_option maxRecDepth 100000
set_option maxHeartbeats 1000000
namespace VL
open PySem PySem.Spec PyProof.Rows L2
/-! ### try: .. except C as n: y = n.word -/
theorem pe_xfW {X : Cx} {a : Addr} {oe : Obj} {cls : Value} {d : Option Addr} {pn : List (Addr × Obj)} {n f : Str} {p pos : Pos} {i : Nat} (hz : Zc cls d oe) (hf : ∃ vs, oe.data = .fields vs) (he : PE (X.suite a ((a, oe) :: pn)) (.Name n p) (tVar i))
    (hb : attributeBase (.Name n p) f X.env (eval (.Name n p) X.env) = eval (.Name n p) X.env := by rfl) :
    PE (X.suite a ((a, oe) :: pn)) (.Attribute (.Name n p) f pos) (fun σ H Q => ∃ C, XfC X.K C ∧ PySem.W.findIn X.K (.ref C) f = some none ∧ tXf a cls d C f (tVar i) σ H Q) :=
  ⟨fun pins s σ H Q I ⟨C, T, hno, h⟩ => (pe_xf T hno hz hf he hb).run pins s σ H Q I h⟩
def wordX (b : Option Bool) (wt : Bool) (i j : Nat) (x : Exn) (ρ : Ev) : Out := match b with
  | some true => (match wt, x.word with
    | true, some z => if i < ρ.length then .nx ((ρ.set i .mv).set j (.sh (.str z))) else .bad
    | _, _ => .bad)
  | some false => .exc x ρ
  | none => .bad
def wordO (ct : Str → Option Bool) (wt : Str → Bool) (i j : Nat) (o : Out) : Out := match o with
  | .exc x ρ => wordX (ct x.cls) (wt x.cls) i j x ρ
  | o => o
def fTryWord (ct : Str → Option Bool) (wt : Str → Bool) (i j : Nat) (fb : Ev → Out) : Ev → Out := fun ρ => wordO ct wt i j (fb ρ)
@[simp] theorem fTryWord_ap (ct : Str → Option Bool) (wt : Str → Bool) (i j : Nat) (fb : Ev → Out) (ρ : Ev) : fTryWord ct wt i j fb ρ = wordO ct wt i j (fb ρ) := rfl
@[simp] theorem wordO_nx (ct : Str → Option Bool) (wt : Str → Bool) (i j : Nat) (ρ : Ev) : wordO ct wt i j (.nx ρ) = .nx ρ := rfl
@[simp] theorem wordO_exc (ct : Str → Option Bool) (wt : Str → Bool) (i j : Nat) (x : Exn) (ρ : Ev) : wordO ct wt i j (.exc x ρ) = wordX (ct x.cls) (wt x.cls) i j x ρ := rfl
@[simp] theorem wordX_t (i j : Nat) (c z : Str) (ρ : Ev) : wordX (some true) true i j ⟨c, some z⟩ ρ = if i < ρ.length then .nx ((ρ.set i .mv).set j (.sh (.str z))) else .bad := rfl
section
variable {X : Cx} {xa : Str → Option Addr} {E : XS} {kp : List Nat} {k : Nat} {x n y : Str} {body : List Stmt} {np pos pos' p1 p2 p3 p4 : Pos} {ct : Str → Option Bool} {wt : Str → Bool} {fb : Ev → Out} {i j : Nat}
theorem vs_tryWord (hs : X.stack = X.env :: X.outer) (hf : X.env.frame = some X.env.locals) (B : Bd X E k) (hg : Gl X x) (ca : CatchAt X.K X.mg xa x ct) (T : WordAt X.K xa wt) (hN : X.N.Nodup) (hi : X.N[i]? = some n) (hj : X.N[j]? = some y) (hln : X.env.kindOf n = some .local)
    (hly : Loc X.env.scope y) (hij : i ≠ j) (hki : i ∉ kp) (hkj : j ∉ kp) (hpv : ∀ (a : Addr) (pn : List (Addr × Obj)), PE (X.suite a pn) (.Name n p2) (tVar i))
    (hb : ∀ (pn : List (Addr × Obj)) (xe : Value → Shared → Prop) (E' : XS), Bd (X.tr pn xe) E' k → VSs (X.tr pn xe) xa E' kp body fb) (hdb : (x == ("__debug__" : Str)) = false := by decide)
    (hfn : X.fn y = true ∨ X.env.scope.names.lookup y = some .local := by first | exact .inl rfl | exact .inr rfl | assumption) (hsw : swapsWith (.Attribute (.Name n p2) "word" p4) (some (.Name y p1)) p3.line X.env = pure false := by rfl)
    (hba : attributeBase (.Name n p2) "word" X.env (eval (.Name n p2) X.env) = eval (.Name n p2) X.env := by rfl) :
    VS X xa E kp (.Try body [.ExceptHandler (some (.Name x np)) (some n) [.Assign [.Name y p1] (.Attribute (.Name n p2) "word" p4) p3] pos'] [] [] pos) (fTryWord ct wt i j fb) := by
  obtain ⟨C0, hm, hct⟩ := ca
  refine (ps_try_as (c := .ref C0) (i := i) (Wout := fun cls d σ H => E σ cls d H) (tb := fun W => tS (cc X xa) (WE W) kp fb)
    (ts := fun a cls d D σ H => ∃ C, XfC X.K C ∧ PySem.W.findIn X.K (.ref C) "word" = some none ∧ tXf a cls d C "word" (tVar i) σ H fun v H' => D.nx (σ.set j (some v)) H') hs hf hN hi hln ⟨hg, hdb, .inl hm⟩ B.tk
    (fun W pn xe tk hp => hb pn xe _ (bd_tr B tk hp)) fun a oe cls d pn hz hfd => (pss_one (ps_set (X := X.suite a ((a, oe) :: pn)) (i := j) hN hj hly (pe_xfW hz hfd (hpv a _) hba) hsw hfn)).imp fun D σ H h => h).imp fun D σ H ⟨Z, ρ, F, ok, q⟩ => ⟨Z, ρ, F, ok, ?_⟩
  unfold fTryWord wordO at q
  cases r : fb ρ with
  | exc e ρ' =>
    rw [r] at q
    intro cls d σ' H' Z' F' o xr a kk
    obtain ⟨C, hC, rfl, hw⟩ := id xr
    unfold wordX at q
    dsimp only at q
    cases ec : ct e.cls with
    | none => rw [ec] at q; exact q.elim
    | some b =>
      rw [ec] at q
      refine ⟨b, hct _ _ _ ec hC, fun z a' na => ?_, fun z => ?_⟩
      · subst z
        dsimp only at q
        split at q
        case h_2 => exact q.elim
        rename_i z ew ez
        obtain ⟨hX, hno⟩ := T.ex _ _ ew hC
        rw [ez] at hw
        obtain ⟨dd, rfl, hd⟩ := hw
        split at q
        case isFalse => exact q.elim
        rename_i il0
        have il : i < σ'.length := by rw [o.own.length]; exact il0
        obtain ⟨G, o2, s2⟩ := o.clear i
        obtain ⟨F3, o3, s3⟩ := o2.assign j (Own.sh (Rp.str z)) (by simpa using o2.nd) (fun _ z => nomatch z)
        refine ⟨C, hX, hno, .ref a', by rw [List.getElem?_set_self il], rfl, rfl, dd, _, .str z, rfl, o.same _ _ hd, rfl, ?_⟩
        have e1 : ((σ'.set i (some (V.ref a'))).set j (some (V.str z))).set i none = (σ'.set i none).set j (some (V.str z)) := by
          rw [List.set_comm _ _ hij.symm, List.set_set]
        show D.nx (((σ'.set i (some (V.ref a'))).set j (some (V.str z))).set i none) H'
        rw [e1]
        exact q _ _ _ F3 o3 (a.to fun p hp => s2 p (by simpa using s3 p hp)) ((kk.trans (kept_set hki)).trans (kept_set hkj))
      · subst z
        exact q _ _ σ' H' Z' F' o xr a kk
  | bad => rw [r] at q; exact q
  | nx ρ' => rw [r] at q; exact q
  | rt t ρ' => rw [r] at q; exact q
  | bk ρ' => rw [r] at q; exact q
  | ct ρ' => rw [r] at q; exact q
end
end VL

end

section
set_option Elab.async false
set_option linter.all false
set_option maxRecDepth 100000
set_option maxHeartbeats 1000000
namespace VL
open PySem PySem.Spec PyProof.Rows L2
/-! ### a desk: a bare object whose methods are called -/
def deskD : D := .dict (exL ⟨"Desk", none⟩)
def dkAt (o : Option OT) (ρ : Ev) : Res Arg := match o with
  | some (.sh (.dict [(.none, .str c), (.none, .none)])) => if c = "Desk" then .ok (.sh deskD, none) ρ else .bad
  | _ => .bad
theorem dkAt_ok {o : Option OT} {ρ : Ev} (h : dkAt o ρ ≠ .bad) : o = some (.sh deskD) ∧ dkAt o ρ = .ok (.sh deskD, none) ρ := by
  unfold dkAt at h ⊢
  split at h
  · rename_i c
    by_cases hc : c = "Desk"
    · subst hc
      exact ⟨rfl, if_pos rfl⟩
    · rw [if_neg hc] at h
      exact absurd rfl h
  · exact absurd rfl h
@[simp] theorem dkAt_ap (ρ : Ev) : dkAt (some (.sh deskD)) ρ = .ok (.sh deskD, none) ρ := by
  show (if ("Desk" : Str) = "Desk" then Res.ok (OT.sh deskD, (none : Option Nat)) ρ else .bad) = _
  rw [if_pos rfl]
def fDesk (i : Nat) : Ev → Res Arg := fun ρ => dkAt ρ[i]? ρ
@[simp] theorem fDesk_ap (i : Nat) (ρ : Ev) : fDesk i ρ = dkAt ρ[i]? ρ := rfl
structure MD (X : Cx) (xa : Str → Option Addr) (m : Str) (n : Nat) (F : List OT → FRes) : Prop where
  len : ∀ as, F as ≠ .bad → as.length = n
  ex : ∃ (k : Nat) (C f : Addr) (fd : FuncData) (ps : List Str), xa "Desk" = some C ∧ Cls X.K C ∧ Meth X.K C m f ∧ FnOk X.prog X.w X.K X.mg X.base (L2.CX X.prog X.w) k f fd ps (spF (cc X xa) n F) ∧ Room k X.A ∧ Binds X.K fd ps []
section
variable {X : Cx} {xa : Str → Option Addr} {E : XS} {o e : Expr} {es : List Expr} {apos pos : Pos}
theorem ve_mc {m : Str} {n i : Nat} {F : List OT → FRes} {f : Ev → Res (List Arg)} {pl : Sem Bool} (h : MD X xa m n F) (hx : ∀ σ, PassesAt (L2.CX X.prog X.w) X σ (E σ)) (ho : PE X o (tVar i)) (hm1 : ¬ m = "numbers") (hm2 : ¬ m = "wished") (ha : VA X xa E (e :: es) f)
    (hst : starEach (e :: es) X.env = (false, eval e X.env) :: starEach es X.env := by rfl) (hpl : (backTo pos (starEach es X.env)).any (·.1) = false := by rfl)
    (ht : eval (.Call (.Attribute o m apos) (e :: es) [] pos) X.env = (do
      let ov ← eval o X.env
      standAt apos.atName
      let (f, first) ← holding [ov] (getMethod ov m pl)
      callWith pos f first (backTo pos (starEach (e :: es) X.env)) (backToKw pos (keywordEach [] X.env))) := by rfl) :
    VE X xa E false (.Call (.Attribute o m apos) (e :: es) [] pos) (fCall F (fACons (fDesk i) f)) := by
  refine ⟨fun pins s σ H Q I qq => ?_⟩
  obtain ⟨hl, k, C, fa, fd, ps, hC, hcl, hm, G, hr, hb⟩ := h
  obtain ⟨Z, ρ, F0, ok, q⟩ := tCall_ok hl qq
  unfold fACons fDesk at q
  have hne : dkAt ρ[i]? ρ ≠ .bad := fun z => by rw [z] at q; exact q
  obtain ⟨hρ, e1⟩ := dkAt_ok hne
  rw [e1, Res.bind_ok] at q
  obtain ⟨v, hv, rp⟩ := ok.own.shAt hρ
  obtain ⟨a, rfl, hx1⟩ := ex_of_rp rp
  rcases hx1 with ⟨_, _, hd, _⟩ | ⟨_, _, C', dx, fs, h1, h2, h3⟩
  · exact absurd rfl hd
  have hC' : C' = C := by
    have : some C' = some C := h1.symm.trans hC
    cases this; rfl
  subst hC'
  refine PySem.W.methodCall_KW (pl := pl) (thn (ho.run pins s σ H (fun x H1 => x = .ref a ∧ H1 = H) I ⟨_, hv, rfl, rfl⟩) fun u s1 ⟨x, H1, I1, rx, ex, eH⟩ => ?_) ht
  subst ex eH
  obtain rfl : u = Value.ref a := rx
  refine getmeth_ok I1 (ok.same _ _ h2) hcl hm (h3 m hm1 hm2) ?_
  have wish : tA (cc X xa) E f σ H1 fun vs H2 => spF (cc X xa) n F (.ref a :: vs) H2 Q (E σ) := by
    refine ⟨Z, ρ, F0, ok, ?_⟩
    cases r : f ρ with
    | bad => rw [r] at q; exact q
    | exc y ρ' => rw [r] at q; exact q
    | ok as ρ1 =>
      rw [r, Res.bind_ok] at q
      intro vs H2 Z2 F2 Fs o2 w2 n2 sp2 ow2 a2
      exact q (.ref a :: vs) H2 Z2 F2 Fs o2 (OwnL.cons (F := []) (.sh (rp.mono a2.same)) w2) n2 sp2 (.cons (fun i z => nomatch z) ow2) a2
  refine PySem.W.callWith_K (first := [.ref a]) (h₀ := X.base) I.ok.mod.kin hm.kp (thn (ha.run pos pins s1 σ H1 _ I1 wish) fun us s2 ⟨vs, H2, I2, r, q2⟩ => ⟨I2.kIn, ?_⟩) hst hpl
  exact run_fnS (us := .ref a :: us) (vs := .ref a :: vs) G hr hb (hx σ) I2 (.cons rfl r) q2
end
section
variable {P : Program} {w : World} {K : PySem.W.Frag} {mg : Str → Option Value} {base : Heap} {xa : Str → Option Addr}
structure MthAt (P : Program) (w : World) (K : PySem.W.Frag) (mg : Str → Option Value) (base : Heap) (xa : Str → Option Addr) (m : Str) (ps : List Str) (n k : Nat) (F : List OT → FRes) : Prop where
  len : ∀ as, F as ≠ .bad → as.length = n
  ex : ∃ (C f : Addr) (fd : FuncData), xa "Desk" = some C ∧ Cls K C ∧ Meth K C m f ∧ FnOk P w K mg base (L2.CX P w) k f fd ps (spF ⟨K, w, xa⟩ n F) ∧ Binds K fd ps []
theorem md_of {X : Cx} {xa : Str → Option Addr} {m : Str} {ps : List Str} {n k j : Nat} {F : List OT → FRes} (g : MthAt X.prog X.w X.K X.mg X.base xa m ps n k F) (hr : Room j X.A) (h : k ≤ j) : MD X xa m n F := by
  obtain ⟨l, C, f, fd, h1, h2, h3, G, hb⟩ := g
  exact ⟨l, k, C, f, fd, ps, h1, h2, h3, G, hr.mono h, hb⟩
structure MAt (K : PySem.W.Frag) (xa : Str → Option Addr) (m qual : Str) (st : Stmt) (ps : List Str) : Prop where
  ex : ∃ (C f : Addr) (fd : FuncData), xa "Desk" = some C ∧ Cls K C ∧ Meth K C m f ∧ Fun K m qual st f fd ∧ Binds K fd ps []
theorem mdef_of {m qual : Str} {st : Stmt} {N ps : List Str} {k n mm : Nat} {kp : List Nat} {fb : Ev → Out} (A : MAt K xa m qual st ps) (S : FnScope N ps (defScope st)) (hn : ps.length = n) (hm : N.length = n + mm)
    (hb : ∀ (f : Addr) (cdv : Value) (A : Around) (outer : List Env) (s : Shared) (H : Hp) (E : XK), Bd (cxOf (L2.CX P w) P w K mg base N qual (defScope st) f cdv A outer s H E) (fun _ => E) k →
      VSs (cxOf (L2.CX P w) P w K mg base N qual (defScope st) f cdv A outer s H E) xa (fun _ => E) kp (defBody st) fb) : MthAt P w K mg base xa m ps n (k + 1) (fDef n mm kp fb) := by
  obtain ⟨C, f, fd, h1, h2, h3, Fu, b⟩ := A
  exact ⟨fDef_len, C, f, fd, h1, h2, h3, def_ok Fu S hn hm (hb f), b⟩
end
/-! ### Desk() -/
def spDesk (K : PySem.W.Frag) (C : Addr) : Sp := fun vs H Q _ => ∃ (a dx : Addr), vs = [.ref a] ∧ H a = some (.ins C dx []) ∧
  ∀ (H' : Hp) (fs : List (Str × V)), H' a = some (.ins C dx fs) → (∀ m : Str, ¬ m = "numbers" → ¬ m = "wished" → fs.lookup m = none) → (∀ b o, H b = some o → b ≠ a → H' b = some o) → Q .non H'
structure NewAt (P : Program) (w : World) (K : PySem.W.Frag) (mg : Str → Option Value) (base : Heap) (xa : Str → Option Addr) : Prop where
  ex : ∃ (C f : Addr) (fd : FuncData), xa "Desk" = some C ∧ mg "Desk" = some (.ref C) ∧ Mk K C f ∧ FnOk P w K mg base (L2.CX P w) 1 f fd ["self"] (spDesk K C) ∧ Binds K fd ["self"] []
theorem ve_new {X : Cx} {xa : Str → Option Addr} {E : XS} {p pos : Pos} {k : Nat} (g : NewAt X.prog X.w X.K X.mg X.base xa) (hr : Room k X.A) (hk : 2 ≤ k) (hg : Gl X "Desk") : VE X xa E false (.Call (.Name "Desk" p) [] [] pos) (fC deskD) := by
  obtain ⟨C, f, fd, hC, hm, M, G, hb⟩ := g
  refine (pe_make0 (E := fun _ _ _ => False) M G (hr.mono hk) hg hm hb .nil passF).imp fun σ H Q ⟨Z, ρ, F, ok, q⟩ => ?_
  intro x dx hx hdx hne
  refine ⟨x, dx, rfl, upd_same, fun H' fs ha hl kk => ⟨rfl, ?_⟩⟩
  have keep : ∀ b o, H b = some o → H' b = some o := fun b o e => kk b o (by rw [upd_ne (ne_of_none e hx), upd_ne (ne_of_none e hdx)]; exact e) (ne_of_none e hx)
  have zx : Z x = none := ok.same.free hx
  have nF : ∀ p ∈ F, p ≠ x := fun p hp => by
    obtain ⟨u, hu⟩ := ok.own.there p hp
    exact ne_of_none hu hx
  have sZ : Same Z (upd Z x (.ins C dx fs)) := same_upd zx
  refine q (.ref x) H' (upd Z x (.ins C dx fs)) F [] ⟨fun b o e => ?_, ok.own.frame sZ fun p _ u hu => keep p u hu, ok.nd, fun p hp => ?_⟩ (.sh (.ex (.inr ⟨rfl, rfl, C, dx, fs, hC, upd_same, hl⟩))) ok.nd (fun _ z => nomatch z) ⟨sZ, fun b u e _ => keep b u e, fun b hb => .inl hb, fun b hb => ?_⟩ fun z => nomatch z
  · by_cases hb : b = x
    · subst hb
      rw [upd_same] at e
      cases e
      exact ha
    · rw [upd_ne hb] at e
      exact keep b o (ok.same _ _ e)
  · rw [upd_ne (nF p hp)]
    exact ok.sep p hp
  · by_cases e : b = x
    · rw [e]; exact .inr (.inr hx)
    · rw [upd_ne e] at hb
      exact .inl hb
end VL

end

section
set_option Elab.async false
set_option linter.all false
set_option maxRecDepth 100000
set_option maxHeartbeats 1000000
namespace VL
open PySem PySem.Spec PyProof.Rows L2
/-! ### {k: v, ..}[e] with texts -/
def kvT (tbl : List (Str × Str)) : List (Key × V) := tbl.map fun p => (.inr p.1, .str p.2)
def dixS (tbl : List (Str × Str)) (t : Str) : Option Str := match valV (mergeK [] (kvT tbl)) (.inr t) with
  | some (.str v) => some v
  | _ => none
def dixT (tbl : List (Str × Str)) (o : Option OT) : Option D := match o with
  | some (.sh (.str t)) => (dixS tbl t).map .str
  | _ => none
def fDix (tbl : List (Str × Str)) (f : Ev → Res PH) : Ev → Res OT := fun ρ => (f ρ).bind fun h ρ1 => Res.of ((dixT tbl (h.get ρ1)).map .sh) ρ1
@[simp] theorem fDix_ap (tbl : List (Str × Str)) (f : Ev → Res PH) (ρ : Ev) : fDix tbl f ρ = (f ρ).bind fun h ρ1 => Res.of ((dixT tbl (h.get ρ1)).map .sh) ρ1 := rfl
@[simp] theorem dixT_ap (tbl : List (Str × Str)) (t : Str) : dixT tbl (some (.sh (.str t))) = (dixS tbl t).map .str := rfl
def trsT (tbl : List (Str × Str)) : List (TE × TE) := tbl.map fun p => (tC (.str p.1), tC (.str p.2))
theorem tPairs_lit : ∀ (tbl : List (Str × Str)) (σ : St) (H : Hp) (Q : List (V × V) → Hp → Prop), Q (tbl.map fun p => (V.str p.1, V.str p.2)) H → tPairs (trsT tbl) σ H Q
  | [], _, _, _, h => h
  | p :: r, σ, H, Q, h => tPairs_lit r σ H _ h
theorem pps_lit {X : Cx} {pos : Pos} {k v : Str} {p1 p2 : Pos} {j1 j2} {ks : List (Option Expr)} {vs : List Expr} {tbl : List (Str × Str)} (hr : PPs X pos ks vs (trsT tbl)) :
    PPs X pos (some (.Constant (.str k) j1 p1) :: ks) (.Constant (.str v) j2 p2 :: vs) (trsT ((k, v) :: tbl)) := pps_cons pe_str pe_str hr
theorem pps_none {X : Cx} {pos : Pos} : PPs X pos [] [] (trsT []) := pps_nil
section
variable {X : Cx} {xa : Str → Option Addr} {E : XS} {pu : Bool} {e : Expr} {pos pos' : Pos}
theorem ve_dix {tbl : List (Str × Str)} {keys : List (Option Expr)} {vals : List Expr} {f : Ev → Res PH} (hu : X.A.units + 1 < cLine) (h : PPs X pos keys vals (trsT tbl)) (ht : tbl.length ≤ 15) (hall : keys.all (·.isSome) = true) (hl : keys.length = vals.length) (h0 : keys ≠ []) (h15 : keys.length ≤ 15)
    (he : VP X xa E pu e f) (hs : NoSl e) : VE X xa E false (.Subscript (.Dict keys vals pos) e pos') (fDix tbl f) := (pe_dget hu (pe_disp h hall hl h0 h15) he hs).imp fun σ H Q ⟨Z, ρ, F, ok, q⟩ => by
  intro p hp
  refine tPairs_lit tbl σ _ _ ⟨upd_same, kvT tbl, by simp [kvT, kV, Function.comp_def], by simpa [kvT] using ht, ?_⟩
  have kk : ∀ b o, H b = some o → (upd (upd H p (.dK [])) p (.dK (mergeK [] (kvT tbl)))) b = some o := fun b o e => by
    rw [upd_ne (ne_of_none e hp), upd_ne (ne_of_none e hp)]
    exact e
  have nF : p ∉ F := fun z => by
    obtain ⟨u, hu⟩ := ok.own.there p z
    rw [hp] at hu; cases hu
  have ok0 : Ok (cc X xa) Z (upd (upd H p (.dK [])) p (.dK (mergeK [] (kvT tbl)))) σ ρ F := ⟨fun b o e => kk b o (ok.same b o e), ok.own.frame (Same.refl _) fun b _ u hu => kk b u hu, ok.nd, ok.sep⟩
  have a0 : After Z H F Z (upd (upd H p (.dK [])) p (.dK (mergeK [] (kvT tbl)))) F := ⟨Same.refl _, fun b u hu _ => kk b u hu, fun b hb => .inl hb, fun b hb => .inl hb⟩
  refine ⟨Z, ρ, F, ok0, ?_⟩
  unfold fDix at q
  cases r : f ρ with
  | bad => rw [r] at q; exact q
  | exc x ρ' =>
    rw [r] at q
    exact fun cls d H' Z' F' o xr a => q cls d H' Z' F' o xr (a0.trans a)
  | ok h1 ρ1 =>
    rw [r, Res.bind_ok] at q
    intro y H2 Z2 F2 o2 w2 a2 _
    cases e1 : h1.get ρ1 with
    | none => rw [e1] at q; exact q.elim
    | some t1 =>
    rw [e1] at q
    unfold dixT at q
    split at q
    case h_2 => exact q.elim
    rename_i t ht1
    cases ht1
    cases e2 : dixS tbl t with
    | none => rw [e2] at q; exact q.elim
    | some v =>
    rw [e2] at q
    obtain ⟨G1, x1⟩ := w2.read o2 e1
    have ey := str_read x1
    subst ey
    have hM : H2 p = some (.dK (mergeK [] (kvT tbl))) := a2.keep p _ upd_same nF
    have hv : valV (mergeK [] (kvT tbl)) (.inr t) = some (V.str v) := by
      unfold dixS at e2
      split at e2
      · rename_i v' e3
        cases e2
        exact e3
      · cases e2
    refine ⟨p, .str v, rfl, ?_, q (.str v) H2 Z2 F2 [] o2 (.sh (.str v)) o2.nd (fun _ z => nomatch z) (a0.trans a2) fun z => nomatch z⟩
    have := DGet.k (k := .inr t) hM
    rw [hv] at this
    exact this
end
/-! ### t.split(u) -/
theorem own_strL {c : VC} {Z H : Hp} : ∀ ts : List Str, OwnL c Z H (ts.map V.str) (ts.map fun s => OT.sh (.str s)) []
  | [] => .nil
  | x :: ts => OwnL.cons (F := []) (.sh (.str x)) (own_strL ts)
def rSplitS : V → List V → Hp → VK → Prop := fun x xs H Q => ∃ a b, x = .str a ∧ xs = [.str b] ∧ (b.length == 0) = false ∧ a.length + 2 ≤ sizeLine ∧ rNewStrs (Txt.split a b) H Q
def gSplit (ts : List OT) : Option OT := match ts with
  | [.sh (.str a), .sh (.str b)] => if (b.length == 0) = false ∧ a.length ≤ 100000 then some (.lst ((Txt.split a b).map fun s => .sh (.str s))) else none
  | _ => none
@[simp] theorem gSplit_s (a b : Str) : gSplit [.sh (.str a), .sh (.str b)] = if (b.length == 0) = false ∧ a.length ≤ 100000 then some (.lst ((Txt.split a b).map fun s => .sh (.str s))) else none := rfl
theorem prim_split {c : VC} : PrimM c rSplitS gSplit := by
  intro Z H vs ts t Q s r e n
  unfold gSplit at e
  split at e
  · rename_i a b
    split at e
    · rename_i hc
      cases e
      cases r with
      | cons w r =>
        cases r with
        | cons w2 r =>
          cases r
          have e1 := str_read w
          have e2 := str_read w2
          subst e1 e2
          refine ⟨_, _, rfl, a, b, rfl, rfl, hc.1, by rw [sizeLine_eq]; omega, fun p hp => ?_⟩
          exact n (.ref p) _ Z [p] (same_upd hp) (Same.refl _) (s.trans (same_upd hp)) (fun q hq => .inl hq) (.lst upd_same (own_strL _)) (List.nodup_cons.mpr ⟨List.not_mem_nil, List.nodup_nil⟩) fun q hq => by
            rw [List.mem_singleton.mp hq]
            exact ⟨s.free hp, hp⟩
    · cases e
  · cases e
end VL

end

section
set_option Elab.async false
set_option linter.all false
set_option maxRecDepth 100000
set_option maxHeartbeats 4000000
namespace VL
open PySem PySem.Spec PyProof.Rows L2
/-! ### a comprehension whose parts are owned -/
def fComp1O (vs : List Nat) (g : D → Ev → Option Ev) (ft : Ev → Res Bool) (fe : Ev → Res OT) : List D → Ev → List OT → Res (List OT)
  | [], ρ, acc => .ok acc ρ
  | d :: ds, ρ, acc => match g d ρ with
    | none => .bad
    | some ρ2 => match ft ρ2 with
      | .ok true ρ3 => (match fe ρ3 with
        | .ok t ρ4 => fComp1O vs g ft fe ds (clr vs ρ4) (acc ++ [t])
        | _ => .bad)
      | .ok false ρ3 => fComp1O vs g ft fe ds (clr vs ρ3) acc
      | _ => .bad
def fCompO (vs : List Nat) (fi : Ev → Res Its') (g : D → Ev → Option Ev) (ft : Ev → Res Bool) (fe : Ev → Res OT) : Ev → Res OT := fun ρ => (fi ρ).bind fun p ρ1 =>
  if p.1.length ≤ 1000000 then (fComp1O vs g ft fe p.1 (clr vs ρ1) []).bind fun ts ρ2 => .ok (.lst ts) (unlk p.2 p.1 (rst ρ1 vs ρ2)) else .bad
@[simp] theorem fCompO_ap (vs : List Nat) (fi : Ev → Res Its') (g : D → Ev → Option Ev) (ft : Ev → Res Bool) (fe : Ev → Res OT) (ρ : Ev) : fCompO vs fi g ft fe ρ = (fi ρ).bind fun p ρ1 =>
  if p.1.length ≤ 1000000 then (fComp1O vs g ft fe p.1 (clr vs ρ1) []).bind fun ts ρ2 => .ok (.lst ts) (unlk p.2 p.1 (rst ρ1 vs ρ2)) else .bad := rfl
section
variable {X : Cx} {xa : Str → Option Addr} {E : XS} {pu : Bool} {tg e : Expr} {pos : Pos}
theorem tLcO_ok {fi : Ev → Res Its'} {g : D → Ev → Option Ev} {ft : Ev → Res Bool} {fe : Ev → Res OT} {vs kp : List Nat} {p1 p2 : Bool} {σ : St} {H : Hp} {Q : VK} {c : VC} (hk : ∀ i, i ∉ vs → i < σ.length → i ∈ kp)
    (q : tV c E false (fCompO vs fi g ft fe) σ H Q) : tLc (tI c E fi) (tG c kp g) (tT c EN p1 ft) (tV c EN p2 fe) vs σ H Q := by
  obtain ⟨Z, ρ, F, ok, q⟩ := q
  refine ⟨Z, ρ, F, ok, ?_⟩
  unfold fCompO at q
  cases r : fi ρ with
  | bad => rw [r] at q; exact q
  | exc x ρ' => rw [r] at q; exact q
  | ok p ρ1 =>
    obtain ⟨its, lk⟩ := p
    rw [r, Res.bind_ok] at q
    dsimp only at q
    by_cases hsz : its.length ≤ 1000000
    · rw [if_pos hsz] at q
      intro J H1 Z1 F1 L o1 W n1 sp1 hl a1 D hD
      obtain ⟨Fc, c1, c2, c3⟩ := OwnS.clr o1.own o1.nd vs
      have wL : ∀ p ∈ L, ∃ o, H1 p = some o := by
        cases lk with
        | none =>
          have e : L = [] := hl
          rw [e]
          exact fun _ z => nomatch z
        | some i =>
          obtain ⟨v, _, w⟩ := hl
          exact w.there
      have apart : ∀ p ∈ L, p ∉ F1 := fun p hp hq => (List.nodup_append.mp n1).2.2 p hp p hq rfl
      have DF : D ∉ F1 := fun z => by
        obtain ⟨o, ho⟩ := o1.own.there D z
        rw [hD] at ho; cases ho
      have DL : D ∉ L := fun z => by
        obtain ⟨o, ho⟩ := wL D z
        rw [hD] at ho; cases ho
      have ZD : Z1 D = none := o1.same.free hD
      obtain ⟨O, hO⟩ : ∃ O, fComp1O vs g ft fe its (clr vs ρ1) [] = O := ⟨_, rfl⟩
      rw [hO] at q
      refine ⟨fun i m H' => m = its.length - i ∧ i ≤ its.length ∧ ∃ Z' ρ0 F' xs ds Fa, Ok c Z' H' (wipe σ vs) (clr vs ρ0) F' ∧ H' D = some (.lst xs) ∧ D ∉ F' ∧ Z' D = none ∧ OwnL c Z' H' xs ds Fa ∧ ((Fa ++ F').Nodup ∧ D ∉ Fa ∧ ∀ p ∈ Fa, Z' p = none) ∧ ds.length ≤ i ∧
        After Z1 (upd H1 D (.lst [])) (D :: F1) Z' H' (D :: (Fa ++ F')) ∧ fComp1O vs g ft fe (its.drop i) (clr vs ρ0) ds = O,
        ⟨its.length, by simp, Nat.zero_le _, Z1, ρ1, Fc, [], [], [], ⟨o1.same.trans (same_upd hD), c1.frame (Same.refl _) fun p _ o e => same_upd hD p o e, c2, fun p hp => o1.sep p (c3 p hp)⟩, upd_same, fun z => DF (c3 D z), ZD, .nil, ⟨c2, (fun z => nomatch z), fun _ z => nomatch z⟩, Nat.le_refl _,
          ⟨Same.refl _, fun p o e _ => e, fun p hp => ?_, fun p hp => .inl hp⟩, hO⟩, ?_⟩
      · rcases List.mem_cons.mp hp with z | z
        · exact .inl (by rw [z]; simp)
        · exact .inl (List.mem_cons_of_mem _ (c3 p z))
      rintro i m H' ⟨rfl, hil, Z', ρ0, F', xs, ds, Fa, o', hx, dF, zD, rx, ⟨nA, dA, zA⟩, ln, a', e'⟩
      have thG : ∀ p ∈ D :: Fa, ∃ o, H' p = some o := fun p hp => (List.mem_cons.mp hp).elim (fun z => by rw [z]; exact ⟨_, hx⟩) (rx.there p)
      have apG : ∀ p ∈ D :: Fa, p ∉ F' := fun p hp => (List.mem_cons.mp hp).elim (fun z => by rw [z]; exact dF) fun z y => (List.nodup_append.mp nA).2.2 p z p y rfl
      have zG : ∀ p ∈ D :: Fa, Z' p = none := fun p hp => (List.mem_cons.mp hp).elim (fun z => by rw [z]; exact zD) (zA p)
      have keepL : ∀ p ∈ L, ∀ o, H1 p = some o → H' p = some o := fun p hp o ho => a'.keep p o (by
          have ne : p ≠ D := fun z => DL (by rw [← z]; exact hp)
          rw [upd_ne ne]
          exact ho) fun z => by
        rcases List.mem_cons.mp z with y | y
        · exact DL (y ▸ hp)
        · exact apart p hp y
      by_cases hlt : i < its.length
      · obtain ⟨go, yl⟩ := W.go i Z' H' hlt a'.same o'.same keepL
        refine .inr ⟨go, fun H2 => ∃ Z2 ρ2 F2 xs2 ds2 Fa2, Ok c Z2 H2 (wipe σ vs) (clr vs ρ2) F2 ∧ H2 D = some (.lst xs2) ∧ D ∉ F2 ∧ Z2 D = none ∧ OwnL c Z2 H2 xs2 ds2 Fa2 ∧ ((Fa2 ++ F2).Nodup ∧ D ∉ Fa2 ∧ ∀ p ∈ Fa2, Z2 p = none) ∧ ds2.length ≤ i + 1 ∧
          After Z1 (upd H1 D (.lst [])) (D :: F1) Z2 H2 (D :: (Fa2 ++ F2)) ∧ fComp1O vs g ft fe (its.drop (i + 1)) (clr vs ρ2) ds2 = O, fun H2 h => ⟨its.length - (i + 1), by omega, rfl, hlt, h⟩, fun x Hx y => ?_⟩
        obtain ⟨Zx, d, hd, s1, s2, s3, nz, rx2⟩ := yl x Hx y
        have ed : its.drop i = d :: its.drop (i + 1) := by
          rw [List.drop_eq_getElem_cons hlt]
          have : its[i] = d := by
            have z := List.getElem?_eq_getElem hlt
            rw [z] at hd
            exact Option.some.inj hd
          rw [this]
        obtain ⟨ox, _, _, ax⟩ := o'.new (t := .sh d) (Ft := []) s1 s2 s3 nz (.sh rx2) List.nodup_nil (fun _ z => nomatch z)
        have ax' : After Z' H' F' Zx Hx F' := ax
        have zxD : Zx D = none := by
          cases e : Zx D with
          | none => rfl
          | some o =>
            rcases nz D (by rw [e]; exact fun q => nomatch q) with z | z
            · exact absurd zD z
            · rw [hx] at z; cases z
        rw [ed] at e'
        unfold fComp1O at e'
        refine ⟨Zx, clr vs ρ0, F', d, ox, rx2, ?_⟩
        cases e1 : g d (clr vs ρ0) with
        | none =>
          rw [e1] at e'
          rw [← e'] at q
          exact q
        | some ρ2 =>
          rw [e1] at e'
          dsimp only at e'
          intro σ3 F3 o3 sub3 k3
          have wq : wipe σ3 vs = wipe σ vs := by
            have e2 := wipe_eq (σ := wipe σ vs) (σ2 := σ3) k3.1 vs fun j hj => by
              by_cases hjl : j < σ.length
              · exact k3.2 j (hk j hj hjl)
              · rw [List.getElem?_eq_none (by rw [k3.1, wipe_length]; omega), List.getElem?_eq_none (by rw [wipe_length]; omega)]
            rw [e2]
            -- wipe is idempotent
            refine wipe_eq (wipe_length _ _) vs fun j hj => wipe_out hj
          refine ⟨wq, Zx, ρ2, F3, o3, ?_⟩
          cases e2 : ft ρ2 with
          | bad =>
            rw [e2] at e'
            rw [← e'] at q
            exact q.elim
          | exc x ρ3 =>
            rw [e2] at e'
            rw [← e'] at q
            exact q.elim
          | ok b ρ3 =>
            rw [e2] at e'
            intro H4 Z4 F4 o4 a4 _
            have a4' : After Z' H' F' Z4 H4 F4 := (ax'.to sub3).trans a4
            obtain ⟨u1, u2⟩ := a4'.sepF thG apG zG
            have hx4 : H4 D = some (.lst xs) := a4'.keep D _ hx dF
            cases b with
            | false =>
              rw [if_neg Bool.false_ne_true]
              dsimp only at e'
              obtain ⟨F5, d1, d2, d3⟩ := OwnS.clr o4.own o4.nd vs
              rw [wq] at d1
              refine ⟨Z4, ρ3, F5, xs, ds, Fa, ⟨o4.same, d1, d2, fun p hp => o4.sep p (d3 p hp)⟩, hx4, fun z => u2 D (by simp) (d3 D z), u1 D (by simp), rx.frame a4'.same fun p hp o ho => a4'.keep p o ho (apG p (List.mem_cons_of_mem _ hp)),
                ⟨List.nodup_append.mpr ⟨(List.nodup_append.mp nA).1, d2, fun x hx1 y hy e => u2 x (List.mem_cons_of_mem _ hx1) (d3 x (e ▸ hy))⟩, dA, fun p hp => u1 p (List.mem_cons_of_mem _ hp)⟩, by omega, ?_, e'⟩
              refine a'.trans (a4'.widen (fun p hp => List.mem_cons_of_mem _ (List.mem_append_right _ hp)) fun p hp => ?_)
              rcases List.mem_cons.mp hp with z | z
              · exact .inl (by rw [z]; simp)
              · rcases List.mem_append.mp z with z | z
                · exact .inl (List.mem_cons_of_mem _ (List.mem_append_left _ z))
                · exact .inr (d3 p z)
            | true =>
              rw [if_pos rfl]
              dsimp only at e'
              refine ⟨Z4, ρ3, F4, o4, ?_⟩
              cases e3 : fe ρ3 with
              | bad =>
                rw [e3] at e'
                rw [← e'] at q
                exact q
              | exc x ρ3 =>
                rw [e3] at e'
                rw [← e'] at q
                exact q.elim
              | ok t ρ4 =>
                rw [e3] at e'
                dsimp only at e'
                intro yv H5 Z5 F5 Ft o5 w5 n5 sp5 a5 _
                have a7 : After Z' H' F' Z5 H5 (Ft ++ F5) := a4'.trans a5
                obtain ⟨u3, u4⟩ := a7.sepF thG apG zG
                have hx5 : H5 D = some (.lst xs) := a7.keep D _ hx dF
                have dFt : D ∉ Ft := fun z => u4 D (by simp) (List.mem_append_left _ z)
                have dF5 : D ∉ F5 := fun z => u4 D (by simp) (List.mem_append_right _ z)
                refine ⟨xs, hx5, ?_, ?_⟩
                · rw [rx.length, sizeLine_eq]
                  omega
                obtain ⟨F8, d1, d2, d3⟩ := OwnS.clr o5.own o5.nd vs
                rw [wq] at d1
                have ne : ∀ p ∈ F8, p ≠ D := fun p hp z => dF5 (z ▸ d3 p hp)
                have l6 : OwnL c Z5 (upd H5 D (.lst (xs ++ [yv]))) xs ds Fa := rx.frame a7.same fun p hp o ho => by
                  rw [upd_ne (fun z : p = D => dA (z ▸ hp))]
                  exact a7.keep p o ho (apG p (List.mem_cons_of_mem _ hp))
                have w6 : Own c Z5 (upd H5 D (.lst (xs ++ [yv]))) yv t Ft := w5.frame (Same.refl _) fun p hp o ho => by
                  rw [upd_ne (fun z : p = D => dFt (z ▸ hp))]
                  exact ho
                obtain ⟨m1, m2, m3⟩ := List.nodup_append.mp n5
                refine ⟨Z5, ρ4, F8, xs ++ [yv], ds ++ [t], Fa ++ (Ft ++ []), ⟨fun p o hp => ?_, d1.frame (Same.refl _) fun p hp o ho => by rw [upd_ne (ne p hp)]; exact ho, d2, fun p hp => o5.sep p (d3 p hp)⟩, upd_same, fun z => dF5 (d3 D z), u3 D (by simp),
                  l6.append (.cons w6 .nil), ⟨?_, ?_, ?_⟩, by rw [List.length_append, List.length_singleton]; omega, ?_, e'⟩
                · rw [upd_ne (fun z => by rw [z, u3 D (by simp)] at hp; cases hp)]
                  exact o5.same p o hp
                · rw [List.append_nil]
                  refine List.nodup_append.mpr ⟨List.nodup_append.mpr ⟨(List.nodup_append.mp nA).1, m1, fun x hx1 y hy e => u4 x (List.mem_cons_of_mem _ hx1) (List.mem_append_left _ (e ▸ hy))⟩, d2, fun x hx1 y hy e => ?_⟩
                  rcases List.mem_append.mp hx1 with z | z
                  · exact u4 x (List.mem_cons_of_mem _ z) (List.mem_append_right _ (d3 x (e ▸ hy)))
                  · exact m3 x z x (d3 x (e ▸ hy)) rfl
                · rw [List.append_nil]
                  exact fun z => (List.mem_append.mp z).elim dA dFt
                · rw [List.append_nil]
                  exact fun p hp => (List.mem_append.mp hp).elim (fun z => u3 p (List.mem_cons_of_mem _ z)) (sp5 p)
                · rw [List.append_nil]
                  refine a'.trans ⟨a7.same, fun p o hp n => ?_, fun p hp => ?_, fun p hp => ?_⟩
                  · rw [upd_ne (fun z => n (by rw [z]; simp))]
                    exact a7.keep p o hp fun z => n (List.mem_cons_of_mem _ (List.mem_append_right _ z))
                  · rcases List.mem_cons.mp hp with z | z
                    · exact .inl (by rw [z]; simp)
                    · rcases List.mem_append.mp z with z | z
                      · rcases List.mem_append.mp z with z | z
                        · exact .inl (List.mem_cons_of_mem _ (List.mem_append_left _ z))
                        · exact (a7.foot p (List.mem_append_left _ z)).imp (fun y => List.mem_cons_of_mem _ (List.mem_append_right _ y)) id
                      · exact (a7.foot p (List.mem_append_right _ (d3 p z))).imp (fun y => List.mem_cons_of_mem _ (List.mem_append_right _ y)) id
                  · exact (a7.newZ p hp).imp id fun z => z.imp (fun y => List.mem_cons_of_mem _ (List.mem_append_right _ y)) id
      · have ei : i = its.length := by omega
        subst ei
        refine .inl ⟨W.stop Z' H' a'.same o'.same keepL, ?_⟩
        rw [List.drop_length] at e'
        unfold fComp1O at e'
        rw [← e', Res.bind_ok] at q
        -- the slots as they were
        have u1 := OwnS.unwipe vs (fun v hv hl => clr_at vs ρ0 v hv hl) o'.own
        obtain ⟨F2, b1, b2, b3⟩ := OwnS.rst (ρ1 := ρ1) u1 o'.nd vs fun v hv d hd => by
          obtain ⟨u, hu, ru⟩ := o1.own.shAt hd
          exact ⟨u, hu, ru.mono a'.same⟩
        have o2 : Ok c Z' H' σ (rst ρ1 vs (clr vs ρ0)) F2 := ⟨o'.same, b1, b2, fun p hp => o'.sep p (b3 p hp)⟩
        have wD : Own c Z' H' (.ref D) (.lst ds) (D :: Fa) := .lst hx rx
        have dF2 : D ∉ F2 := fun z => dF (b3 D z)
        have nA2 : ((D :: Fa) ++ F2).Nodup := List.nodup_cons.mpr ⟨fun z => (List.mem_append.mp z).elim dA dF2, List.nodup_append.mpr ⟨(List.nodup_append.mp nA).1, o2.nd, fun x hx1 y hy e => apG x (List.mem_cons_of_mem _ hx1) (b3 x (e ▸ hy))⟩⟩
        have e1 : After Z1 H1 F1 Z1 (upd H1 D (.lst [])) (D :: F1) := ⟨Same.refl _, fun p o e _ => same_upd hD p o e, fun p hp => by
          rcases List.mem_cons.mp hp with z | z
          · exact .inr (by rw [z]; exact hD)
          · exact .inl z, fun p hp => .inl hp⟩
        have e2 := e1.trans a'
        cases lk with
        | none =>
          have e : L = [] := hl
          subst e
          refine q (.ref D) H' Z' F2 (D :: Fa) o2 wD nA2 zG (a1.trans (e2.to fun p hp => ?_)) fun z => nomatch z
          rcases List.mem_append.mp hp with z | z
          · exact (List.mem_cons.mp z).elim (fun y => by rw [y]; simp) fun y => List.mem_cons_of_mem _ (List.mem_append_left _ y)
          · exact List.mem_cons_of_mem _ (List.mem_append_right _ (b3 p z))
        | some j =>
          obtain ⟨v, hv, w⟩ := hl
          obtain ⟨t1, t2⟩ := e2.sepF w.there apart sp1
          have w' := e2.frame w apart
          have nL := (List.nodup_append.mp n1).1
          have in2 : ∀ p ∈ F2, p ∈ D :: (Fa ++ F') := fun p hp => List.mem_cons_of_mem _ (List.mem_append_right _ (b3 p hp))
          obtain ⟨F3, o3, s3⟩ := o2.unlock hv w' (List.nodup_append.mpr ⟨nL, b2, fun p hp r hr e => t2 p hp (in2 p (e ▸ hr))⟩) t1
          have out3 : ∀ p ∈ D :: Fa, p ∉ F3 := fun p hp z => by
            rcases List.mem_append.mp (s3 p z) with y | y
            · exact t2 p y ((List.mem_cons.mp hp).elim (fun e => by rw [e]; simp) fun e => List.mem_cons_of_mem _ (List.mem_append_left _ e))
            · exact apG p hp (b3 p y)
          refine q (.ref D) H' Z' F3 (D :: Fa) o3 wD (List.nodup_append.mpr ⟨(List.nodup_append.mp nA2).1, o3.nd, fun x hx1 y hy e => out3 x hx1 (e ▸ hy)⟩) zG (a1.trans (e2.widen (fun p hp => List.mem_append_right _ hp) fun p hp => ?_)) fun z => nomatch z
          rcases List.mem_append.mp hp with z | z
          · exact .inr ((List.mem_cons.mp z).elim (fun y => by rw [y]; simp) fun y => List.mem_cons_of_mem _ (List.mem_append_left _ y))
          · rcases List.mem_append.mp (s3 p z) with y | y
            · exact .inl (List.mem_append_left _ y)
            · exact .inr (in2 p y)
    · rw [if_neg hsz] at q
      exact q.elim
theorem ve_lcO {iter elt : Expr} {ifs : List Expr} {scope : Scope} {own : List (Str × Nat)} {kp : List Nat} {fi : Ev → Res Its'} {g : D → Ev → Option Ev} {ft : Ev → Res Bool} {fe : Ev → Res OT} {p1 p2 : Bool} (hc : X.calm = true) (hN : X.N.Nodup) (hi : VI X xa E tg iter fi) (ok : BlkOk X.N X.env.scope scope own)
    (hk : ∀ i, i ∉ own.map (·.2) → i < X.N.length → i ∈ kp)
    (hg : ∀ (s : Shared) (H : Hp) (C : Addr) (cl : List (Str × Addr)) (fp : List Addr), VG (bx X scope s H C cl fp) xa kp tg g)
    (ht : ∀ (s : Shared) (H : Hp) (C : Addr) (cl : List (Str × Addr)) (fp : List Addr), VTs (bx X scope s H C cl fp) xa EN p1 ifs ft)
    (he : ∀ (s : Shared) (H : Hp) (C : Addr) (cl : List (Str × Addr)) (fp : List Addr), VE (bx X scope s H C cl fp) xa EN p2 elt fe) (hs : ∀ x, foldedSetIterable iter X.env x = pure x := by intro _; rfl) :
    VE X xa E false (.ListComp elt [⟨tg, iter, ifs, 0⟩] scope pos) (fCompO (own.map (·.2)) fi g ft fe) :=
  ⟨fun pins s σ H Q I q => (pe_lc hc hN hi ok hg ht he hs).run pins s σ H Q I (tLcO_ok (fun i h1 h2 => hk i h1 (by rw [← I.len]; exact h2)) q)⟩
/-- y = [..] -/
theorem vs_setLcO {i : Nat} {y : Str} {py spos : Pos} {iter elt : Expr} {ifs : List Expr} {scope : Scope} {own : List (Str × Nat)} {kp kp0 : List Nat} {fi : Ev → Res Its'} {g : D → Ev → Option Ev} {ft : Ev → Res Bool} {fe : Ev → Res OT} {p1 p2 : Bool} (hc : X.calm = true) (hN : X.N.Nodup) (hy : X.N[i]? = some y) (hyl : X.env.scope.names.lookup y = some .local) (hk0 : i ∉ kp0)
    (hsw : swapsWith (.ListComp elt [⟨tg, iter, ifs, 0⟩] scope pos) (some (.Name y py)) spos.line X.env = pure true) (hi : VI X xa E tg iter fi) (ok : BlkOk X.N X.env.scope scope own)
    (hk : ∀ i, i ∉ own.map (·.2) → i < X.N.length → i ∈ kp)
    (hg : ∀ (s : Shared) (H : Hp) (C : Addr) (cl : List (Str × Addr)) (fp : List Addr), VG (bx X scope s H C cl fp) xa kp tg g)
    (ht : ∀ (s : Shared) (H : Hp) (C : Addr) (cl : List (Str × Addr)) (fp : List Addr), VTs (bx X scope s H C cl fp) xa EN p1 ifs ft)
    (he : ∀ (s : Shared) (H : Hp) (C : Addr) (cl : List (Str × Addr)) (fp : List Addr), VE (bx X scope s H C cl fp) xa EN p2 elt fe) (hs : ∀ x, foldedSetIterable iter X.env x = pure x := by intro _; rfl) :
    VS X xa E kp0 (.Assign [.Name y py] (.ListComp elt [⟨tg, iter, ifs, 0⟩] scope pos) spos) (fSet i (fCompO (own.map (·.2)) fi g ft fe)) :=
  ⟨fun pins s σ H D I ⟨Z, ρ, F, ok0, q⟩ => (ps_setLc hc hN hy hyl hsw hi ok hg ht he hs).run pins s σ H D I (tLcO_ok (fun i h1 h2 => hk i h1 (by rw [← I.len]; exact h2)) ⟨Z, ρ, F, ok0, rV_of q fun t ρ' v H' Z' F' Ft o w n sp a q => by
    obtain ⟨F2, o2, s2⟩ := o.assign i w n sp
    exact q _ H' Z' F2 o2 (a.to s2) (kept_set hk0)⟩)⟩
end
end VL

end

section
set_option Elab.async false
set_option linter.all false
set_option maxRecDepth 100000
set_option maxHeartbeats 4000000
namespace VL
open PySem PySem.Spec PyProof.Rows L2
/-! ### x[i][k] = e, x a list of dicts -/
theorem Ok.mut2D {c : VC} {Z H : Hp} {σ : St} {ρ : Ev} {F : List Addr} {i j : Nat} {ts : List OT} {l : List (D × D)} (ok : Ok c Z H σ ρ F) (hi : ρ[i]? = some (.lst ts)) (hj : ts[j]? = some (.dct l)) :
    ∃ (p : Addr) (xs : List V) (p2 : Addr) (o : Obj) (es : Array DictEntry) (ep : Nat), σ[i]? = some (some (.ref p)) ∧ H p = some (.lst xs) ∧ xs.length = ts.length ∧ xs[j]? = some (.ref p2) ∧ H p2 = some (dOb p2 o) ∧ o.ExactDict ∧ o.data = .dict es ep ∧ RpE c Z es.toList l ∧ (l.map fun p => nk p.1).Nodup ∧
      ∀ (o' : Obj) (es' : Array DictEntry) (ep' : Nat) (l' : List (D × D)), o'.ExactDict → o'.data = .dict es' ep' → RpE c Z es'.toList l' → (l'.map fun p => nk p.1).Nodup →
        ∃ F', Ok c Z (upd H p2 (dOb p2 o')) σ (ρ.set i (.lst (ts.set j (.dct l')))) F' ∧ After Z H F Z (upd H p2 (dOb p2 o')) F' := by
  obtain ⟨v, Fp, G, hv, w, k, pm⟩ := ok.own.takeOut hi (fun z => nomatch z)
  cases w with
  | @lst p xs _ Fi hp lo =>
    obtain ⟨u, Fu, G', hu, wu, pu, lens⟩ := lo.lens hj
    cases wu with
    | @dct p2 o es ep _ h1 h2 h3 h4 h5 h6 =>
      refine ⟨p, xs, p2, o, es, ep, hv, hp, lo.length, hu, h1, h2, h3, h5, h6, fun o' es' ep' l' g1 g2 g3 g4 => ?_⟩
      have nd := (pm.nodup_iff).mp ok.nd
      obtain ⟨n1, n2, n3⟩ := List.nodup_append.mp nd
      obtain ⟨pFi, nFi⟩ := List.nodup_cons.mp n1
      have p2Fi : p2 ∈ Fi := pu.mem_iff.mpr (by simp)
      have np : p ≠ p2 := fun z => pFi (z ▸ p2Fi)
      have p2F : p2 ∈ F := pm.mem_iff.mpr (List.mem_append_left _ (List.mem_cons_of_mem _ p2Fi))
      have p2G : p2 ∉ G := fun z => n3 p2 (List.mem_cons_of_mem _ p2Fi) p2 z rfl
      have nG' := (pu.nodup_iff).mp nFi
      have p2G' : p2 ∉ G' := fun z => (List.nodup_append.mp nG').2.2 p2 (by simp) p2 z rfl
      obtain ⟨F6, l6, pm6⟩ := lens (upd H p2 (dOb p2 o')) (.ref p2) (.dct l') [p2] (fun q hq o ho => by rw [upd_ne (fun z : q = p2 => p2G' (z ▸ hq))]; exact ho) (.dct upd_same g1 g2 h4 g3 g4)
      have xe : xs.set j (.ref p2) = xs := by
        apply List.ext_getElem?
        intro m
        by_cases hm : j = m
        · subst hm
          rw [List.getElem?_set_self (List.getElem?_eq_some_iff.mp hu).1, hu]
        · rw [List.getElem?_set_ne hm]
      rw [xe] at l6
      have pmF : F6.Perm Fi := pm6.trans pu.symm
      have wl : Own c Z (upd H p2 (dOb p2 o')) (.ref p) (.lst (ts.set j (.dct l'))) (p :: F6) := .lst (by rw [upd_ne np]; exact hp) l6
      have k2 : OwnS c Z (upd H p2 (dOb p2 o')) σ (ρ.set i .mv) G := k.frame (Same.refl _) fun q hq u hu => by rw [upd_ne (fun z : q = p2 => p2G (z ▸ hq))]; exact hu
      have il : i < ρ.length := (List.getElem?_eq_some_iff.mp hi).1
      obtain ⟨F', k3, p3⟩ := k2.putBack (i := i) (v := .ref p) (t := .lst (ts.set j (.dct l'))) (Ft := p :: F6) (by rw [List.getElem?_set_self il]) hv wl
      rw [List.set_set] at k3
      have pmA : F'.Perm F := p3.trans ((List.Perm.append_right _ (List.Perm.cons _ pmF)).trans pm.symm)
      refine ⟨F', ⟨fun q u hu => ?_, k3, (pmA.nodup_iff).mpr ok.nd, fun q hq => ok.sep q (pmA.mem_iff.mp hq)⟩, ⟨Same.refl _, fun q u hu hq => ?_, fun q hq => .inl (pmA.mem_iff.mp hq), fun q hq => .inl hq⟩⟩
      · rw [upd_ne (fun z => by rw [z, ok.sep p2 p2F] at hu; cases hu)]
        exact ok.same q u hu
      · rw [upd_ne (fun z : q = p2 => hq (by rw [z]; exact p2F))]
        exact hu
def st2d (i : Nat) (d : D) (ts : List OT) (j : Nat) (l : List (D × D)) (k : OT) (ρ : Ev) : Out := match k with
  | .sh kd => if (kOk kd && decide (l.length < 1000000)) = true then .nx (ρ.set i (.lst (ts.set j (.dct (dput l kd d))))) else .bad
  | _ => .bad
def st2e (i : Nat) (d : D) (ts : List OT) (o : Option Nat) (f2 : Ev → Res OT) (ρ : Ev) : Out := match o with
  | some j => (match ts[j]? with
    | some (.dct l) => eS (f2 ρ) fun k ρ3 => st2d i d ts j l k ρ3
    | _ => .bad)
  | none => .bad
def st2c (i : Nat) (d : D) (k1 : OT) (o : Option OT) (f2 : Ev → Res OT) (ρ : Ev) : Out := match o, k1 with
  | some (.lst ts), .sh (.int k) => st2e i d ts (ixN ts.length k) f2 ρ
  | _, _ => .bad
def fStore2D (i : Nat) (fe f1 f2 : Ev → Res OT) : Ev → Out := fun ρ => eS (fe ρ) fun t ρ1 => st0 (slotAt ρ1 i) (eS (f1 ρ1) fun k1 ρ2 => st2c i t.d k1 (slotAt ρ2 i) f2 ρ2)
@[simp] theorem fStore2D_ap (i : Nat) (fe f1 f2 : Ev → Res OT) (ρ : Ev) : fStore2D i fe f1 f2 ρ = eS (fe ρ) fun t ρ1 => st0 (slotAt ρ1 i) (eS (f1 ρ1) fun k1 ρ2 => st2c i t.d k1 (slotAt ρ2 i) f2 ρ2) := rfl
@[simp] theorem st2c_ap (i : Nat) (d : D) (k : Int) (ts : List OT) (f2 : Ev → Res OT) (ρ : Ev) : st2c i d (.sh (.int k)) (some (.lst ts)) f2 ρ = st2e i d ts (ixN ts.length k) f2 ρ := rfl
theorem st2e_ap {i : Nat} {d : D} {ts : List OT} {j : Nat} {l : List (D × D)} {f2 : Ev → Res OT} {ρ : Ev} (h : ts[j]? = some (.dct l)) : st2e i d ts (some j) f2 ρ = eS (f2 ρ) fun k ρ3 => st2d i d ts j l k ρ3 := by
  unfold st2e
  simp only [h]
@[simp] theorem st2d_ap (i : Nat) (d kd : D) (ts : List OT) (j : Nat) (l : List (D × D)) (ρ : Ev) : st2d i d ts j l (.sh kd) ρ = if (kOk kd && decide (l.length < 1000000)) = true then .nx (ρ.set i (.lst (ts.set j (.dct (dput l kd d))))) else .bad := rfl
section
variable {X : Cx} {xa : Str → Option Addr} {E : XS} {kp : List Nat} {pu p1 p2 : Bool} {e a b : Expr} {es : List Expr} {pos : Pos}
theorem vs_store2D {i : Nat} {x : Str} {ix ix2 : Expr} {fe f1 f2 : Ev → Res OT} {npos spos spos2 : Pos} (hu : X.A.units + 9 < cLine) (hv : PE X (.Name x npos) (tVar i)) (he : VE X xa E p1 e fe) (h1 : VE X xa E p2 ix f1) (h2 : VE X xa E true ix2 f2) (hix : PlainIx ix)
    (ha : ∀ v, assign (.Subscript (.Subscript (.Name x npos) ix spos) ix2 spos2) X.env v = (do
      let ov ← holding [v] (eval (.Subscript (.Name x npos) ix spos) X.env)
      let iv ← holding [v, ov] (eval ix2 X.env)
      standAt spos2
      holding [v, ov, iv] (setItem ov iv v)
      release [v, ov, iv] []) := by intro _; rfl)
    (hs : swapsWithSole [.Subscript (.Subscript (.Name x npos) ix spos) ix2 spos2] e pos.line X.env = pure false := by rfl) (hw : swappedStores [.Subscript (.Subscript (.Name x npos) ix spos) ix2 spos2] e X.env = pure none := by rfl)
    (hz : (assignEach [.Subscript (.Subscript (.Name x npos) ix spos) ix2 spos2] X.env).map (·.2) = [assign (.Subscript (.Subscript (.Name x npos) ix spos) ix2 spos2) X.env] := by rfl) :
    VS X xa E kp (.Assign [.Subscript (.Subscript (.Name x npos) ix spos) ix2 spos2] e pos) (fStore2D i fe f1 f2) := (ps_asg he (pg_sub (pe_ix ix_list hv h1 hix) h2 (set_dct hu) ha) hs hw hz).imp fun D σ H ⟨Z, ρ, F, ok, q⟩ =>
  ⟨Z, ρ, F, ok, rV_of q fun t ρ1 v H1 Z1 F1 Ft o1 w1 n1 sp1 a1 q => by
    cases e1 : slotAt ρ1 i with
    | none => rw [e1] at q; exact q.elim
    | some t1 =>
      rw [e1, st0_some] at q
      obtain ⟨g1, g2⟩ := slotAt_eq e1
      obtain ⟨v0, F0, G0, hv0, _⟩ := o1.own.takeOut g1 g2
      obtain ⟨o1', r1, fz⟩ := o1.frozen w1 n1 sp1
      have a1' := fz a1
      refine ⟨v0, hv0, frz Z1 H1 Ft, ρ1, F1, o1', ?_⟩
      cases r2 : f1 ρ1 with
      | bad => rw [r2] at q; exact q
      | exc x ρ' =>
        rw [r2] at q
        exact fun cls d H' Z' F' o xr a => q cls d σ H' Z' F' o xr (a1'.trans a) (Kept.refl _ _)
      | ok kt ρ2 =>
        rw [r2, eS_ok] at q
        intro iv H2 Z2 F2 Fk o2 w2 n2 sp2 a2 _
        unfold st2c at q
        split at q
        · rename_i ts k e2
          have ei := int_read w2
          subst ei
          unfold st2e at q
          split at q
          · rename_i j hj
            split at q
            · rename_i l hl
              obtain ⟨h3, h4⟩ := slotAt_eq e2
              obtain ⟨p, xs, pd, ob, es, ep, hs', hp, hlen, hx, _⟩ := o2.mut2D h3 hl
              rw [hv0] at hs'
              cases hs'
              refine ⟨p, xs, k, .ref pd, rfl, rfl, SqL.of hp, ?_, ?_⟩
              · unfold atI
                rw [hlen, hj, Option.bind_some]
                exact hx
              refine ⟨Z2, ρ2, F2, o2, ?_⟩
              cases r3 : f2 ρ2 with
              | bad => rw [r3] at q; exact q
              | exc x ρ' =>
                rw [r3] at q
                exact fun cls d H' Z' F' o xr a => q cls d σ H' Z' F' o xr (a1'.trans (a2.less.trans a)) (Kept.refl _ _)
              | ok k2 ρ3 =>
                rw [r3, eS_ok] at q
                intro iv2 H3 Z3 F3 Fk3 o3 w3 n3 sp3 a3 kk3
                obtain ⟨sm, e3⟩ := kk3 rfl
                subst e3
                unfold st2d at q
                split at q
                · rename_i kd
                  split at q
                  · rename_i hg
                    rw [Bool.and_eq_true, decide_eq_true_eq] at hg
                    cases w3 with
                    | sh rk =>
                      obtain ⟨p', xs', pd', ob', es', ep', hs2, hp', hlen', hx', x1, x2, x3, x4, x5, go⟩ := o3.mut2D h3 hl
                      rw [hv0] at hs2
                      cases hs2
                      have ex : xs' = xs := by
                        have z := sm p _ hp
                        rw [hp'] at z
                        cases z; rfl
                      subst ex
                      rw [hx] at hx'
                      cases hx'
                      refine ⟨pd, ob', es', ep', l, Z3, kd, t.d, rfl, o3.same, x1, x2, x3, x4, x5, hg.2, rk, hg.1, (r1.mono a2.same).mono a3.same, fun ob2 es2 ep2 y1 y2 y3 => ?_⟩
                      obtain ⟨F', o4, a4⟩ := go ob2 es2 ep2 (dput l kd t.d) y1 y2 y3 (dput_nd x5)
                      exact q σ _ Z3 F' o4 ((a1'.trans (a2.less.trans a3.less)).trans a4) (Kept.refl _ _)
                  · exact q.elim
                · exact q.elim
            · exact q.elim
          · exact q.elim
        · exact q.elim⟩
end
end VL

end

section
set_option Elab.async false
set_option linter.all false
set_option maxRecDepth 100000
set_option maxHeartbeats 4000000
namespace VL
open PySem PySem.Spec PyProof.Rows L2
/-! ### l.extend(m), l.clear() -/
def GExtend (ts as : List OT) : Option (OT × List OT) :=
  match as with
  | [.lst us] => if ts.length + us.length ≤ 1000000 then some (.sh .none, ts ++ us) else none
  | _ => none
theorem mut_extend {c : VC} : MutP c rExtend GExtend := by
  intro Z H p xs vs ts as t ts' Fi Fs Q s hp p1 p2 l wa n e k
  unfold GExtend at e
  split at e
  · rename_i us
    cases wa with
    | @cons y _ _ _ Fa _ w wn =>
      cases wn
      cases w with
      | @lst b zs _ Fu hb lu =>
        split at e
        case isFalse => cases e
        rename_i hl
        cases e
        have p2' : p ∉ b :: Fu := fun z => p2 (List.mem_append_left _ z)
        obtain ⟨n1, n2, n3⟩ := List.nodup_append.mp n
        rw [List.append_nil] at n2 n3
        refine ⟨p, b, xs, zs, rfl, rfl, hp, hb, by rw [l.length, lu.length, sizeLine_eq]; omega, k (xs ++ zs) .non (Fi ++ Fu) [] ?_ (.sh .non) ?_ fun q hq => ?_⟩
        · exact (l.append lu).frame (Same.refl _) fun q hq o ho => by
            rw [upd_ne (fun z : q = p => by
              subst z
              exact (List.mem_append.mp hq).elim p1 fun y => p2' (List.mem_cons_of_mem _ y))]
            exact ho
        · rw [List.nil_append]
          exact List.nodup_append.mpr ⟨n1, (List.nodup_cons.mp n2).2, fun a ha b' hb' e => n3 a ha b' (List.mem_cons_of_mem _ hb') e⟩
        · rw [List.nil_append] at hq
          rcases List.mem_append.mp hq with z | z
          · exact List.mem_append_left _ z
          · exact List.mem_append_right _ (List.mem_append_left _ (List.mem_cons_of_mem _ z))
  · cases e
def rClear : V → List V → Hp → VK → Prop := fun x vs H Q => ∃ l xs, x = .ref l ∧ vs = [] ∧ H l = some (.lst xs) ∧ Q .non (upd H l (.lst []))
theorem mt_clear {X : Cx} : MtM X "list.clear" rClear := by
  intro pins s σ H x vs v us Q I rx rv ⟨l, xs, e1, e2, hH, q⟩
  subst e1 e2
  cases rx
  cases rv
  obtain ⟨z, its, n, r, hl, e⟩ := I.lstM hH
  refine call_meets F.slot_list_clear ⟨_, e, rfl⟩ F.entry_list_clear (F.args_list_clear_1 _) (AutoSeq1.list_clear_list_0 l its.toArray n (by rw [List.size_toArray]; omega)) ⟨e, ?_⟩
  exact ⟨.non, _, I.lset (its' := []) hH e (by simp) .nil (Nat.zero_le _), rfl, q⟩
def GClear (ts as : List OT) : Option (OT × List OT) := match as with
  | [] => some (.sh .none, [])
  | _ => none
theorem mut_clear {c : VC} : MutP c rClear GClear := by
  intro Z H p xs vs ts as t ts' Fi Fs Q s hp p1 p2 l wa n e k
  unfold GClear at e
  split at e
  · cases e
    cases wa
    exact ⟨p, xs, rfl, rfl, hp, k [] .non [] [] .nil (.sh .non) List.nodup_nil fun q hq => nomatch hq⟩
  · cases e
section
variable {X : Cx} {xa : Str → Option Addr} {E : XS} {e : Expr}
theorem ve_extend {i : Nat} {x : Str} {fa : Ev → Res (List Arg)} {apos cpos npos : Pos} (hv : PE X (.Name x npos) (tVar i)) (ha : VA X xa E [e] fa)
    (hbase : attributeBase (.Name x npos) "extend" X.env (eval (.Name x npos) X.env) = eval (.Name x npos) X.env := by rfl)
    (hfew : ((backTo cpos (starEach [e] X.env)).all (fun x => !x.1) && (backToKw cpos (keywordEach [] X.env)).all (fun x => x.1.isSome)
      && decide ([e].length + ([] : List Keyword).length + (if ([] : List Keyword).isEmpty then 0 else 1) < 30)) = true := by rfl)
    (hline : (apos.endLine == cpos.line) = true := by rfl) (hs : starEach [e] X.env = (false, eval e X.env) :: starEach [] X.env := by rfl) (hplain : (backTo cpos (starEach [] X.env)).any (·.1) = false := by rfl) :
    VE X xa E false (.Call (.Attribute (.Name x npos) "extend" apos) [e] [] cpos) (fMeth GExtend i fa) := (pe_bm PySem.F.plainAttrs_list PySem.F.slot_list_extend PySem.F.type_list_extend mt_extend hv ha hbase hfew hline hs hplain).imp fun σ H Q q => tBM_ok mut_extend q
theorem ve_clear {i : Nat} {x : Str} {apos cpos npos : Pos} (hv : PE X (.Name x npos) (tVar i))
    (hbase : attributeBase (.Name x npos) "clear" X.env (eval (.Name x npos) X.env) = eval (.Name x npos) X.env := by rfl) (hline : (apos.endLine == cpos.line) = true := by rfl) :
    VE X xa E false (.Call (.Attribute (.Name x npos) "clear" apos) [] [] cpos) (fMeth GClear i fANil) := (pe_bm0 PySem.F.plainAttrs_list PySem.F.slot_list_clear PySem.F.type_list_clear mt_clear hv hbase hline).imp fun σ H Q q => tBM0_ok mut_clear q
/-- what is never come to -/
theorem ve_never {pu : Bool} : VE X xa E pu e (fun _ => .bad) := ⟨fun pins s σ H Q I ⟨Z, ρ, F, ok, q⟩ => q.elim⟩
end
@[simp] theorem GExtend_o (ts us : List OT) : GExtend ts [.lst us] = if ts.length + us.length ≤ 1000000 then some (.sh .none, ts ++ us) else none := rfl
@[simp] theorem GClear_n (ts : List OT) : GClear ts [] = some (.sh .none, []) := rfl
end VL

end

section
set_option Elab.async false
set_option linter.all false
set_option maxRecDepth 100000
set_option maxHeartbeats 4000000
namespace VL
open PySem PySem.Spec PyProof.Rows L2
/-! ### d == e -/
section
variable {prog : Program} {w : World} {A : Around} {E : Value → Shared → Prop} {s : Shared}
theorem range_pop {n : Nat} {x : Nat} {r : List Nat} {i : Nat} (h : x :: r = List.range' i (n - i)) (hi : i ≤ n) : x = i ∧ i < n ∧ r = List.range' (i + 1) (n - (i + 1)) := by
  have lt : i < n := by
    apply Classical.byContradiction
    intro z
    have : n - i = 0 := by omega
    rw [this] at h
    cases h
  have e : n - i = (n - (i + 1)) + 1 := by omega
  rw [e, List.range'_succ] at h
  obtain ⟨h1, h2⟩ := List.cons.inj h
  exact ⟨h1, lt, h2⟩
theorem range_end {n i : Nat} (h : [] = List.range' i (n - i)) (hi : i ≤ n) : i = n := by
  apply Classical.byContradiction
  intro z
  have e : n - i = (n - (i + 1)) + 1 := by omega
  rw [e, List.range'_succ] at h
  cases h
theorem rk_same {nm : String} {d e : Addr} {od oe : Obj} {es us : Array DictEntry} {p q : Nat} {ks ls : List NestedKey} {g : Nat → Bool} {Q : Bool → Shared → Prop} (hu : A.units + 8 < cLine) (sd : (d == sysModules) = false) (se : (e == sysModules) = false)
    (gd : s.heap.get? d = some od) (dd : od.data = .dict es p) (Rd : RK w s.heap es ks) (ge : s.heap.get? e = some oe) (de : oe.data = .dict us q) (Re : RK w s.heap us ls) (nt : ∀ (i : Nat) (hi : i < es.size), ∀ x t, es[i].key ≠ .str x t)
    (g0 : ∀ (i : Nat) (hi : i < es.size) k, ks[i]? = some k → k ∉ ls → g i = false) (g1 : ∀ (i : Nat) (hi : i < es.size) (k : NestedKey) (j : Nat) (hj : j < us.size), ks[i]? = some k → ls[j]? = some k → SeqAt.EqAt A s es[i].val us[j].val (g i))
    (h : Q (decide (es.size = us.size) && (List.range es.size).all g) s) : wpAny (model prog w) A (Builtin.Dict.samePairs nm d e) Q E s := by
  unfold Builtin.Dict.samePairs Builtin.Dict.showsAll
  rw [if_neg (by rw [sd]; exact Bool.false_ne_true), if_neg (by rw [se]; exact Bool.false_ne_true)]
  refine wpAny_bind (wpAny_pure (wpAny_bind (wpAny_pure (wpAny_bind (wpAny_dictEntries gd dd ?_)))))
  dsimp only
  refine wpAny_bind (wpAny_dictEntries ge de ?_)
  by_cases sz : es.size = us.size
  · rw [if_neg (by rw [sz]; simp)]
    rw [decide_eq_true sz, Bool.true_and] at h
    refine wpAny_bind (wpAny_dictEpoch gd dd (wpAny_bind ?_))
    rw [Std.Legacy.Range.forIn_eq_forIn_range']
    simp only [Std.Legacy.Range.size, Nat.sub_zero, Nat.add_sub_cancel, Nat.div_one]
    refine wpAny_forIn_list _ (fun rs b t => t = s ∧ b = (none, ()) ∧ ∃ i, rs = List.range' i (es.size - i) ∧ i ≤ es.size ∧ Q ((List.range' i (es.size - i)).all g) s) _ ?_ ?_ _ _ ⟨rfl, rfl, 0, by simp, Nat.zero_le _, by rw [Nat.sub_zero, ← List.range_eq_range']; exact h⟩
    · rintro x rs b t ⟨e1, e2, i, hr, hi, hq⟩
      subst e1 e2
      obtain ⟨ex, lt, hr'⟩ := range_pop hr hi
      subst ex
      have hall : (List.range' x (es.size - x)).all g = (g x && (List.range' (x + 1) (es.size - (x + 1))).all g) := by
        rw [← hr, hr']
        rfl
      rw [hall] at hq
      obtain ⟨k, k1, k2, k3, k4⟩ := Rd.each x lt
      refine wpAny_bind (wpAny_dictEntries gd dd ?_)
      rw [Array.getElem?_eq_getElem lt]
      show wpAny _ _ (holding [es[x].key, es[x].val] _ >>= _) _ _ _
      rw [k4]
      refine wpAny_bind (wpAny_holding (wpAny_bind (rk_find hu k2 k3 (nt x lt) ge de Re (fun z => ?_) fun j ej => ?_)))
      · rw [g0 x lt k k1 z, Bool.false_and] at hq
        exact wpAny_pure (w_ite (fun _ => wpAny_pure (wpAny_pure hq)) fun z => absurd rfl z)
      · have hj : j < us.size := by rw [Re.len]; exact (List.getElem?_eq_some_iff.mp ej).1
        refine wpAny_bind (wpAny_dictEntries ge de ?_)
        rw [Array.getElem?_eq_getElem hj]
        refine wpAny_holding (g1 x lt k j hj k1 ej prog w _ _ ?_)
        cases hg : g x with
        | false =>
          rw [hg, Bool.false_and] at hq
          exact w_ite (fun _ => wpAny_pure (wpAny_pure hq)) fun z => absurd rfl z
        | true =>
          rw [hg, Bool.true_and] at hq
          refine w_ite (fun z => Bool.noConfusion z) fun _ => wpAny_bind (wpAny_dictEpoch gd dd (w_ite (fun z => by simp at z) fun _ => ?_))
          exact wpAny_pure ⟨rfl, rfl, x + 1, hr', lt, hq⟩
    · rintro b t ⟨e1, e2, i, hr, hi, hq⟩
      subst e1 e2
      have ei := range_end hr hi
      subst ei
      rw [Nat.sub_self] at hq
      exact wpAny_pure hq
  · rw [if_pos (by simpa using sz)]
    rw [decide_eq_false sz, Bool.false_and] at h
    exact wpAny_bind (wpAny_rule (wpAny_pure h))
theorem rk_eq {ne : Bool} {d e : Addr} {od oe : Obj} {es us : Array DictEntry} {p q : Nat} {ks ls : List NestedKey} {g : Nat → Bool} {Q : Value → Shared → Prop} (hu : A.units + 9 < cLine) (sd : (d == sysModules) = false) (se : (e == sysModules) = false)
    (gd : s.heap.get? d = some od) (xd : od.ExactDict) (dd : od.data = .dict es p) (Rd : RK w s.heap es ks) (ge : s.heap.get? e = some oe) (xe : oe.ExactDict) (de : oe.data = .dict us q) (Re : RK w s.heap us ls) (nt : ∀ (i : Nat) (hi : i < es.size), ∀ x t, es[i].key ≠ .str x t)
    (g0 : ∀ (i : Nat) (hi : i < es.size) k, ks[i]? = some k → k ∉ ls → g i = false) (g1 : ∀ (i : Nat) (hi : i < es.size) (k : NestedKey) (j : Nat) (hj : j < us.size), ks[i]? = some k → ls[j]? = some k → SeqAt.EqAt A.in1 s es[i].val us[j].val (g i))
    (h : Q (.bool (ne != (decide (es.size = us.size) && (List.range es.size).all g))) s) : wpAny (model prog w) A (compareOp (if ne = true then .NotEq else .Eq) (.ref d) (.ref e)) Q E s := by
  have td := ex_ty gd xd
  have te := ex_ty ge xe
  have hu1 : A.in1.units + 8 < cLine := by show A.units + 1 + 8 < cLine; omega
  cases ne with
  | false =>
    refine wpAny_richCompare_same_room (op := .Eq) td te F.slot_dict_eq (wpAny_call_entry F.slot_dict_eq td F.entry_dict_eq ?_ (F.args_dict_eq_2 _ _)) (by omega)
    show wpAny _ _ (Builtin.Dict.dictSlotArgs "__eq__" _ >>= _) _ _ s
    refine wpAny_bind ?_
    unfold Builtin.Dict.dictSlotArgs
    refine wpAny_bind (wpAny_notOrdered_dict td ?_)
    show wpAny _ _ (pure (Value.ref d, Value.ref e)) _ _ s
    refine wpAny_pure (wpAny_bind (wpAny_isInstance (T := "dict") te F.sub_dict_dict ?_))
    simp only [Bool.not_true, Bool.false_eq_true, if_false]
    refine wpAny_bind (wpAny_pure (wpAny_bind (wpAny_pure (wpAny_bind (rk_same hu1 sd se gd dd Rd ge de Re nt g0 g1 ?_)))))
    exact wpAny_pure ⟨_, rfl, (fun x => nomatch x), by simpa using h⟩
  | true =>
    refine wpAny_richCompare_same_room (op := .NotEq) td te F.slot_dict_ne (wpAny_call_entry F.slot_dict_ne td F.entry_dict_ne ?_ (F.args_dict_ne_2 _ _)) (by omega)
    show wpAny _ _ (Builtin.Dict.dictSlotArgs "__ne__" _ >>= _) _ _ s
    refine wpAny_bind ?_
    unfold Builtin.Dict.dictSlotArgs
    refine wpAny_bind (wpAny_notOrdered_dict td ?_)
    show wpAny _ _ (pure (Value.ref d, Value.ref e)) _ _ s
    refine wpAny_pure (wpAny_bind (wpAny_isInstance (T := "dict") te F.sub_dict_dict ?_))
    simp only [Bool.not_true, Bool.false_eq_true, if_false]
    refine wpAny_bind (wpAny_pure (wpAny_bind (wpAny_pure (wpAny_bind (rk_same hu1 sd se gd dd Rd ge de Re nt g0 g1 ?_)))))
    exact wpAny_pure ⟨_, rfl, (fun x => nomatch x), by simpa using h⟩
end
end VL

end

section
set_option Elab.async false
set_option linter.all false
set_option maxRecDepth 100000
set_option maxHeartbeats 4000000
namespace VL
open PySem PySem.Spec PyProof.Rows L2
/-! ### t[::-1] -/
theorem fm_congr {α β : Type} {f g : α → Option β} : ∀ {l : List α}, (∀ x ∈ l, f x = g x) → l.filterMap f = l.filterMap g
  | [], _ => rfl
  | x :: l, h => by
    rw [List.filterMap_cons, List.filterMap_cons, h x (List.mem_cons_self ..), fm_congr fun y hy => h y (List.mem_cons_of_mem _ hy)]
theorem back_items (xs : Array Value) : (List.range xs.size).filterMap (fun (k : Nat) => xs[(((xs.size : Int) - 1) + (k : Int) * (-1)).toNat]?) = xs.toList.reverse := by
  have e : (List.range xs.size).filterMap (fun (k : Nat) => xs[(((xs.size : Int) - 1) + (k : Int) * (-1)).toNat]?) = ((List.range xs.size).map fun k => xs.size - 1 - k).filterMap fun i => xs[i]? := by
    rw [List.filterMap_map]
    refine fm_congr fun k hk => ?_
    have := List.mem_range.mp hk
    have e1 : (((xs.size : Int) - 1) + (k : Int) * (-1)).toNat = xs.size - 1 - k := by omega
    rw [e1]
    rfl
  rw [e, PySem.W.krv_range, List.filterMap_reverse, PySem.W.krv_all]
section
variable {prog : Program} {w : World} {A : Around} {E : Value → Shared → Prop} {s : Shared}
theorem applied_back {sl : Addr} {vs : Value} {n : Nat} {Q : Int × Int × Nat → Shared → Prop} (hs : s.heap.IsSliceOf sl .none .none vs) (ps : IsPart vs (some (-1))) (h : Q ((n : Int) - 1, -1, n) s) : wpAny (model prog w) A (Builtin.Slice.sliceApplied (.ref sl) (pure (n : Int))) Q E s := by
  obtain ⟨ob, g1, g2, g3⟩ := id hs
  unfold Builtin.Slice.sliceApplied Builtin.Slice.sliceFields
  refine wpAny_bind (wpAny_bind (wpAny_field g1 g3 (x := .none) rfl (wpAny_bind (wpAny_field g1 g3 (x := .none) rfl (wpAny_bind (wpAny_field g1 g3 (x := vs) rfl (wpAny_pure ?_)))))))
  refine wpAny_bind (HT.slicePart_ ps (w_ite (fun z => by simp at z) fun _ => ?_))
  refine wpAny_bind (HT.slicePart_ .none (wpAny_bind (HT.slicePart_ .none (wpAny_bind (wpAny_pure ?_)))))
  have e : Builtin.Slice.sliceAdjust none none (-1) (n : Int) = ((n : Int) - 1, -1) := rfl
  have e2 : Builtin.Slice.slicePlaces ((n : Int) - 1) (-1) (-1) = n := by
    unfold Builtin.Slice.slicePlaces
    have h1 : ¬ ((-1 : Int) > 0) := by omega
    simp only [h1, if_false]
    split
    · rw [show (-(-1 : Int)) = 1 by omega, Int.ediv_one]; omega
    · omega
  show wpAny _ _ (match Builtin.Slice.sliceAdjust none none (-1) (n : Int) with | (lo, hi) => pure (lo, (-1 : Int), Builtin.Slice.slicePlaces lo hi (-1))) _ _ s
  rw [e]
  show wpAny _ _ (pure (((n : Int) - 1), (-1 : Int), Builtin.Slice.slicePlaces ((n : Int) - 1) (-1) (-1))) _ _ s
  rw [e2]
  exact wpAny_pure h
theorem item_back {t sl : Addr} {items : Array Value} {vs : Value} {Q : Value → Shared → Prop} (ht : IsTup s.heap t items) (hs : s.heap.IsSliceOf sl .none .none vs) (ps : IsPart vs (some (-1)))
    (h : Q (.ref s.heap.objs.size) { s with heap := s.heap.push { cls := .type "tuple", data := .seq items.toList.reverse.toArray } }) (hz : items.size ≤ sizeLine) : wpAny (model prog w) A (getItem (.ref t) (.ref sl)) Q E s := by
  have fits : sizeOk (.seq items.toList.reverse.toArray) := by
    show items.toList.reverse.toArray.size ≤ sizeLine
    rw [List.size_toArray, List.length_reverse, Array.length_toList]
    exact hz
  obtain ⟨ob, g1, g2, g3⟩ := id hs
  have tsl : s.TypeIs (.ref sl) "slice" := ⟨ob, g1, g2⟩
  unfold getItem
  try with_reducible refine wpAny_holding ?_
  first | refine wpAny_bind (wpAny_pure ?_) | skip
  refine wpAny_bind (wpAny_sequenceKey ht.typeIs (by decide) ?_)
  refine wpAny_bind (wpAny_callSpecial?_slot (name := Str.ofString "__getitem__") ht.typeIs slot_tuple_getitem (wpAny_call_entry slot_tuple_getitem ht.typeIs entry_tuple_getitem ?_ (args_tuple_getitem _ _)))
  show wpAny _ _ (Builtin.Tuple.tupleItemsOf (.ref t) >>= _) _ _ s
  refine wpAny_bind (tupleItemsOf_ ht (wpAny_bind (wpAny_typeOf tsl ?_)))
  rw [if_pos (by decide)]
  refine wpAny_bind (applied_back hs ps ?_)
  refine w_ite (fun z => by simp at z) fun _ => ?_
  rw [back_items]
  first
    | exact wpAny_bind (m := Builtin.Tuple.tupleExact _) (wpAny_newObj_type (wpAny_pure ⟨_, rfl, wpAny_pure h⟩) fits)
    | exact wpAny_bind (m := Builtin.Tuple.tupleExact _) (wpAny_newObj_type (wpAny_bind (wpAny_pure (wpAny_pure ⟨_, rfl, wpAny_pure h⟩))) fits)
    | exact wpAny_bind (wpAny_bind (m := Builtin.Tuple.tupleExact _) (wpAny_newObj_type (wpAny_pure (wpAny_pure ⟨_, rfl, wpAny_pure h⟩)) fits))
    | exact wpAny_bind (wpAny_bind (m := Builtin.Tuple.tupleExact _) (wpAny_newObj_type (wpAny_pure ⟨_, rfl, wpAny_pure h⟩) fits))
end
section
variable {X : Cx} {xa : Str → Option Addr} {E : XS} {pu : Bool} {e : Expr}
def rRev (K : PySem.W.Frag) : V → Hp → VK → Prop := fun x H Q => ∃ a xs, x = .ref a ∧ ((SqL K H a xs ∧ ∀ p, H p = none → Q (.ref p) (upd H p (.lst xs.reverse))) ∨ (SqT K H a xs ∧ ∀ p o, H p = none → o.dict = none → Q (.ref p) (upd H p (.frz o (.tup xs.reverse)))))
theorem pe_rev {te : TE} {k : Nat} {p1 p2 p3 pos : Pos} (he : PE X e te) : PE X (.Subscript e (.Slice none none (some (.UnaryOp .USub (.Constant (.int 1) k p1) p2)) p3) pos) fun σ H Q => te σ H fun x H1 => rRev X.K x H1 Q := by
  refine ⟨fun pins s σ H Q I h => Subscript_ (thn (he.run pins s σ H _ I h) fun v t ⟨x, G, J, rx, a, xs, ex, q⟩ => ?_)⟩
  subst ex
  cases rx
  have step : PO X (some (.UnaryOp .USub (.Constant (.int 1) k p1) p2)) (tPart (tUn (rU fun i => .int (-i)) (tC (.int 1)))) := po_some (pe_un un_neg pe_int)
  refine wpAny_Slice (thn (po_none.run pins t σ G (fun o G' => o = none ∧ G' = G) J ⟨rfl, rfl⟩) fun v1 t1 ⟨o1, G1, J1, l1, q1, r1⟩ => ?_)
  subst q1 r1
  refine thn (po_none.run pins t1 σ G1 (fun o G' => o = none ∧ G' = G1) J1 ⟨rfl, rfl⟩) fun v2 t2 ⟨o2, G2, J2, l2, q2, r2⟩ => ?_
  subst q2 r2
  refine thn (step.run pins t2 σ G2 (fun o G' => o = some (-1) ∧ G' = G2) J2 ⟨1, rfl, -1, rfl, rfl, rfl⟩) fun v3 t3 ⟨o3, G3, J3, l3, q3, r3⟩ => ?_
  subst q3 r3
  have J4 : Inv X pins σ G3 { t3 with heap := t3.heap.push { cls := .type "slice", data := .fields #[v1, v2, v3] } } := J3.kept (t' := t3.toks) fun b ob z => Heap.get?_push_of_some _ z
  show wpAny (model X.prog X.w) X.A (subscriptTail e (.Slice none none (some (.UnaryOp .USub (.Constant (.int 1) k p1) p2)) p3) (.ref a) (.ref t3.heap.objs.size)) (EP X pins σ Q) X.xe { t3 with heap := t3.heap.push { cls := .type "slice", data := .fields #[v1, v2, v3] } }
  rcases q with ⟨hx, q⟩ | ⟨hx, q⟩
  · obtain ⟨its, rv, tt, hz⟩ := J4.list hx
    have n := rv.length
    refine tail_any (ops := [.ref a, .ref t3.heap.objs.size]) tt.isList.typeIs (PySem.slot_list_getitem.lookup) (wpAny_getItem_list_slice tt.isList (Heap.IsSliceOf.new _ v1 v2 v3) l1 l2 l3 (by decide) ?_ (by rw [List.size_toArray]; omega)) (by with_unfolding_all rfl)
    rw [PySem.W.krv_pick]
    refine ⟨.ref _, _, J4.laid (t' := t3.toks) (o := .lst xs.reverse) (fun b ob z => Heap.get?_push_of_some _ z) (Nat.le_refl _) ⟨by rw [List.length_reverse]; exact hz, _, 0, rv.reverse, Heap.get?_push_size _ rfl⟩, rfl, q _ (J4.hok.fresh (Nat.le_refl _))⟩
  · obtain ⟨its, rv, tt, hz⟩ := J4.tuple hx
    have n := rv.length
    cases l1
    cases l2
    refine tail_any (ops := [.ref a, .ref t3.heap.objs.size]) tt.typeIs slot_tuple_getitem.lookup (item_back tt (Heap.IsSliceOf.new _ .none .none v3) l3 ?_ (by rw [List.size_toArray]; omega)) (by with_unfolding_all rfl)
    have new : ((t3.heap.push { cls := .type "slice", data := .fields #[Value.none, Value.none, v3] }).push { cls := .type "tuple", data := .seq its.toArray.toList.reverse.toArray }).get? (t3.heap.push { cls := .type "slice", data := .fields #[Value.none, Value.none, v3] }).objs.size = _ := Heap.get?_push_size _ rfl
    exact ⟨.ref _, upd G3 _ (.frz { cls := .type "tuple", data := .seq its.toArray.toList.reverse.toArray } (.tup xs.reverse)), J4.laid (t' := t3.toks) (fun b ob z => Heap.get?_push_of_some _ z) (Nat.le_refl _) ⟨new, by show xs.reverse.length ≤ _; rw [List.length_reverse]; exact hz, its.reverse, rv.reverse, _, new, rfl, _, rfl⟩, rfl, q _ _ (J4.hok.fresh (Nat.le_refl _)) rfl⟩
def gRev (t : OT) : Option OT := match t with
  | .sh (.tuple l) => some (.sh (.tuple l.reverse))
  | t => (lItems t).map fun l => .lst (l.reverse.map .sh)
theorem RpL.rev {c : VC} {Z : Hp} : ∀ {vs : List V} {ds : List D}, RpL c Z vs ds → RpL c Z vs.reverse ds.reverse
  | _, _, .nil => .nil
  | _, _, .cons h t => by
    rw [List.reverse_cons, List.reverse_cons]
    exact t.rev.append (.cons h .nil)
theorem prim_rev {c : VC} : Prim1 c (rRev c.K) gRev := by
  intro Z H v t t' F Q s w e n
  unfold gRev at e
  split at e
  · rename_i l
    cases e
    obtain ⟨a, xs, rfl, q, r, _, k⟩ := tup_read s w (ds := l) rfl
    exact ⟨a, xs, rfl, .inr ⟨q, fun p o hp hd => n.shNew s hp (.tupF upd_same hd (r.rev.mono (same_upd (s.free hp))))⟩⟩
  · cases hl : lItems t with
    | none => rw [hl] at e; cases e
    | some l =>
      rw [hl] at e
      cases e
      obtain ⟨a, xs, rfl, q, r⟩ := lst_read s w hl
      exact ⟨a, xs, rfl, .inl ⟨q, fun p hp => n.lstNew s hp r.rev⟩⟩
theorem ve_rev {f : Ev → Res PH} {k : Nat} {p1 p2 p3 pos : Pos} (h : VP X xa E pu e f) : VE X xa E pu (.Subscript e (.Slice none none (some (.UnaryOp .USub (.Constant (.int 1) k p1) p2)) p3) pos) (fOp1 gRev f) := (pe_rev h).imp fun σ H Q ⟨Z, ρ, F, ok, q⟩ => by
  refine ⟨Z, ρ, F, ok, ?_⟩
  unfold fOp1 at q
  cases r1 : f ρ with
  | bad => rw [r1] at q; exact q
  | exc x ρ' => rw [r1] at q; exact q
  | ok h1 ρ1 =>
    rw [r1] at q
    intro v1 H1 Z1 F1 o1 w1 a1 k1
    have q1 := rV.later (pu' := true) q a1 fun z => ⟨rfl, k1 z⟩
    rw [Res.bind_ok] at q1
    cases e1 : h1.get ρ1 with
    | none => rw [e1] at q1; exact q1.elim
    | some t1 =>
      rw [e1] at q1
      obtain ⟨G1, x1⟩ := w1.read o1 e1
      have q3 : rV (cc X xa) E true Z1 H1 σ ρ1 F1 (Res.of (gRev t1) ρ1) Q := q1
      cases e3 : gRev t1 with
      | none => rw [e3] at q3; exact q3.elim
      | some t =>
        rw [e3] at q3
        exact prim_rev Z1 H1 v1 t1 G1 t Q o1.same x1 e3 (o1.newR q3)
@[simp] theorem gRev_t (l : List D) : gRev (.sh (.tuple l)) = some (.sh (.tuple l.reverse)) := rfl
@[simp] theorem gRev_l (l : List D) : gRev (.sh (.list l)) = some (.lst (l.reverse.map .sh)) := rfl
end
end VL

end

section

end

section
set_option Elab.async false
set_option linter.all false
set_option maxRecDepth 100000
set_option maxHeartbeats 4000000
namespace Gen
open PySem PySem.Spec PyProof.Rows L2 VL
noncomputable section
def c_RANKS : List (Str × D) := [("sum", (.int 1)), ("product", (.int 2))]
def c_TURNED : D := .tuple [(.str "less"), (.str "share")]
def c_KINDS_forms : List (Str × D) := [("plus", (.str "sum")), ("less", (.str "sum")), ("times", (.str "product")), ("share", (.str "product"))]
def c_FIGURES : D := (.str "0123456789")
def c_SIGNS : D := .tuple [(.str "+"), (.str "-"), (.str "*"), (.str "/")]
def c_key_of_1 (rec : List OT → FRes) : Ev → Res OT :=
    (fComp [4] (fSeqI (fPv 3)) (gNm 4) fYes (fCall rec (fACons (fArgV 4) fANil)))
def c_key_of_2 (rec : List OT → FRes) : Ev → Res OT :=
    (fComp [4] (fSeqI (fPv 2)) (gNm 4) fYes (fCall rec (fACons (fArgV 4) fANil)))
def b_key_of (rec : List OT → FRes) : Ev → Out :=
    (fSeq (fIfS (fB (fIsi "int" (fPv 0)))
    (fRet (fOps gTupN (fPsCons false (fPh (fC (.int 0))) (fPsCons true (fPh (fVar 0)) fPsNil))))
    fNx)
    (fSeq (fAsg (gTp 3 (gsCons (gNm 1) (gsCons (gNm 2) (gsCons (gNm 3) gsNil)))) (fVar 0))
    (fRet (fOps gTupN (fPsCons false (fPh (fOp1 (gTab c_RANKS) (fPv 1))) (fPsCons false (fPh (fOps gTuple (fPsCons true (fPh (c_key_of_2 rec)) fPsNil))) (fPsCons true (fPh (fOps gTuple (fPsCons true (fPh (c_key_of_1 rec)) fPsNil))) fPsNil)))))))
def F_key_of : Nat → List OT → FRes
  | 0 => fun _ => .bad
  | n + 1 => fDef 1 4 [0] (b_key_of (F_key_of n))
def b_in_order : Ev → Out :=
    (fRet (fOps gTuple (fPsCons true (fPh (fOps (gSortL (keyF (F_key_of 10))) (fPsCons true (fPv 0) fPsNil))) fPsNil)))
def F_in_order : List OT → FRes := fDef 1 0 [0] b_in_order
def b_parts_by : Ev → Out :=
    (fSeq (fIfS (fAnd (fNot (fB (fIsi "int" (fPv 0)))) (fB (fOp2 gEq true (fPix true (fPv 0) (fPh (fC (.int 0)))) (fPv 1))))
    (fRet (fOps gTupN (fPsCons true (fPh (fOp2 gIx true (fPv 0) (fPh (fC (.int 1))))) (fPsCons true (fPh (fOp2 gIx true (fPv 0) (fPh (fC (.int 2))))) fPsNil))))
    fNx)
    (fRet (fOps gTupN (fPsCons true (fPh (fOps gTupN (fPsCons true (fPh (fVar 0)) fPsNil))) (fPsCons true (fPh (fOps gTupN fPsNil)) fPsNil)))))
def F_parts_by : List OT → FRes := fDef 2 0 [0, 1] b_parts_by
def b_form_of (rec : List OT → FRes) : Ev → Out :=
    (fSeq (fIfS (fB (fIsi "int" (fPv 0)))
    (fRet (fVar 0))
    fNx)
    (fSeq (fAsg (gTp 3 (gsCons (gNm 1) (gsCons (gNm 2) (gsCons (gNm 3) gsNil)))) (fVar 0))
    (fSeq (fSet 4 (fOp1 (gTab c_KINDS_forms) (fPv 1)))
    (fSeq (fAsg (gTp 2 (gsCons (gNm 5) (gsCons (gNm 6) gsNil))) (fCall F_parts_by (fACons (fArgE (fCall rec (fACons (fArgV 2) fANil))) (fACons (fArgV 4) fANil))))
    (fSeq (fAsg (gTp 2 (gsCons (gNm 7) (gsCons (gNm 8) gsNil))) (fCall F_parts_by (fACons (fArgE (fCall rec (fACons (fArgV 3) fANil))) (fACons (fArgV 4) fANil))))
    (fSeq (fIfS (fB (fOp2 gIn true (fPv 1) (fPh (fC c_TURNED))))
    (fPar 7 8 (fACons (fArgE (fVar 8)) (fACons (fArgE (fVar 7)) fANil)))
    fNx)
    (fRet (fOps gTupN (fPsCons false (fPh (fVar 4)) (fPsCons false (fPh (fCall F_in_order (fACons (fArgE (fOp2 gAdd true (fPv 5) (fPv 7))) fANil))) (fPsCons true (fPh (fCall F_in_order (fACons (fArgE (fOp2 gAdd true (fPv 6) (fPv 8))) fANil))) fPsNil)))))))))))
def F_form_of : Nat → List OT → FRes
  | 0 => fun _ => .bad
  | n + 1 => fDef 1 8 [0] (b_form_of (F_form_of n))
def b_are_twins : Ev → Out :=
    (fRet (fOp2 gEq false (fPh (fCall (F_form_of 10) (fACons (fArgV 0) fANil))) (fPh (fCall (F_form_of 10) (fACons (fArgV 1) fANil)))))
def F_are_twins : List OT → FRes := fDef 2 0 [0, 1] b_are_twins
def l_pieces_of_1 : Ev → Out :=
    (fAugS gAddI 3 (fPh (fC (.int 1))))
def l_pieces_of_2 : Ev → Out :=
    (fSeq (fSet 3 (fC (.int 1)))
    (fSeq (fIfS (fB (fOp2 gIn true (fPix true (fPv 0) (fPv 2)) (fPh (fC c_FIGURES))))
    (fWhile (fAnd (fB (fOp2 gLt true (fPh (fOp2 gAdd true (fPv 2) (fPv 3))) (fPh (fOps gLen (fPsCons true (fPv 0) fPsNil))))) (fB (fOp2 gIn true (fPix true (fPv 0) (fPh (fOp2 gAdd true (fPv 2) (fPv 3)))) (fPh (fC c_FIGURES)))))
    l_pieces_of_1 1000)
    (fIfS (fB (fOp2 gEq true (fPix true (fPv 0) (fPv 2)) (fPh (fC (.str " ")))))
    (fSet 3 (fC (.int 3)))
    fNx))
    (fSeq (fExpr (fMeth GAppend 1 (fACons (fArgE (fSl false (fPv 0) (fOSome (fVar 2)) (fOSome (fOp2 gAdd true (fPv 2) (fPv 3))))) fANil)))
    (fAugS gAddI 2 (fPv 3)))))
def b_pieces_of : Ev → Out :=
    (fSeq (fSet 1 (fOps gLstN fPsNil))
    (fSeq (fSet 2 (fC (.int 0)))
    (fSeq (fWhile (fB (fOp2 gLt true (fPv 2) (fPh (fOps gLen (fPsCons true (fPv 0) fPsNil)))))
    l_pieces_of_2 1000)
    (fRet (fVar 1)))))
def F_pieces_of : List OT → FRes := fDef 1 3 [0] b_pieces_of
def b_is_number : Ev → Out :=
    (fRet (fAndV (fOp2 gIn true (fPix true (fPv 0) (fPh (fC (.int 0)))) (fPh (fC c_FIGURES))) (fOp2 gNe true (fPix true (fPv 0) (fPh (fC (.int 0)))) (fPh (fC (.str "0"))))))
def F_is_number : List OT → FRes := fDef 1 0 [0] b_is_number
def b_is_sign : Ev → Out :=
    (fRet (fAndV (fOp2 gEq true (fPh (fOps gLen (fPsCons true (fPv 0) fPsNil))) (fPh (fC (.int 3)))) (fAndV (fOp2 gEq true (fPix true (fPv 0) (fPh (fC (.int 0)))) (fPh (fC (.str " ")))) (fAndV (fOp2 gEq true (fPix true (fPv 0) (fPh (fC (.int 2)))) (fPh (fC (.str " ")))) (fOp2 gIn true (fPix true (fPv 0) (fPh (fC (.int 1)))) (fPh (fC c_SIGNS)))))))
def F_is_sign : List OT → FRes := fDef 1 0 [0] b_is_sign
/-! what class Pieces and read_way mean -/
inductive PR where
  | bad
  | ok (d : D) (l : List Str)
  | no
def tk (l : List Str) : Str × List Str := match l with
  | [] => (" ", [])
  | x :: r => (x, r)
def isBo (r : FRes) : Option Bool := match r with
  | .ok (.sh (.bool b)) _ => some b
  | _ => none
def tStr (t : OT) : Option Str := match t with
  | .sh (.str w) => some w
  | _ => none
def sgnW (s : Str) : Option Str := (gIx (.sh (.str s)) (.sh (.int 1))).bind fun t1 => (gCIx ["+", "-", "*", "/"] [t1]).bind fun t2 => (gIx (.sh (.tuple [.str "plus", .str "less", .str "times", .str "share"])) t2).bind tStr
def F_two (part : List Str → PR) (l : List Str) (d : D) : PR := match isBo (F_is_sign [.sh (.str (tk l).1)]) with
  | some true => (match sgnW (tk l).1 with
    | some w => (match part (tk l).2 with
      | .ok d2 l2 => .ok (.tuple [.str w, d, d2]) l2
      | r => r)
    | none => .bad)
  | some false => .no
  | none => .bad
def F_part : Nat → List Str → PR
  | 0, _ => .bad
  | n + 1, l => match isBo (F_is_number [.sh (.str (tk l).1)]) with
    | some true => if (tk l).1.length ≤ 640 then (match intText? (tk l).1 with
      | some i => .ok (.int i) (tk l).2
      | none => .bad) else .bad
    | some false => if (tk l).1 = "(" then (match F_part n (tk l).2 with
      | .ok d l2 => (match F_two (F_part n) l2 d with
        | .ok d' l3 => if (tk l3).1 = ")" then .ok d' (tk l3).2 else .no
        | r => r)
      | r => r) else .no
    | none => .bad
def rdEnd (x : Str) (r : PR) : FRes := match r with
  | .ok d [] => .ok (.sh d) [.sh (.str x)]
  | .ok _ (_ :: _) => .exc ⟨"NoText", none⟩ [.sh (.str x)]
  | .no => .exc ⟨"NoText", none⟩ [.sh (.str x)]
  | .bad => .bad
def rdGo (n : Nat) (x : Str) (r : PR) : FRes := match r with
  | .ok (.int i) [] => .ok (.sh (.int i)) [.sh (.str x)]
  | .ok _ [] => .exc ⟨"NoText", none⟩ [.sh (.str x)]
  | .ok d l => rdEnd x (F_two (F_part n) l d)
  | .no => .exc ⟨"NoText", none⟩ [.sh (.str x)]
  | .bad => .bad
def toksOf (r : FRes) : Option (List Str) := match r with
  | .ok (.lst ts) _ => (shs ts).bind strsOf
  | _ => none
def F_read_way (as : List OT) : FRes := match as with
  | [.sh (.str x)] => if Txt.count x "(" > 100 then .exc ⟨"NoText", none⟩ [.sh (.str x)] else (match toksOf (F_pieces_of [.sh (.str x)]) with
    | some l => if l.all PyData.strOk = true then rdGo 12 x (F_part 12 l) else .bad
    | none => .bad)
  | _ => .bad
def b_need : Ev → Out :=
    (fIfS (fNot (fB (fVar 0)))
    fNever
    fNx)
def F_need : List OT → FRes := fDef 1 0 [0] b_need
def l__law_draw_1 : Ev → Out :=
    (fSet 3 (fOp2 gFdiv true (fPv 3) (fPh (fC (.int 1000003)))))
def b__law_draw : Ev → Out :=
    (fSeq (fSet 2 (fOps gMax2 (fPsCons true (fPh (fC (.int 1))) (fPsCons true (fPh (fOps gLen (fPsCons true (fPv 0) fPsNil))) fPsNil))))
    (fSeq (fSet 3 (fOp2 gIx true (fPh (fOp2 gAdd true (fPh (fOps gList (fPsCons true (fPv 0) fPsNil))) (fPh (fOps gLstN (fPsCons true (fPh (fC (.int 0))) fPsNil))))) (fPh (fOp2 gMod true (fPv 1) (fPv 2)))))
    (fSeq (fIfS (fOr (fB (fOp2 gGe true (fPv 3) (fPh (fOp2 gPow true (fPh (fC (.int 10))) (fPh (fC (.int 18))))))) (fB (fOp2 gLe true (fPv 3) (fPh (fOp1 gNeg (fPh (fOp2 gPow true (fPh (fC (.int 10))) (fPh (fC (.int 18))))))))))
    (fSeq (fFor (fRng1 (fPsCons true (fPh (fOps gMin2 (fPsCons true (fPh (fOp2 gFdiv true (fPv 1) (fPv 2))) (fPsCons true (fPh (fC (.int 60))) fPsNil)))) fPsNil)) (gNm 4)
    l__law_draw_1)
    (fRet (fOp2 gMod true (fPv 3) (fPh (fC (.int 1000003))))))
    fNx)
    (fSeq (fSet 5 (fOp2 gMod true (fPh (fOp2 gMul true (fPh (fOp2 gAdd true (fPh (fOp2 gAdd true (fPh (fOp2 gMod true (fPv 3) (fPh (fC (.int 2147483629))))) (fPh (fC (.int 17))))) (fPh (fOp2 gMul true (fPh (fC (.int 68209))) (fPh (fOp2 gFdiv true (fPv 1) (fPv 2))))))) (fPh (fC (.int 47791))))) (fPh (fC (.int 2147483629)))))
    (fSeq (fSet 5 (fOp2 gMod true (fPh (fOp2 gMul true (fPv 5) (fPv 5))) (fPh (fC (.int 2147483587)))))
    (fRet (fOp2 gMod true (fPh (fOp2 gMul true (fPv 5) (fPh (fC (.int 38839))))) (fPh (fC (.int 2147483579))))))))))
def F__law_draw : List OT → FRes := fDef 2 4 [0, 1] b__law_draw
def b__law_way (rec : List OT → FRes) : Ev → Out :=
    (fSeq (fSet 3 (fCall F__law_draw (fACons (fArgV 0) (fACons (fArgE (fOp2 gAdd true (fPh (fC (.int 300))) (fPv 1))) fANil))))
    (fSeq (fIfS (fOr (fB (fOp2 gEq true (fPv 2) (fPh (fC (.int 0))))) (fB (fOp2 gEq true (fPh (fOp2 gMod true (fPv 3) (fPh (fC (.int 8))))) (fPh (fC (.int 7))))))
    (fRet (fOp2 gAdd true (fPh (fC (.int 1))) (fPh (fOp2 gMod true (fPh (fOp2 gFdiv true (fPv 3) (fPh (fC (.int 8))))) (fPix true (fPh (fOps gTupN (fPsCons true (fPh (fC (.int 9))) (fPsCons true (fPh (fC (.int 30))) (fPsCons true (fPh (fC (.int 999))) fPsNil))))) (fPh (fOp2 gMod true (fPh (fOp2 gFdiv true (fPv 3) (fPh (fC (.int 64))))) (fPh (fC (.int 3))))))))))
    fNx)
    (fSeq (fSet 4 (fOp2 gIx true (fPh (fOps gTupN (fPsCons true (fPh (fC (.str "plus"))) (fPsCons true (fPh (fC (.str "less"))) (fPsCons true (fPh (fC (.str "times"))) (fPsCons true (fPh (fC (.str "share"))) (fPsCons true (fPh (fC (.str "plus"))) (fPsCons true (fPh (fC (.str "times"))) (fPsCons true (fPh (fC (.str "less"))) fPsNil))))))))) (fPh (fOp2 gMod true (fPv 3) (fPh (fC (.int 7)))))))
    (fRet (fOps gTupN (fPsCons false (fPh (fVar 4)) (fPsCons false (fPh (fCall rec (fACons (fArgV 0) (fACons (fArgE (fOp2 gAdd true (fPh (fOp2 gMul true (fPh (fC (.int 2))) (fPv 1))) (fPh (fC (.int 1))))) (fACons (fArgE (fOp2 gSub true (fPv 2) (fPh (fC (.int 1))))) fANil))))) (fPsCons true (fPh (fCall rec (fACons (fArgV 0) (fACons (fArgE (fOp2 gAdd true (fPh (fOp2 gMul true (fPh (fC (.int 2))) (fPv 1))) (fPh (fC (.int 2))))) (fACons (fArgE (fOp2 gSub true (fPv 2) (fPh (fC (.int 1))))) fANil))))) fPsNil))))))))
def F__law_way : Nat → List OT → FRes
  | 0 => fun _ => .bad
  | n + 1 => fDef 3 2 [0, 1, 2] (b__law_way (F__law_way n))
def b__law_text (rec : List OT → FRes) : Ev → Out :=
    (fSeq (fIfS (fB (fIsi "int" (fPv 0)))
    (fRet (fOps gStrI (fPsCons true (fPv 0) fPsNil)))
    fNx)
    (fSeq (fSet 2 (fDix [("plus", "+"), ("less", "-"), ("times", "*"), ("share", "/")] (fPix true (fPv 0) (fPh (fC (.int 0))))))
    (fSeq (fSet 3 (fOp2 gAdd false (fPh (fOp2 gAdd true (fPh (fOp2 gAdd true (fPh (fOp2 gAdd true (fPh (fCall rec (fACons (fArgE (fOp2 gIx true (fPv 0) (fPh (fC (.int 1))))) (fACons (fArgE (fC (.bool true))) fANil)))) (fPh (fC (.str " "))))) (fPv 2))) (fPh (fC (.str " "))))) (fPh (fCall rec (fACons (fArgE (fOp2 gIx true (fPv 0) (fPh (fC (.int 2))))) (fACons (fArgE (fC (.bool true))) fANil))))))
    (fSeq (fIfS (fB (fVar 1))
    (fRet (fOp2 gAdd true (fPh (fOp2 gAdd true (fPh (fC (.str "("))) (fPv 3))) (fPh (fC (.str ")")))))
    fNx)
    (fRet (fVar 3))))))
def F__law_text : Nat → List OT → FRes
  | 0 => fun _ => .bad
  | n + 1 => fDef 2 2 [0, 1] (b__law_text (F__law_text n))
def b__law_numbers (rec : List OT → FRes) : Ev → Out :=
    (fSeq (fIfS (fB (fIsi "int" (fPv 0)))
    (fRet (fOps gLstN (fPsCons true (fPh (fVar 0)) fPsNil)))
    fNx)
    (fRet (fOp2 gAdd false (fPh (fCall rec (fACons (fArgE (fOp2 gIx true (fPv 0) (fPh (fC (.int 1))))) fANil))) (fPh (fCall rec (fACons (fArgE (fOp2 gIx true (fPv 0) (fPh (fC (.int 2))))) fANil))))))
def F__law_numbers : Nat → List OT → FRes
  | 0 => fun _ => .bad
  | n + 1 => fDef 1 0 [0] (b__law_numbers (F__law_numbers n))
def b__law_turned (rec : List OT → FRes) : Ev → Out :=
    (fSeq (fIfS (fB (fIsi "int" (fPv 2)))
    (fRet (fVar 2))
    fNx)
    (fSeq (fSet 3 (fOp2 gIx true (fPv 2) (fPh (fC (.int 0)))))
    (fSeq (fSet 4 (fCall rec (fACons (fArgV 0) (fACons (fArgE (fOp2 gAdd true (fPh (fOp2 gMul true (fPh (fC (.int 2))) (fPv 1))) (fPh (fC (.int 1))))) (fACons (fArgE (fOp2 gIx true (fPv 2) (fPh (fC (.int 1))))) fANil)))))
    (fSeq (fSet 5 (fCall rec (fACons (fArgV 0) (fACons (fArgE (fOp2 gAdd true (fPh (fOp2 gMul true (fPh (fC (.int 2))) (fPv 1))) (fPh (fC (.int 2))))) (fACons (fArgE (fOp2 gIx true (fPv 2) (fPh (fC (.int 2))))) fANil)))))
    (fSeq (fSet 6 (fOp2 gMod true (fPh (fCall F__law_draw (fACons (fArgV 0) (fACons (fArgE (fOp2 gAdd true (fPh (fC (.int 700))) (fPv 1))) fANil)))) (fPh (fC (.int 4)))))
    (fSeq (fIfS (fB (fOp2 gIn true (fPv 3) (fPh (fOps gTupN (fPsCons true (fPh (fC (.str "plus"))) (fPsCons true (fPh (fC (.str "times"))) fPsNil))))))
    (fSeq (fIfS (fB (fOp2 gEq true (fPh (fOp2 gMod true (fPv 6) (fPh (fC (.int 2))))) (fPh (fC (.int 1)))))
    (fRet (fOps gTupN (fPsCons false (fPh (fVar 3)) (fPsCons false (fPh (fVar 5)) (fPsCons true (fPh (fVar 4)) fPsNil)))))
    fNx)
    (fSeq (fIfS (fAnd (fB (fOp2 gEq true (fPv 6) (fPh (fC (.int 2))))) (fAnd (fNot (fB (fIsi "int" (fPv 5)))) (fB (fOp2 gEq true (fPix true (fPv 5) (fPh (fC (.int 0)))) (fPv 3)))))
    (fRet (fOps gTupN (fPsCons false (fPh (fVar 3)) (fPsCons true (fPh (fOps gTupN (fPsCons false (fPh (fVar 3)) (fPsCons true (fPh (fVar 4)) (fPsCons true (fPh (fOp2 gIx true (fPv 5) (fPh (fC (.int 1))))) fPsNil))))) (fPsCons true (fPh (fOp2 gIx true (fPv 5) (fPh (fC (.int 2))))) fPsNil)))))
    fNx)
    (fRet (fOps gTupN (fPsCons false (fPh (fVar 3)) (fPsCons false (fPh (fVar 4)) (fPsCons true (fPh (fVar 5)) fPsNil)))))))
    fNx)
    (fSeq (fSet 7 (fDix [("less", "plus"), ("share", "times")] (fPv 3)))
    (fSeq (fIfS (fAnd (fNot (fB (fIsi "int" (fPv 5)))) (fB (fOp2 gEq true (fPix true (fPv 5) (fPh (fC (.int 0)))) (fPv 3))))
    (fRet (fOps gTupN (fPsCons false (fPh (fVar 3)) (fPsCons true (fPh (fOps gTupN (fPsCons false (fPh (fVar 7)) (fPsCons true (fPh (fVar 4)) (fPsCons true (fPh (fOp2 gIx true (fPv 5) (fPh (fC (.int 2))))) fPsNil))))) (fPsCons true (fPh (fOp2 gIx true (fPv 5) (fPh (fC (.int 1))))) fPsNil)))))
    fNx)
    (fSeq (fIfS (fAnd (fB (fOp2 gEq true (fPv 6) (fPh (fC (.int 1))))) (fAnd (fNot (fB (fIsi "int" (fPv 5)))) (fB (fOp2 gEq true (fPix true (fPv 5) (fPh (fC (.int 0)))) (fPv 7)))))
    (fRet (fOps gTupN (fPsCons false (fPh (fVar 3)) (fPsCons true (fPh (fOps gTupN (fPsCons false (fPh (fVar 3)) (fPsCons true (fPh (fVar 4)) (fPsCons true (fPh (fOp2 gIx true (fPv 5) (fPh (fC (.int 1))))) fPsNil))))) (fPsCons true (fPh (fOp2 gIx true (fPv 5) (fPh (fC (.int 2))))) fPsNil)))))
    fNx)
    (fRet (fOps gTupN (fPsCons false (fPh (fVar 3)) (fPsCons false (fPh (fVar 4)) (fPsCons true (fPh (fVar 5)) fPsNil))))))))))))))
def F__law_turned : Nat → List OT → FRes
  | 0 => fun _ => .bad
  | n + 1 => fDef 3 5 [0, 1, 2] (b__law_turned (F__law_turned n))
def b__law_other (rec : List OT → FRes) : Ev → Out :=
    (fSeq (fIfS (fB (fIsi "int" (fPv 1)))
    (fRet (fOp2 gAdd true (fPv 1) (fPh (fC (.int 1)))))
    fNx)
    (fRet (fOps gTupN (fPsCons false (fPh (fOp2 gIx true (fPv 1) (fPh (fC (.int 0))))) (fPsCons false (fPh (fOp2 gIx true (fPv 1) (fPh (fC (.int 1))))) (fPsCons true (fPh (fCall rec (fACons (fArgV 0) (fACons (fArgE (fOp2 gIx true (fPv 1) (fPh (fC (.int 2))))) fANil)))) fPsNil))))))
def F__law_other : Nat → List OT → FRes
  | 0 => fun _ => .bad
  | n + 1 => fDef 2 0 [0, 1] (b__law_other (F__law_other n))
def b__law_filled (rec : List OT → FRes) : Ev → Out :=
    (fSeq (fIfS (fB (fIsi "int" (fPv 0)))
    (fRet (fMeth GPopAt 1 (fACons (fArgE (fC (.int 0))) fANil)))
    fNx)
    (fSeq (fSet 2 (fCall rec (fACons (fArgE (fOp2 gIx true (fPv 0) (fPh (fC (.int 1))))) (fACons (fArgV 1) fANil))))
    (fRet (fOps gTupN (fPsCons false (fPh (fOp2 gIx true (fPv 0) (fPh (fC (.int 0))))) (fPsCons false (fPh (fVar 2)) (fPsCons true (fPh (fCall rec (fACons (fArgE (fOp2 gIx true (fPv 0) (fPh (fC (.int 2))))) (fACons (fArgV 1) fANil)))) fPsNil)))))))
def F__law_filled : Nat → List OT → FRes
  | 0 => fun _ => .bad
  | n + 1 => fDef 2 1 [0, 1] (b__law_filled (F__law_filled n))
def b_Desk_on_twins : Ev → Out :=
    (fSeq (fSet 2 (fMth "str" gSplit true (fPv 1) (fPsCons true (fPh (fC (.str ";"))) fPsNil)))
    (fSeq (fExpr (fCall F_need (fACons (fArgE (fOp2 gEq true (fPh (fOps gLen (fPsCons true (fPv 2) fPsNil))) (fPh (fC (.int 2))))) fANil)))
    (fRet (fOps gLstN (fPsCons true (fPh (fIf (fB (fCall F_are_twins (fACons (fArgE (fCall F_read_way (fACons (fArgE (fOp2 gIx true (fPv 2) (fPh (fC (.int 0))))) fANil))) (fACons (fArgE (fCall F_read_way (fACons (fArgE (fOp2 gIx true (fPv 2) (fPh (fC (.int 1))))) fANil))) fANil)))) (fC (.str "yes")) (fC (.str "no")))) fPsNil)))))
def F_Desk_on_twins : List OT → FRes := fDef 2 1 [0, 1] b_Desk_on_twins
def l_Desk_of_texts_1 : Ev → Out :=
    (fIfS (fB (fOp2 gEq true (fPh (fSl true (fPv 1) fONone (fOSome (fOps gLen (fPsCons true (fPv 2) fPsNil))))) (fPv 2)))
    (fSeq (fSet 3 (fSl true (fPv 1) (fOSome (fOps gLen (fPsCons true (fPv 2) fPsNil))) fONone))
    (fSeq (fIfS (fB (fOp2 gEq true (fPv 2) (fPh (fC (.str "worth ")))))
    fNever
    fNx)
    (fSeq (fIfS (fB (fOp2 gEq true (fPv 2) (fPh (fC (.str "twins ")))))
    (fRet (fCall F_Desk_on_twins (fACons (fDesk 0) (fACons (fArgV 3) fANil))))
    fNx)
    fNever)))
    fNx)
def b_Desk_of_texts : Ev → Out :=
    (fSeq (fFor (fSeqI (fPh (fOps gTupN (fPsCons true (fPh (fC (.str "worth "))) (fPsCons true (fPh (fC (.str "twins "))) (fPsCons true (fPh (fC (.str "uses "))) fPsNil)))))) (gNm 2)
    l_Desk_of_texts_1)
    (fRet (fC .none)))
def F_Desk_of_texts : List OT → FRes := fDef 2 2 [0, 1] b_Desk_of_texts
def b_Desk_ask : Ev → Out :=
    (fSeq (fExpr (fCall F_need (fACons (fArgE (fOp2 gNotIn true (fPh (fC (.str "\n"))) (fPv 1))) fANil)))
    (fSeq (fSet 2 (fCall F_Desk_of_texts (fACons (fDesk 0) (fACons (fArgV 1) fANil))))
    (fSeq (fIfS (fB (fOp2 (gIs false) true (fPv 2) (fPh (fC .none))))
    (fRet (fVar 2))
    fNx)
    (fSeq fNever
    (fSeq fNever
    (fSeq fNever
    (fSeq fNever
    (fSeq fNever
    (fSeq fNever
    (fSeq fNever
    (fSeq fNever
    fNever)))))))))))
def F_Desk_ask : List OT → FRes := fDef 2 2 [0, 1] b_Desk_ask
def l_law_1 : Ev → Out :=
    (fSeq (fSet 12 (fOp2 gAdd false (fPh (fOp2 gAdd true (fPh (fOp2 gAdd false (fPh (fC (.str "twins "))) (fPh (fCall (F__law_text 10) (fACons (fArgV 3) (fACons (fArgE (fC (.bool false))) fANil)))))) (fPh (fC (.str ";"))))) (fPh (fCall (F__law_text 10) (fACons (fArgV 11) (fACons (fArgE (fC (.bool false))) fANil))))))
    (fSeq (fSet 13 (fOp2 gIx false (fPh (fOps gLstN (fPsCons true (fPh (fC (.str "no"))) (fPsCons true (fPh (fC (.str "yes"))) fPsNil)))) (fPh (fOps gInt (fPsCons true (fPh (fOp2 gEq false (fPh (fCall (F_form_of 10) (fACons (fArgV 3) fANil))) (fPh (fCall (F_form_of 10) (fACons (fArgV 11) fANil))))) fPsNil)))))
    (fSeq (fSet 14 (fCall F_Desk_ask (fACons (fDesk 1) (fACons (fArgV 12) fANil))))
    (fSeq (fIfS (fB (fOp2 gNe false (fPv 14) (fPh (fOps gLstN (fPsCons true (fPh (fVar 13)) fPsNil)))))
    (fRet (fC (.bool false)))
    fNx)
    (fExpr (fMeth GAppend 14 (fACons (fArgE (fC (.str "x"))) fANil)))))))
def c_law_2 : Ev → Res OT :=
    (fComp [15] (fSeqI (fPv 7)) (gNm 15) fYes (fOp2 gAdd true (fPh (fC (.int 1))) (fPh (fOp2 gMod true (fPv 15) (fPh (fC (.int 3)))))))
def l_law_3 : Ev → Out :=
    (fSeq (fSet 3 (fCall (F__law_way 10) (fALate 0 (fACons (fArgE (fOp2 gMul true (fPh (fC (.int 40))) (fPv 2))) (fACons (fArgE (fOp2 gAdd false (fPh (fC (.int 1))) (fPh (fOp2 gMod true (fPh (fCall F__law_draw (fACons (fArgV 0) (fACons (fArgE (fOp2 gAdd true (fPh (fC (.int 20))) (fPv 2))) fANil)))) (fPh (fC (.int 3))))))) fANil)))))
    (fSeq (fSet 4 (fCall (F__law_turned 10) (fACons (fArgV 0) (fACons (fArgE (fOp2 gMul true (fPh (fC (.int 30))) (fPv 2))) (fACons (fArgV 3) fANil)))))
    (fSeq (fSet 5 (fCall (F__law_other 10) (fACons (fArgV 0) (fACons (fArgV 4) fANil))))
    (fSeq (fSet 6 (fCall (F__law_way 10) (fALate 0 (fACons (fArgE (fOp2 gAdd true (fPh (fOp2 gMul true (fPh (fC (.int 40))) (fPv 2))) (fPh (fC (.int 7))))) (fACons (fArgE (fOp2 gAdd false (fPh (fC (.int 1))) (fPh (fOp2 gMod true (fPh (fCall F__law_draw (fACons (fArgV 0) (fACons (fArgE (fOp2 gAdd true (fPh (fC (.int 30))) (fPv 2))) fANil)))) (fPh (fC (.int 3))))))) fANil)))))
    (fSeq (fSet 7 (fCall (F__law_numbers 10) (fACons (fArgV 4) fANil)))
    (fSeq (fSet 8 (fOp2 gMod true (fPh (fCall F__law_draw (fACons (fArgV 0) (fACons (fArgE (fOp2 gAdd true (fPh (fC (.int 50))) (fPv 2))) fANil)))) (fPh (fOps gLen (fPsCons true (fPv 7) fPsNil)))))
    (fSeq (fSet 9 (fCall (F__law_filled 10) (fACons (fArgV 4) (fACons (fArgE (fOp2 gAdd false (fPh (fSl false (fPv 7) (fOSome (fVar 8)) fONone)) (fPh (fOp1 gRev (fPh (fSl false (fPv 7) fONone (fOSome (fVar 8)))))))) fANil))))
    (fSeq (fSet 10 (fCall (F__law_filled 10) (fACons (fArgV 3) (fACons (fArgE c_law_2) fANil))))
    (fSeq (fFor (fSeqI (fPh (fOps gTupN (fPsCons false (fPh (fVar 4)) (fPsCons false (fPh (fVar 5)) (fPsCons false (fPh (fVar 6)) (fPsCons false (fPh (fVar 3)) (fPsCons false (fPh (fVar 9)) (fPsCons true (fPh (fVar 10)) fPsNil))))))))) (gNm 11)
    l_law_1)
    (fSeq (fIfS (fB (fOp2 gNe true (fPh (fCall F_Desk_ask (fACons (fDesk 1) (fACons (fArgE (fOp2 gAdd false (fPh (fOp2 gAdd true (fPh (fOp2 gAdd false (fPh (fC (.str "twins "))) (fPh (fCall (F__law_text 10) (fACons (fArgV 3) (fACons (fArgE (fC (.bool false))) fANil)))))) (fPh (fC (.str ";"))))) (fPh (fCall (F__law_text 10) (fACons (fArgV 4) (fACons (fArgE (fC (.bool false))) fANil)))))) fANil)))) (fPh (fOps gLstN (fPsCons true (fPh (fC (.str "yes"))) fPsNil)))))
    (fRet (fC (.bool false)))
    fNx)
    (fIfS (fB (fOp2 gNe true (fPh (fCall F_Desk_ask (fACons (fDesk 1) (fACons (fArgE (fOp2 gAdd false (fPh (fOp2 gAdd true (fPh (fOp2 gAdd false (fPh (fC (.str "twins "))) (fPh (fCall (F__law_text 10) (fACons (fArgV 4) (fACons (fArgE (fC (.bool false))) fANil)))))) (fPh (fC (.str ";"))))) (fPh (fCall (F__law_text 10) (fACons (fArgV 5) (fACons (fArgE (fC (.bool false))) fANil)))))) fANil)))) (fPh (fOps gLstN (fPsCons true (fPh (fC (.str "no"))) fPsNil)))))
    (fRet (fC (.bool false)))
    fNx)))))))))))
def b_law : Ev → Out :=
    (fSeq (fSet 1 (fC deskD))
    (fSeq (fFor (fRng1 (fPsCons true (fPh (fC (.int 6))) fPsNil)) (gNm 2)
    l_law_3)
    (fRet (fC (.bool true)))))
def F_law : List OT → FRes := fDef 1 15 [0] b_law
end
end Gen

end

section
set_option Elab.async false
set_option linter.all false
set_option maxRecDepth 100000
set_option maxHeartbeats 4000000
namespace Gen
open PySem PySem.Spec PyProof.Rows L2 VL
open TL (numL tl_num numL_len)
inductive Wd where
  | plus | less | times | share
  deriving DecidableEq
def Wd.s : Wd → Str
  | .plus => "plus"
  | .less => "less"
  | .times => "times"
  | .share => "share"
@[simp] theorem ne_tp : ¬ ("times" : Str) = "plus" := by decide +kernel
@[simp] theorem ne_lp : ¬ ("less" : Str) = "plus" := by decide +kernel
@[simp] theorem ne_lt : ¬ ("less" : Str) = "times" := by decide +kernel
@[simp] theorem ne_sp : ¬ ("share" : Str) = "plus" := by decide +kernel
@[simp] theorem ne_st : ¬ ("share" : Str) = "times" := by decide +kernel
@[simp] theorem ne_sl : ¬ ("share" : Str) = "less" := by decide +kernel
@[simp] theorem ne_pl : ¬ ("plus" : Str) = "less" := by decide +kernel
@[simp] theorem ne_tl : ¬ ("times" : Str) = "less" := by decide +kernel
def Wd.by : Wd → Int → Int → Option Int
  | .plus, a, b => some (a + b)
  | .times, a, b => some (a * b)
  | .less, a, b => if b < a then some (a - b) else none
  | .share, a, b => if a.fmod b = 0 then some (a.fdiv b) else none
inductive Tr where
  | num (n : Int)
  | two (w : Wd) (a b : Tr)
def Tr.enc : Tr → D
  | .num n => .int n
  | .two w a b => .tuple [.str w.s, a.enc, b.enc]
def Tr.nums : Tr → List Int
  | .num n => [n]
  | .two _ a b => a.nums ++ b.nums
def Tr.deeds : Tr → Nat
  | .num _ => 0
  | .two _ a b => a.deeds + b.deeds + 1
def Tr.Nice (t : Tr) : Prop := ∀ n ∈ t.nums, 1 ≤ n ∧ n ≤ 1000000
theorem Nice.two {w : Wd} {a b : Tr} (ha : a.Nice) (hb : b.Nice) : (Tr.two w a b).Nice := fun n hn => (List.mem_append.mp hn).elim (ha n) (hb n)
end Gen

end

section
set_option Elab.async false
set_option linter.all false
set_option maxRecDepth 100000
set_option maxHeartbeats 4000000
namespace Gen
open PySem PySem.Spec PyProof.Rows L2 VL
open TL (numL tl_num numL_len)
theorem draw_ok {ns : List Int} {k : Int} (h : ns.length ≤ 63) (h0 : 0 ≤ k) : ∃ r : Int, 0 ≤ r ∧ F__law_draw [.sh (.list (ns.map .int)), .sh (.int k)] = .ok (.sh (.int r)) [.sh (.list (ns.map .int)), .sh (.int k)] := by
  obtain ⟨many, hm, h1, h2⟩ : ∃ many : Int, (if (ns.length : Int) > 1 then (ns.length : Int) else 1) = many ∧ 1 ≤ many ∧ many ≤ ns.length + 1 := by
    refine ⟨_, rfl, ?_, ?_⟩ <;> split <;> omega
  have b1 := Int.fmod_nonneg_of_pos k (show 0 < many by omega)
  have b2 := Int.fmod_lt_of_pos k (show 0 < many by omega)
  have hl : (ns ++ [0]).length = ns.length + 1 := by simp
  have hlt : (k.fmod many).toNat < (ns ++ [0]).length := by omega
  have e2 : atI (ns.map PyData.int ++ [PyData.int 0]) (k.fmod many) = some (.int ((ns ++ [0])[(k.fmod many).toNat]'hlt)) := by
    have : ns.map PyData.int ++ [PyData.int 0] = (ns ++ [0]).map PyData.int := by simp
    rw [this]
    exact atI_of b1 (by rw [List.getElem?_map, List.getElem?_eq_getElem hlt]; rfl)
  generalize (ns ++ [0])[(k.fmod many).toNat]'hlt = x at e2
  have l1 : ns.length ≤ 999999 := by omega
  have hc : CPow 10 18 := by decide
  have hd : divOk many := fdiv_ok (by omega) (by omega)
  have hd2 : divOk 1000003 := by decide
  have hn0 : many ≠ 0 := by omega
  have e3 : atI (ns.map PyData.int ++ [PyData.int 0]) (k.fmod many) = some (.int x) := e2
  have cond : ∀ ρ : Ev, ρ[3]? = some (.sh (.int x)) → (fOr (fB (fOp2 gGe true (fPv 3) (fPh (fOp2 gPow true (fPh (fC (.int 10))) (fPh (fC (.int 18))))))) (fB (fOp2 gLe true (fPv 3) (fPh (fOp1 gNeg (fPh (fOp2 gPow true (fPh (fC (.int 10))) (fPh (fC (.int 18)))))))))) ρ = .ok (decide (x ≥ 1000000000000000000 ∨ x ≤ -1000000000000000000)) ρ := by
    intro ρ hρ
    by_cases h1 : (1000000000000000000 : Int) ≤ x
    · simp -implicitDefEqProofs [hρ, hc, h1]
    · by_cases h2 : x ≤ (-1000000000000000000 : Int)
      · simp -implicitDefEqProofs [hρ, hc, h1, h2]
      · simp -implicitDefEqProofs [hρ, hc, h1, h2]
  by_cases big : x ≥ 1000000000000000000 ∨ x ≤ -1000000000000000000
  · obtain ⟨q, hq, q0, q1⟩ : ∃ q : Int, (if 60 < k.fdiv many then 60 else k.fdiv many) = q ∧ 0 ≤ q ∧ q ≤ 60 := by
      have : 0 ≤ k.fdiv many := Int.fdiv_nonneg h0 (by omega)
      refine ⟨_, rfl, ?_, ?_⟩ <;> split <;> omega
    have hr := rOk_of q0 (by omega)
    obtain ⟨ρ', e4, y, t, rfl⟩ := fLoop_inv (P := fun ρ => ∃ y t, ρ = [OT.sh (.list (ns.map .int)), .sh (.int k), .sh (.int many), .sh (.int y), t, .mv]) (g := gNm 4) (fb := l__law_draw_1) (ds := rngD 0 q.toNat) (ρ := [OT.sh (.list (ns.map .int)), .sh (.int k), .sh (.int many), .sh (.int x), .mv, .mv]) ⟨x, .mv, rfl⟩ (fun d hd ρ h => by
      obtain ⟨y, t, rfl⟩ := h
      exact ⟨_, [OT.sh (.list (ns.map .int)), .sh (.int k), .sh (.int many), .sh (.int (y.fdiv 1000003)), .sh d, .mv], rfl, by simp -implicitDefEqProofs [l__law_draw_1, hd2], _, _, rfl⟩)
    refine ⟨y.fmod 1000003, Int.fmod_nonneg_of_pos _ (by decide), ?_⟩
    simp -implicitDefEqProofs [F__law_draw, fDef_ap, b__law_draw, ds_ints, hm, l1, e3, hn0, cond, big, hd, hq, r1At_i hr, e4, -fOr_ap]
  · have c1 := Int.fmod_nonneg_of_pos ((x.fmod 2147483629 + 17 + 68209 * k.fdiv many) * 47791) (show (0 : Int) < 2147483629 by decide)
    have c2 := Int.fmod_lt_of_pos ((x.fmod 2147483629 + 17 + 68209 * k.fdiv many) * 47791) (show (0 : Int) < 2147483629 by decide)
    generalize hv : ((x.fmod 2147483629 + 17 + 68209 * k.fdiv many) * 47791).fmod 2147483629 = v at c1 c2
    have m1 : mulOk v v := mul_okl (by omega) (by omega)
    refine ⟨((v * v).fmod 2147483587 * 38839).fmod 2147483579, Int.fmod_nonneg_of_pos _ (by decide), ?_⟩
    simp -implicitDefEqProofs [F__law_draw, fDef_ap, b__law_draw, ds_ints, hm, l1, e3, hn0, cond, big, hd, mul_okl, mul_okr, hv, m1, -fOr_ap]
end Gen

end

section
set_option Elab.async false
set_option linter.all false
set_option maxRecDepth 100000
set_option maxHeartbeats 4000000
namespace Gen
open PySem PySem.Spec PyProof.Rows L2 VL
open TL (numL tl_num numL_len)
/-- numbers of up to 49 figures -/
def Tr.Big (t : Tr) : Prop := ∀ n ∈ t.nums, 1 ≤ n ∧ n < 10 ^ 49
theorem Tr.Nice.big {t : Tr} (h : t.Nice) : t.Big := fun n hn => by
  have := h n hn
  exact ⟨this.1, by omega⟩
/-! texts by their signs -/
def mk (l : List Nat) : Str := ⟨l.toArray⟩
theorem mk_app (a b : List Nat) : mk a ++ mk b = mk (a ++ b) := by
  show Str.mk (a.toArray ++ b.toArray) = Str.mk (a ++ b).toArray
  simp
theorem mk_len (a : List Nat) : (mk a).length = a.length := by
  show a.toArray.size = a.length
  simp
theorem mk_inj {a b : List Nat} (h : mk a = mk b) : a = b := by
  have := congrArg (fun x : Str => x.cps.toList) h
  simpa [mk] using this
theorem mk_of (x : Str) : x = mk x.cps.toList := by
  cases x; simp [mk]
def Wd.g : Wd → Nat
  | .plus => 43
  | .less => 45
  | .times => 42
  | .share => 47
def shown : Tr → List Nat
  | .num n => numL n.toNat
  | .two w a b => (match a with | .num n => numL n.toNat | .two w' a' b' => [40] ++ shown (.two w' a' b') ++ [41]) ++ [32] ++ [w.g] ++ [32] ++ (match b with | .num n => numL n.toNat | .two w' a' b' => [40] ++ shown (.two w' a' b') ++ [41])
def part (t : Tr) : List Nat := match t with
  | .num n => numL n.toNat
  | .two w a b => [40] ++ shown (.two w a b) ++ [41]
theorem shown_two (w : Wd) (a b : Tr) : shown (.two w a b) = part a ++ [32] ++ [w.g] ++ [32] ++ part b := by
  cases a <;> cases b <;> rfl
theorem num_text {n : Int} (h : 1 ≤ n) : ((toString n : String) : Str) = mk (numL n.toNat) := by
  have e : n = ((n.toNat : Nat) : Int) := by omega
  have h2 := tl_num n.toNat
  rw [← e] at h2
  rw [mk_of (Str.ofString (toString n))]
  exact congrArg mk h2
theorem shown_len : ∀ (t : Tr), t.Big → (shown t).length ≤ 64 * t.deeds + 52 ∧ (part t).length ≤ 64 * t.deeds + 52
  | .num n, h => by
    have hn := h n (List.mem_cons_self ..)
    have := numL_len (n := n.toNat) (k := 49) (by decide) (by omega)
    exact ⟨by show (numL n.toNat).length ≤ _; simp only [Tr.deeds]; omega, by show (numL n.toNat).length ≤ _; simp only [Tr.deeds]; omega⟩
  | .two w a b, h => by
    obtain ⟨a1, a2⟩ := shown_len a (fun n hn => h n (List.mem_append_left _ hn))
    obtain ⟨b1, b2⟩ := shown_len b (fun n hn => h n (List.mem_append_right _ hn))
    have e : (shown (.two w a b)).length = (part a).length + 3 + (part b).length := by
      rw [shown_two]
      simp only [List.length_append, List.length_cons, List.length_nil]
    have e2 : (part (.two w a b)).length = (shown (.two w a b)).length + 2 := by
      show ([40] ++ shown (.two w a b) ++ [41]).length = _
      simp only [List.length_append, List.length_cons, List.length_nil]
      omega
    simp only [Tr.deeds]
    exact ⟨by omega, by omega⟩
theorem log_ok {n : Int} (h : 1 ≤ n) (h2 : n < 10 ^ 49) : n.natAbs.log2 < 1920 := by
  rw [Nat.log2_lt (by omega)]
  exact Nat.lt_of_lt_of_le (show n.natAbs < 2 ^ 200 by omega) (Nat.pow_le_pow_right (by decide) (by decide))
theorem sp_mk : ((" " : String) : Str) = mk [32] := by decide +kernel
theorem lb_mk : (("(" : String) : Str) = mk [40] := by decide +kernel
theorem rb_mk : ((")" : String) : Str) = mk [41] := by decide +kernel
theorem pl_mk : (("+" : String) : Str) = mk [43] := by decide +kernel
theorem mi_mk : (("-" : String) : Str) = mk [45] := by decide +kernel
theorem ti_mk : (("*" : String) : Str) = mk [42] := by decide +kernel
theorem di_mk : (("/" : String) : Str) = mk [47] := by decide +kernel
@[simp] theorem ne_ts : ¬ ("times" : Str) = "share" := by decide +kernel
@[simp] theorem ne_ps : ¬ ("plus" : Str) = "share" := by decide +kernel
@[simp] theorem ne_pt : ¬ ("plus" : Str) = "times" := by decide +kernel
@[simp] theorem ne_ls : ¬ ("less" : Str) = "share" := by decide +kernel
end Gen

end

section
set_option Elab.async false
set_option linter.all false
set_option maxRecDepth 100000
set_option maxHeartbeats 4000000
namespace Gen
open PySem PySem.Spec PyProof.Rows L2 VL
open TL (numL tl_num numL_len)
def dg (c : Nat) : Prop := 48 ≤ c ∧ c ≤ 57
instance (c : Nat) : Decidable (dg c) := inferInstanceAs (Decidable (_ ∧ _))
theorem mk_cps (l : List Nat) : (mk l).cps.toList = l := by simp [mk]
theorem fig_in (c : Nat) : gInB false (.sh (.str ⟨#[c]⟩)) (.sh c_FIGURES) = some (.sh (.bool (decide (dg c)))) := by
  show some (OT.sh (.bool (false != decide (c ∈ (Str.ofString "0123456789").cps.toList)))) = _
  have e : (Str.ofString "0123456789").cps.toList = [48, 49, 50, 51, 52, 53, 54, 55, 56, 57] := by decide +kernel
  rw [e, Bool.false_bne]
  congr 3
  apply decide_eq_decide.mpr
  simp only [List.mem_cons, List.not_mem_nil, or_false, dg]
  omega
theorem at_pre (p : List Nat) (x : Nat) (r : List Nat) : atI (p ++ x :: r) (p.length : Int) = some x := by
  have h : (p.length : Int) < (p.length : Int) + ((r.length : Int) + 1) := by omega
  simp [atI, ixN, h]
theorem ix_pre {p : List Nat} {x : Nat} {r : List Nat} (h : p.length + r.length < 1000000) : gIx (.sh (.str (mk (p ++ x :: r)))) (.sh (.int (p.length : Int))) = some (.sh (.str ⟨#[x]⟩)) := by
  rw [gIx_s, mk_len, if_pos (by simp only [List.length_append, List.length_cons]; omega), mk_cps, at_pre]
  rfl
def stopL (r : List Nat) : Prop := match r with
  | [] => True
  | c :: _ => ¬ dg c
theorem inner (p : List Nat) (L : OT) : ∀ (d2 d1 r : List Nat) (k : Nat), (∀ c ∈ d2, dg c) → stopL r → d2.length < k → (p ++ (d1 ++ d2) ++ r).length < 100000 →
    fWhile (fAnd (fB (fOp2 gLt true (fPh (fOp2 gAdd true (fPv 2) (fPv 3))) (fPh (fOps gLen (fPsCons true (fPv 0) fPsNil))))) (fB (fOp2 gIn true (fPix true (fPv 0) (fPh (fOp2 gAdd true (fPv 2) (fPv 3)))) (fPh (fC c_FIGURES))))) l_pieces_of_1 k
      [.sh (.str (mk (p ++ (d1 ++ d2) ++ r))), L, .sh (.int p.length), .sh (.int d1.length)] =
    .nx [.sh (.str (mk (p ++ (d1 ++ d2) ++ r))), L, .sh (.int p.length), .sh (.int ((d1 ++ d2).length : Nat))]
  | _, _, _, 0, _, _, h, _ => absurd h (Nat.not_lt_zero _)
  | [], d1, [], k + 1, _, _, _, hl => by
    simp only [List.append_nil] at hl ⊢
    have g0 : gLen [.sh (.str (mk (p ++ d1)))] = some (.sh (.int ((p ++ d1).length : Nat))) := by
      have hl' : p.length + d1.length ≤ 1000000 := by rw [← List.length_append]; omega
      simp [mk_len, hl']
    simp -implicitDefEqProofs [fWhile_succ, g0]
  | [], d1, x :: r, k + 1, _, s, _, hl => by
    simp only [List.append_nil, List.length_append, List.length_cons] at hl ⊢
    have g0 : gLen [.sh (.str (mk (p ++ d1 ++ x :: r)))] = some (.sh (.int ((p ++ d1 ++ x :: r).length : Nat))) := by
      have hl' : p.length + (d1.length + (r.length + 1)) ≤ 1000000 := by omega
      simp [mk_len, hl']
    have g1 := ix_pre (p := p ++ d1) (x := x) (r := r) (by simp only [List.length_append]; omega)
    have g2 := fig_in x
    have s' : ¬ dg x := s
    have hlt : (p.length : Int) + d1.length < ((p ++ d1 ++ x :: r).length : Nat) := by simp only [List.length_append, List.length_cons]; omega
    simp only [List.length_append, Int.natCast_add, s', decide_false] at g1 g2
    generalize mk (p ++ d1 ++ x :: r) = T at *
    generalize (p ++ d1 ++ x :: r).length = N at *
    simp -implicitDefEqProofs [-gIx_s, fWhile_succ, g0, g1, g2, hlt]
    done
  | x :: d2, d1, r, k + 1, hd, s, hk, hl => by
    have ih := inner p L d2 (d1 ++ [x]) r k (fun c hc => hd c (List.mem_cons_of_mem _ hc)) s (by simp only [List.length_cons] at hk; omega) (by simpa using hl)
    simp only [List.length_append, List.length_cons] at hl
    have e : p ++ (d1 ++ x :: d2) ++ r = p ++ d1 ++ x :: (d2 ++ r) := by simp
    have e' : p ++ (d1 ++ [x] ++ d2) ++ r = p ++ d1 ++ x :: (d2 ++ r) := by simp
    have e2 : ((d1 ++ [x] ++ d2).length : Nat) = (d1 ++ x :: d2).length := by simp
    rw [e', e2] at ih
    rw [e]
    have g0 : gLen [.sh (.str (mk (p ++ d1 ++ x :: (d2 ++ r))))] = some (.sh (.int ((p ++ d1 ++ x :: (d2 ++ r)).length : Nat))) := by
      have hl' : p.length + (d1.length + (d2.length + r.length + 1)) ≤ 1000000 := by omega
      simp [mk_len, hl']
    have g1 := ix_pre (p := p ++ d1) (x := x) (r := d2 ++ r) (by simp only [List.length_append]; omega)
    have g2 := fig_in x
    have s' : dg x := hd x (List.mem_cons_self ..)
    have hlt : (p.length : Int) + d1.length < ((p ++ d1 ++ x :: (d2 ++ r)).length : Nat) := by simp only [List.length_append, List.length_cons]; omega
    have e3 : (((d1 ++ [x]).length : Nat) : Int) = d1.length + 1 := by simp
    rw [e3] at ih
    simp only [List.length_append, Int.natCast_add, s', decide_true] at g1 g2
    generalize mk (p ++ d1 ++ x :: (d2 ++ r)) = T at *
    generalize (p ++ d1 ++ x :: (d2 ++ r)).length = N at *
    generalize (d1 ++ x :: d2).length = M at *
    have st : l_pieces_of_1 [.sh (.str T), L, .sh (.int p.length), .sh (.int d1.length)] = .nx [.sh (.str T), L, .sh (.int p.length), .sh (.int (d1.length + 1))] := by
      simp -implicitDefEqProofs [l_pieces_of_1, fAugS, fAug]
      done
    simp -implicitDefEqProofs [-gIx_s, fWhile_succ, g0, g1, g2, hlt, st, ih]
end Gen

end

section
set_option Elab.async false
set_option linter.all false
set_option maxRecDepth 100000
set_option maxHeartbeats 4000000
namespace Gen
open PySem PySem.Spec PyProof.Rows L2 VL
open TL (numL tl_num numL_len)
theorem cut_mid (p t r : List Nat) : cut (p ++ (t ++ r)) (some (p.length : Int)) (some ((p.length : Int) + t.length)) = t := by
  have e : (p.length : Int) + t.length = ((p.length + t.length : Nat) : Int) := by omega
  unfold cut
  rw [e, HT.sIx_nat, HT.sIx_nat, Nat.min_eq_left (by simp only [List.length_append]; omega), Nat.min_eq_left (by simp only [List.length_append]; omega), List.drop_left, Nat.add_sub_cancel_left, List.take_left]
/-- a text's tokens -/
inductive TkL : List (List Nat) → Prop
  | nil : TkL []
  | one {x : Nat} {T : List (List Nat)} (h : x = 40 ∨ x = 41) (t : TkL T) : TkL ([x] :: T)
  | sign {x : Nat} {T : List (List Nat)} (t : TkL T) : TkL ([32, x, 32] :: T)
  | num {d : List Nat} {T : List (List Nat)} (h : ∀ c ∈ d, dg c) (hn : d ≠ []) (s : stopL T.flatten) (t : TkL T) : TkL (d :: T)
theorem cutS_mid (p t r : List Nat) : cutS (mk (p ++ (t ++ r))) (some (p.length : Int)) (some ((p.length : Int) + t.length)) = mk t := by
  have h := cut_mid p t r
  unfold cut at h
  unfold cutS
  rw [mk_cps, mk_len, h]
  rfl
theorem sl_mid {p t r : List Nat} (h : (p ++ (t ++ r)).length < 100000) : gSl (.sh (.str (mk (p ++ (t ++ r))))) (some (p.length : Int)) (some ((p.length : Int) + t.length)) = some (.sh (.str (mk t))) := by
  show (if (mk (p ++ (t ++ r))).length ≤ 1000000 then some (OT.sh (.str (cutS (mk (p ++ (t ++ r))) (some (p.length : Int)) (some ((p.length : Int) + t.length))))) else none) = _
  rw [mk_len, if_pos (by omega), cutS_mid]
theorem len_T {l : List Nat} (h : l.length < 100000) : gLen [.sh (.str (mk l))] = some (.sh (.int (l.length : Nat))) := by
  have : l.length ≤ 1000000 := by omega
  simp [mk_len, this]
theorem sp_one : ((" " : String) : Str) = ⟨#[32]⟩ := by decide +kernel
theorem one_eq (x y : Nat) : ((⟨#[x]⟩ : Str) = ⟨#[y]⟩) = (x = y) := by
  simp
theorem step_one {p r : List Nat} {x : Nat} {F : List OT} {X : OT} (hx : x = 40 ∨ x = 41) (hF : F.length < 100000) (h : (p ++ ([x] ++ r)).length < 100000) :
    l_pieces_of_2 [.sh (.str (mk (p ++ ([x] ++ r)))), .lst F, .sh (.int p.length), X] = .nx [.sh (.str (mk (p ++ ([x] ++ r)))), .lst (F ++ [.sh (.str (mk [x]))]), .sh (.int ((p.length : Int) + 1)), .sh (.int 1)] := by
  have g1 := ix_pre (p := p) (x := x) (r := r) (by simp only [List.length_append, List.length_cons, List.length_nil] at h; omega)
  have g2 := fig_in x
  have hd : ¬ dg x := by unfold dg; omega
  have h3 := sl_mid h
  have hF' : F.length ≤ 1000000 := by omega
  have hs : ¬ x = 32 := by omega
  rw [decide_eq_false hd] at g2
  have e : p ++ x :: r = p ++ ([x] ++ r) := rfl
  rw [e] at g1
  simp only [List.length_cons, List.length_nil] at h3
  generalize mk (p ++ ([x] ++ r)) = T at *
  generalize (p ++ ([x] ++ r)).length = N at *
  have h4 : gSl (.sh (.str T)) (some (p.length : Int)) (some ((p.length : Int) + 1)) = some (.sh (.str (mk [x]))) := h3
  simp -implicitDefEqProofs [-gIx_s, l_pieces_of_2, fAugS, fAug, g1, g2, h4, hF', sp_one, one_eq, hs]
theorem step_sign {p r : List Nat} {x : Nat} {F : List OT} {X : OT} (hF : F.length < 100000) (h : (p ++ ([32, x, 32] ++ r)).length < 100000) :
    l_pieces_of_2 [.sh (.str (mk (p ++ ([32, x, 32] ++ r)))), .lst F, .sh (.int p.length), X] = .nx [.sh (.str (mk (p ++ ([32, x, 32] ++ r)))), .lst (F ++ [.sh (.str (mk [32, x, 32]))]), .sh (.int ((p.length : Int) + 3)), .sh (.int 3)] := by
  have g1 := ix_pre (p := p) (x := 32) (r := x :: 32 :: r) (by simp only [List.length_append, List.length_cons, List.length_nil] at h; simp only [List.length_cons]; omega)
  have g2 := fig_in 32
  have hd : ¬ dg 32 := by unfold dg; omega
  have h3 := sl_mid h
  have hF' : F.length ≤ 1000000 := by omega
  rw [decide_eq_false hd] at g2
  have e : p ++ 32 :: x :: 32 :: r = p ++ ([32, x, 32] ++ r) := rfl
  rw [e] at g1
  simp only [List.length_cons, List.length_nil] at h3
  generalize mk (p ++ ([32, x, 32] ++ r)) = T at *
  generalize (p ++ ([32, x, 32] ++ r)).length = N at *
  have h4 : gSl (.sh (.str T)) (some (p.length : Int)) (some ((p.length : Int) + 3)) = some (.sh (.str (mk [32, x, 32]))) := h3
  simp -implicitDefEqProofs [-gIx_s, l_pieces_of_2, fAugS, fAug, g1, g2, h4, hF', sp_one, one_eq]
theorem step_num {p r d : List Nat} {F : List OT} {X : OT} (hd : ∀ c ∈ d, dg c) (hn : d ≠ []) (s : stopL r) (hF : F.length < 100000) (hdl : d.length < 900) (h : (p ++ (d ++ r)).length < 100000) :
    l_pieces_of_2 [.sh (.str (mk (p ++ (d ++ r)))), .lst F, .sh (.int p.length), X] = .nx [.sh (.str (mk (p ++ (d ++ r)))), .lst (F ++ [.sh (.str (mk d))]), .sh (.int ((p.length : Int) + d.length)), .sh (.int d.length)] := by
  obtain ⟨x, d', rfl⟩ : ∃ x d', d = x :: d' := by cases d with
    | nil => exact absurd rfl hn
    | cons x d' => exact ⟨x, d', rfl⟩
  have g1 := ix_pre (p := p) (x := x) (r := d' ++ r) (by simp only [List.length_append, List.length_cons, List.length_nil] at h; simp only [List.length_append]; omega)
  have g2 := fig_in x
  have hx : dg x := hd x (List.mem_cons_self ..)
  have h3 := sl_mid h
  have hF' : F.length ≤ 1000000 := by omega
  rw [decide_eq_true hx] at g2
  have e : p ++ x :: (d' ++ r) = p ++ (x :: d' ++ r) := rfl
  rw [e] at g1
  have e2 : p ++ ([x] ++ d') ++ r = p ++ (x :: d' ++ r) := by simp
  have w := inner p (.lst F) d' [x] r 1000 (fun c hc => hd c (List.mem_cons_of_mem _ hc)) s (by simp only [List.length_cons] at hdl; omega) (by rw [e2]; exact h)
  rw [e2] at w
  have e3 : (([x] ++ d').length : Nat) = (x :: d').length := rfl
  have e4 : (([x] : List Nat).length : Int) = 1 := rfl
  rw [e3, e4] at w
  generalize mk (p ++ (x :: d' ++ r)) = T at *
  generalize (p ++ (x :: d' ++ r)).length = N at *
  generalize hm : mk (x :: d') = Y at *
  generalize (x :: d').length = M at *
  simp -implicitDefEqProofs [-gIx_s, l_pieces_of_2, fAugS, fAug, g1, g2, h3, hF', w]
def stk (t : List Nat) : OT := .sh (.str (mk t))
theorem tk_step {t : List Nat} {T : List (List Nat)} (w : TkL (t :: T)) {p : List Nat} {F : List OT} {X : OT} (hF : F.length < 100000) (h : (p ++ (t ++ T.flatten)).length < 900) :
    l_pieces_of_2 [.sh (.str (mk (p ++ (t ++ T.flatten)))), .lst F, .sh (.int p.length), X] = .nx [.sh (.str (mk (p ++ (t ++ T.flatten)))), .lst (F ++ [stk t]), .sh (.int ((p.length : Int) + t.length)), .sh (.int t.length)] := by
  have h' : (p ++ (t ++ T.flatten)).length < 100000 := by omega
  cases w with
  | one hx w => exact step_one hx hF h'
  | sign w => exact step_sign hF h'
  | num hd hn s w => exact step_num hd hn s hF (by simp only [List.length_append] at h; omega) h'
theorem TkL.tail {t : List Nat} {T : List (List Nat)} (w : TkL (t :: T)) : TkL T ∧ t ≠ [] := by
  cases w with
  | one hx w => exact ⟨w, by simp⟩
  | sign w => exact ⟨w, by simp⟩
  | num hd hn s w => exact ⟨w, hn⟩
theorem pieces_loop : ∀ (T : List (List Nat)) (p : List Nat) (F : List OT) (X : OT) (k : Nat), TkL T → T.length < k → F.length + T.length < 100000 → (p ++ T.flatten).length < 900 →
    ∃ X', fWhile (fB (fOp2 gLt true (fPv 2) (fPh (fOps gLen (fPsCons true (fPv 0) fPsNil))))) l_pieces_of_2 k [.sh (.str (mk (p ++ T.flatten))), .lst F, .sh (.int p.length), X] =
      .nx [.sh (.str (mk (p ++ T.flatten))), .lst (F ++ T.map stk), .sh (.int ((p ++ T.flatten).length : Nat)), X']
  | _, _, _, _, 0, _, h, _, _ => absurd h (Nat.not_lt_zero _)
  | [], p, F, X, k + 1, w, h, hF, hl => by
    have g0 := len_T (l := p) (by simp only [List.flatten_nil, List.append_nil] at hl; omega)
    simp only [List.flatten_nil, List.append_nil, List.map_nil]
    generalize mk p = T at *
    exact ⟨X, by simp -implicitDefEqProofs [fWhile_succ, g0]⟩
  | t :: T, p, F, X, k + 1, w, h, hF, hl => by
    obtain ⟨w', hn⟩ := w.tail
    have e : p ++ (t :: T).flatten = p ++ (t ++ T.flatten) := rfl
    have e' : p ++ t ++ T.flatten = p ++ (t ++ T.flatten) := List.append_assoc ..
    have e2 : (((p ++ t).length : Nat) : Int) = (p.length : Int) + t.length := by simp
    have e3 : F ++ [stk t] ++ T.map stk = F ++ (t :: T).map stk := by simp
    rw [e] at hl ⊢
    have st := tk_step w (F := F) (X := X) (p := p) (by omega) hl
    obtain ⟨X', ih⟩ := pieces_loop T (p ++ t) (F ++ [stk t]) (.sh (.int t.length)) k w' (by simp only [List.length_cons] at h; omega) (by simp only [List.length_append, List.length_cons, List.length_nil] at hF ⊢; omega) (by rw [e']; exact hl)
    have g0 := len_T (l := p ++ (t ++ T.flatten)) (by omega)
    have hlt : (p.length : Int) < ((p ++ (t ++ T.flatten)).length : Nat) := by
      have : 0 < t.length := List.length_pos_iff.mpr hn
      simp only [List.length_append]
      omega
    rw [e', e2, e3] at ih
    generalize mk (p ++ (t ++ T.flatten)) = Y at *
    generalize (p ++ (t ++ T.flatten)).length = N at *
    generalize F ++ (t :: T).map stk = G at *
    exact ⟨X', by simp -implicitDefEqProofs [fWhile_succ, g0, hlt, st, ih]⟩
theorem pieces_ok {T : List (List Nat)} (w : TkL T) (hk : T.length < 900) (hl : T.flatten.length < 900) : ∃ as, F_pieces_of [.sh (.str (mk T.flatten))] = .ok (.lst (T.map stk)) as := by
  obtain ⟨X', e⟩ := pieces_loop T [] [] .mv 1000 w (by omega) (by simp only [List.length_nil]; omega) (by simpa using hl)
  simp only [List.nil_append, List.length_nil, Int.natCast_zero] at e
  have e' := e
  generalize mk T.flatten = Y at *
  generalize T.map stk = G at *
  generalize T.flatten.length = N at *
  exact ⟨_, by simp -implicitDefEqProofs [F_pieces_of, fDef_ap, b_pieces_of, e']; rfl⟩
end Gen

end

section
set_option Elab.async false
set_option linter.all false
set_option maxRecDepth 100000
set_option maxHeartbeats 4000000
namespace Gen
open PySem PySem.Spec PyProof.Rows L2 VL
open TL (numL tl_num numL_len)
theorem add_mk {a b : List Nat} (h : a.length + b.length ≤ 1000000) : gAdd (.sh (.str (mk a))) (.sh (.str (mk b))) = some (.sh (.str (mk (a ++ b)))) := by
  rw [gAdd_s, mk_len, mk_len, if_pos h, mk_app]
theorem stri_ok {n : Int} (h : 1 ≤ n ∧ n < 10 ^ 49) : gStrI [.sh (.int n)] = some (.sh (.str (mk (TL.numL n.toNat)))) := by
  rw [gStrI_i, if_pos (log_ok h.1 h.2), num_text h.1]
def ptok : Tr → List (List Nat)
  | .num n => [numL n.toNat]
  | .two w a b => [40] :: (ptok a ++ [32, w.g, 32] :: (ptok b ++ [[41]]))
def stok : Tr → List (List Nat)
  | .num n => [numL n.toNat]
  | .two w a b => ptok a ++ [32, w.g, 32] :: ptok b
theorem ptok_flat : ∀ t : Tr, (ptok t).flatten = part t
  | .num n => by simp [ptok, part]
  | .two w a b => by
    show _ = [40] ++ shown (.two w a b) ++ [41]
    rw [shown_two]
    simp [ptok, ptok_flat a, ptok_flat b]
theorem stok_flat : ∀ t : Tr, (stok t).flatten = shown t
  | .num n => by simp [stok, shown]
  | .two w a b => by
    rw [shown_two]
    simp [stok, ptok_flat]
theorem ptok_len : ∀ t : Tr, (ptok t).length ≤ 4 * t.deeds + 1
  | .num n => by simp [ptok]
  | .two w a b => by
    have h1 := ptok_len a
    have h2 := ptok_len b
    simp only [ptok, List.length_cons, List.length_append, List.length_nil, Tr.deeds]
    omega
theorem stok_len : ∀ t : Tr, (stok t).length ≤ 4 * t.deeds + 1
  | .num n => by simp [stok]
  | .two w a b => by
    have h1 := ptok_len a
    have h2 := ptok_len b
    simp only [stok, List.length_cons, List.length_append, List.length_nil, Tr.deeds]
    omega
theorem num_dg (n : Nat) : ∀ c ∈ numL n, dg c := fun c h => TL.numL_digits n c h
theorem num_head : ∀ n : Nat, 1 ≤ n → ∃ c r, numL n = c :: r ∧ 49 ≤ c ∧ c ≤ 57 := by
  intro n
  induction n using Nat.strongRecOn with
  | _ n ih =>
    intro h
    by_cases hn : n < 10
    · exact ⟨48 + n, [], TL.numL_lt hn, by omega, by omega⟩
    · obtain ⟨c, r, e, h1, h2⟩ := ih (n / 10) (by omega) (by omega)
      exact ⟨c, r ++ [48 + n % 10], by rw [TL.numL_step (by omega), e]; rfl, h1, h2⟩
theorem tk_ptok : ∀ (t : Tr) (R : List (List Nat)), TkL R → stopL R.flatten → TkL (ptok t ++ R)
  | .num n, R, w, s => .num (num_dg _) (TL.numL_ne _) s w
  | .two wd a b, R, w, s => by
    have e : ptok (.two wd a b) ++ R = [40] :: (ptok a ++ ([32, wd.g, 32] :: (ptok b ++ ([41] :: R)))) := by simp [ptok]
    rw [e]
    have s1 : stopL (([41] :: R) : List (List Nat)).flatten := by
      show ¬ dg 41
      unfold dg; omega
    have s2 : stopL (([32, wd.g, 32] :: (ptok b ++ ([41] :: R))) : List (List Nat)).flatten := by
      show ¬ dg 32
      unfold dg; omega
    exact .one (.inl rfl) (tk_ptok a _ (.sign (tk_ptok b _ (.one (.inr rfl) w) s1)) s2)
theorem tk_stok : ∀ (t : Tr), TkL (stok t)
  | .num n => .num (num_dg _) (TL.numL_ne _) trivial .nil
  | .two wd a b => by
    have h := tk_ptok b [] .nil trivial
    rw [List.append_nil] at h
    have s2 : stopL (([32, wd.g, 32] :: ptok b) : List (List Nat)).flatten := by
      show ¬ dg 32
      unfold dg; omega
    exact tk_ptok a _ (.sign h) s2
theorem shown_short : ∀ (t : Tr), t.Nice → (shown t).length ≤ 12 * t.deeds + 7 ∧ (part t).length ≤ 12 * t.deeds + 7
  | .num n, h => by
    have hn := h n (List.mem_cons_self ..)
    have := TL.numL_len (n := n.toNat) (k := 7) (by decide) (by omega)
    exact ⟨by show (numL n.toNat).length ≤ _; simp only [Tr.deeds]; omega, by show (numL n.toNat).length ≤ _; simp only [Tr.deeds]; omega⟩
  | .two w a b, h => by
    obtain ⟨a1, a2⟩ := shown_short a (fun n hn => h n (List.mem_append_left _ hn))
    obtain ⟨b1, b2⟩ := shown_short b (fun n hn => h n (List.mem_append_right _ hn))
    have e : (shown (.two w a b)).length = (part a).length + 3 + (part b).length := by
      rw [shown_two]
      simp only [List.length_append, List.length_cons, List.length_nil]
    have e2 : (part (.two w a b)).length = (shown (.two w a b)).length + 2 := by
      show ([40] ++ shown (.two w a b) ++ [41]).length = _
      simp only [List.length_append, List.length_cons, List.length_nil]
      omega
    simp only [Tr.deeds]
    exact ⟨by omega, by omega⟩
theorem count_short (l : List Nat) (y : Str) (h : l.length ≤ 95) : ¬ Txt.count (mk l) y > 100 := by
  have h1 := StrLaws.occ_length_le_len (mk l) y 0 (mk l).length ((mk l).length + 1)
  unfold Txt.count
  rw [mk_len] at h1 ⊢
  omega
/-! the parser -/
theorem zero_one : (("0" : String) : Str) = ⟨#[48]⟩ := by decide +kernel
theorem is_num {c : Nat} {r : List Nat} (h1 : 49 ≤ c) (h2 : c ≤ 57) (h : r.length < 1000) : isBo (F_is_number [.sh (.str (mk (c :: r)))]) = some true := by
  have g1 := ix_pre (p := []) (x := c) (r := r) (by simp only [List.length_nil]; omega)
  have g2 := fig_in c
  have hd : dg c := ⟨by omega, h2⟩
  rw [decide_eq_true hd] at g2
  have hs : ¬ c = 48 := by omega
  simp only [List.nil_append, List.length_nil, Int.natCast_zero] at g1
  have g3 : gIx (.sh (.str (mk (c :: r)))) (.sh (.int 0)) = some (.sh (.str ⟨#[c]⟩)) := g1
  generalize mk (c :: r) = T at *
  simp -implicitDefEqProofs [-gIx_s, F_is_number, fDef_ap, b_is_number, g2, g3, zero_one, one_eq, hs, isBo]
theorem not_num : isBo (F_is_number [.sh (.str (mk [40]))]) = some false := by
  have g3 : gIx (.sh (.str (mk [40]))) (.sh (.int 0)) = some (.sh (.str ⟨#[40]⟩)) := ix_pre (p := []) (x := 40) (r := []) (by simp)
  have g2 := fig_in 40
  rw [decide_eq_false (by unfold dg; omega)] at g2
  generalize mk [40] = T at *
  simp -implicitDefEqProofs [-gIx_s, F_is_number, fDef_ap, b_is_number, g2, g3, isBo]
theorem in_signs (w : Wd) : gInB false (.sh (.str ⟨#[w.g]⟩)) (.sh c_SIGNS) = some (.sh (.bool true)) := by
  cases w <;> simp [gInB, OT.d, c_SIGNS, flatD, PyData.eqv, Wd.g, pl_mk, mi_mk, ti_mk, di_mk, mk]
theorem is_sgn (w : Wd) : isBo (F_is_sign [.sh (.str (mk [32, w.g, 32]))]) = some true := by
  have g0 := len_T (l := [32, w.g, 32]) (by simp)
  have g1 : gIx (.sh (.str (mk [32, w.g, 32]))) (.sh (.int 0)) = some (.sh (.str ⟨#[32]⟩)) := ix_pre (p := []) (x := 32) (r := [w.g, 32]) (by simp)
  have g2 : gIx (.sh (.str (mk [32, w.g, 32]))) (.sh (.int 1)) = some (.sh (.str ⟨#[w.g]⟩)) := ix_pre (p := [32]) (x := w.g) (r := [32]) (by simp)
  have g3 : gIx (.sh (.str (mk [32, w.g, 32]))) (.sh (.int 2)) = some (.sh (.str ⟨#[32]⟩)) := ix_pre (p := [32, w.g]) (x := 32) (r := []) (by simp)
  have g4 := in_signs w
  simp only [List.length_cons, List.length_nil] at g0
  generalize mk [32, w.g, 32] = T at *
  simp -implicitDefEqProofs [-gIx_s, F_is_sign, fDef_ap, b_is_sign, g0, g1, g2, g3, g4, sp_one, one_eq, isBo]
theorem sgn_w (w : Wd) : sgnW (mk [32, w.g, 32]) = some w.s := by
  have g2 : gIx (.sh (.str (mk [32, w.g, 32]))) (.sh (.int 1)) = some (.sh (.str ⟨#[w.g]⟩)) := ix_pre (p := [32]) (x := w.g) (r := [32]) (by simp)
  unfold sgnW
  rw [g2]
  cases w <;> simp [tStr, pl_mk, mi_mk, ti_mk, di_mk, mk, Wd.g, Wd.s, List.findIdx?_cons]
theorem ptok_small : ∀ t : Tr, ∀ l ∈ ptok t, ∀ c ∈ l, c < 60
  | .num n, l, hl, c, hc => by
    simp only [ptok, List.mem_cons, List.not_mem_nil, or_false] at hl
    subst hl
    have := num_dg _ c hc
    unfold dg at this
    omega
  | .two w a b, l, hl, c, hc => by
    have hw : w.g < 60 := by cases w <;> decide
    simp only [ptok, List.mem_cons, List.mem_append, List.not_mem_nil, or_false] at hl
    rcases hl with rfl | hl | rfl | hl | rfl
    · simp only [List.mem_cons, List.not_mem_nil, or_false] at hc; omega
    · exact ptok_small a l hl c hc
    · simp only [List.mem_cons, List.not_mem_nil, or_false] at hc; omega
    · exact ptok_small b l hl c hc
    · simp only [List.mem_cons, List.not_mem_nil, or_false] at hc; omega
theorem stok_small : ∀ t : Tr, ∀ l ∈ stok t, ∀ c ∈ l, c < 60
  | .num n => ptok_small (.num n)
  | .two w a b => fun l hl c hc => by
    have hw : w.g < 60 := by cases w <;> decide
    simp only [stok, List.mem_cons, List.mem_append] at hl
    rcases hl with hl | rfl | hl
    · exact ptok_small a l hl c hc
    · simp only [List.mem_cons, List.not_mem_nil, or_false] at hc; omega
    · exact ptok_small b l hl c hc
theorem stok_ok (t : Tr) : ((stok t).map mk).all PyData.strOk = true := by
  rw [List.all_eq_true]
  intro x hx
  obtain ⟨l, hl, rfl⟩ := List.mem_map.mp hx
  show Array.all l.toArray (fun c => decide (c < 0x110000)) = true
  rw [List.all_toArray, List.all_eq_true]
  intro c hc
  have := stok_small t l hl c hc
  exact decide_eq_true (by omega)
end Gen

end

section
set_option Elab.async false
set_option linter.all false
set_option maxRecDepth 100000
set_option maxHeartbeats 4000000
namespace Gen
open PySem PySem.Spec PyProof.Rows L2 VL
open TL (numL tl_num numL_len)
theorem two_parse {part : List Str → PR} {w : Wd} {L L' : List Str} {d d2 : D} (h : part L = .ok d2 L') : F_two part (mk [32, w.g, 32] :: L) d = .ok (.tuple [.str w.s, d, d2]) L' := by
  simp only [F_two, tk, is_sgn, sgn_w, h]
theorem int_text {n : Int} (h : 1 ≤ n ∧ n < 10 ^ 49) : intText? (mk (numL n.toNat)) = some n := by
  have l := TL.numL_len (n := n.toNat) (k := 49) (by decide) (by omega)
  have e := TL.int_num (n := n.toNat) (by omega)
  have e2 : ((n.toNat : Nat) : Int) = n := by omega
  rw [e2] at e
  rw [← num_text h.1]
  exact e
theorem part_parse : ∀ (t : Tr) (n : Nat) (R : List Str), t.Big → t.deeds < n → F_part n ((ptok t).map mk ++ R) = .ok t.enc R
  | t, 0, _, _, h => absurd h (Nat.not_lt_zero _)
  | .num k, n + 1, R, nc, _ => by
    have hk := nc k (List.mem_cons_self ..)
    obtain ⟨c, r, e, h1, h2⟩ := num_head k.toNat (by omega)
    have l := TL.numL_len (n := k.toNat) (k := 49) (by decide) (by omega)
    have i := is_num (c := c) (r := r) h1 h2 (by rw [e] at l; simp only [List.length_cons] at l; omega)
    rw [← e] at i
    have hl : (mk (numL k.toNat)).length ≤ 640 := by rw [mk_len]; omega
    show F_part (n + 1) (mk (numL k.toNat) :: R) = _
    simp only [F_part, tk, i, if_pos hl, int_text hk, Tr.enc]
  | .two w a b, n + 1, R, nc, h => by
    have na : a.Big := fun n hn => nc n (List.mem_append_left _ hn)
    have nb : b.Big := fun n hn => nc n (List.mem_append_right _ hn)
    simp only [Tr.deeds] at h
    have e : (ptok (.two w a b)).map mk ++ R = mk [40] :: ((ptok a).map mk ++ mk [32, w.g, 32] :: ((ptok b).map mk ++ (mk [41] :: R))) := by simp [ptok]
    have h1 := part_parse a n (mk [32, w.g, 32] :: ((ptok b).map mk ++ (mk [41] :: R))) na (by omega)
    have h2 := two_parse (w := w) (d := a.enc) (part_parse b n (mk [41] :: R) nb (by omega))
    rw [e]
    simp only [F_part, tk, not_num, if_pos lb_mk.symm, h1, h2, Tr.enc]
    exact if_pos rb_mk.symm
theorem shs_ok : ∀ l : List Str, shs (l.map fun s => OT.sh (.str s)) = some (l.map .str)
  | [] => rfl
  | x :: l => by
    have := shs_ok l
    simp only [List.map_cons, shs, this, Option.map_some, Option.bind_some]
theorem strsOf_ok : ∀ l : List Str, strsOf (l.map .str) = some l
  | [] => rfl
  | x :: l => by
    have := strsOf_ok l
    simp only [List.map_cons, strsOf, this, Option.map_some, Option.bind_some]
theorem read_ok {t : Tr} (nt : t.Big) (hd : t.deeds ≤ 7) (hs : (shown t).length ≤ 95) : F_read_way [.sh (.str (mk (shown t)))] = .ok (.sh t.enc) [.sh (.str (mk (shown t)))] := by
  have hc := count_short (shown t) "(" (by omega)
  obtain ⟨as, e⟩ := pieces_ok (tk_stok t) (by have := stok_len t; omega) (by rw [stok_flat]; omega)
  rw [stok_flat] at e
  have et : toksOf (F_pieces_of [.sh (.str (mk (shown t)))]) = some ((stok t).map mk) := by
    rw [e]
    have em : (stok t).map stk = ((stok t).map mk).map fun s => OT.sh (.str s) := by
      rw [List.map_map]; rfl
    rw [em]
    show (shs _).bind strsOf = _
    rw [shs_ok, Option.bind_some, strsOf_ok]
  show (if Txt.count (mk (shown t)) "(" > 100 then _ else (match toksOf (F_pieces_of [.sh (.str (mk (shown t)))]) with
    | some l => if l.all PyData.strOk = true then rdGo 12 (mk (shown t)) (F_part 12 l) else .bad
    | none => .bad)) = _
  rw [if_neg hc, et]
  have hso : ((stok t).map mk).all PyData.strOk = true := stok_ok t
  simp only [hso, if_true]
  generalize mk (shown t) = Y
  show rdGo 12 Y (F_part 12 ((stok t).map mk)) = _
  cases t with
  | num k =>
    have h := part_parse (.num k) 12 [] nt (by simp [Tr.deeds])
    rw [List.append_nil] at h
    have e2 : stok (.num k) = ptok (.num k) := rfl
    rw [e2, h]
    rfl
  | two w a b =>
    have na : a.Big := fun n hn => nt n (List.mem_append_left _ hn)
    have nb : b.Big := fun n hn => nt n (List.mem_append_right _ hn)
    simp only [Tr.deeds] at hd
    have e2 : (stok (.two w a b)).map mk = (ptok a).map mk ++ mk [32, w.g, 32] :: ((ptok b).map mk ++ []) := by simp [stok]
    have h1 := part_parse a 12 (mk [32, w.g, 32] :: ((ptok b).map mk ++ [])) na (by omega)
    have h2 := two_parse (w := w) (d := a.enc) (part_parse b 12 [] nb (by omega))
    rw [e2, h1]
    show rdGo 12 Y (.ok a.enc (mk [32, w.g, 32] :: ((ptok b).map mk ++ []))) = _
    have e3 : ∀ (d : D) (x : Str) (l : List Str), rdGo 12 Y (.ok d (x :: l)) = rdEnd Y (F_two (F_part 12) (x :: l) d) := by
      intro d x l
      cases d <;> rfl
    rw [e3, h2]
    rfl
end Gen

end

section
set_option Elab.async false
set_option linter.all false
set_option maxRecDepth 100000
set_option maxHeartbeats 4000000
namespace Gen
open PySem PySem.Spec PyProof.Rows L2 VL
open TL (numL tl_num numL_len)
theorem srt_len (n : Nat) (l : List D) : (srt n l).length = l.length := (srt_perm n l).length_eq
theorem tab_ranks (k : Bool) : tabAt c_RANKS (kw k) = some (.int (rkk k)) := by
  cases k <;> simp [tabAt, c_RANKS, kw, rkk]
theorem key_ok : ∀ (n : Nat) {d : D}, IsF n d → F_key_of n [.sh d] = .ok (.sh (ky n d)) [.sh d]
  | 0, _, h => h.elim
  | n + 1, d, h => by
    rcases h with ⟨i, rfl⟩ | ⟨k, m, o, rfl, h1, h2, h3⟩
    · rw [ky_int]
      simp -implicitDefEqProofs [F_key_of, fDef_ap, b_key_of]
    · rw [ky_op]
      have e1 := fun (A B C E : OT) => comp_map (vs := [4]) (g := gNm 4) (fe := fCall (F_key_of n) (fACons (fArgV 4) fANil)) (ρ := [A, B, C, E, .mv]) (m := ky n) (ds := m) fun x hx => ⟨[A, B, C, E, .sh x], [A, B, C, E, .sh x], .sh (ky n x), rfl, by simp -implicitDefEqProofs [key_ok n (h1 x hx)], rfl, rfl⟩
      have e2 := fun (A B C E : OT) => comp_map (vs := [4]) (g := gNm 4) (fe := fCall (F_key_of n) (fACons (fArgV 4) fANil)) (ρ := [A, B, C, E, .mv]) (m := ky n) (ds := o) fun x hx => ⟨[A, B, C, E, .sh x], [A, B, C, E, .sh x], .sh (ky n x), rfl, by simp -implicitDefEqProofs [key_ok n (h2 x hx)], rfl, rfl⟩
      have l1 : m.length ≤ 1000000 := by omega
      have l2 : o.length ≤ 1000000 := by omega
      simp -implicitDefEqProofs [F_key_of, fDef_ap, b_key_of, fop, c_key_of_1, c_key_of_2, e1, e2, l1, l2, tab_ranks, ds_map, ds_sh]
theorem keyF_ok {n : Nat} {d : D} (h : IsF n d) : keyF (F_key_of n) d = some (ky n d) := by
  unfold keyF
  rw [key_ok n h]
  rfl
theorem in_order_ok {l : List D} (hl : l.length ≤ 1000) (h : ∀ x ∈ l, IsF 10 x) : F_in_order [.sh (.tuple l)] = .ok (.sh (.tuple (srt 10 l))) [.sh (.tuple l)] := by
  have e := gSortDs_f (g := keyF (F_key_of 10)) (n := 10) (by decide) h (fun x hx => keyF_ok (h x hx)) (by omega)
  have e2 : gSortL (keyF (F_key_of 10)) [.sh (.tuple l)] = some (.lst ((srt 10 l).map .sh)) := e
  simp -implicitDefEqProofs [F_in_order, fDef_ap, b_in_order, e2, shs_map]
/-! ### forms -/
def wk : Wd → Bool
  | .plus => false
  | .less => false
  | .times => true
  | .share => true
def turned : Wd → Bool
  | .plus => false
  | .less => true
  | .times => false
  | .share => true
/-- a way's form; the forms of its parts by a kind, told to more (true) or off -/
def G : Tr → D × (Bool → Bool → List D)
  | .num i => (.int i, fun _ pos => if pos = true then [.int i] else [])
  | .two w a b =>
    let p := fun (k pos : Bool) => (G a).2 k pos ++ (G b).2 k (pos != turned w)
    let f := fop (wk w) (srt 10 (p (wk w) true)) (srt 10 (p (wk w) false))
    (f, fun k pos => if wk w = k then p k pos else if pos = true then [f] else [])
def fm (t : Tr) : D := (G t).1
def pts (t : Tr) (k pos : Bool) : List D := (G t).2 k pos
theorem fm_num (i : Int) : fm (.num i) = .int i := rfl
theorem pts_num (i : Int) (k pos : Bool) : pts (.num i) k pos = if pos = true then [.int i] else [] := rfl
theorem fm_two (w : Wd) (a b : Tr) : fm (.two w a b) = fop (wk w) (srt 10 (pts (.two w a b) (wk w) true)) (srt 10 (pts (.two w a b) (wk w) false)) := by
  simp [fm, pts, G]
theorem pts_same (w : Wd) (a b : Tr) (pos : Bool) : pts (.two w a b) (wk w) pos = pts a (wk w) pos ++ pts b (wk w) (pos != turned w) := by
  simp [pts, G]
theorem pts_other {w : Wd} {k : Bool} (h : wk w ≠ k) (a b : Tr) (pos : Bool) : pts (.two w a b) k pos = if pos = true then [fm (.two w a b)] else [] := by
  simp [fm, pts, G, h]
theorem pts_len : ∀ (t : Tr) (k : Bool), (pts t k true).length + (pts t k false).length ≤ t.deeds + 1
  | .num i, k => by simp [pts_num, Tr.deeds]
  | .two w a b, k => by
    by_cases h : wk w = k
    · subst h
      have h1 := pts_len a (wk w)
      have h2 := pts_len b (wk w)
      rw [pts_same, pts_same]
      simp only [List.length_append, Tr.deeds]
      cases turned w <;> simp <;> omega
    · rw [pts_other h, pts_other h]
      simp [Tr.deeds]
theorem pts_len1 (t : Tr) (k pos : Bool) : (pts t k pos).length ≤ t.deeds + 1 := by
  have := pts_len t k
  cases pos <;> omega
theorem all_is : ∀ (t : Tr), t.deeds ≤ 900 → IsF (t.deeds + 1) (fm t) ∧ ∀ k pos, ∀ x ∈ pts t k pos, IsF (t.deeds + 1) x
  | .num i, _ => ⟨.inl ⟨i, rfl⟩, fun k pos x hx => by
    rw [pts_num] at hx
    split at hx
    · rw [List.mem_singleton.mp hx]; exact .inl ⟨i, rfl⟩
    · cases hx⟩
  | .two w a b, h => by
    have hl := pts_len (.two w a b) (wk w)
    simp only [Tr.deeds] at h hl
    have ia := (all_is a (by omega)).2
    have ib := (all_is b (by omega)).2
    have own : ∀ pos, ∀ x ∈ pts (.two w a b) (wk w) pos, IsF (a.deeds + b.deeds + 1) x := fun pos x hx => by
      rw [pts_same] at hx
      rcases List.mem_append.mp hx with hx | hx
      · exact (ia (wk w) _ x hx).mono (by omega)
      · exact (ib (wk w) _ x hx).mono (by omega)
    have ff : IsF ((Tr.two w a b).deeds + 1) (fm (.two w a b)) := by
      rw [fm_two]
      exact .inr ⟨_, _, _, rfl, fun x hx => own true x ((srt_perm _ _).mem_iff.mp hx), fun x hx => own false x ((srt_perm _ _).mem_iff.mp hx), by rw [srt_len, srt_len]; omega⟩
    refine ⟨ff, fun k pos x hx => ?_⟩
    by_cases hk : wk w = k
    · subst hk
      exact (own pos x hx).succ
    · rw [pts_other hk] at hx
      split at hx
      · rw [List.mem_singleton.mp hx]
        exact ff
      · cases hx
theorem fm_is (t : Tr) (h : t.deeds ≤ 900) : IsF (t.deeds + 1) (fm t) := (all_is t h).1
theorem pts_is (t : Tr) (k pos : Bool) (h : t.deeds ≤ 900) : ∀ x ∈ pts t k pos, IsF (t.deeds + 1) x := (all_is t h).2 k pos
theorem fm_is10 {t : Tr} (h : t.deeds ≤ 9) : IsF 10 (fm t) := (fm_is t (by omega)).mono (by omega)
theorem pts_is10 {t : Tr} (h : t.deeds ≤ 9) (k pos : Bool) : ∀ x ∈ pts t k pos, IsF 10 x := fun x hx => (pts_is t k pos (by omega) x hx).mono (by omega)
/-! the program's own forms -/
/-- what parts_by tells of a form: the parts, in order or as they are -/
theorem parts_ok {t : Tr} (h : t.deeds ≤ 9) (k : Bool) : ∃ m o : List D, m.Perm (pts t k true) ∧ o.Perm (pts t k false) ∧ F_parts_by [.sh (fm t), .sh (.str (kw k))] = .ok (.sh (.tuple [.tuple m, .tuple o])) [.sh (fm t), .sh (.str (kw k))] := by
  cases t with
  | num i =>
    refine ⟨[.int i], [], List.Perm.refl _, List.Perm.refl _, ?_⟩
    simp -implicitDefEqProofs [F_parts_by, fDef_ap, b_parts_by, fm_num]
  | two w a b =>
    by_cases hk : wk w = k
    · subst hk
      refine ⟨_, _, srt_perm 10 _, srt_perm 10 _, ?_⟩
      rw [fm_two]
      simp -implicitDefEqProofs [F_parts_by, fDef_ap, b_parts_by, fop]
    · refine ⟨[fm (.two w a b)], [], by rw [pts_other hk]; exact List.Perm.refl _, by rw [pts_other hk]; exact List.Perm.refl _, ?_⟩
      have hk' : ¬ kw (wk w) = kw k := fun z => hk (kw_inj z)
      rw [fm_two]
      simp -implicitDefEqProofs [F_parts_by, fDef_ap, b_parts_by, fop, hk']
theorem tab_kinds (w : Wd) : tabAt c_KINDS_forms w.s = some (.str (kw (wk w))) := by
  cases w <;> simp [tabAt, c_KINDS_forms, Wd.s, wk, kw]
theorem in_turned (w : Wd) : gInB false (.sh (.str w.s)) (.sh c_TURNED) = some (.sh (.bool (turned w))) := by
  cases w <;> simp [gInB, c_TURNED, Wd.s, turned, flatD, PyData.eqv]
theorem form_of_ok : ∀ (n : Nat) (t : Tr), t.deeds < n → t.deeds ≤ 9 → F_form_of n [.sh t.enc] = .ok (.sh (fm t)) [.sh t.enc]
  | 0, _, h, _ => absurd h (Nat.not_lt_zero _)
  | n + 1, .num i, _, _ => by
    simp -implicitDefEqProofs [F_form_of, fDef_ap, b_form_of, Tr.enc, fm_num]
  | n + 1, .two w a b, h, h' => by
    have hd : (Tr.two w a b).deeds ≤ 9 := h'
    simp only [Tr.deeds] at h h'
    have e1 := form_of_ok n a (by omega) (by omega)
    have e2 := form_of_ok n b (by omega) (by omega)
    obtain ⟨m, o, pm, po, e3⟩ := parts_ok (t := a) (by omega) (wk w)
    obtain ⟨m', o', pm', po', e4⟩ := parts_ok (t := b) (by omega) (wk w)
    have la := pts_len a (wk w)
    have lb := pts_len b (wk w)
    have i1 := pts_is10 (t := a) (by omega) (wk w)
    have i2 := pts_is10 (t := b) (by omega) (wk w)
    have lm := pm.length_eq
    have lo := po.length_eq
    have lm' := pm'.length_eq
    have lo' := po'.length_eq
    have go : ∀ (x y x' y' : List D), x.Perm (pts a (wk w) true) → y.Perm (pts a (wk w) false) → x'.Perm (pts b (wk w) (true != turned w)) → y'.Perm (pts b (wk w) (false != turned w)) →
        (F_in_order [.sh (.tuple (x ++ x'))] = .ok (.sh (.tuple (srt 10 (pts (.two w a b) (wk w) true)))) [.sh (.tuple (x ++ x'))] ∧
        F_in_order [.sh (.tuple (y ++ y'))] = .ok (.sh (.tuple (srt 10 (pts (.two w a b) (wk w) false)))) [.sh (.tuple (y ++ y'))]) := by
      intro x y x' y' p1 p2 p3 p4
      have s1 : (x ++ x').Perm (pts (.two w a b) (wk w) true) := by rw [pts_same]; exact p1.append p3
      have s2 : (y ++ y').Perm (pts (.two w a b) (wk w) false) := by rw [pts_same]; exact p2.append p4
      have j1 := pts_is10 hd (wk w) true
      have j2 := pts_is10 hd (wk w) false
      have n1 := pts_len1 (.two w a b) (wk w) true
      have n2 := pts_len1 (.two w a b) (wk w) false
      have q1 := s1.length_eq
      have q2 := s2.length_eq
      refine ⟨?_, ?_⟩
      · rw [in_order_ok (by omega) (fun z hz => j1 z (s1.mem_iff.mp hz)), srt_congr j1 s1]
      · rw [in_order_ok (by omega) (fun z hz => j2 z (s2.mem_iff.mp hz)), srt_congr j2 s2]
    have t1 := tab_kinds w
    have t2 := in_turned w
    rw [fm_two]
    have lla : m.length + m'.length ≤ 1000000 := by omega
    have llb : o.length + o'.length ≤ 1000000 := by omega
    have llc : m.length + o'.length ≤ 1000000 := by omega
    have lld : o.length + m'.length ≤ 1000000 := by omega
    cases ht : turned w with
    | false =>
      rw [ht] at go t2
      obtain ⟨g1, g2⟩ := go m o m' o' pm po pm' po'
      simp -implicitDefEqProofs [F_form_of, fDef_ap, b_form_of, Tr.enc, e1, e2, e3, e4, t1, t2, g1, g2, lla, llb, fop]
    | true =>
      rw [ht] at go t2
      obtain ⟨g1, g2⟩ := go m o o' m' pm po po' pm'
      simp -implicitDefEqProofs [F_form_of, fDef_ap, b_form_of, Tr.enc, e1, e2, e3, e4, t1, t2, g1, g2, llc, lld, fop]
end Gen

end

section
set_option Elab.async false
set_option linter.all false
set_option maxRecDepth 100000
set_option maxHeartbeats 4000000
namespace Gen
open PySem PySem.Spec PyProof.Rows L2 VL
open TL (numL tl_num numL_len)
def ownk (k : Bool) : D → Bool
  | .tuple (.str w :: _) => decide (w = kw k)
  | _ => false
theorem kw_ne_iff (k k' : Bool) : (kw k = kw k') = (k = k') := by
  apply propext
  exact ⟨kw_inj, fun h => by rw [h]⟩
theorem srt_idem {l : List D} (h : ∀ x ∈ l, IsF 10 x) : srt 10 (srt 10 l) = srt 10 l := srt_congr h (srt_perm 10 l)
theorem eqva_self : ∀ l : List D, (∀ x ∈ l, PyData.eqv x x = true) → PyData.eqvAll l l = true
  | [], _ => eqva_n
  | x :: l, h => by rw [eqva_c, h x (List.mem_cons_self ..), eqva_self l fun y hy => h y (List.mem_cons_of_mem _ hy)]; rfl
theorem isf_self : ∀ (n : Nat) {d : D}, IsF n d → PyData.eqv d d = true
  | 0, _, h => h.elim
  | n + 1, d, h => by
    rcases h with ⟨i, rfl⟩ | ⟨k, more, off, rfl, h1, h2, h3⟩
    · rw [VL.eqv_i]; simp
    · have e1 := eqva_self more fun x hx => isf_self n (h1 x hx)
      have e2 := eqva_self off fun x hx => isf_self n (h2 x hx)
      simp only [fop, eqv_t, eqva_c, eqva_n, e1, e2, Bool.and_true]
      simp [PyData.eqv]
def LetD : Nat → D → Prop
  | 0, _ => False
  | n + 1, d => (∃ i : Int, d = .int i) ∨ ∃ k m o, d = fop k m o ∧ m ≠ [] ∧ 2 ≤ m.length + o.length ∧ srt 10 m = m ∧ srt 10 o = o ∧ ∀ p ∈ m ++ o, LetD n p ∧ ownk k p = false
theorem LetD.mono : ∀ {n m : Nat} {d : D}, LetD n d → n ≤ m → LetD m d
  | 0, _, _, h, _ => h.elim
  | n + 1, 0, _, _, l => absurd l (by omega)
  | n + 1, m + 1, d, h, l => by
    rcases h with h | ⟨k, a, b, rfl, h1, h2, h3, h4, h5⟩
    · exact .inl h
    · exact .inr ⟨k, a, b, rfl, h1, h2, h3, h4, fun p hp => ⟨(h5 p hp).1.mono (by omega), (h5 p hp).2⟩⟩
theorem pts_ne : ∀ (t : Tr) (k : Bool), pts t k true ≠ []
  | .num i, k => by simp [pts_num]
  | .two w a b, k => by
    by_cases hk : wk w = k
    · subst hk
      rw [pts_same]
      exact fun z => pts_ne a (wk w) (List.append_eq_nil_iff.mp z).1
    · rw [pts_other hk]
      simp
theorem pts_two (w : Wd) (a b : Tr) : 2 ≤ (pts (.two w a b) (wk w) true).length + (pts (.two w a b) (wk w) false).length := by
  have n1 := List.length_pos_iff.mpr (pts_ne a (wk w))
  have n2 := List.length_pos_iff.mpr (pts_ne b (wk w))
  rw [pts_same, pts_same, List.length_append, List.length_append]
  cases turned w
  · show 2 ≤ _ + (pts b (wk w) true).length + (_ + _)
    omega
  · show 2 ≤ _ + _ + (_ + (pts b (wk w) true).length)
    omega
theorem all_let : ∀ (t : Tr), t.deeds ≤ 9 → LetD (t.deeds + 1) (fm t) ∧ ∀ k pos, ∀ p ∈ pts t k pos, LetD (t.deeds + 1) p ∧ ownk k p = false
  | .num i, _ => by
    have h : LetD ((Tr.num i).deeds + 1) (.int i) := .inl ⟨i, rfl⟩
    refine ⟨h, fun k pos p hp => ?_⟩
    rw [pts_num] at hp
    split at hp
    · rw [List.mem_singleton.mp hp]
      exact ⟨h, rfl⟩
    · cases hp
  | .two w a b, hd => by
    have hd' := hd
    simp only [Tr.deeds] at hd'
    have ia := (all_let a (by omega)).2
    have ib := (all_let b (by omega)).2
    have own : ∀ pos, ∀ p ∈ pts (.two w a b) (wk w) pos, LetD (a.deeds + b.deeds + 1) p ∧ ownk (wk w) p = false := fun pos p hp => by
      rw [pts_same] at hp
      rcases List.mem_append.mp hp with hp | hp
      · exact ⟨(ia _ _ p hp).1.mono (by omega), (ia _ _ p hp).2⟩
      · exact ⟨(ib _ _ p hp).1.mono (by omega), (ib _ _ p hp).2⟩
    have i1 := pts_is10 hd (wk w) true
    have i2 := pts_is10 hd (wk w) false
    have f : LetD ((Tr.two w a b).deeds + 1) (fm (.two w a b)) := by
      rw [fm_two]
      refine .inr ⟨_, _, _, rfl, fun z => pts_ne (.two w a b) (wk w) (by rw [← List.length_eq_zero_iff, ← srt_len 10, z]; rfl), by rw [srt_len, srt_len]; exact pts_two w a b, srt_idem i1, srt_idem i2, fun p hp => ?_⟩
      rcases List.mem_append.mp hp with hp | hp
      · exact own true p ((srt_perm _ _).mem_iff.mp hp)
      · exact own false p ((srt_perm _ _).mem_iff.mp hp)
    refine ⟨f, fun k pos p hp => ?_⟩
    by_cases hk : wk w = k
    · subst hk
      exact ⟨(own pos p hp).1.mono (by simp only [Tr.deeds]; omega), (own pos p hp).2⟩
    · rw [pts_other hk] at hp
      split at hp
      · rw [List.mem_singleton.mp hp]
        refine ⟨f, ?_⟩
        rw [fm_two]
        show decide (kw (wk w) = kw k) = false
        exact decide_eq_false fun z => hk (kw_inj z)
      · cases hp
def fnums : Nat → D → List Int
  | 0, _ => []
  | n + 1, d => match d with
    | .int i => [i]
    | .tuple [.str _, .tuple m, .tuple o] => ((m ++ o).map (fnums n)).flatten
    | _ => []
theorem fnums_op (n : Nat) (k : Bool) (m o : List D) : fnums (n + 1) (fop k m o) = ((m ++ o).map (fnums n)).flatten := rfl
theorem fnums_mono : ∀ {n m : Nat} {d : D}, LetD n d → n ≤ m → fnums m d = fnums n d
  | 0, _, _, h, _ => h.elim
  | n + 1, 0, _, _, l => absurd l (by omega)
  | n + 1, m + 1, d, h, l => by
    rcases h with ⟨i, rfl⟩ | ⟨k, a, b, rfl, h0, h2, s1, s2, h1⟩
    · rfl
    · rw [fnums_op, fnums_op]
      exact congrArg List.flatten (List.map_congr_left fun p hp => fnums_mono (h1 p hp).1 (by omega))
theorem flat_perm {l l' : List (List Int)} (h : l.Perm l') : l.flatten.Perm l'.flatten := h.flatten
theorem nums_perm : ∀ (t : Tr), t.deeds ≤ 8 → (fnums 10 (fm t)).Perm t.nums ∧ ∀ k, (((pts t k true ++ pts t k false).map (fnums 9)).flatten).Perm t.nums
  | .num i, _ => by
    refine ⟨.refl _, fun k => ?_⟩
    simp [pts_num, fnums, Tr.nums]
  | .two w a b, hd => by
    have hd' := hd
    simp only [Tr.deeds] at hd'
    have pa := (nums_perm a (by omega)).2
    have pb := (nums_perm b (by omega)).2
    have j : (((pts (.two w a b) (wk w) true ++ pts (.two w a b) (wk w) false).map (fnums 9)).flatten).Perm (Tr.two w a b).nums := by
      have p := (pa (wk w)).append (pb (wk w))
      refine List.Perm.trans ?_ p
      rw [pts_same, pts_same, ← List.flatten_append, ← List.map_append]
      refine flat_perm (List.Perm.map _ ?_)
      generalize pts a (wk w) true = A
      generalize pts a (wk w) false = A'
      cases turned w
      · show ((A ++ pts b (wk w) true) ++ (A' ++ pts b (wk w) false)).Perm _
        generalize pts b (wk w) true = B
        generalize pts b (wk w) false = B'
        simp only [List.append_assoc]
        exact List.Perm.append_left A (by rw [← List.append_assoc, ← List.append_assoc A' B B']; exact List.Perm.append_right _ List.perm_append_comm)
      · show ((A ++ pts b (wk w) false) ++ (A' ++ pts b (wk w) true)).Perm _
        generalize pts b (wk w) true = B
        generalize pts b (wk w) false = B'
        simp only [List.append_assoc]
        refine List.Perm.append_left A ?_
        refine (List.perm_append_comm (l₁ := B') (l₂ := A' ++ B)).trans ?_
        simp only [List.append_assoc]
        exact .refl _
    have f : (fnums 10 (fm (.two w a b))).Perm (Tr.two w a b).nums := by
      rw [fm_two, fnums_op]
      refine List.Perm.trans ?_ j
      exact flat_perm (List.Perm.map _ ((srt_perm _ _).append (srt_perm _ _)))
    refine ⟨f, fun k => ?_⟩
    by_cases hk : wk w = k
    · subst hk
      exact j
    · have l := (all_let (.two w a b) (by omega)).1
      have e : fnums 9 (fm (.two w a b)) = fnums 10 (fm (.two w a b)) := by
        rw [fnums_mono l (by omega), fnums_mono l (show (Tr.two w a b).deeds + 1 ≤ 10 by omega)]
      rw [pts_other hk, pts_other hk]
      simpa [e] using f
theorem eqva_eq : ∀ (l l' : List D), (∀ x ∈ l, ∀ y ∈ l', PyData.eqv x y = true → x = y) → PyData.eqvAll l l' = true → l = l'
  | [], [], _, _ => rfl
  | [], y :: l', _, e => by simp [PyData.eqvAll] at e
  | x :: l, [], _, e => by simp [PyData.eqvAll] at e
  | x :: l, y :: l', h, e => by
    rw [eqva_c, Bool.and_eq_true] at e
    rw [h x (List.mem_cons_self ..) y (List.mem_cons_self ..) e.1, eqva_eq l l' (fun a ha b hb => h a (List.mem_cons_of_mem _ ha) b (List.mem_cons_of_mem _ hb)) e.2]
theorem isf_eqv : ∀ (n : Nat) {a b : D}, IsF n a → IsF n b → PyData.eqv a b = true → a = b
  | 0, _, _, h, _, _ => h.elim
  | n + 1, a, b, h, k, e => by
    rcases h with ⟨i, rfl⟩ | ⟨q, m, o, rfl, h1, h2, h3⟩ <;> rcases k with ⟨j, rfl⟩ | ⟨r, m', o', rfl, k1, k2, k3⟩
    · rw [VL.eqv_i] at e
      have e' : i = j := by simpa using e
      rw [e']
    · simp [fop, PyData.eqv] at e
    · simp [fop, PyData.eqv] at e
    · simp only [fop, eqv_t, eqva_c, eqva_n, Bool.and_true, Bool.and_eq_true] at e
      obtain ⟨e1, e2, e3⟩ := e
      have e1' : kw q = kw r := by simpa [PyData.eqv] using e1
      rw [kw_ne_iff] at e1'
      rw [e1', eqva_eq m m' (fun x hx y hy => isf_eqv n (h1 x hx) (k1 y hy)) e2, eqva_eq o o' (fun x hx y hy => isf_eqv n (h2 x hx) (k2 y hy)) e3]
theorem fm_eqv {a b : Tr} (ha : a.deeds ≤ 9) (hb : b.deeds ≤ 9) (h : PyData.eqv (fm a) (fm b) = true) : fm a = fm b := isf_eqv 10 (fm_is10 ha) (fm_is10 hb) h
theorem fm_gEq {a b : Tr} (ha : a.deeds ≤ 9) (hb : b.deeds ≤ 9) : gEq (.sh (fm a)) (.sh (fm b)) = some (.sh (.bool (PyData.eqv (fm a) (fm b)))) :=
  gEq_fl (n := 20) (fm_is10 ha).flat (fm_is10 hb).flat (by decide)
theorem fm_gNe {a b : Tr} (ha : a.deeds ≤ 9) (hb : b.deeds ≤ 9) : gNe (.sh (fm a)) (.sh (fm b)) = some (.sh (.bool (!PyData.eqv (fm a) (fm b)))) :=
  gNe_fl (n := 20) (fm_is10 ha).flat (fm_is10 hb).flat (by decide)
theorem twins_ok {a b : Tr} (ha : a.deeds ≤ 9) (hb : b.deeds ≤ 9) : F_are_twins [.sh a.enc, .sh b.enc] = .ok (.sh (.bool (PyData.eqv (fm a) (fm b)))) [.sh a.enc, .sh b.enc] := by
  have e1 := form_of_ok 10 a (by omega) (by omega)
  have e2 := form_of_ok 10 b (by omega) (by omega)
  have e3 := fm_gEq ha hb
  simp -implicitDefEqProofs [F_are_twins, fDef_ap, b_are_twins, e1, e2, e3]
structure Alike (t' t : Tr) : Prop where
  deeds : t'.deeds = t.deeds
  form : t.deeds ≤ 9 → fm t' = fm t
  pts : t.deeds ≤ 9 → ∀ k s, (pts t' k s).Perm (pts t k s)
  nums : t'.nums.Perm t.nums
theorem Alike.refl (t : Tr) : Alike t t := ⟨rfl, fun _ => rfl, fun _ _ _ => .refl _, .refl _⟩
theorem Alike.trans {a b c : Tr} (h : Alike a b) (k : Alike b c) : Alike a c := ⟨h.deeds.trans k.deeds, fun l => (h.form (by rw [k.deeds]; exact l)).trans (k.form l), fun l x s => (h.pts (by rw [k.deeds]; exact l) x s).trans (k.pts l x s), h.nums.trans k.nums⟩
theorem alike_two {w w' : Wd} {a b a' b' : Tr} (hk : wk w' = wk w) (hd : a'.deeds + b'.deeds = a.deeds + b.deeds)
    (hn : (a'.nums ++ b'.nums).Perm (a.nums ++ b.nums)) (h : (Tr.two w a b).deeds ≤ 9 → ∀ s, (pts (.two w' a' b') (wk w) s).Perm (pts (.two w a b) (wk w) s)) : Alike (.two w' a' b') (.two w a b) := by
  have hd' : (Tr.two w' a' b').deeds = (Tr.two w a b).deeds := by simp only [Tr.deeds]; omega
  have form : (Tr.two w a b).deeds ≤ 9 → fm (.two w' a' b') = fm (.two w a b) := fun l => by
    rw [fm_two, fm_two, hk, srt_congr (pts_is10 l _ _) (h l true), srt_congr (pts_is10 l _ _) (h l false)]
  refine ⟨hd', form, fun l k s => ?_, hn⟩
  by_cases e : wk w = k
  · subst e; exact h l s
  · rw [pts_other e, pts_other (by rw [hk]; exact e), form l]
theorem alike_parts {w : Wd} {a b a' b' : Tr} (ha : Alike a' a) (hb : Alike b' b) : Alike (.two w a' b') (.two w a b) := alike_two rfl (by rw [ha.deeds, hb.deeds]) (ha.nums.append hb.nums) fun l s => by
  simp only [Tr.deeds] at l
  rw [pts_same, pts_same]
  exact (ha.pts (by omega) _ _).append (hb.pts (by omega) _ _)
theorem alike_swap {w : Wd} {a b : Tr} (h : turned w = false) : Alike (.two w b a) (.two w a b) := alike_two rfl (Nat.add_comm _ _) List.perm_append_comm fun l s => by
  rw [pts_same, pts_same, h]
  simp only [Bool.bne_false]
  exact List.perm_append_comm
theorem alike_left {w w1 : Wd} {x y b : Tr} (h : wk w1 = wk w) : Alike (.two w1 (.two w x b) y) (.two w (.two w1 x y) b) := alike_two h (by simp only [Tr.deeds]; omega) (by
  simp only [Tr.nums, List.append_assoc]
  exact List.Perm.append_left _ List.perm_append_comm) fun l s => by
  have e1 := pts_same w1 (.two w x b) y s
  have e2 := pts_same w x b s
  have e3 := pts_same w (.two w1 x y) b s
  have e4 := pts_same w1 x y s
  rw [h] at e1 e4
  rw [e1, e2, e3, e4, List.append_assoc, List.append_assoc]
  exact List.Perm.append_left _ List.perm_append_comm
theorem alike_right {w w2 w3 : Wd} {x y a : Tr} (h : wk w2 = wk w) (h3 : wk w3 = wk w) (ht : turned w3 = (turned w != turned w2)) : Alike (.two w3 (.two w a x) y) (.two w a (.two w2 x y)) := alike_two h3 (by simp only [Tr.deeds]; omega) (by simp only [Tr.nums, List.append_assoc]; exact .refl _) fun l s => by
  have e1 := pts_same w3 (.two w a x) y s
  have e2 := pts_same w a x s
  have e3 := pts_same w a (.two w2 x y) s
  have e4 := pts_same w2 x y (s != turned w)
  rw [h3, ht] at e1
  rw [h] at e4
  rw [e1, e2, e3, e4, List.append_assoc]
  cases s <;> cases turned w <;> cases turned w2 <;> exact .refl _
end Gen

end

section
set_option Elab.async false
set_option linter.all false
set_option maxRecDepth 100000
set_option maxHeartbeats 4000000
namespace Gen
open PySem PySem.Spec PyProof.Rows L2 VL
open TL (numL)
abbrev Sc (ns : List Int) : OT := .sh (.list (ns.map .int))
def Sm (b : Int) (t : Tr) : Prop := ∀ n ∈ t.nums, 1 ≤ n ∧ n ≤ b
theorem Sm.two {b : Int} {w : Wd} {x y : Tr} (hx : Sm b x) (hy : Sm b y) : Sm b (.two w x y) := fun n hn => (List.mem_append.mp hn).elim (hx n) (hy n)
theorem Sm.num {b i : Int} (h : 1 ≤ i ∧ i ≤ b) : Sm b (.num i) := fun n hn => by
  simp only [Tr.nums, List.mem_cons, List.not_mem_nil, or_false] at hn
  rw [hn]; exact h
theorem Sm.nice {b : Int} {t : Tr} (h : Sm b t) (hb : b ≤ 1000000) : t.Nice := fun n hn => ⟨(h n hn).1, Int.le_trans (h n hn).2 hb⟩
theorem way_ok {ns : List Int} (h : ns.length ≤ 63) : ∀ (n : Nat) (f a : Int), 0 ≤ f → f < n → 0 ≤ a → ∃ t : Tr, Sm 999 t ∧ t.deeds + 1 ≤ 2 ^ f.toNat ∧ F__law_way n [Sc ns, .sh (.int a), .sh (.int f)] = .ok (.sh t.enc) [Sc ns, .sh (.int a), .sh (.int f)]
  | 0, f, a, h0, h1, _ => by omega
  | n + 1, f, a, h0, h1, ha => by
    obtain ⟨r, r0, er⟩ := draw_ok (k := 300 + a) h (by omega)
    have d8 : divOk 8 := by decide
    have d64 : divOk 64 := by decide
    have d3 : divOk 3 := by decide
    have d7 : divOk 7 := by decide
    have m2 : mulOk 2 a := mul_okl (by decide) (by decide)
    by_cases stop : f = 0 ∨ r.fmod 8 = 7
    · obtain ⟨m, m0, m1, dm, hm⟩ : ∃ m : Int, 1 ≤ m ∧ m ≤ 999 ∧ divOk m ∧ atI [PyData.int 9, .int 30, .int 999] ((r.fdiv 64).fmod 3) = some (.int m) := by
        have b1 := Int.fmod_nonneg_of_pos (r.fdiv 64) (show (0 : Int) < 3 by decide)
        have b2 := Int.fmod_lt_of_pos (r.fdiv 64) (show (0 : Int) < 3 by decide)
        rcases (by omega : (r.fdiv 64).fmod 3 = 0 ∨ (r.fdiv 64).fmod 3 = 1 ∨ (r.fdiv 64).fmod 3 = 2) with e | e | e <;> rw [e]
        · exact ⟨9, by omega, by omega, by decide, by simp⟩
        · exact ⟨30, by omega, by omega, by decide, by simp⟩
        · exact ⟨999, by omega, by omega, by decide, by simp⟩
      have c1 := Int.fmod_nonneg_of_pos (r.fdiv 8) (show (0 : Int) < m by omega)
      have c2 := Int.fmod_lt_of_pos (r.fdiv 8) (show (0 : Int) < m by omega)
      have hm0 : m ≠ 0 := by omega
      refine ⟨.num (1 + (r.fdiv 8).fmod m), Sm.num ⟨by omega, by omega⟩, by simp only [Tr.deeds]; exact Nat.one_le_two_pow, ?_⟩
      rcases stop with s | s
      · simp -implicitDefEqProofs [F__law_way, fDef_ap, b__law_way, er, d8, d64, d3, dm, hm, hm0, s, Tr.enc]
      · by_cases s' : f = 0
        · simp -implicitDefEqProofs [F__law_way, fDef_ap, b__law_way, er, d8, d64, d3, dm, hm, hm0, s', Tr.enc]
        · simp -implicitDefEqProofs [F__law_way, fDef_ap, b__law_way, er, d8, d64, d3, dm, hm, hm0, s, s', Tr.enc]
    · have s1 : ¬ f = 0 := fun z => stop (.inl z)
      have s2 : ¬ r.fmod 8 = 7 := fun z => stop (.inr z)
      obtain ⟨w, hw⟩ : ∃ w : Wd, atI [PyData.str "plus", .str "less", .str "times", .str "share", .str "plus", .str "times", .str "less"] (r.fmod 7) = some (.str w.s) := by
        have b1 := Int.fmod_nonneg_of_pos r (show (0 : Int) < 7 by decide)
        have b2 := Int.fmod_lt_of_pos r (show (0 : Int) < 7 by decide)
        rcases (by omega : r.fmod 7 = 0 ∨ r.fmod 7 = 1 ∨ r.fmod 7 = 2 ∨ r.fmod 7 = 3 ∨ r.fmod 7 = 4 ∨ r.fmod 7 = 5 ∨ r.fmod 7 = 6) with e | e | e | e | e | e | e <;> rw [e]
        · exact ⟨.plus, by simp [Wd.s]⟩
        · exact ⟨.less, by simp [Wd.s]⟩
        · exact ⟨.times, by simp [Wd.s]⟩
        · exact ⟨.share, by simp [Wd.s]⟩
        · exact ⟨.plus, by simp [Wd.s]⟩
        · exact ⟨.times, by simp [Wd.s]⟩
        · exact ⟨.less, by simp [Wd.s]⟩
      obtain ⟨x, x1, x2, x3⟩ := way_ok h n (f - 1) (2 * a + 1) (by omega) (by omega) (by omega)
      obtain ⟨y, y1, y2, y3⟩ := way_ok h n (f - 1) (2 * a + 2) (by omega) (by omega) (by omega)
      have e2 : 2 ^ f.toNat = 2 ^ (f - 1).toNat + 2 ^ (f - 1).toNat := by
        rw [show f.toNat = (f - 1).toNat + 1 by omega, Nat.pow_succ]; omega
      refine ⟨.two w x y, x1.two y1, by simp only [Tr.deeds]; omega, ?_⟩
      simp -implicitDefEqProofs [F__law_way, fDef_ap, b__law_way, er, d8, d7, m2, s1, s2, hw, x3, y3, Tr.enc]
theorem in_pt (w : Wd) : gIn (.sh (.str w.s)) (.sh (.tuple [.str "plus", .str "times"])) = some (.sh (.bool (!turned w))) := by
  cases w <;> simp [gIn, gInB, OT.d, flatD, PyData.eqv, Wd.s, turned] <;> decide +kernel
def back : Wd → Wd
  | .less => .plus
  | .share => .times
  | w => w
theorem turned_ok {ns : List Int} (h : ns.length ≤ 63) : ∀ (n : Nat) (t : Tr) (a : Int), t.deeds < n → 0 ≤ a → ∃ t' : Tr, Alike t' t ∧ F__law_turned n [Sc ns, .sh (.int a), .sh t.enc] = .ok (.sh t'.enc) [Sc ns, .sh (.int a), .sh t.enc]
  | 0, t, a, hd, _ => absurd hd (Nat.not_lt_zero _)
  | n + 1, .num i, a, _, _ => ⟨.num i, .refl _, by simp -implicitDefEqProofs [F__law_turned, fDef_ap, b__law_turned, Tr.enc]⟩
  | n + 1, .two w t u, a, hd, ha => by
    simp only [Tr.deeds] at hd
    obtain ⟨x, sx, ex⟩ := turned_ok h n t (2 * a + 1) (by omega) (by omega)
    obtain ⟨y, sy, ey⟩ := turned_ok h n u (2 * a + 2) (by omega) (by omega)
    obtain ⟨r, r0, er⟩ := draw_ok (k := 700 + a) h (by omega)
    have d4 : divOk 4 := by decide
    have d2 : divOk 2 := by decide
    have m2 : mulOk 2 a := mul_okl (by decide) (by decide)
    have base := alike_parts (w := w) sx sy
    have goal0 : ∀ z : Tr, Alike z (.two w x y) → F__law_turned (n + 1) [Sc ns, .sh (.int a), .sh (Tr.two w t u).enc] = .ok (.sh z.enc) [Sc ns, .sh (.int a), .sh (Tr.two w t u).enc] → ∃ t' : Tr, Alike t' (.two w t u) ∧ F__law_turned (n + 1) [Sc ns, .sh (.int a), .sh (Tr.two w t u).enc] = .ok (.sh t'.enc) [Sc ns, .sh (.int a), .sh (Tr.two w t u).enc] :=
      fun z hz hF => ⟨z, hz.trans base, hF⟩
    have b1 := Int.fmod_nonneg_of_pos r (show (0 : Int) < 4 by decide)
    have b2 := Int.fmod_lt_of_pos r (show (0 : Int) < 4 by decide)
    have q := in_pt w
    have p1 : ((0 : Int).fmod 2) = 0 := by decide
    have p2 : ((1 : Int).fmod 2) = 1 := by decide
    have p3 : ((2 : Int).fmod 2) = 0 := by decide
    have p4 : ((3 : Int).fmod 2) = 1 := by decide
    have hr : r.fmod 4 = 0 ∨ r.fmod 4 = 1 ∨ r.fmod 4 = 2 ∨ r.fmod 4 = 3 := by omega
    cases ht : turned w with
    | false =>
      rw [ht] at q
      rcases hr with e | e | e | e
      · refine goal0 (.two w x y) (.refl _) ?_
        simp -implicitDefEqProofs [F__law_turned, fDef_ap, b__law_turned, Tr.enc, ex, ey, er, d4, d2, m2, e, q, p1, p2, p3, p4]
      · refine goal0 (.two w y x) (alike_swap ht) ?_
        simp -implicitDefEqProofs [F__law_turned, fDef_ap, b__law_turned, Tr.enc, ex, ey, er, d4, d2, m2, e, q, p1, p2, p3, p4]
      · cases y with
        | num i =>
          refine goal0 (.two w x (.num i)) (.refl _) ?_
          simp only [Tr.enc] at ey
          simp -implicitDefEqProofs [F__law_turned, fDef_ap, b__law_turned, Tr.enc, ex, ey, er, d4, d2, m2, e, q, p1, p2, p3, p4]
        | two v y1 y2 =>
          simp only [Tr.enc] at ey
          by_cases hv : v = w
          · subst hv
            refine goal0 (.two v (.two v x y1) y2) (alike_right rfl rfl (by rw [ht]; rfl)) ?_
            simp -implicitDefEqProofs [F__law_turned, fDef_ap, b__law_turned, Tr.enc, ex, ey, er, d4, d2, m2, e, q, p1, p2, p3, p4]
          · have hv' : ¬ v.s = w.s := fun z => hv (by revert z; cases v <;> cases w <;> simp [Wd.s])
            refine goal0 (.two w x (.two v y1 y2)) (.refl _) ?_
            simp -implicitDefEqProofs [F__law_turned, fDef_ap, b__law_turned, Tr.enc, ex, ey, er, d4, d2, m2, e, q, p1, p2, p3, p4, hv']
      · refine goal0 (.two w y x) (alike_swap ht) ?_
        simp -implicitDefEqProofs [F__law_turned, fDef_ap, b__law_turned, Tr.enc, ex, ey, er, d4, d2, m2, e, q, p1, p2, p3, p4]
    | true =>
      rw [ht] at q
      have bk : dixS [("less", "plus"), ("share", "times")] w.s = some (back w).s := by revert ht; cases w <;> intro ht <;> first | (cases ht; done) | decide +kernel
      have kb : wk (back w) = wk w := by cases w <;> rfl
      have tb : turned (back w) = false := by revert ht; cases w <;> intro ht <;> first | (cases ht; done) | rfl
      have nb : ¬ (back w).s = w.s := by revert ht; cases w <;> intro ht <;> first | (cases ht; done) | decide +kernel
      cases y with
      | num i =>
        refine goal0 (.two w x (.num i)) (.refl _) ?_
        simp only [Tr.enc] at ey
        rcases hr with e | e | e | e <;>
        simp -implicitDefEqProofs [F__law_turned, fDef_ap, b__law_turned, Tr.enc, ex, ey, er, d4, d2, m2, e, q, p1, p2, p3, p4, bk]
      | two v y1 y2 =>
        simp only [Tr.enc] at ey
        by_cases hv : v = w
        · subst hv
          refine goal0 (.two v (.two (back v) x y2) y1) ?_ ?_
          · exact (alike_left (w := back v) (w1 := v) kb.symm).trans (alike_right (w := v) (w2 := v) (w3 := back v) rfl kb (by rw [tb, ht]; rfl))
          · rcases hr with e | e | e | e <;>
            simp -implicitDefEqProofs [F__law_turned, fDef_ap, b__law_turned, Tr.enc, ex, ey, er, d4, d2, m2, e, q, p1, p2, p3, p4, bk]
        · have hv' : ¬ v.s = w.s := fun z => hv (by revert z; cases v <;> cases w <;> simp [Wd.s])
          by_cases hc : v = back w ∧ r.fmod 4 = 1
          · obtain ⟨rfl, e⟩ := hc
            refine goal0 (.two w (.two w x y1) y2) (alike_right kb rfl (by rw [tb, ht]; rfl)) ?_
            simp -implicitDefEqProofs [F__law_turned, fDef_ap, b__law_turned, Tr.enc, ex, ey, er, d4, d2, m2, e, q, p1, p2, p3, p4, bk, nb]
          · refine goal0 (.two w x (.two v y1 y2)) (.refl _) ?_
            by_cases e : r.fmod 4 = 1
            · have hb' : ¬ v.s = (back w).s := fun z => hc ⟨by revert z; cases v <;> cases w <;> simp [Wd.s, back], e⟩
              simp -implicitDefEqProofs [F__law_turned, fDef_ap, b__law_turned, Tr.enc, ex, ey, er, d4, d2, m2, e, q, p1, p2, p3, p4, bk, hv', hb']
            · simp -implicitDefEqProofs [F__law_turned, fDef_ap, b__law_turned, Tr.enc, ex, ey, er, d4, d2, m2, e, q, p1, p2, p3, p4, bk, hv']
def lastUp : Tr → Tr
  | .num i => .num (i + 1)
  | .two w a b => .two w a (lastUp b)
theorem up_deeds : ∀ t : Tr, (lastUp t).deeds = t.deeds
  | .num _ => rfl
  | .two w a b => by simp only [lastUp, Tr.deeds, up_deeds b]
theorem up_sum : ∀ t : Tr, (lastUp t).nums.sum = t.nums.sum + 1
  | .num i => by simp [lastUp, Tr.nums]
  | .two w a b => by simp only [lastUp, Tr.nums, List.sum_append, up_sum b]; omega
theorem up_sm {k : Int} : ∀ t : Tr, Sm k t → Sm (k + 1) (lastUp t)
  | .num i, h => Sm.num (by have := h i (List.mem_cons_self ..); omega)
  | .two w a b, h => Sm.two (fun n hn => by have := h n (List.mem_append_left _ hn); omega) (up_sm b fun n hn => h n (List.mem_append_right _ hn))
theorem other_ok {ns : List Int} : ∀ (n : Nat) (t : Tr), t.deeds < n → F__law_other n [Sc ns, .sh t.enc] = .ok (.sh (lastUp t).enc) [Sc ns, .sh t.enc]
  | 0, t, hd => absurd hd (Nat.not_lt_zero _)
  | n + 1, .num i, _ => by simp -implicitDefEqProofs [F__law_other, fDef_ap, b__law_other, Tr.enc, lastUp]
  | n + 1, .two w a b, hd => by
    simp only [Tr.deeds] at hd
    have e := other_ok (ns := ns) n b (by omega)
    simp -implicitDefEqProofs [F__law_other, fDef_ap, b__law_other, Tr.enc, lastUp, e]
def oi (i : Int) : OT := .sh (.int i)
theorem nums_deeds : ∀ t : Tr, t.nums.length = t.deeds + 1
  | .num i => rfl
  | .two w a b => by simp only [Tr.nums, Tr.deeds, List.length_append, nums_deeds a, nums_deeds b]; omega
theorem ds_oi (l : List Int) : OT.ds (l.map oi) = l.map PyData.int := by
  rw [show l.map oi = (l.map PyData.int).map .sh by simp [oi, Function.comp_def], ds_map]
theorem own_ok : ∀ (n : Nat) (t : Tr), t.deeds < n → t.deeds ≤ 100 → F__law_numbers n [.sh t.enc] = .ok (.lst (t.nums.map oi)) [.sh t.enc]
  | 0, t, h, _ => absurd h (Nat.not_lt_zero _)
  | n + 1, .num i, _, _ => by simp -implicitDefEqProofs [F__law_numbers, fDef_ap, b__law_numbers, Tr.enc, Tr.nums, oi]
  | n + 1, .two w a b, h, h' => by
    simp only [Tr.deeds] at h h'
    have e1 := own_ok n a (by omega) (by omega)
    have e2 := own_ok n b (by omega) (by omega)
    have l1 := nums_deeds a
    have l2 := nums_deeds b
    have hl : a.nums.length + b.nums.length ≤ 1000000 := by omega
    simp -implicitDefEqProofs [F__law_numbers, fDef_ap, b__law_numbers, Tr.enc, Tr.nums, e1, e2, ds_oi, hl]
    rfl
theorem put_ok : ∀ (n : Nat) (t : Tr) (l r : List Int), t.deeds < n → l.length = t.deeds + 1 → l.length + r.length ≤ 1000 → ∃ t' : Tr, t'.deeds = t.deeds ∧ t'.nums = l ∧ F__law_filled n [.sh t.enc, .lst ((l ++ r).map oi)] = .ok (.sh t'.enc) [.sh t.enc, .lst (r.map oi)]
  | 0, t, _, _, h, _, _ => absurd h (Nat.not_lt_zero _)
  | n + 1, .num i, l, r, _, hl, hr => by
    obtain ⟨j, rfl⟩ : ∃ j, l = [j] := List.length_eq_one_iff.mp hl
    simp only [List.length_cons, List.length_nil] at hr
    have := GPopAt_0 (ts := r.map oi) (t := oi j) (by rw [List.length_map]; omega)
    refine ⟨.num j, rfl, rfl, ?_⟩
    simp -implicitDefEqProofs [F__law_filled, fDef_ap, b__law_filled, Tr.enc, this]
    rfl
  | n + 1, .two w a b, l, r, h, hl, hr => by
    simp only [Tr.deeds] at h hl
    obtain ⟨l1, hl1⟩ : ∃ l1, l1 = l.take (a.deeds + 1) := ⟨_, rfl⟩
    obtain ⟨l2, hl2⟩ : ∃ l2, l2 = l.drop (a.deeds + 1) := ⟨_, rfl⟩
    have e0 : l = l1 ++ l2 := by rw [hl1, hl2, List.take_append_drop]
    have n1 : l1.length = a.deeds + 1 := by rw [hl1, List.length_take]; omega
    have n2 : l2.length = b.deeds + 1 := by rw [hl2, List.length_drop]; omega
    obtain ⟨x, zx, qx, ex⟩ := put_ok n a l1 (l2 ++ r) (by omega) n1 (by rw [List.length_append]; omega)
    obtain ⟨y, zy, qy, ey⟩ := put_ok n b l2 r (by omega) n2 (by omega)
    refine ⟨.two w x y, by simp only [Tr.deeds]; omega, by rw [e0, Tr.nums, qx, qy], ?_⟩
    rw [e0, List.append_assoc]
    simp -implicitDefEqProofs [F__law_filled, fDef_ap, b__law_filled, Tr.enc, ex, ey, -List.map_append]
theorem put_all {n : Nat} {t : Tr} {l : List Int} (h : t.deeds < n) (hn : n ≤ 100) (hl : l.length = t.deeds + 1) : ∃ t' : Tr, t'.deeds = t.deeds ∧ t'.nums = l ∧ F__law_filled n [.sh t.enc, .lst (l.map oi)] = .ok (.sh t'.enc) [.sh t.enc, .lst []] := by
  obtain ⟨t', z, q, e⟩ := put_ok n t l [] h hl (by simp only [List.length_nil]; omega)
  rw [List.append_nil] at e
  exact ⟨t', z, q, e⟩
theorem sign_dix (w : Wd) : dixS [("plus", "+"), ("less", "-"), ("times", "*"), ("share", "/")] w.s = some (mk [w.g]) := by cases w <;> decide +kernel
theorem text_ok : ∀ (t : Tr) (n : Nat) (b : Bool), t.Big → t.deeds < n → t.deeds ≤ 20 → F__law_text n [.sh t.enc, .sh (.bool b)] = .ok (.sh (.str (mk (if b = true then part t else shown t)))) [.sh t.enc, .sh (.bool b)]
  | t, 0, _, _, h, _ => absurd h (Nat.not_lt_zero _)
  | .num k, n + 1, b, nc, _, _ => by
    have s := stri_ok (nc k (List.mem_cons_self ..))
    cases b <;> simp -implicitDefEqProofs [F__law_text, fDef_ap, b__law_text, Tr.enc, s, shown, part]
  | .two w x y, n + 1, b, nc, h, h' => by
    have na : x.Big := fun n hn => nc n (List.mem_append_left _ hn)
    have nb : y.Big := fun n hn => nc n (List.mem_append_right _ hn)
    simp only [Tr.deeds] at h h'
    have h1 := text_ok x n true na (by omega) (by omega)
    have h2 := text_ok y n true nb (by omega) (by omega)
    rw [if_pos rfl] at h1 h2
    have j1 := sign_dix w
    have la := (shown_len x na).2
    have lb := (shown_len y nb).2
    have g1 := add_mk (a := part x) (b := [32]) (by simp only [List.length_cons, List.length_nil]; omega)
    have g2 := add_mk (a := part x ++ [32]) (b := [w.g]) (by simp only [List.length_append, List.length_cons, List.length_nil]; omega)
    have g3 := add_mk (a := part x ++ [32] ++ [w.g]) (b := [32]) (by simp only [List.length_append, List.length_cons, List.length_nil]; omega)
    have g4 := add_mk (a := part x ++ [32] ++ [w.g] ++ [32]) (b := part y) (by simp only [List.length_append, List.length_cons, List.length_nil]; omega)
    have g5 := add_mk (a := [40]) (b := shown (.two w x y)) (by rw [shown_two]; simp only [List.length_append, List.length_cons, List.length_nil]; omega)
    have g6 := add_mk (a := [40] ++ shown (.two w x y)) (b := [41]) (by rw [shown_two]; simp only [List.length_append, List.length_cons, List.length_nil]; omega)
    have e3 : part (.two w x y) = [40] ++ shown (.two w x y) ++ [41] := rfl
    rw [e3]
    rw [shown_two] at g5 g6 ⊢
    simp only [List.append_assoc, List.cons_append, List.nil_append] at g1 g2 g3 g4 g5 g6 ⊢
    cases b <;> simp -implicitDefEqProofs [-gAdd_s, F__law_text, fDef_ap, b__law_text, Tr.enc, h1, h2, j1, sp_mk, lb_mk, rb_mk, g1, g2, g3, g4, g5, g6]
theorem shown_small : ∀ t : Tr, (∀ c ∈ shown t, 32 ≤ c ∧ c < 58) ∧ ∀ c ∈ part t, 32 ≤ c ∧ c < 58
  | .num i => ⟨fun c hc => by have := num_dg _ c hc; unfold dg at this; omega, fun c hc => by have := num_dg _ c hc; unfold dg at this; omega⟩
  | .two w a b => by
    have ha := (shown_small a).2
    have hb := (shown_small b).2
    have hw : 32 ≤ w.g ∧ w.g < 58 := by cases w <;> decide
    have hs : ∀ c ∈ shown (.two w a b), 32 ≤ c ∧ c < 58 := fun c hc => by
      rw [shown_two] at hc
      simp only [List.mem_append, List.mem_cons, List.not_mem_nil, or_false] at hc
      rcases hc with (((hc | rfl) | rfl) | rfl) | hc
      · exact ha c hc
      · omega
      · exact hw
      · omega
      · exact hb c hc
    refine ⟨hs, fun c hc => ?_⟩
    have e3 : part (.two w a b) = [40] ++ shown (.two w a b) ++ [41] := rfl
    rw [e3] at hc
    simp only [List.mem_append, List.mem_cons, List.not_mem_nil, or_false] at hc
    rcases hc with (rfl | hc) | rfl
    · omega
    · exact hs c hc
    · omega
end Gen

end

section
set_option Elab.async false
set_option linter.all false
set_option maxRecDepth 100000
set_option maxHeartbeats 1000000
namespace VL
open PySem PySem.Spec PyProof.Rows L2 Builtin.Str
/-! ### t.split(c) as a list of signs -/
def splitL (c : Nat) : List Nat → List (List Nat)
  | [] => [[]]
  | x :: r => if x = c then [] :: splitL c r else match splitL c r with
    | [] => [[x]]
    | p :: q => (x :: p) :: q
def joinL (c : Nat) : List (List Nat) → List Nat
  | [] => []
  | [x] => x
  | x :: y :: r => x ++ c :: joinL c (y :: r)
theorem splitL_free {c : Nat} : ∀ p : List Nat, c ∉ p → splitL c p = [p]
  | [], _ => rfl
  | x :: p, h => by
    have h1 : ¬ x = c := fun e => h (by rw [e]; exact List.mem_cons_self ..)
    rw [splitL, if_neg h1, splitL_free p fun z => h (List.mem_cons_of_mem _ z)]
theorem splitL_app {c : Nat} (r : List Nat) : ∀ p : List Nat, c ∉ p → splitL c (p ++ c :: r) = p :: splitL c r
  | [], _ => by rw [List.nil_append, splitL, if_pos rfl]
  | x :: p, h => by
    have h1 : ¬ x = c := fun e => h (by rw [e]; exact List.mem_cons_self ..)
    rw [List.cons_append, splitL, if_neg h1, splitL_app r p fun z => h (List.mem_cons_of_mem _ z)]
theorem splitL_join {c : Nat} : ∀ ps : List (List Nat), ps ≠ [] → (∀ p ∈ ps, c ∉ p) → splitL c (joinL c ps) = ps
  | [], h, _ => absurd rfl h
  | [x], _, h => splitL_free x (h x (List.mem_cons_self ..))
  | x :: y :: r, _, h => by
    rw [joinL, splitL_app _ x (h x (List.mem_cons_self ..)), splitL_join (y :: r) (by simp) fun p hp => h p (List.mem_cons_of_mem _ hp)]
theorem join_cps (c : Nat) : ∀ ps : List Str, (Str.join ⟨#[c]⟩ ps).cps.toList = joinL c (ps.map fun x => x.cps.toList)
  | [] => rfl
  | [x] => rfl
  | x :: y :: r => by
    have ih := join_cps c (y :: r)
    show ((x ++ ⟨#[c]⟩ ++ Str.join ⟨#[c]⟩ (y :: r) : Str)).cps.toList = _
    have e : ∀ a b : Str, (a ++ b : Str).cps.toList = a.cps.toList ++ b.cps.toList := fun a b => by
      show (a.cps ++ b.cps).toList = _
      simp
    rw [e, e, ih]
    simp [joinL]
theorem split_ne (x y : Str) : Txt.split x y ≠ [] := by
  unfold Txt.split
  split
  · simp
  · split
    · simp
    · rw [StrLaws.partsBetween_eq]
      obtain ⟨p, q, e⟩ := StrLaws.partsFrom_ne x y.length 0 (PySem.Builtin.Str.occurrences x y 0 x.length (x.length + 1))
      rw [e]
      simp
theorem split_mk (x : Str) (c : Nat) : Txt.split x ⟨#[c]⟩ = (splitL c x.cps.toList).map fun l => ⟨l.toArray⟩ := by
  have h1 := StrLaws.join_split x ⟨#[c]⟩
  have h2 := StrLaws.split_free x c
  have h3 := join_cps c (Txt.split x ⟨#[c]⟩)
  rw [h1] at h3
  rw [h3, splitL_join]
  · rw [List.map_map]
    conv => lhs; rw [← List.map_id (Txt.split x ⟨#[c]⟩)]
    exact List.map_congr_left fun a _ => by simp
  · simp [split_ne]
  · intro p hp
    obtain ⟨a, ha, rfl⟩ := List.mem_map.mp hp
    exact h2 a ha
end VL

end

section
set_option Elab.async false
set_option linter.all false
set_option maxRecDepth 100000
set_option maxHeartbeats 4000000
namespace Gen
open PySem PySem.Spec PyProof.Rows L2 VL
open TL (numL)
theorem tw_mk : (("twins " : String) : Str) = mk [116, 119, 105, 110, 115, 32] := by decide +kernel
theorem wo_mk : (("worth " : String) : Str) = mk [119, 111, 114, 116, 104, 32] := by decide +kernel
theorem sc_mk : ((";" : String) : Str) = mk [59] := by decide +kernel
theorem nl_mk : (("\n" : String) : Str) = mk [10] := by decide +kernel
@[simp] theorem gRev_o (l : List OT) : gRev (.lst l) = (shs l).map fun l => .lst (l.reverse.map .sh) := rfl
@[simp] theorem mthAt_s (g : List OT → Option OT) (p2 : Bool) (h : PH) (x : Str) (f2 : Ev → Res (List PH)) (ρ : Ev) : mthAt "str" g p2 h (some (.sh (.str x))) f2 ρ = (f2 ρ).bind fun hs ρ2 => opn g (gets (h.un p2 :: hs) ρ2) ρ2 := rfl
@[simp] theorem gIs_lN (b : Bool) (l : List OT) : gIs b (.lst l) (.sh .none) = some (.sh (.bool (false == b))) := rfl
def pairL (a b : Tr) : List Nat := shown a ++ 59 :: shown b
def lineL (a b : Tr) : List Nat := [116, 119, 105, 110, 115, 32] ++ pairL a b
theorem no59 (t : Tr) : (59 : Nat) ∉ shown t := fun h => by have := (shown_small t).1 _ h; omega
theorem line_split (a b : Tr) : Txt.split (mk (pairL a b)) (mk [59]) = [mk (shown a), mk (shown b)] := by
  show Txt.split (mk (pairL a b)) ⟨#[59]⟩ = _
  rw [split_mk, mk_cps, pairL, splitL_app _ _ (no59 a), splitL_free _ (no59 b)]
  rfl
theorem line_len {a b : Tr} (na : a.Nice) (nb : b.Nice) (da : a.deeds ≤ 7) (db : b.deeds ≤ 7) : (lineL a b).length ≤ 200 := by
  have h1 := (shown_short a na).1
  have h2 := (shown_short b nb).1
  simp only [lineL, pairL, List.length_append, List.length_cons, List.length_nil]
  omega
theorem read_nice {t : Tr} (nt : t.Nice) (hd : t.deeds ≤ 7) : F_read_way [.sh (.str (mk (shown t)))] = .ok (.sh t.enc) [.sh (.str (mk (shown t)))] :=
  read_ok nt.big hd (by have := (shown_short t nt).1; omega)
def yn (q : Bool) : Str := if q = true then "yes" else "no"
theorem on_twins_ok {a b : Tr} (na : a.Nice) (nb : b.Nice) (da : a.deeds ≤ 7) (db : b.deeds ≤ 7) :
    F_Desk_on_twins [.sh deskD, .sh (.str (mk (pairL a b)))] = .ok (.lst [.sh (.str (yn (PyData.eqv (fm a) (fm b))))]) [.sh deskD, .sh (.str (mk (pairL a b)))] := by
  have l1 : (mk (pairL a b)).length ≤ 100000 := by
    have := line_len na nb da db
    simp only [lineL, List.length_append, List.length_cons, List.length_nil] at this
    rw [mk_len]; omega
  have s : gSplit [.sh (.str (mk (pairL a b))), .sh (.str (mk [59]))] = some (.lst [.sh (.str (mk (shown a))), .sh (.str (mk (shown b)))]) := by
    rw [gSplit_s, if_pos ⟨rfl, l1⟩, line_split]
    rfl
  have r1 := read_nice na da
  have r2 := read_nice nb db
  have t := twins_ok (a := a) (b := b) (by omega) (by omega)
  cases q : PyData.eqv (fm a) (fm b) <;> rw [q] at t <;>
  simp -implicitDefEqProofs [-gSplit_s, F_Desk_on_twins, fDef_ap, b_Desk_on_twins, F_need, b_need, sc_mk, s, r1, r2, t, yn]
theorem cut_pre (p r : List Nat) : cut (p ++ r) none (some (p.length : Int)) = p := by
  have := cut_mid [] p r
  simpa [cut, HT.sIx] using this
theorem cut_post (p r : List Nat) : cut (p ++ r) (some (p.length : Int)) none = r := by
  unfold cut
  have h1 : HT.sIx (p ++ r).length 0 (some (p.length : Int)) = p.length := by
    simp [HT.sIx]
    intro h
    omega
  have h2 : HT.sIx (p ++ r).length (p ++ r).length none = (p ++ r).length := rfl
  rw [h1, h2]
  simp
theorem sl_pre {a b : Tr} (h : (lineL a b).length ≤ 200) : gSl (.sh (.str (mk (lineL a b)))) none (some 6) = some (.sh (.str (mk [116, 119, 105, 110, 115, 32]))) := by
  show (if (mk (lineL a b)).length ≤ 1000000 then some (OT.sh (.str (cutS (mk (lineL a b)) none (some 6)))) else none) = _
  rw [if_pos (by rw [mk_len]; omega)]
  have e := cut_pre [116, 119, 105, 110, 115, 32] (pairL a b)
  have : cutS (mk (lineL a b)) none (some 6) = mk (cut (lineL a b) none (some 6)) := by
    unfold cutS
    rw [mk_cps]
    rfl
  rw [this]
  exact congrArg (fun l => some (OT.sh (.str (mk l)))) e
theorem sl_post {a b : Tr} (h : (lineL a b).length ≤ 200) : gSl (.sh (.str (mk (lineL a b)))) (some 6) none = some (.sh (.str (mk (pairL a b)))) := by
  show (if (mk (lineL a b)).length ≤ 1000000 then some (OT.sh (.str (cutS (mk (lineL a b)) (some 6) none))) else none) = _
  rw [if_pos (by rw [mk_len]; omega)]
  have e := cut_post [116, 119, 105, 110, 115, 32] (pairL a b)
  have : cutS (mk (lineL a b)) (some 6) none = mk (cut (lineL a b) (some 6) none) := by
    unfold cutS
    rw [mk_cps]
    rfl
  rw [this]
  exact congrArg (fun l => some (OT.sh (.str (mk l)))) e
theorem wt_ne : ¬ mk [116, 119, 105, 110, 115, 32] = mk [119, 111, 114, 116, 104, 32] := by decide
theorem of_texts_ok {a b : Tr} (na : a.Nice) (nb : b.Nice) (da : a.deeds ≤ 7) (db : b.deeds ≤ 7) :
    F_Desk_of_texts [.sh deskD, .sh (.str (mk (lineL a b)))] = .ok (.lst [.sh (.str (yn (PyData.eqv (fm a) (fm b))))]) [.sh deskD, .sh (.str (mk (lineL a b)))] := by
  have l := line_len na nb da db
  have e := on_twins_ok na nb da db
  have e1 := sl_pre l
  have e2 := sl_post l
  have lt : (mk [116, 119, 105, 110, 115, 32]).length = 6 := by decide
  have lw : (mk [119, 111, 114, 116, 104, 32]).length = 6 := by decide
  have wt' : ¬ mk [116, 119, 105, 110, 115, 32] = mk [119, 111, 114, 116, 104, 32] := wt_ne
  simp -implicitDefEqProofs [F_Desk_of_texts, fDef_ap, b_Desk_of_texts, fLoop_cons, l_Desk_of_texts_1, tw_mk, wo_mk, lt, lw, e, e1, e2, wt']
theorem no_nl (a b : Tr) : gNotIn (.sh (.str (mk [10]))) (.sh (.str (mk (lineL a b)))) = some (.sh (.bool true)) := by
  show some (OT.sh (.bool (true != decide (10 ∈ (mk (lineL a b)).cps.toList)))) = _
  rw [mk_cps]
  have : ¬ 10 ∈ lineL a b := fun h => by
    simp only [lineL, pairL, List.mem_append, List.mem_cons, List.not_mem_nil, or_false] at h
    rcases h with h | h | h | h
    · omega
    · have := (shown_small a).1 _ h
      omega
    · omega
    · have := (shown_small b).1 _ h
      omega
  simp [this]
theorem ask_ok {a b : Tr} (na : a.Nice) (nb : b.Nice) (da : a.deeds ≤ 7) (db : b.deeds ≤ 7) :
    F_Desk_ask [.sh deskD, .sh (.str (mk (lineL a b)))] = .ok (.lst [.sh (.str (yn (PyData.eqv (fm a) (fm b))))]) [.sh deskD, .sh (.str (mk (lineL a b)))] := by
  have e := of_texts_ok na nb da db
  have n := no_nl a b
  simp -implicitDefEqProofs [F_Desk_ask, fDef_ap, b_Desk_ask, F_need, b_need, nl_mk, n, e]
end Gen

end

section
set_option Elab.async false
set_option linter.all false
set_option maxRecDepth 100000
set_option maxHeartbeats 4000000
namespace Gen
open PySem PySem.Spec PyProof.Rows L2 VL
open TL (numL tl_num numL_len)
theorem cut_to {α : Type} (l : List α) {n : Int} (h0 : 0 ≤ n) (h : n ≤ l.length) : cut l none (some n) = l.take n.toNat := by
  unfold cut
  have h1 : HT.sIx l.length 0 none = 0 := rfl
  have h2 : HT.sIx l.length l.length (some n) = n.toNat := by
    simp only [HT.sIx]
    rw [if_neg (by omega)]
    omega
  rw [h1, h2]
  simp
theorem cut_from {α : Type} (l : List α) {n : Int} (h0 : 0 ≤ n) (h : n ≤ l.length) : cut l (some n) none = l.drop n.toNat := by
  unfold cut
  have h1 : HT.sIx l.length 0 (some n) = n.toNat := by
    simp only [HT.sIx]
    rw [if_neg (by omega)]
    omega
  have h2 : HT.sIx l.length l.length none = l.length := rfl
  rw [h1, h2]
  apply List.take_of_length_le
  simp
end Gen

end

section
set_option Elab.async false
set_option linter.all false
set_option maxRecDepth 100000
set_option maxHeartbeats 4000000
namespace Gen
open PySem PySem.Spec PyProof.Rows L2 VL
open TL (numL)
theorem gNe_one (x : Str) (h : PyData.strOk x = true) : gNe (.lst [.sh (.str x)]) (.sh (.list [.str x])) = some (.sh (.bool false)) := by
  have f : Flat 2 (OT.lst [.sh (.str x)]).d := flat_list (n := 1) fun d hd => by
    rw [List.mem_singleton.mp hd]
    exact flat_str x h 1
  refine (gNe_fl (n := 2) f f (by decide)).trans ?_
  show some (OT.sh (.bool (!PyData.eqv (.list [.str x]) (.list [.str x])))) = _
  simp [PyData.eqv, PyData.eqvAll]
theorem gNe_two (x : Str) (h : PyData.strOk x = true) : gNe (.sh (.list [.str x])) (.sh (.list [.str x])) = some (.sh (.bool false)) := by
  have f : Flat 2 (OT.sh (.list [.str x])).d := flat_list (n := 1) fun d hd => by
    rw [List.mem_singleton.mp hd]
    exact flat_str x h 1
  refine (gNe_fl (n := 2) f f (by decide)).trans ?_
  show some (OT.sh (.bool (!PyData.eqv (.list [.str x]) (.list [.str x])))) = _
  simp [PyData.eqv, PyData.eqvAll]
theorem ok_yes : PyData.strOk "yes" = true := by decide +kernel
theorem ok_no : PyData.strOk "no" = true := by decide +kernel
theorem line_adds {a b : Tr} (na : a.Nice) (nb : b.Nice) (da : a.deeds ≤ 7) (db : b.deeds ≤ 7) : ∃ A1 A2 : Str,
    gAdd (.sh (.str "twins ")) (.sh (.str (mk (shown a)))) = some (.sh (.str A1)) ∧ gAdd (.sh (.str A1)) (.sh (.str ";")) = some (.sh (.str A2)) ∧ gAdd (.sh (.str A2)) (.sh (.str (mk (shown b)))) = some (.sh (.str (mk (lineL a b)))) := by
  have l := line_len na nb da db
  have l' := l
  simp only [lineL, pairL, List.length_append, List.length_cons, List.length_nil] at l'
  refine ⟨mk ([116, 119, 105, 110, 115, 32] ++ shown a), mk ([116, 119, 105, 110, 115, 32] ++ shown a ++ [59]), ?_, ?_, ?_⟩
  · rw [tw_mk]; exact add_mk (by simp only [List.length_cons, List.length_nil]; omega)
  · rw [sc_mk]; exact add_mk (by simp only [List.length_append, List.length_cons, List.length_nil]; omega)
  · rw [add_mk (by simp only [List.length_append, List.length_cons, List.length_nil]; omega)]
    simp [lineL, pairL]
theorem one_ok {a b : Tr} (na : a.Nice) (nb : b.Nice) (da : a.deeds ≤ 7) (db : b.deeds ≤ 7) (s0 s2 s4 s5 s6 s7 s8 s9 s10 s12 s13 s14 s15 : OT) : ∃ x12 x13 x14 : OT,
    l_law_1 [s0, .sh deskD, s2, .sh a.enc, s4, s5, s6, s7, s8, s9, s10, .sh b.enc, s12, s13, s14, s15] = .nx [s0, .sh deskD, s2, .sh a.enc, s4, s5, s6, s7, s8, s9, s10, .sh b.enc, x12, x13, x14, s15] := by
  obtain ⟨A1, A2, g1, g2, g3⟩ := line_adds na nb da db
  have t1 := text_ok a 10 false na.big (by omega) (by omega)
  have t2 := text_ok b 10 false nb.big (by omega) (by omega)
  rw [if_neg (by decide)] at t1 t2
  have f1 := form_of_ok 10 a (by omega) (by omega)
  have f2 := form_of_ok 10 b (by omega) (by omega)
  have q := fm_gEq (a := a) (b := b) (by omega) (by omega)
  have k := ask_ok na nb da db
  have y := gNe_one "yes" ok_yes
  have n := gNe_one "no" ok_no
  cases hq : PyData.eqv (fm a) (fm b) with
  | true =>
    rw [hq] at q k
    rw [show yn true = "yes" from rfl] at k
    exact ⟨.sh (.str (mk (lineL a b))), .sh (.str "yes"), .lst [.sh (.str "yes"), .sh (.str "x")], by
      simp -implicitDefEqProofs [-gAdd_s, l_law_1, t1, t2, g1, g2, g3, f1, f2, q, k, y]⟩
  | false =>
    rw [hq] at q k
    rw [show yn false = "no" from rfl] at k
    exact ⟨.sh (.str (mk (lineL a b))), .sh (.str "no"), .lst [.sh (.str "no"), .sh (.str "x")], by
      simp -implicitDefEqProofs [-gAdd_s, l_law_1, t1, t2, g1, g2, g3, f1, f2, q, k, n]⟩
theorem ones_ok {a : Tr} (na : a.Nice) (da : a.deeds ≤ 7) {L : List Tr} (hL : ∀ b ∈ L, b.Nice ∧ b.deeds ≤ 7) (s0 s2 s4 s5 s6 s7 s8 s9 s10 s11 s12 s13 s14 s15 : OT) : ∃ x11 x12 x13 x14 : OT,
    fLoop (gNm 11) l_law_1 (L.map Tr.enc) [s0, .sh deskD, s2, .sh a.enc, s4, s5, s6, s7, s8, s9, s10, s11, s12, s13, s14, s15] = .nx [s0, .sh deskD, s2, .sh a.enc, s4, s5, s6, s7, s8, s9, s10, x11, x12, x13, x14, s15] := by
  obtain ⟨ρ', e, x11, x12, x13, x14, rfl⟩ := fLoop_inv (P := fun ρ => ∃ x11 x12 x13 x14 : OT, ρ = [s0, .sh deskD, s2, .sh a.enc, s4, s5, s6, s7, s8, s9, s10, x11, x12, x13, x14, s15]) (g := gNm 11) (fb := l_law_1) (ds := L.map Tr.enc) (ρ := [s0, .sh deskD, s2, .sh a.enc, s4, s5, s6, s7, s8, s9, s10, s11, s12, s13, s14, s15]) ⟨s11, s12, s13, s14, rfl⟩ (fun d hd ρ hp => by
    obtain ⟨x11, x12, x13, x14, rfl⟩ := hp
    obtain ⟨b, hb, rfl⟩ := List.mem_map.mp hd
    obtain ⟨nb, db⟩ := hL b hb
    obtain ⟨y12, y13, y14, e⟩ := one_ok na nb da db s0 s2 s4 s5 s6 s7 s8 s9 s10 x12 x13 x14 s15
    exact ⟨_, _, rfl, e, _, _, _, _, rfl⟩)
  exact ⟨x11, x12, x13, x14, e⟩
theorem small_comp {s0 s1 s2 s3 s4 s5 s6 s8 s9 s10 s11 s12 s13 s14 : OT} {l : List Int} (hl : l.length ≤ 1000) :
    c_law_2 [s0, s1, s2, s3, s4, s5, s6, .lst (l.map oi), s8, s9, s10, s11, s12, s13, s14, .mv] = .ok (.lst ((l.map fun i => 1 + i.fmod 3).map oi)) [s0, s1, s2, s3, s4, s5, s6, .lst (l.map oi), s8, s9, s10, s11, s12, s13, s14, .mv] := by
  have d3 : divOk 3 := by decide
  have e := comp_map (vs := [15]) (g := gNm 15) (fe := fOp2 gAdd true (fPh (fC (.int 1))) (fPh (fOp2 gMod true (fPv 15) (fPh (fC (.int 3)))))) (ρ := [s0, s1, s2, s3, s4, s5, s6, .mv, s8, s9, s10, s11, s12, s13, s14, .mv]) (m := fun d => match d with | .int i => .int (1 + i.fmod 3) | d => d) (ds := l.map .int) (fun d hd => by
    obtain ⟨i, _, rfl⟩ := List.mem_map.mp hd
    refine ⟨_, [s0, s1, s2, s3, s4, s5, s6, .mv, s8, s9, s10, s11, s12, s13, s14, .sh (.int i)], .sh (.int (1 + i.fmod 3)), rfl, ?_, rfl, rfl⟩
    simp -implicitDefEqProofs [d3])
  have hs : shs (l.map oi) = some (l.map .int) := by rw [show l.map oi = (l.map PyData.int).map .sh by simp [oi, Function.comp_def], shs_map]
  have l1 : l.length ≤ 1000000 := by omega
  simp -implicitDefEqProofs [c_law_2, e, hs, l1]
  simp [oi, Function.comp_def]
theorem eqv_self {a b : Tr} (h : fm a = fm b) (ha : a.deeds ≤ 7) : PyData.eqv (fm a) (fm b) = true := by
  rw [← h]
  exact isf_self 10 (fm_is10 (by omega))
theorem sum_perm {a b : List Int} (h : a.Perm b) : a.sum = b.sum := by
  induction h with
  | nil => rfl
  | cons x _ ih => simp [ih]
  | swap x y l => simp only [List.sum_cons]; omega
  | trans _ _ ih1 ih2 => exact ih1.trans ih2
theorem eqv_up {a : Tr} (ha : a.deeds ≤ 7) : PyData.eqv (fm a) (fm (lastUp a)) = false := by
  cases h : PyData.eqv (fm a) (fm (lastUp a)) with
  | false => rfl
  | true =>
    have hu : (lastUp a).deeds ≤ 7 := by rw [up_deeds]; exact ha
    have e := fm_eqv (by omega) (by omega) h
    have p1 := sum_perm (nums_perm a (by omega)).1
    have p2 := sum_perm (nums_perm (lastUp a) (by omega)).1
    rw [← e, p1, up_sum] at p2
    omega
theorem turn_ok {ns : List Int} (h : ns.length ≤ 63) {k : Int} (hk : 0 ≤ k) (s3 s4 s5 s6 s7 s8 s9 s10 s11 s12 s13 s14 : OT) : ∃ x3 x4 x5 x6 x7 x8 x9 x10 x11 x12 x13 x14 : OT,
    l_law_3 [Sc ns, .sh deskD, .sh (.int k), s3, s4, s5, s6, s7, s8, s9, s10, s11, s12, s13, s14, .mv] = .nx [Sc ns, .sh deskD, .sh (.int k), x3, x4, x5, x6, x7, x8, x9, x10, x11, x12, x13, x14, .mv] := by
  have d3 : divOk 3 := by decide
  obtain ⟨r1, r10, er1⟩ := draw_ok (k := 20 + k) h (by omega)
  obtain ⟨r2, r20, er2⟩ := draw_ok (k := 30 + k) h (by omega)
  obtain ⟨r3, r30, er3⟩ := draw_ok (k := 50 + k) h (by omega)
  have f1 := Int.fmod_nonneg_of_pos r1 (show (0 : Int) < 3 by decide)
  have f2 := Int.fmod_lt_of_pos r1 (show (0 : Int) < 3 by decide)
  have f3 := Int.fmod_nonneg_of_pos r2 (show (0 : Int) < 3 by decide)
  have f4 := Int.fmod_lt_of_pos r2 (show (0 : Int) < 3 by decide)
  have pw : ∀ f : Int, 0 ≤ f → f < 3 → 2 ^ (1 + f).toNat ≤ 8 := fun f h1 h2 => by
    rcases (by omega : f = 0 ∨ f = 1 ∨ f = 2) with rfl | rfl | rfl <;> decide
  have q1 := pw _ f1 f2
  have q2 := pw _ f3 f4
  obtain ⟨a, sa, da, ea⟩ := way_ok h 10 (1 + r1.fmod 3) (40 * k) (by omega) (by omega) (by omega)
  obtain ⟨c, sc, dc, ec⟩ := way_ok h 10 (1 + r2.fmod 3) (40 * k + 7) (by omega) (by omega) (by omega)
  obtain ⟨t, al, et⟩ := turned_ok h 10 a (30 * k) (by omega) (by omega)
  have dt : t.deeds ≤ 7 := by rw [al.deeds]; omega
  have st : Sm 999 t := fun n hn => sa n (al.nums.mem_iff.mp hn)
  have eu := other_ok (ns := ns) 10 t (by omega)
  have su := up_sm t st
  have du : (lastUp t).deeds ≤ 7 := by rw [up_deeds]; exact dt
  have en := own_ok 10 t (by omega) (by omega)
  have ln := nums_deeds t
  have ln0 : (t.nums.length : Int) ≠ 0 := by omega
  have g1 := Int.fmod_nonneg_of_pos r3 (show (0 : Int) < t.nums.length by omega)
  have g2 := Int.fmod_lt_of_pos r3 (show (0 : Int) < t.nums.length by omega)
  have dn : divOk t.nums.length := fdiv_ok (by omega) (by omega)
  generalize hm : r3.fmod t.nums.length = m at g1 g2
  obtain ⟨l1, hl1⟩ : ∃ l1, l1 = cut t.nums (some m) none ++ (cut t.nums none (some m)).reverse := ⟨_, rfl⟩
  have hmN : m.toNat ≤ t.nums.length := by omega
  have c1 := cut_from t.nums g1 (by omega)
  have c2 := cut_to t.nums g1 (by omega)
  rw [c1, c2] at hl1
  have cp : l1.Perm t.nums := by
    rw [hl1]
    refine (List.perm_append_comm).trans ?_
    refine ((List.reverse_perm _).append_right _).trans ?_
    rw [List.take_append_drop]
  have ll1 : l1.length = t.deeds + 1 := by rw [cp.length_eq, ln]
  obtain ⟨u1, du1, nu1, eu1⟩ := put_all (n := 10) (t := t) (l := l1) (by omega) (by omega) ll1
  obtain ⟨u2, du2, nu2, eu2⟩ := put_all (n := 10) (t := a) (l := t.nums.map fun i => 1 + i.fmod 3) (by omega) (by omega) (by rw [List.length_map, ln, al.deeds])
  have nt : t.Nice := st.nice (by decide)
  have na : a.Nice := sa.nice (by decide)
  have nc : c.Nice := sc.nice (by decide)
  have nl : (lastUp t).Nice := su.nice (by decide)
  have n1 : u1.Nice := fun n hn => nt n (cp.mem_iff.mp (nu1 ▸ hn))
  have n2 : u2.Nice := fun n hn => by
    rw [nu2] at hn
    obtain ⟨i, _, rfl⟩ := List.mem_map.mp hn
    have z1 := Int.fmod_nonneg_of_pos i (show (0 : Int) < 3 by decide)
    have z2 := Int.fmod_lt_of_pos i (show (0 : Int) < 3 by decide)
    show 1 ≤ 1 + i.fmod 3 ∧ 1 + i.fmod 3 ≤ 1000000
    omega
  have hL : ∀ b ∈ [t, lastUp t, c, a, u1, u2], b.Nice ∧ b.deeds ≤ 7 := fun b hb => by
    simp only [List.mem_cons, List.not_mem_nil, or_false] at hb
    rcases hb with rfl | rfl | rfl | rfl | rfl | rfl
    · exact ⟨nt, dt⟩
    · exact ⟨nl, du⟩
    · exact ⟨nc, by omega⟩
    · exact ⟨na, by omega⟩
    · exact ⟨n1, by omega⟩
    · exact ⟨n2, by omega⟩
  have da' : a.deeds ≤ 7 := by omega
  obtain ⟨x11, x12, x13, x14, eo⟩ := ones_ok na da' hL (Sc ns) (.sh (.int k)) (.sh t.enc) (.sh (lastUp t).enc) (.sh c.enc) (.lst (t.nums.map oi)) (.sh (.int m)) (.sh u1.enc) (.sh u2.enc) s11 s12 s13 s14 .mv
  have sm := small_comp (l := t.nums) (s0 := Sc ns) (s1 := .sh deskD) (s2 := .sh (.int k)) (s3 := .sh a.enc) (s4 := .sh t.enc) (s5 := .sh (lastUp t).enc) (s6 := .sh c.enc) (s8 := .sh (.int m)) (s9 := .sh u1.enc) (s10 := s10) (s11 := s11) (s12 := s12) (s13 := s13) (s14 := s14) (by omega)
  obtain ⟨A1, A2, a1, a2, a3⟩ := line_adds na nt da' dt
  obtain ⟨B1, B2, b1, b2, b3⟩ := line_adds nt nl dt du
  have x1 := text_ok a 10 false na.big (by omega) (by omega)
  have x2 := text_ok t 10 false nt.big (by omega) (by omega)
  have x3 := text_ok (lastUp t) 10 false nl.big (by omega) (by omega)
  rw [if_neg (by decide)] at x1 x2 x3
  have k1 := ask_ok na nt da' dt
  have k2 := ask_ok nt nl dt du
  rw [eqv_self (al.form (by omega)).symm da'] at k1
  rw [eqv_up dt] at k2
  rw [show yn true = "yes" from rfl] at k1
  rw [show yn false = "no" from rfl] at k2
  have y1 := gNe_two "yes" ok_yes
  have y2 := gNe_two "no" ok_no
  have hs : shs (t.nums.map oi) = some (t.nums.map .int) := by rw [show t.nums.map oi = (t.nums.map PyData.int).map .sh by simp [oi, Function.comp_def], shs_map]
  have shoi : ∀ l : List Int, shs (l.map oi) = some (l.map .int) := fun l => by rw [show l.map oi = (l.map PyData.int).map .sh by simp [oi, Function.comp_def], shs_map]
  have oish : ∀ l : List Int, (l.map PyData.int).map OT.sh = l.map oi := fun l => by simp [oi, Function.comp_def]
  obtain ⟨d1, hd1⟩ : ∃ d1, d1 = t.nums.drop m.toNat := ⟨_, rfl⟩
  obtain ⟨d2, hd2⟩ : ∃ d2, d2 = t.nums.take m.toNat := ⟨_, rfl⟩
  obtain ⟨d3', hd3⟩ : ∃ d3, d3 = d2.reverse := ⟨_, rfl⟩
  have v1 : gSl (.lst (t.nums.map oi)) (some m) none = some (.lst (d1.map oi)) := by
    rw [gSl_o, shoi, Option.map_some, cut_from _ g1 (by rw [List.length_map]; omega), ← List.map_drop, oish, hd1]
  have v2 : gSl (.lst (t.nums.map oi)) none (some m) = some (.lst (d2.map oi)) := by
    rw [gSl_o, shoi, Option.map_some, cut_to _ g1 (by rw [List.length_map]; omega), ← List.map_take, oish, hd2]
  have v3 : gRev (.sh (.list (d2.map .int))) = some (.lst (d3'.map oi)) := by
    rw [gRev_l, ← List.map_reverse, oish, hd3]
  have v4 : gAdd (.sh (.list (d1.map .int))) (.sh (.list (d3'.map .int))) = some (.lst (l1.map oi)) := by
    rw [gAdd_ll, gAddL_some, if_pos (by rw [List.length_map, List.length_map, hd1, hd3, List.length_reverse, hd2, List.length_drop, List.length_take]; omega), ← List.map_append, oish, hl1, hd3, hd1, hd2]
  have ln1 : ¬ t.nums = [] := fun z => by rw [z] at ln; simp at ln
  have m1 : mulOk 40 k := mul_okl (by decide) (by decide)
  have m2 : mulOk 30 k := mul_okl (by decide) (by decide)
  have o1 : (OT.ds (t.nums.map oi)).length ≤ 1000000 := by rw [ds_oi, List.length_map]; omega
  refine ⟨.sh a.enc, .sh t.enc, .sh (lastUp t).enc, .sh c.enc, .lst (t.nums.map oi), .sh (.int m), .sh u1.enc, .sh u2.enc, x11, x12, x13, x14, ?_⟩
  have eo' : fLoop (gNm 11) l_law_1 [t.enc, (lastUp t).enc, c.enc, a.enc, u1.enc, u2.enc] [Sc ns, .sh deskD, .sh (.int k), .sh a.enc, .sh t.enc, .sh (lastUp t).enc, .sh c.enc, .lst (t.nums.map oi), .sh (.int m), .sh u1.enc, .sh u2.enc, s11, s12, s13, s14, .mv] = _ := eo
  have ll : ((t.nums.map oi).length : Int) = t.nums.length := by simp
  simp -implicitDefEqProofs [-gAdd_s, -gAdd_ll, -gSl_o, -gRev_l, ds_oi, -List.map_append, -List.map_map, l_law_3, er1, er2, er3, d3, m1, m2, ea, ec, et, eu, en, ll, dn, hm, hs, v1, v2, v3, v4, eu1, eu2, sm, eo', x1, x2, x3, a1, a2, a3, b1, b2, b3, k1, k2, y1, y2, ln0, ln1, o1]
theorem law_true (ns : List Int) (h : ns.length ≤ 63) : ∃ as, F_law [.sh (.list (ns.map .int))] = .ok (.sh (.bool true)) as := by
  obtain ⟨ρ', e, x2, x3, x4, x5, x6, x7, x8, x9, x10, x11, x12, x13, x14, rfl⟩ := fLoop_inv (P := fun ρ => ∃ x2 x3 x4 x5 x6 x7 x8 x9 x10 x11 x12 x13 x14 : OT, ρ = [Sc ns, .sh deskD, x2, x3, x4, x5, x6, x7, x8, x9, x10, x11, x12, x13, x14, .mv]) (g := gNm 2) (fb := l_law_3) (ds := rngD 0 6) (ρ := [Sc ns, .sh deskD, .mv, .mv, .mv, .mv, .mv, .mv, .mv, .mv, .mv, .mv, .mv, .mv, .mv, .mv]) ⟨.mv, .mv, .mv, .mv, .mv, .mv, .mv, .mv, .mv, .mv, .mv, .mv, .mv, rfl⟩ (fun d hd ρ hp => by
    obtain ⟨x2, x3, x4, x5, x6, x7, x8, x9, x10, x11, x12, x13, x14, rfl⟩ := hp
    obtain ⟨i, hi⟩ := List.mem_iff_getElem?.mp hd
    obtain ⟨rfl, _⟩ := rngD_get hi
    obtain ⟨y3, y4, y5, y6, y7, y8, y9, y10, y11, y12, y13, y14, e⟩ := turn_ok h (k := 0 + (i : Int)) (by omega) x3 x4 x5 x6 x7 x8 x9 x10 x11 x12 x13 x14
    exact ⟨_, _, rfl, e, _, _, _, _, _, _, _, _, _, _, _, _, _, rfl⟩)
  have r6 : rOk 6 := rOk_of (by decide) (by decide)
  simp -implicitDefEqProofs [F_law, fDef_ap, b_law, r1At_i r6, e]
end Gen

end

section
set_option Elab.async false
set_option linter.all false
set_option maxRecDepth 100000
set_option maxHeartbeats 4000000
namespace Gen
open PySem PySem.Spec PyProof.Rows L2 VL
def top (i : Nat) : Stmt := PySem.Challenge.pw_ledtowish_k36_desk_twins.main.body.getD i (.Pass ⟨0, 0, 0, 0⟩)
structure Txt (K : PySem.W.Frag) (w : World) (mg : Str → Option Value) (xa : Str → Option Addr) : Prop where
  b_tuple : mg "tuple" = none
  b_isinstance : mg "isinstance" = none
  b_int : mg "int" = none
  b_sorted : mg "sorted" = none
  b_len : mg "len" = none
  b_range : mg "range" = none
  b_min : mg "min" = none
  b_list : mg "list" = none
  b_max : mg "max" = none
  b_str : mg "str" = none
  m_RANKS : KTab K w mg "RANKS" c_RANKS
  m_TURNED : ConstAt K mg "TURNED" c_TURNED
  m_KINDS_forms : KTab K w mg "KINDS_forms" c_KINDS_forms
  m_FIGURES : ConstAt K mg "FIGURES" c_FIGURES
  m_SIGNS : ConstAt K mg "SIGNS" c_SIGNS
section
variable {P : Program} {w : World} {K : PySem.W.Frag} {mg : Str → Option Value} {base : Heap} {xa : Str → Option Addr}
abbrev s_key_of : Stmt := top 4
abbrev N_key_of : List Str := ["form", "word", "more", "off", "part"]
theorem sc_key_of : FnScope N_key_of ["form"] (defScope s_key_of) := ⟨rfl, rfl, rfl, by decide +kernel, rfl, by decide +kernel, by decide +kernel⟩
theorem g_key_of (T : Txt K w mg xa) (A : At K mg "key_of" s_key_of ["form"]) : ∀ n, DefAt P w K mg base xa "key_of" ["form"] 1 (0 + n) (F_key_of n)
  | 0 => defAt_bad A
  | n + 1 => by
    have g_key_of : DefAt P w K mg base xa "key_of" ["form"] 1 (0 + n) (F_key_of n) := g_key_of T A n
    exact defAt_of A sc_key_of rfl rfl (fun f cdv Ar outer s H E B => (vss_cons (vs_if (vt_val (ve_isi (vp_name (pv 0)) (by rfl) T.b_isinstance (by rfl) T.b_int (by decide +kernel)))
    (vss_one (vs_ret (ve_tup (vps_cons (vp_of ve_int) (vps_cons (vp_of (ve_name (pv 0))) vps_nil)))))
    vss_nil)
    (vss_cons (vs_asg (ve_name (pv 0)) (vg_tup B.hc (vgs_cons (vg_name sc_key_of.nd rfl (by first | exact Or.inl rfl | exact Or.inr rfl) (by decide)) (vgs_cons (vg_name sc_key_of.nd rfl (by first | exact Or.inl rfl | exact Or.inr rfl) (by decide)) (vgs_cons (vg_name sc_key_of.nd rfl (by first | exact Or.inl rfl | exact Or.inr rfl) (by decide)) vgs_nil)))))
    (vss_one (vs_ret (ve_tup (vps_cons (vp_of (ve_ktab T.m_RANKS (by rfl) (vp_name (pv 1)) (fun _ _ => rfl))) (vps_cons (vp_of (ve_callTy call_tupleF prim_tuple (by rfl) T.b_tuple (by decide +kernel) (vps_cons (vp_of (ve_lc (own := [("part", 4)]) (kp := [0, 1, 2, 3]) (g := (gNm 4)) (ft := fYes) (fe := (fCall (F_key_of n) (fACons (fArgV 4) fANil))) (by first | exact rfl | exact B.hc) sc_key_of.nd (vi_seq (vp_name (pv 2))) (blkOk_by (own := [("part", 4)]) (N := N_key_of) (sc := defScope s_key_of) (by decide +kernel)) (kp_by (n := 5) (by decide)) (fun _ _ _ _ _ => (vg_name sc_key_of.nd rfl (by first | exact Or.inl rfl | exact Or.inr rfl) (by decide))) (fun _ _ _ _ _ => vts_nil) (fun _ _ _ _ _ => (ve_call (fd_in g_key_of B.hr (by first | omega | exact lv_add (by omega))) passN (by rfl) (va_cons (va_name (pv 4)) va_nil))))) vps_nil))) (vps_cons (vp_of (ve_callTy call_tupleF prim_tuple (by rfl) T.b_tuple (by decide +kernel) (vps_cons (vp_of (ve_lc (own := [("part", 4)]) (kp := [0, 1, 2, 3]) (g := (gNm 4)) (ft := fYes) (fe := (fCall (F_key_of n) (fACons (fArgV 4) fANil))) (by first | exact rfl | exact B.hc) sc_key_of.nd (vi_seq (vp_name (pv 3))) (blkOk_by (own := [("part", 4)]) (N := N_key_of) (sc := defScope s_key_of) (by decide +kernel)) (kp_by (n := 5) (by decide)) (fun _ _ _ _ _ => (vg_name sc_key_of.nd rfl (by first | exact Or.inl rfl | exact Or.inr rfl) (by decide))) (fun _ _ _ _ _ => vts_nil) (fun _ _ _ _ _ => (ve_call (fd_in g_key_of B.hr (by first | omega | exact lv_add (by omega))) passN (by rfl) (va_cons (va_name (pv 4)) va_nil))))) vps_nil))) vps_nil)))))))))
abbrev s_in_order : Stmt := top 5
abbrev N_in_order : List Str := ["forms"]
theorem sc_in_order : FnScope N_in_order ["forms"] (defScope s_in_order) := ⟨rfl, rfl, rfl, by decide +kernel, rfl, by decide +kernel, by decide +kernel⟩
theorem g_in_order (T : Txt K w mg xa) (A : At K mg "in_order" s_in_order ["forms"]) (g_key_of : DefAt P w K mg base xa "key_of" ["form"] 1 10 (F_key_of 10)) : DefAt P w K mg base xa "in_order" ["forms"] 1 13 F_in_order :=
  defAt_of A sc_in_order rfl rfl (fun f cdv Ar outer s H E B => (vss_one (vs_ret (ve_callTy call_tupleF prim_tuple (by rfl) T.b_tuple (by decide +kernel) (vps_cons (vp_of (ve_sortK B.hc g_key_of B.hr (by first | omega | exact lv_add (by omega)) (by rfl) T.b_sorted (by rfl) (vps_cons (vp_name (pv 0)) vps_nil))) vps_nil)))))
abbrev s_parts_by : Stmt := top 6
abbrev N_parts_by : List Str := ["form", "kind"]
theorem sc_parts_by : FnScope N_parts_by ["form", "kind"] (defScope s_parts_by) := ⟨rfl, rfl, rfl, by decide +kernel, rfl, by decide +kernel, by decide +kernel⟩
theorem g_parts_by (T : Txt K w mg xa) (A : At K mg "parts_by" s_parts_by ["form", "kind"]) : DefAt P w K mg base xa "parts_by" ["form", "kind"] 2 1 F_parts_by :=
  defAt_of A sc_parts_by rfl rfl (fun f cdv Ar outer s H E B => (vss_cons (vs_if (vt_w (vw_and (vt_not (vt_val (ve_isi (vp_name (pv 0)) (by rfl) T.b_isinstance (by rfl) T.b_int (by decide +kernel)))) (vw_and1 (vt_cmp (op_eqA B.hr.units) prim_eq (vp_ix (vp_name (pv 0)) (vp_of ve_int) (fun _ _ => rfl)) (vp_name (pv 1)) (nomark _)))))
    (vss_one (vs_ret (ve_tup (vps_cons (vp_of (ve_ix ix_seq prim_ix (vp_name (pv 0)) (vp_of ve_int) (fun _ _ => rfl))) (vps_cons (vp_of (ve_ix ix_seq prim_ix (vp_name (pv 0)) (vp_of ve_int) (fun _ _ => rfl))) vps_nil)))))
    vss_nil)
    (vss_one (vs_ret (ve_tup (vps_cons (vp_of (ve_tup (vps_cons (vp_of (ve_name (pv 0))) vps_nil))) (vps_cons (vp_of (ve_tup vps_nil)) vps_nil)))))))
abbrev s_form_of : Stmt := top 7
abbrev N_form_of : List Str := ["way", "word", "one", "other", "kind", "more", "off", "most", "least"]
theorem sc_form_of : FnScope N_form_of ["way"] (defScope s_form_of) := ⟨rfl, rfl, rfl, by decide +kernel, rfl, by decide +kernel, by decide +kernel⟩
theorem g_form_of (T : Txt K w mg xa) (A : At K mg "form_of" s_form_of ["way"]) (g_in_order : DefAt P w K mg base xa "in_order" ["forms"] 1 13 F_in_order) (g_parts_by : DefAt P w K mg base xa "parts_by" ["form", "kind"] 2 1 F_parts_by) : ∀ n, DefAt P w K mg base xa "form_of" ["way"] 1 (13 + n) (F_form_of n)
  | 0 => defAt_bad A
  | n + 1 => by
    have g_form_of : DefAt P w K mg base xa "form_of" ["way"] 1 (13 + n) (F_form_of n) := g_form_of T A g_in_order g_parts_by n
    exact defAt_of A sc_form_of rfl rfl (fun f cdv Ar outer s H E B => (vss_cons (vs_if (vt_val (ve_isi (vp_name (pv 0)) (by rfl) T.b_isinstance (by rfl) T.b_int (by decide +kernel)))
    (vss_one (vs_ret (ve_name (pv 0))))
    vss_nil)
    (vss_cons (vs_asg (ve_name (pv 0)) (vg_tup B.hc (vgs_cons (vg_name sc_form_of.nd rfl (by first | exact Or.inl rfl | exact Or.inr rfl) (by decide)) (vgs_cons (vg_name sc_form_of.nd rfl (by first | exact Or.inl rfl | exact Or.inr rfl) (by decide)) (vgs_cons (vg_name sc_form_of.nd rfl (by first | exact Or.inl rfl | exact Or.inr rfl) (by decide)) vgs_nil)))))
    (vss_cons (vs_set (i := 4) sc_form_of.nd rfl (by first | exact Or.inl rfl | exact Or.inr rfl) (by decide) (ve_ktab T.m_KINDS_forms (by rfl) (vp_name (pv 1)) (fun _ _ => rfl)))
    (vss_cons (vs_asg (ve_call (fd_of g_parts_by B.hr (by first | omega | exact lv_add (by omega))) B.hx (by rfl) (va_cons (va_of (ve_call (fd_of g_form_of B.hr (by first | omega | exact lv_add (by omega))) B.hx (by rfl) (va_cons (va_name (pv 2)) va_nil))) (va_cons (va_name (pv 4)) va_nil))) (vg_tup B.hc (vgs_cons (vg_name sc_form_of.nd rfl (by first | exact Or.inl rfl | exact Or.inr rfl) (by decide)) (vgs_cons (vg_name sc_form_of.nd rfl (by first | exact Or.inl rfl | exact Or.inr rfl) (by decide)) vgs_nil))))
    (vss_cons (vs_asg (ve_call (fd_of g_parts_by B.hr (by first | omega | exact lv_add (by omega))) B.hx (by rfl) (va_cons (va_of (ve_call (fd_of g_form_of B.hr (by first | omega | exact lv_add (by omega))) B.hx (by rfl) (va_cons (va_name (pv 3)) va_nil))) (va_cons (va_name (pv 4)) va_nil))) (vg_tup B.hc (vgs_cons (vg_name sc_form_of.nd rfl (by first | exact Or.inl rfl | exact Or.inr rfl) (by decide)) (vgs_cons (vg_name sc_form_of.nd rfl (by first | exact Or.inl rfl | exact Or.inr rfl) (by decide)) vgs_nil))))
    (vss_cons (vs_if (vt_cmp (op_inA (u65 B.hr)) prim_in (vp_name (pv 1)) (vp_of (ve_const T.m_TURNED (by rfl))) rfl)
    (vss_one (vs_par (i := 7) (j := 8) B.hc sc_form_of.nd rfl rfl (by decide) rfl rfl (va_cons (va_of (ve_name (pv 8))) (va_cons (va_of (ve_name (pv 7))) va_nil)) (by decide) (by decide) rfl))
    vss_nil)
    (vss_one (vs_ret (ve_tup (vps_cons (vp_of (ve_name (pv 4))) (vps_cons (vp_of (ve_call (fd_of g_in_order B.hr (by first | omega | exact lv_add (by omega))) B.hx (by rfl) (va_cons (va_of (ve_op op_addA prim_add (vp_name (pv 5)) (vp_name (pv 7)))) va_nil))) (vps_cons (vp_of (ve_call (fd_of g_in_order B.hr (by first | omega | exact lv_add (by omega))) B.hx (by rfl) (va_cons (va_of (ve_op op_addA prim_add (vp_name (pv 6)) (vp_name (pv 8)))) va_nil))) vps_nil)))))))))))))
abbrev s_are_twins : Stmt := top 9
abbrev N_are_twins : List Str := ["one", "other"]
theorem sc_are_twins : FnScope N_are_twins ["one", "other"] (defScope s_are_twins) := ⟨rfl, rfl, rfl, by decide +kernel, rfl, by decide +kernel, by decide +kernel⟩
theorem g_are_twins (T : Txt K w mg xa) (A : At K mg "are_twins" s_are_twins ["one", "other"]) (g_form_of : DefAt P w K mg base xa "form_of" ["way"] 1 23 (F_form_of 10)) : DefAt P w K mg base xa "are_twins" ["one", "other"] 2 24 F_are_twins :=
  defAt_of A sc_are_twins rfl rfl (fun f cdv Ar outer s H E B => (vss_one (vs_ret (ve_cmp (op_eqA B.hr.units) prim_eq (vp_of (ve_call (fd_of g_form_of B.hr (by first | omega | exact lv_add (by omega))) B.hx (by rfl) (va_cons (va_name (pv 0)) va_nil))) (vp_of (ve_call (fd_of g_form_of B.hr (by first | omega | exact lv_add (by omega))) B.hx (by rfl) (va_cons (va_name (pv 1)) va_nil))) (nomark _)))))
abbrev s_pieces_of : Stmt := top 51
abbrev N_pieces_of : List Str := ["text", "found", "at", "size"]
theorem sc_pieces_of : FnScope N_pieces_of ["text"] (defScope s_pieces_of) := ⟨rfl, rfl, rfl, by decide +kernel, rfl, by decide +kernel, by decide +kernel⟩
theorem g_pieces_of (T : Txt K w mg xa) (A : At K mg "pieces_of" s_pieces_of ["text"]) : DefAt P w K mg base xa "pieces_of" ["text"] 1 1 F_pieces_of :=
  defAt_of A sc_pieces_of rfl rfl (fun f cdv Ar outer s H E B => (vss_cons (vs_set (i := 1) sc_pieces_of.nd rfl (by first | exact Or.inl rfl | exact Or.inr rfl) (by decide) (ve_lst vps_nil))
    (vss_cons (vs_set (i := 2) sc_pieces_of.nd rfl (by first | exact Or.inl rfl | exact Or.inr rfl) (by decide) ve_int)
    (vss_cons (vs_while B 1000 (vt_cmp op_lt prim_cmp (vp_name (pv 2)) (vp_of (ve_callB call_lenA prim_len (by rfl) T.b_len (by decide +kernel) (vps_cons (vp_name (pv 0)) vps_nil))) (nomark _))
    (vss_cons (vs_set (i := 3) sc_pieces_of.nd rfl (by first | exact Or.inl rfl | exact Or.inr rfl) (by decide) ve_int)
    (vss_cons (vs_if (vt_cmp (op_inA (u65 B.hr)) prim_in (vp_ix (vp_name (pv 0)) (vp_name (pv 2)) (fun _ _ => rfl)) (vp_of (ve_const T.m_FIGURES (by rfl))) rfl)
    (vss_one (vs_while B 1000 (vt_w (vw_and (vt_cmp op_lt prim_cmp (vp_of (ve_op op_addA prim_add (vp_name (pv 2)) (vp_name (pv 3)))) (vp_of (ve_callB call_lenA prim_len (by rfl) T.b_len (by decide +kernel) (vps_cons (vp_name (pv 0)) vps_nil))) (nomark _)) (vw_and1 (vt_cmp (op_inA (u65 B.hr)) prim_in (vp_ix (vp_name (pv 0)) (vp_of (ve_op op_addA prim_add (vp_name (pv 2)) (vp_name (pv 3)))) (fun _ _ => rfl)) (vp_of (ve_const T.m_FIGURES (by rfl))) rfl))))
    (vss_one (vs_aug (i := 3) iop_add prim_ii0 sc_pieces_of.nd rfl (by first | exact Or.inl rfl | exact Or.inr rfl) (by decide) (vp_of ve_int)))))
    (vss_one (vs_if (vt_cmp (op_eqA B.hr.units) prim_eq (vp_ix (vp_name (pv 0)) (vp_name (pv 2)) (fun _ _ => rfl)) (vp_of ve_str) (nomark _))
    (vss_one (vs_set (i := 3) sc_pieces_of.nd rfl (by first | exact Or.inl rfl | exact Or.inr rfl) (by decide) ve_int))
    vss_nil)))
    (vss_cons (vs_expr (ve_append (pv 1) (va_cons (va_of (ve_slice (vp_name (pv 0)) (vo_some (ve_name (pv 2))) (vo_some (ve_op op_addA prim_add (vp_name (pv 2)) (vp_name (pv 3)))))) va_nil)))
    (vss_one (vs_aug (i := 2) iop_add prim_ii0 sc_pieces_of.nd rfl (by first | exact Or.inl rfl | exact Or.inr rfl) (by decide) (vp_name (pv 3))))))))
    (vss_one (vs_ret (ve_name (pv 1))))))))
abbrev s_is_number : Stmt := top 52
abbrev N_is_number : List Str := ["piece"]
theorem sc_is_number : FnScope N_is_number ["piece"] (defScope s_is_number) := ⟨rfl, rfl, rfl, by decide +kernel, rfl, by decide +kernel, by decide +kernel⟩
theorem g_is_number (T : Txt K w mg xa) (A : At K mg "is_number" s_is_number ["piece"]) : DefAt P w K mg base xa "is_number" ["piece"] 1 1 F_is_number :=
  defAt_of A sc_is_number rfl rfl (fun f cdv Ar outer s H E B => (vss_one (vs_ret (ve_and (ve_cmp (op_inA (u65 B.hr)) prim_in (vp_ix (vp_name (pv 0)) (vp_of ve_int) (fun _ _ => rfl)) (vp_of (ve_const T.m_FIGURES (by rfl))) rfl) (ve_one (ve_cmp (op_neA B.hr.units) prim_ne (vp_ix (vp_name (pv 0)) (vp_of ve_int) (fun _ _ => rfl)) (vp_of ve_str) (nomark _)))))))
abbrev s_is_sign : Stmt := top 53
abbrev N_is_sign : List Str := ["piece"]
theorem sc_is_sign : FnScope N_is_sign ["piece"] (defScope s_is_sign) := ⟨rfl, rfl, rfl, by decide +kernel, rfl, by decide +kernel, by decide +kernel⟩
theorem g_is_sign (T : Txt K w mg xa) (A : At K mg "is_sign" s_is_sign ["piece"]) : DefAt P w K mg base xa "is_sign" ["piece"] 1 1 F_is_sign :=
  defAt_of A sc_is_sign rfl rfl (fun f cdv Ar outer s H E B => (vss_one (vs_ret (ve_and (ve_cmp (op_eqA B.hr.units) prim_eq (vp_of (ve_callB call_lenA prim_len (by rfl) T.b_len (by decide +kernel) (vps_cons (vp_name (pv 0)) vps_nil))) (vp_of ve_int) (nomark _)) (ve_and (ve_cmp (op_eqA B.hr.units) prim_eq (vp_ix (vp_name (pv 0)) (vp_of ve_int) (fun _ _ => rfl)) (vp_of ve_str) (nomark _)) (ve_and (ve_cmp (op_eqA B.hr.units) prim_eq (vp_ix (vp_name (pv 0)) (vp_of ve_int) (fun _ _ => rfl)) (vp_of ve_str) (nomark _)) (ve_one (ve_cmp (op_inA (u65 B.hr)) prim_in (vp_ix (vp_name (pv 0)) (vp_of ve_int) (fun _ _ => rfl)) (vp_of (ve_const T.m_SIGNS (by rfl))) rfl))))))))
abbrev s_need : Stmt := top 58
abbrev N_need : List Str := ["truth"]
theorem sc_need : FnScope N_need ["truth"] (defScope s_need) := ⟨rfl, rfl, rfl, by decide +kernel, rfl, by decide +kernel, by decide +kernel⟩
theorem g_need (T : Txt K w mg xa) (A : At K mg "need" s_need ["truth"]) : DefAt P w K mg base xa "need" ["truth"] 1 1 F_need :=
  defAt_of A sc_need rfl rfl (fun f cdv Ar outer s H E B => (vss_one (vs_if (vt_not (vt_val (ve_name (pv 0))))
    (vss_one vs_never)
    vss_nil)))
abbrev s__law_draw : Stmt := top 62
abbrev N__law_draw : List Str := ["script", "k", "many", "cell", "turn", "mixed"]
theorem sc__law_draw : FnScope N__law_draw ["script", "k"] (defScope s__law_draw) := ⟨rfl, rfl, rfl, by decide +kernel, rfl, by decide +kernel, by decide +kernel⟩
theorem g__law_draw (T : Txt K w mg xa) (A : At K mg "_law_draw" s__law_draw ["script", "k"]) : DefAt P w K mg base xa "_law_draw" ["script", "k"] 2 1 F__law_draw :=
  defAt_of A sc__law_draw rfl rfl (fun f cdv Ar outer s H E B => (vss_cons (vs_set (i := 2) sc__law_draw.nd rfl (by first | exact Or.inl rfl | exact Or.inr rfl) (by decide) (ve_callB (call_max2 B.hc) prim_max2 (by rfl) T.b_max (by decide +kernel) (vps_cons (vp_of ve_int) (vps_cons (vp_of (ve_callB call_lenA prim_len (by rfl) T.b_len (by decide +kernel) (vps_cons (vp_name (pv 0)) vps_nil))) vps_nil))))
    (vss_cons (vs_set (i := 3) sc__law_draw.nd rfl (by first | exact Or.inl rfl | exact Or.inr rfl) (by decide) (ve_ix ix_seq prim_ix (vp_of (ve_op op_addA prim_add (vp_of (ve_callTy call_list_of prim_list (by rfl) T.b_list (by decide +kernel) (vps_cons (vp_name (pv 0)) vps_nil))) (vp_of (ve_lst (vps_cons (vp_of ve_int) vps_nil))))) (vp_of (ve_op op_modN prim_mod (vp_name (pv 1)) (vp_name (pv 2)))) (fun _ _ => rfl)))
    (vss_cons (vs_if (vt_w (vw_or (vt_cmp op_ge prim_cmp (vp_name (pv 3)) (vp_of (ve_op op_pow prim_pow (vp_of ve_int) (vp_of ve_int))) (nomark _)) (vw_or1 (vt_cmp op_le prim_cmp (vp_name (pv 3)) (vp_of (ve_un un_neg prim_neg (vp_of (ve_op op_pow prim_pow (vp_of ve_int) (vp_of ve_int))))) (nomark _)))))
    (vss_cons (vs_for (kp' := [0, 1]) B none (vi_range1 (by rfl) T.b_range (vps_cons (vp_of (ve_callB (call_min2 B.hc) prim_min2 (by rfl) T.b_min (by decide +kernel) (vps_cons (vp_of (ve_op op_fdivA prim_fdiv (vp_name (pv 1)) (vp_name (pv 2)))) (vps_cons (vp_of ve_int) vps_nil)))) vps_nil)) (vg_name sc__law_draw.nd rfl (by first | exact Or.inl rfl | exact Or.inr rfl) (by decide))
    (vss_one (vs_set (i := 3) sc__law_draw.nd rfl (by first | exact Or.inl rfl | exact Or.inr rfl) (by decide) (ve_op op_fdivA prim_fdiv (vp_name (pv 3)) (vp_of ve_int)))) (by decide) (fun _ z => nomatch z) (lk_r1 _))
    (vss_one (vs_ret (ve_op op_modN prim_mod (vp_name (pv 3)) (vp_of ve_int)))))
    vss_nil)
    (vss_cons (vs_set (i := 5) sc__law_draw.nd rfl (by first | exact Or.inl rfl | exact Or.inr rfl) (by decide) (ve_op op_modN prim_mod (vp_of (ve_op op_mulA prim_mul (vp_of (ve_op op_addA prim_add (vp_of (ve_op op_addA prim_add (vp_of (ve_op op_modN prim_mod (vp_name (pv 3)) (vp_of ve_int))) (vp_of ve_int))) (vp_of (ve_op op_mulA prim_mul (vp_of ve_int) (vp_of (ve_op op_fdivA prim_fdiv (vp_name (pv 1)) (vp_name (pv 2)))))))) (vp_of ve_int))) (vp_of ve_int)))
    (vss_cons (vs_set (i := 5) sc__law_draw.nd rfl (by first | exact Or.inl rfl | exact Or.inr rfl) (by decide) (ve_op op_modN prim_mod (vp_of (ve_op op_mulA prim_mul (vp_name (pv 5)) (vp_name (pv 5)))) (vp_of ve_int)))
    (vss_one (vs_ret (ve_op op_modN prim_mod (vp_of (ve_op op_mulA prim_mul (vp_name (pv 5)) (vp_of ve_int))) (vp_of ve_int))))))))))
abbrev s__law_way : Stmt := top 63
abbrev N__law_way : List Str := ["script", "at", "fuel", "draw", "word"]
theorem sc__law_way : FnScope N__law_way ["script", "at", "fuel"] (defScope s__law_way) := ⟨rfl, rfl, rfl, by decide +kernel, rfl, by decide +kernel, by decide +kernel⟩
theorem g__law_way (T : Txt K w mg xa) (A : At K mg "_law_way" s__law_way ["script", "at", "fuel"]) (g__law_draw : DefAt P w K mg base xa "_law_draw" ["script", "k"] 2 1 F__law_draw) : ∀ n, DefAt P w K mg base xa "_law_way" ["script", "at", "fuel"] 3 (1 + n) (F__law_way n)
  | 0 => defAt_bad A
  | n + 1 => by
    have g__law_way : DefAt P w K mg base xa "_law_way" ["script", "at", "fuel"] 3 (1 + n) (F__law_way n) := g__law_way T A g__law_draw n
    exact defAt_of A sc__law_way rfl rfl (fun f cdv Ar outer s H E B => (vss_cons (vs_set (i := 3) sc__law_way.nd rfl (by first | exact Or.inl rfl | exact Or.inr rfl) (by decide) (ve_call (fd_of g__law_draw B.hr (by first | omega | exact lv_add (by omega))) B.hx (by rfl) (va_cons (va_name (pv 0)) (va_cons (va_of (ve_op op_addA prim_add (vp_of ve_int) (vp_name (pv 1)))) va_nil))))
    (vss_cons (vs_if (vt_w (vw_or (vt_cmp (op_eqA B.hr.units) prim_eq (vp_name (pv 2)) (vp_of ve_int) (nomark _)) (vw_or1 (vt_cmp (op_eqA B.hr.units) prim_eq (vp_of (ve_op op_modN prim_mod (vp_name (pv 3)) (vp_of ve_int))) (vp_of ve_int) (nomark _)))))
    (vss_one (vs_ret (ve_op op_addA prim_add (vp_of ve_int) (vp_of (ve_op op_modN prim_mod (vp_of (ve_op op_fdivA prim_fdiv (vp_name (pv 3)) (vp_of ve_int))) (vp_ix (vp_of (ve_tup (vps_cons (vp_of ve_int) (vps_cons (vp_of ve_int) (vps_cons (vp_of ve_int) vps_nil))))) (vp_of (ve_op op_modN prim_mod (vp_of (ve_op op_fdivA prim_fdiv (vp_name (pv 3)) (vp_of ve_int))) (vp_of ve_int))) (fun _ _ => rfl)))))))
    vss_nil)
    (vss_cons (vs_set (i := 4) sc__law_way.nd rfl (by first | exact Or.inl rfl | exact Or.inr rfl) (by decide) (ve_ix ix_seq prim_ix (vp_of (ve_tup (vps_cons (vp_of ve_str) (vps_cons (vp_of ve_str) (vps_cons (vp_of ve_str) (vps_cons (vp_of ve_str) (vps_cons (vp_of ve_str) (vps_cons (vp_of ve_str) (vps_cons (vp_of ve_str) vps_nil))))))))) (vp_of (ve_op op_modN prim_mod (vp_name (pv 3)) (vp_of ve_int))) (fun _ _ => rfl)))
    (vss_one (vs_ret (ve_tup (vps_cons (vp_of (ve_name (pv 4))) (vps_cons (vp_of (ve_call (fd_of g__law_way B.hr (by first | omega | exact lv_add (by omega))) B.hx (by rfl) (va_cons (va_name (pv 0)) (va_cons (va_of (ve_op op_addA prim_add (vp_of (ve_op op_mulA prim_mul (vp_of ve_int) (vp_name (pv 1)))) (vp_of ve_int))) (va_cons (va_of (ve_op op_sub prim_ii0 (vp_name (pv 2)) (vp_of ve_int))) va_nil))))) (vps_cons (vp_of (ve_call (fd_of g__law_way B.hr (by first | omega | exact lv_add (by omega))) B.hx (by rfl) (va_cons (va_name (pv 0)) (va_cons (va_of (ve_op op_addA prim_add (vp_of (ve_op op_mulA prim_mul (vp_of ve_int) (vp_name (pv 1)))) (vp_of ve_int))) (va_cons (va_of (ve_op op_sub prim_ii0 (vp_name (pv 2)) (vp_of ve_int))) va_nil))))) vps_nil))))))))))
abbrev s__law_text : Stmt := top 64
abbrev N__law_text : List Str := ["way", "within", "sign", "text"]
theorem sc__law_text : FnScope N__law_text ["way", "within"] (defScope s__law_text) := ⟨rfl, rfl, rfl, by decide +kernel, rfl, by decide +kernel, by decide +kernel⟩
theorem g__law_text (T : Txt K w mg xa) (A : At K mg "_law_text" s__law_text ["way", "within"]) : ∀ n, DefAt P w K mg base xa "_law_text" ["way", "within"] 2 (0 + n) (F__law_text n)
  | 0 => defAt_bad A
  | n + 1 => by
    have g__law_text : DefAt P w K mg base xa "_law_text" ["way", "within"] 2 (0 + n) (F__law_text n) := g__law_text T A n
    exact defAt_of A sc__law_text rfl rfl (fun f cdv Ar outer s H E B => (vss_cons (vs_if (vt_val (ve_isi (vp_name (pv 0)) (by rfl) T.b_isinstance (by rfl) T.b_int (by decide +kernel)))
    (vss_one (vs_ret (ve_callTy call_str_int prim_strI (by rfl) T.b_str (by decide +kernel) (vps_cons (vp_name (pv 0)) vps_nil))))
    vss_nil)
    (vss_cons (vs_set (i := 2) sc__law_text.nd rfl (by first | exact Or.inl rfl | exact Or.inr rfl) (by decide) (ve_dix (by have := u9 B.hr; omega) (pps_lit (pps_lit (pps_lit (pps_lit pps_none)))) (by decide) (by rfl) (by rfl) (by simp) (by decide) (vp_ix (vp_name (pv 0)) (vp_of ve_int) (fun _ _ => rfl)) (fun _ _ => rfl)))
    (vss_cons (vs_set (i := 3) sc__law_text.nd rfl (by first | exact Or.inl rfl | exact Or.inr rfl) (by decide) (ve_op op_addA prim_add (vp_of (ve_op op_addA prim_add (vp_of (ve_op op_addA prim_add (vp_of (ve_op op_addA prim_add (vp_of (ve_call (fd_of g__law_text B.hr (by first | omega | exact lv_add (by omega))) B.hx (by rfl) (va_cons (va_of (ve_ix ix_seq prim_ix (vp_name (pv 0)) (vp_of ve_int) (fun _ _ => rfl))) (va_cons (va_of ve_bl) va_nil)))) (vp_of ve_str))) (vp_name (pv 2)))) (vp_of ve_str))) (vp_of (ve_call (fd_of g__law_text B.hr (by first | omega | exact lv_add (by omega))) B.hx (by rfl) (va_cons (va_of (ve_ix ix_seq prim_ix (vp_name (pv 0)) (vp_of ve_int) (fun _ _ => rfl))) (va_cons (va_of ve_bl) va_nil))))))
    (vss_cons (vs_if (vt_val (ve_name (pv 1)))
    (vss_one (vs_ret (ve_op op_addA prim_add (vp_of (ve_op op_addA prim_add (vp_of ve_str) (vp_name (pv 3)))) (vp_of ve_str))))
    vss_nil)
    (vss_one (vs_ret (ve_name (pv 3)))))))))
abbrev s__law_numbers : Stmt := top 66
abbrev N__law_numbers : List Str := ["way"]
theorem sc__law_numbers : FnScope N__law_numbers ["way"] (defScope s__law_numbers) := ⟨rfl, rfl, rfl, by decide +kernel, rfl, by decide +kernel, by decide +kernel⟩
theorem g__law_numbers (T : Txt K w mg xa) (A : At K mg "_law_numbers" s__law_numbers ["way"]) : ∀ n, DefAt P w K mg base xa "_law_numbers" ["way"] 1 (0 + n) (F__law_numbers n)
  | 0 => defAt_bad A
  | n + 1 => by
    have g__law_numbers : DefAt P w K mg base xa "_law_numbers" ["way"] 1 (0 + n) (F__law_numbers n) := g__law_numbers T A n
    exact defAt_of A sc__law_numbers rfl rfl (fun f cdv Ar outer s H E B => (vss_cons (vs_if (vt_val (ve_isi (vp_name (pv 0)) (by rfl) T.b_isinstance (by rfl) T.b_int (by decide +kernel)))
    (vss_one (vs_ret (ve_lst (vps_cons (vp_of (ve_name (pv 0))) vps_nil))))
    vss_nil)
    (vss_one (vs_ret (ve_op op_addA prim_add (vp_of (ve_call (fd_of g__law_numbers B.hr (by first | omega | exact lv_add (by omega))) B.hx (by rfl) (va_cons (va_of (ve_ix ix_seq prim_ix (vp_name (pv 0)) (vp_of ve_int) (fun _ _ => rfl))) va_nil))) (vp_of (ve_call (fd_of g__law_numbers B.hr (by first | omega | exact lv_add (by omega))) B.hx (by rfl) (va_cons (va_of (ve_ix ix_seq prim_ix (vp_name (pv 0)) (vp_of ve_int) (fun _ _ => rfl))) va_nil))))))))
abbrev s__law_turned : Stmt := top 67
abbrev N__law_turned : List Str := ["script", "at", "way", "word", "one", "other", "draw", "back"]
theorem sc__law_turned : FnScope N__law_turned ["script", "at", "way"] (defScope s__law_turned) := ⟨rfl, rfl, rfl, by decide +kernel, rfl, by decide +kernel, by decide +kernel⟩
theorem g__law_turned (T : Txt K w mg xa) (A : At K mg "_law_turned" s__law_turned ["script", "at", "way"]) (g__law_draw : DefAt P w K mg base xa "_law_draw" ["script", "k"] 2 1 F__law_draw) : ∀ n, DefAt P w K mg base xa "_law_turned" ["script", "at", "way"] 3 (1 + n) (F__law_turned n)
  | 0 => defAt_bad A
  | n + 1 => by
    have g__law_turned : DefAt P w K mg base xa "_law_turned" ["script", "at", "way"] 3 (1 + n) (F__law_turned n) := g__law_turned T A g__law_draw n
    exact defAt_of A sc__law_turned rfl rfl (fun f cdv Ar outer s H E B => (vss_cons (vs_if (vt_val (ve_isi (vp_name (pv 2)) (by rfl) T.b_isinstance (by rfl) T.b_int (by decide +kernel)))
    (vss_one (vs_ret (ve_name (pv 2))))
    vss_nil)
    (vss_cons (vs_set (i := 3) sc__law_turned.nd rfl (by first | exact Or.inl rfl | exact Or.inr rfl) (by decide) (ve_ix ix_seq prim_ix (vp_name (pv 2)) (vp_of ve_int) (fun _ _ => rfl)))
    (vss_cons (vs_set (i := 4) sc__law_turned.nd rfl (by first | exact Or.inl rfl | exact Or.inr rfl) (by decide) (ve_call (fd_of g__law_turned B.hr (by first | omega | exact lv_add (by omega))) B.hx (by rfl) (va_cons (va_name (pv 0)) (va_cons (va_of (ve_op op_addA prim_add (vp_of (ve_op op_mulA prim_mul (vp_of ve_int) (vp_name (pv 1)))) (vp_of ve_int))) (va_cons (va_of (ve_ix ix_seq prim_ix (vp_name (pv 2)) (vp_of ve_int) (fun _ _ => rfl))) va_nil)))))
    (vss_cons (vs_set (i := 5) sc__law_turned.nd rfl (by first | exact Or.inl rfl | exact Or.inr rfl) (by decide) (ve_call (fd_of g__law_turned B.hr (by first | omega | exact lv_add (by omega))) B.hx (by rfl) (va_cons (va_name (pv 0)) (va_cons (va_of (ve_op op_addA prim_add (vp_of (ve_op op_mulA prim_mul (vp_of ve_int) (vp_name (pv 1)))) (vp_of ve_int))) (va_cons (va_of (ve_ix ix_seq prim_ix (vp_name (pv 2)) (vp_of ve_int) (fun _ _ => rfl))) va_nil)))))
    (vss_cons (vs_set (i := 6) sc__law_turned.nd rfl (by first | exact Or.inl rfl | exact Or.inr rfl) (by decide) (ve_op op_modN prim_mod (vp_of (ve_call (fd_of g__law_draw B.hr (by first | omega | exact lv_add (by omega))) B.hx (by rfl) (va_cons (va_name (pv 0)) (va_cons (va_of (ve_op op_addA prim_add (vp_of ve_int) (vp_name (pv 1)))) va_nil)))) (vp_of ve_int)))
    (vss_cons (vs_if (vt_cmp (op_inA (u65 B.hr)) prim_in (vp_name (pv 3)) (vp_of (ve_tup (vps_cons (vp_of ve_str) (vps_cons (vp_of ve_str) vps_nil)))) rfl)
    (vss_cons (vs_if (vt_cmp (op_eqA B.hr.units) prim_eq (vp_of (ve_op op_modN prim_mod (vp_name (pv 6)) (vp_of ve_int))) (vp_of ve_int) (nomark _))
    (vss_one (vs_ret (ve_tup (vps_cons (vp_of (ve_name (pv 3))) (vps_cons (vp_of (ve_name (pv 5))) (vps_cons (vp_of (ve_name (pv 4))) vps_nil))))))
    vss_nil)
    (vss_cons (vs_if (vt_w (vw_and (vt_cmp (op_eqA B.hr.units) prim_eq (vp_name (pv 6)) (vp_of ve_int) (nomark _)) (vw_and (vt_not (vt_val (ve_isi (vp_name (pv 5)) (by rfl) T.b_isinstance (by rfl) T.b_int (by decide +kernel)))) (vw_and1 (vt_cmp (op_eqA B.hr.units) prim_eq (vp_ix (vp_name (pv 5)) (vp_of ve_int) (fun _ _ => rfl)) (vp_name (pv 3)) (nomark _))))))
    (vss_one (vs_ret (ve_tup (vps_cons (vp_of (ve_name (pv 3))) (vps_cons (vp_of (ve_tup (vps_cons (vp_of (ve_name (pv 3))) (vps_cons (vp_of (ve_name (pv 4))) (vps_cons (vp_of (ve_ix ix_seq prim_ix (vp_name (pv 5)) (vp_of ve_int) (fun _ _ => rfl))) vps_nil))))) (vps_cons (vp_of (ve_ix ix_seq prim_ix (vp_name (pv 5)) (vp_of ve_int) (fun _ _ => rfl))) vps_nil))))))
    vss_nil)
    (vss_one (vs_ret (ve_tup (vps_cons (vp_of (ve_name (pv 3))) (vps_cons (vp_of (ve_name (pv 4))) (vps_cons (vp_of (ve_name (pv 5))) vps_nil))))))))
    vss_nil)
    (vss_cons (vs_set (i := 7) sc__law_turned.nd rfl (by first | exact Or.inl rfl | exact Or.inr rfl) (by decide) (ve_dix (by have := u9 B.hr; omega) (pps_lit (pps_lit pps_none)) (by decide) (by rfl) (by rfl) (by simp) (by decide) (vp_name (pv 3)) (fun _ _ => rfl)))
    (vss_cons (vs_if (vt_w (vw_and (vt_not (vt_val (ve_isi (vp_name (pv 5)) (by rfl) T.b_isinstance (by rfl) T.b_int (by decide +kernel)))) (vw_and1 (vt_cmp (op_eqA B.hr.units) prim_eq (vp_ix (vp_name (pv 5)) (vp_of ve_int) (fun _ _ => rfl)) (vp_name (pv 3)) (nomark _)))))
    (vss_one (vs_ret (ve_tup (vps_cons (vp_of (ve_name (pv 3))) (vps_cons (vp_of (ve_tup (vps_cons (vp_of (ve_name (pv 7))) (vps_cons (vp_of (ve_name (pv 4))) (vps_cons (vp_of (ve_ix ix_seq prim_ix (vp_name (pv 5)) (vp_of ve_int) (fun _ _ => rfl))) vps_nil))))) (vps_cons (vp_of (ve_ix ix_seq prim_ix (vp_name (pv 5)) (vp_of ve_int) (fun _ _ => rfl))) vps_nil))))))
    vss_nil)
    (vss_cons (vs_if (vt_w (vw_and (vt_cmp (op_eqA B.hr.units) prim_eq (vp_name (pv 6)) (vp_of ve_int) (nomark _)) (vw_and (vt_not (vt_val (ve_isi (vp_name (pv 5)) (by rfl) T.b_isinstance (by rfl) T.b_int (by decide +kernel)))) (vw_and1 (vt_cmp (op_eqA B.hr.units) prim_eq (vp_ix (vp_name (pv 5)) (vp_of ve_int) (fun _ _ => rfl)) (vp_name (pv 7)) (nomark _))))))
    (vss_one (vs_ret (ve_tup (vps_cons (vp_of (ve_name (pv 3))) (vps_cons (vp_of (ve_tup (vps_cons (vp_of (ve_name (pv 3))) (vps_cons (vp_of (ve_name (pv 4))) (vps_cons (vp_of (ve_ix ix_seq prim_ix (vp_name (pv 5)) (vp_of ve_int) (fun _ _ => rfl))) vps_nil))))) (vps_cons (vp_of (ve_ix ix_seq prim_ix (vp_name (pv 5)) (vp_of ve_int) (fun _ _ => rfl))) vps_nil))))))
    vss_nil)
    (vss_one (vs_ret (ve_tup (vps_cons (vp_of (ve_name (pv 3))) (vps_cons (vp_of (ve_name (pv 4))) (vps_cons (vp_of (ve_name (pv 5))) vps_nil))))))))))))))))
abbrev s__law_other : Stmt := top 68
abbrev N__law_other : List Str := ["script", "way"]
theorem sc__law_other : FnScope N__law_other ["script", "way"] (defScope s__law_other) := ⟨rfl, rfl, rfl, by decide +kernel, rfl, by decide +kernel, by decide +kernel⟩
theorem g__law_other (T : Txt K w mg xa) (A : At K mg "_law_other" s__law_other ["script", "way"]) : ∀ n, DefAt P w K mg base xa "_law_other" ["script", "way"] 2 (0 + n) (F__law_other n)
  | 0 => defAt_bad A
  | n + 1 => by
    have g__law_other : DefAt P w K mg base xa "_law_other" ["script", "way"] 2 (0 + n) (F__law_other n) := g__law_other T A n
    exact defAt_of A sc__law_other rfl rfl (fun f cdv Ar outer s H E B => (vss_cons (vs_if (vt_val (ve_isi (vp_name (pv 1)) (by rfl) T.b_isinstance (by rfl) T.b_int (by decide +kernel)))
    (vss_one (vs_ret (ve_op op_addA prim_add (vp_name (pv 1)) (vp_of ve_int))))
    vss_nil)
    (vss_one (vs_ret (ve_tup (vps_cons (vp_of (ve_ix ix_seq prim_ix (vp_name (pv 1)) (vp_of ve_int) (fun _ _ => rfl))) (vps_cons (vp_of (ve_ix ix_seq prim_ix (vp_name (pv 1)) (vp_of ve_int) (fun _ _ => rfl))) (vps_cons (vp_of (ve_call (fd_of g__law_other B.hr (by first | omega | exact lv_add (by omega))) B.hx (by rfl) (va_cons (va_name (pv 0)) (va_cons (va_of (ve_ix ix_seq prim_ix (vp_name (pv 1)) (vp_of ve_int) (fun _ _ => rfl))) va_nil)))) vps_nil))))))))
abbrev s__law_filled : Stmt := top 69
abbrev N__law_filled : List Str := ["way", "numbers", "one"]
theorem sc__law_filled : FnScope N__law_filled ["way", "numbers"] (defScope s__law_filled) := ⟨rfl, rfl, rfl, by decide +kernel, rfl, by decide +kernel, by decide +kernel⟩
theorem g__law_filled (T : Txt K w mg xa) (A : At K mg "_law_filled" s__law_filled ["way", "numbers"]) : ∀ n, DefAt P w K mg base xa "_law_filled" ["way", "numbers"] 2 (0 + n) (F__law_filled n)
  | 0 => defAt_bad A
  | n + 1 => by
    have g__law_filled : DefAt P w K mg base xa "_law_filled" ["way", "numbers"] 2 (0 + n) (F__law_filled n) := g__law_filled T A n
    exact defAt_of A sc__law_filled rfl rfl (fun f cdv Ar outer s H E B => (vss_cons (vs_if (vt_val (ve_isi (vp_name (pv 0)) (by rfl) T.b_isinstance (by rfl) T.b_int (by decide +kernel)))
    (vss_one (vs_ret (ve_popAt (pv 1) (va_cons (va_of ve_int) va_nil))))
    vss_nil)
    (vss_cons (vs_set (i := 2) sc__law_filled.nd rfl (by first | exact Or.inl rfl | exact Or.inr rfl) (by decide) (ve_call (fd_of g__law_filled B.hr (by first | omega | exact lv_add (by omega))) B.hx (by rfl) (va_cons (va_of (ve_ix ix_seq prim_ix (vp_name (pv 0)) (vp_of ve_int) (fun _ _ => rfl))) (va_cons (va_name (pv 1)) va_nil))))
    (vss_one (vs_ret (ve_tup (vps_cons (vp_of (ve_ix ix_seq prim_ix (vp_name (pv 0)) (vp_of ve_int) (fun _ _ => rfl))) (vps_cons (vp_of (ve_name (pv 2))) (vps_cons (vp_of (ve_call (fd_of g__law_filled B.hr (by first | omega | exact lv_add (by omega))) B.hx (by rfl) (va_cons (va_of (ve_ix ix_seq prim_ix (vp_name (pv 0)) (vp_of ve_int) (fun _ _ => rfl))) (va_cons (va_name (pv 1)) va_nil)))) vps_nil)))))))))
abbrev s_Desk_on_twins : Stmt := inClass (top 60) 8
abbrev N_Desk_on_twins : List Str := ["self", "text", "parts"]
theorem sc_Desk_on_twins : FnScope N_Desk_on_twins ["self", "text"] (defScope s_Desk_on_twins) := ⟨rfl, rfl, rfl, by decide +kernel, rfl, by decide +kernel, by decide +kernel⟩
theorem g_Desk_on_twins (T : Txt K w mg xa) (A : MAt K xa "on_twins" "Desk.on_twins" s_Desk_on_twins ["self", "text"]) (g_are_twins : DefAt P w K mg base xa "are_twins" ["one", "other"] 2 24 F_are_twins) (g_read_way : DefAt P w K mg base xa "read_way" ["text"] 1 30 F_read_way) (g_need : DefAt P w K mg base xa "need" ["truth"] 1 1 F_need) : MthAt P w K mg base xa "on_twins" ["self", "text"] 2 31 F_Desk_on_twins :=
  mdef_of A sc_Desk_on_twins rfl rfl (fun f cdv Ar outer s H E B => (vss_cons (vs_set (i := 2) sc_Desk_on_twins.nd rfl (by first | exact Or.inl rfl | exact Or.inr rfl) (by decide) (ve_meth PySem.F.plainAttrs_str PySem.F.slot_str_split PySem.F.type_str_split mt_split prim_split (vp_name (pv 1)) (vps_cons (vp_of ve_str) vps_nil)))
    (vss_cons (vs_expr (ve_call (fd_of g_need B.hr (by first | omega | exact lv_add (by omega))) B.hx (by rfl) (va_cons (va_of (ve_cmp (op_eqA B.hr.units) prim_eq (vp_of (ve_callB call_lenA prim_len (by rfl) T.b_len (by decide +kernel) (vps_cons (vp_name (pv 2)) vps_nil))) (vp_of ve_int) (nomark _))) va_nil)))
    (vss_one (vs_ret (ve_lst (vps_cons (vp_of (ve_ifExp (vt_val (ve_call (fd_of g_are_twins B.hr (by first | omega | exact lv_add (by omega))) B.hx (by rfl) (va_cons (va_of (ve_call (fd_of g_read_way B.hr (by first | omega | exact lv_add (by omega))) B.hx (by rfl) (va_cons (va_of (ve_ix ix_seq prim_ix (vp_name (pv 2)) (vp_of ve_int) (fun _ _ => rfl))) va_nil))) (va_cons (va_of (ve_call (fd_of g_read_way B.hr (by first | omega | exact lv_add (by omega))) B.hx (by rfl) (va_cons (va_of (ve_ix ix_seq prim_ix (vp_name (pv 2)) (vp_of ve_int) (fun _ _ => rfl))) va_nil))) va_nil)))) ve_str ve_str)) vps_nil)))))))
abbrev s_Desk_of_texts : Stmt := inClass (top 60) 10
abbrev N_Desk_of_texts : List Str := ["self", "line", "word", "text"]
theorem sc_Desk_of_texts : FnScope N_Desk_of_texts ["self", "line"] (defScope s_Desk_of_texts) := ⟨rfl, rfl, rfl, by decide +kernel, rfl, by decide +kernel, by decide +kernel⟩
theorem g_Desk_of_texts (T : Txt K w mg xa) (A : MAt K xa "of_texts" "Desk.of_texts" s_Desk_of_texts ["self", "line"]) (g_Desk_on_twins : MthAt P w K mg base xa "on_twins" ["self", "text"] 2 31 F_Desk_on_twins) : MthAt P w K mg base xa "of_texts" ["self", "line"] 2 32 F_Desk_of_texts :=
  mdef_of A sc_Desk_of_texts rfl rfl (fun f cdv Ar outer s H E B => (vss_cons (vs_for (kp' := [0, 1]) B none (vi_seq (vp_of (ve_tup (vps_cons (vp_of ve_str) (vps_cons (vp_of ve_str) (vps_cons (vp_of ve_str) vps_nil)))))) (vg_name sc_Desk_of_texts.nd rfl (by first | exact Or.inl rfl | exact Or.inr rfl) (by decide))
    (vss_one (vs_if (vt_cmp (op_eqA B.hr.units) prim_eq (vp_of (ve_slice (vp_name (pv 1)) vo_none (vo_some (ve_callB call_lenA prim_len (by rfl) T.b_len (by decide +kernel) (vps_cons (vp_name (pv 2)) vps_nil))))) (vp_name (pv 2)) (nomark _))
    (vss_cons (vs_set (i := 3) sc_Desk_of_texts.nd rfl (by first | exact Or.inl rfl | exact Or.inr rfl) (by decide) (ve_slice (vp_name (pv 1)) (vo_some (ve_callB call_lenA prim_len (by rfl) T.b_len (by decide +kernel) (vps_cons (vp_name (pv 2)) vps_nil))) vo_none))
    (vss_cons (vs_if (vt_cmp (op_eqA B.hr.units) prim_eq (vp_name (pv 2)) (vp_of ve_str) (nomark _))
    (vss_one vs_never)
    vss_nil)
    (vss_cons (vs_if (vt_cmp (op_eqA B.hr.units) prim_eq (vp_name (pv 2)) (vp_of ve_str) (nomark _))
    (vss_one (vs_ret (ve_mc (md_of g_Desk_on_twins B.hr (by first | omega | exact lv_add (by omega))) B.hx (pv 0) (by decide +kernel) (by decide +kernel) (va_cons (va_name (pv 3)) va_nil))))
    vss_nil)
    (vss_one vs_never))))
    vss_nil)) (by decide) (fun _ z => nomatch z) (lk_h _))
    (vss_one (vs_ret ve_non))))
abbrev s_Desk_ask : Stmt := inClass (top 60) 11
abbrev N_Desk_ask : List Str := ["self", "line", "found", "some"]
theorem sc_Desk_ask : FnScope N_Desk_ask ["self", "line"] (defScope s_Desk_ask) := ⟨rfl, rfl, rfl, by decide +kernel, rfl, by decide +kernel, by decide +kernel⟩
theorem g_Desk_ask (T : Txt K w mg xa) (A : MAt K xa "ask" "Desk.ask" s_Desk_ask ["self", "line"]) (g_Desk_of_texts : MthAt P w K mg base xa "of_texts" ["self", "line"] 2 32 F_Desk_of_texts) (g_need : DefAt P w K mg base xa "need" ["truth"] 1 1 F_need) : MthAt P w K mg base xa "ask" ["self", "line"] 2 33 F_Desk_ask :=
  mdef_of A sc_Desk_ask rfl rfl (fun f cdv Ar outer s H E B => (vss_cons (vs_expr (ve_call (fd_of g_need B.hr (by first | omega | exact lv_add (by omega))) B.hx (by rfl) (va_cons (va_of (ve_cmp (op_notInA (u65 B.hr)) prim_notIn (vp_of ve_str) (vp_name (pv 1)) rfl)) va_nil)))
    (vss_cons (vs_set (i := 2) sc_Desk_ask.nd rfl (by first | exact Or.inl rfl | exact Or.inr rfl) (by decide) (ve_mc (md_of g_Desk_of_texts B.hr (by first | omega | exact lv_add (by omega))) B.hx (pv 0) (by decide +kernel) (by decide +kernel) (va_cons (va_name (pv 1)) va_nil)))
    (vss_cons (vs_if (vt_cmp op_notN prim_isNot (vp_name (pv 2)) (vp_of ve_non) (nomark _))
    (vss_one (vs_ret (ve_name (pv 2))))
    vss_nil)
    (vss_cons vs_never
    (vss_cons vs_never
    (vss_cons vs_never
    (vss_cons vs_never
    (vss_cons vs_never
    (vss_cons vs_never
    (vss_cons vs_never
    (vss_cons vs_never
    (vss_one vs_never)))))))))))))
abbrev s_law : Stmt := top 70
abbrev N_law : List Str := ["script", "desk", "turn", "way", "twin", "strange", "drawn", "numbers", "at", "mixed", "small", "other", "line", "due", "told", "number"]
theorem sc_law : FnScope N_law ["script"] (defScope s_law) := ⟨rfl, rfl, rfl, by decide +kernel, rfl, by decide +kernel, by decide +kernel⟩
theorem g_law (T : Txt K w mg xa) (A : At K mg "law" s_law ["script"]) (g_Desk_ask : MthAt P w K mg base xa "ask" ["self", "line"] 2 33 F_Desk_ask) (g__law_text : DefAt P w K mg base xa "_law_text" ["way", "within"] 2 10 (F__law_text 10)) (g_form_of : DefAt P w K mg base xa "form_of" ["way"] 1 23 (F_form_of 10)) (g__law_filled : DefAt P w K mg base xa "_law_filled" ["way", "numbers"] 2 10 (F__law_filled 10)) (g__law_draw : DefAt P w K mg base xa "_law_draw" ["script", "k"] 2 1 F__law_draw) (g__law_numbers : DefAt P w K mg base xa "_law_numbers" ["way"] 1 10 (F__law_numbers 10)) (g__law_way : DefAt P w K mg base xa "_law_way" ["script", "at", "fuel"] 3 11 (F__law_way 10)) (g__law_other : DefAt P w K mg base xa "_law_other" ["script", "way"] 2 10 (F__law_other 10)) (g__law_turned : DefAt P w K mg base xa "_law_turned" ["script", "at", "way"] 3 11 (F__law_turned 10)) (g_Desk_new : NewAt P w K mg base xa) : DefAt P w K mg base xa "law" ["script"] 1 34 F_law :=
  defAt_of A sc_law rfl rfl (fun f cdv Ar outer s H E B => (vss_cons (vs_set (i := 1) sc_law.nd rfl (by first | exact Or.inl rfl | exact Or.inr rfl) (by decide) (ve_new g_Desk_new B.hr (by omega) (by rfl)))
    (vss_cons (vs_for (kp' := [0]) B none (vi_range1 (by rfl) T.b_range (vps_cons (vp_of ve_int) vps_nil)) (vg_name sc_law.nd rfl (by first | exact Or.inl rfl | exact Or.inr rfl) (by decide))
    (vss_cons (vs_set (i := 3) sc_law.nd rfl (by first | exact Or.inl rfl | exact Or.inr rfl) (by decide) (ve_call (fd_of g__law_way B.hr (by first | omega | exact lv_add (by omega))) B.hx (by rfl) (va_late (pv 0) (va_cons (va_of (ve_op op_mulA prim_mul (vp_of ve_int) (vp_name (pv 2)))) (va_cons (va_of (ve_op op_addA prim_add (vp_of ve_int) (vp_of (ve_op op_modN prim_mod (vp_of (ve_call (fd_of g__law_draw B.hr (by first | omega | exact lv_add (by omega))) B.hx (by rfl) (va_cons (va_name (pv 0)) (va_cons (va_of (ve_op op_addA prim_add (vp_of ve_int) (vp_name (pv 2)))) va_nil)))) (vp_of ve_int))))) va_nil)))))
    (vss_cons (vs_set (i := 4) sc_law.nd rfl (by first | exact Or.inl rfl | exact Or.inr rfl) (by decide) (ve_call (fd_of g__law_turned B.hr (by first | omega | exact lv_add (by omega))) B.hx (by rfl) (va_cons (va_name (pv 0)) (va_cons (va_of (ve_op op_mulA prim_mul (vp_of ve_int) (vp_name (pv 2)))) (va_cons (va_name (pv 3)) va_nil)))))
    (vss_cons (vs_set (i := 5) sc_law.nd rfl (by first | exact Or.inl rfl | exact Or.inr rfl) (by decide) (ve_call (fd_of g__law_other B.hr (by first | omega | exact lv_add (by omega))) B.hx (by rfl) (va_cons (va_name (pv 0)) (va_cons (va_name (pv 4)) va_nil))))
    (vss_cons (vs_set (i := 6) sc_law.nd rfl (by first | exact Or.inl rfl | exact Or.inr rfl) (by decide) (ve_call (fd_of g__law_way B.hr (by first | omega | exact lv_add (by omega))) B.hx (by rfl) (va_late (pv 0) (va_cons (va_of (ve_op op_addA prim_add (vp_of (ve_op op_mulA prim_mul (vp_of ve_int) (vp_name (pv 2)))) (vp_of ve_int))) (va_cons (va_of (ve_op op_addA prim_add (vp_of ve_int) (vp_of (ve_op op_modN prim_mod (vp_of (ve_call (fd_of g__law_draw B.hr (by first | omega | exact lv_add (by omega))) B.hx (by rfl) (va_cons (va_name (pv 0)) (va_cons (va_of (ve_op op_addA prim_add (vp_of ve_int) (vp_name (pv 2)))) va_nil)))) (vp_of ve_int))))) va_nil)))))
    (vss_cons (vs_set (i := 7) sc_law.nd rfl (by first | exact Or.inl rfl | exact Or.inr rfl) (by decide) (ve_call (fd_of g__law_numbers B.hr (by first | omega | exact lv_add (by omega))) B.hx (by rfl) (va_cons (va_name (pv 4)) va_nil)))
    (vss_cons (vs_set (i := 8) sc_law.nd rfl (by first | exact Or.inl rfl | exact Or.inr rfl) (by decide) (ve_op op_modN prim_mod (vp_of (ve_call (fd_of g__law_draw B.hr (by first | omega | exact lv_add (by omega))) B.hx (by rfl) (va_cons (va_name (pv 0)) (va_cons (va_of (ve_op op_addA prim_add (vp_of ve_int) (vp_name (pv 2)))) va_nil)))) (vp_of (ve_callB call_lenA prim_len (by rfl) T.b_len (by decide +kernel) (vps_cons (vp_name (pv 7)) vps_nil)))))
    (vss_cons (vs_set (i := 9) sc_law.nd rfl (by first | exact Or.inl rfl | exact Or.inr rfl) (by decide) (ve_call (fd_of g__law_filled B.hr (by first | omega | exact lv_add (by omega))) B.hx (by rfl) (va_cons (va_name (pv 4)) (va_cons (va_of (ve_op op_addA prim_add (vp_of (ve_slice (vp_name (pv 7)) (vo_some (ve_name (pv 8))) vo_none)) (vp_of (ve_rev (vp_of (ve_slice (vp_name (pv 7)) vo_none (vo_some (ve_name (pv 8))))))))) va_nil))))
    (vss_cons (vs_set (i := 10) sc_law.nd rfl (by first | exact Or.inl rfl | exact Or.inr rfl) (by decide) (ve_call (fd_of g__law_filled B.hr (by first | omega | exact lv_add (by omega))) B.hx (by rfl) (va_cons (va_name (pv 3)) (va_cons (va_of (ve_lc (own := [("number", 15)]) (kp := [0, 1, 2, 3, 4, 5, 6, 7, 8, 9, 10, 11, 12, 13, 14]) (g := (gNm 15)) (ft := fYes) (fe := (fOp2 gAdd true (fPh (fC (.int 1))) (fPh (fOp2 gMod true (fPv 15) (fPh (fC (.int 3))))))) (by first | exact rfl | exact B.hc) sc_law.nd (vi_seq (vp_name (pv 7))) (blkOk_by (own := [("number", 15)]) (N := N_law) (sc := defScope s_law) (by decide +kernel)) (kp_by (n := 16) (by decide)) (fun _ _ _ _ _ => (vg_name sc_law.nd rfl (by first | exact Or.inl rfl | exact Or.inr rfl) (by decide))) (fun _ _ _ _ _ => vts_nil) (fun _ _ _ _ _ => (ve_op op_addA prim_add (vp_of ve_int) (vp_of (ve_op op_modN prim_mod (vp_name (pv 15)) (vp_of ve_int))))))) va_nil))))
    (vss_cons (vs_for (kp' := [0]) B none (vi_seq (vp_of (ve_tup (vps_cons (vp_of (ve_name (pv 4))) (vps_cons (vp_of (ve_name (pv 5))) (vps_cons (vp_of (ve_name (pv 6))) (vps_cons (vp_of (ve_name (pv 3))) (vps_cons (vp_of (ve_name (pv 9))) (vps_cons (vp_of (ve_name (pv 10))) vps_nil))))))))) (vg_name sc_law.nd rfl (by first | exact Or.inl rfl | exact Or.inr rfl) (by decide))
    (vss_cons (vs_set (i := 12) sc_law.nd rfl (by first | exact Or.inl rfl | exact Or.inr rfl) (by decide) (ve_op op_addA prim_add (vp_of (ve_op op_addA prim_add (vp_of (ve_op op_addA prim_add (vp_of ve_str) (vp_of (ve_call (fd_of g__law_text B.hr (by first | omega | exact lv_add (by omega))) B.hx (by rfl) (va_cons (va_name (pv 3)) (va_cons (va_of ve_bl) va_nil)))))) (vp_of ve_str))) (vp_of (ve_call (fd_of g__law_text B.hr (by first | omega | exact lv_add (by omega))) B.hx (by rfl) (va_cons (va_name (pv 11)) (va_cons (va_of ve_bl) va_nil))))))
    (vss_cons (vs_set (i := 13) sc_law.nd rfl (by first | exact Or.inl rfl | exact Or.inr rfl) (by decide) (ve_ix ix_seq prim_ix (vp_of (ve_lst (vps_cons (vp_of ve_str) (vps_cons (vp_of ve_str) vps_nil)))) (vp_of (ve_callTy call_intA prim_int (by rfl) T.b_int (by decide +kernel) (vps_cons (vp_of (ve_cmp (op_eqA B.hr.units) prim_eq (vp_of (ve_call (fd_of g_form_of B.hr (by first | omega | exact lv_add (by omega))) B.hx (by rfl) (va_cons (va_name (pv 3)) va_nil))) (vp_of (ve_call (fd_of g_form_of B.hr (by first | omega | exact lv_add (by omega))) B.hx (by rfl) (va_cons (va_name (pv 11)) va_nil))) (nomark _))) vps_nil))) (fun _ _ => rfl)))
    (vss_cons (vs_set (i := 14) sc_law.nd rfl (by first | exact Or.inl rfl | exact Or.inr rfl) (by decide) (ve_mc (md_of g_Desk_ask B.hr (by first | omega | exact lv_add (by omega))) B.hx (pv 1) (by decide +kernel) (by decide +kernel) (va_cons (va_name (pv 12)) va_nil)))
    (vss_cons (vs_if (vt_cmp (op_neA B.hr.units) prim_ne (vp_name (pv 14)) (vp_of (ve_lst (vps_cons (vp_of (ve_name (pv 13))) vps_nil))) (nomark _))
    (vss_one (vs_ret ve_bl))
    vss_nil)
    (vss_one (vs_expr (ve_append (pv 14) (va_cons (va_of ve_str) va_nil)))))))) (by decide) (fun _ z => nomatch z) (lk_h _))
    (vss_cons (vs_if (vt_cmp (op_neA B.hr.units) prim_ne (vp_of (ve_mc (md_of g_Desk_ask B.hr (by first | omega | exact lv_add (by omega))) B.hx (pv 1) (by decide +kernel) (by decide +kernel) (va_cons (va_of (ve_op op_addA prim_add (vp_of (ve_op op_addA prim_add (vp_of (ve_op op_addA prim_add (vp_of ve_str) (vp_of (ve_call (fd_of g__law_text B.hr (by first | omega | exact lv_add (by omega))) B.hx (by rfl) (va_cons (va_name (pv 3)) (va_cons (va_of ve_bl) va_nil)))))) (vp_of ve_str))) (vp_of (ve_call (fd_of g__law_text B.hr (by first | omega | exact lv_add (by omega))) B.hx (by rfl) (va_cons (va_name (pv 4)) (va_cons (va_of ve_bl) va_nil)))))) va_nil))) (vp_of (ve_lst (vps_cons (vp_of ve_str) vps_nil))) (nomark _))
    (vss_one (vs_ret ve_bl))
    vss_nil)
    (vss_one (vs_if (vt_cmp (op_neA B.hr.units) prim_ne (vp_of (ve_mc (md_of g_Desk_ask B.hr (by first | omega | exact lv_add (by omega))) B.hx (pv 1) (by decide +kernel) (by decide +kernel) (va_cons (va_of (ve_op op_addA prim_add (vp_of (ve_op op_addA prim_add (vp_of (ve_op op_addA prim_add (vp_of ve_str) (vp_of (ve_call (fd_of g__law_text B.hr (by first | omega | exact lv_add (by omega))) B.hx (by rfl) (va_cons (va_name (pv 4)) (va_cons (va_of ve_bl) va_nil)))))) (vp_of ve_str))) (vp_of (ve_call (fd_of g__law_text B.hr (by first | omega | exact lv_add (by omega))) B.hx (by rfl) (va_cons (va_name (pv 5)) (va_cons (va_of ve_bl) va_nil)))))) va_nil))) (vp_of (ve_lst (vps_cons (vp_of ve_str) vps_nil))) (nomark _))
    (vss_one (vs_ret ve_bl))
    vss_nil)))))))))))) (by decide) (fun _ z => nomatch z) (lk_r1 _))
    (vss_one (vs_ret ve_bl)))))
end
end Gen

end

section
set_option Elab.async false
set_option linter.all false
set_option maxRecDepth 100000
set_option maxHeartbeats 4000000
namespace Gen
open PySem PySem.Spec PyProof.Rows L2 VL
abbrev sInit : Stmt := inClass (top 54) 0
abbrev sTake : Stmt := inClass (top 54) 1
abbrev sPart : Stmt := inClass (top 54) 2
abbrev sTwo : Stmt := inClass (top 54) 3
def lf (p : Addr) : List (Str × V) := putF "left" (.ref p) []
theorem lf_left (p : Addr) : (lf p).lookup ("left" : Str) = some (.ref p) := by
  unfold lf
  rw [lookup_putF, if_pos rfl]
theorem lf_no (p : Addr) {m : Str} (h : ¬ m = "left") : (lf p).lookup m = none := by
  unfold lf
  rw [lookup_putF, if_neg h]
  rfl
/-- a Pieces stands at a, what is left lies at p -/
structure PcAt (C : Addr) (Z H : Hp) (a p : Addr) (ts : List Str) : Prop where
  za : Z a = none
  zp : Z p = none
  ob : ∃ dx, H a = some (.ins C dx (lf p))
  ls : H p = some (.lst (ts.map V.str))
  so : ∀ x ∈ ts, PyData.strOk x = true
structure PTxt (K : PySem.W.Frag) (mg : Str → Option Value) (C : Addr) : Prop where
  cl : Cls K C
  nL : NoAttr K C "left"
  mgC : mg "Pieces" = some (.ref C)
def spInit (K : PySem.W.Frag) (C : Addr) : Sp := fun vs H Q _ => ∃ (Z : Hp) (a q dx : Addr) (ts : List Str), vs = [.ref a, .ref q] ∧ Same Z H ∧ Z a = none ∧ H a = some (.ins C dx []) ∧ H q = some (.lst (ts.map V.str)) ∧ (∀ x ∈ ts, PyData.strOk x = true) ∧
  ∀ (H' : Hp) (p : Addr), H p = none → Same Z H' → (∀ b o, H b = some o → b ≠ a → H' b = some o) → PcAt C Z H' a p ts.reverse → Q .non H'
def spTake (C : Addr) : Sp := fun vs H Q _ => ∃ (Z : Hp) (a p : Addr) (ts : List Str), vs = [.ref a] ∧ Same Z H ∧ PcAt C Z H a p ts.reverse ∧
  ∀ H' : Hp, Same Z H' → PcAt C Z H' a p (tk ts).2.reverse → After Z H [p] Z H' [p] → Q (.str (tk ts).1) H'
section
variable {P : Program} {w : World} {K : PySem.W.Frag} {mg : Str → Option Value} {base : Heap}
theorem scI : FnScope ["self", "pieces"] ["self", "pieces"] (defScope sInit) := ⟨rfl, rfl, rfl, by decide +kernel, rfl, by decide +kernel, by decide +kernel⟩
theorem ok_init {f C : Addr} {fd : FuncData} (F : Fun K "__init__" "Pieces.__init__" sInit f fd) (T : PTxt K mg C) : FnOk P w K mg base (L2.CX P w) 1 f fd ["self", "pieces"] (spInit K C) := by
  refine F.okX scI (fun vs H Q E h => ?_) fun cdv A outer s H vs Q E hr h => ?_
  · obtain ⟨Z, a, q, dx, ts, rfl, _⟩ := h
    rfl
  · obtain ⟨Z, a, q, dx, ts, rfl, s0, za, ha, hq, so, k⟩ := h
    refine ⟨_, pss_one (ps_fld (pv 0) (pe_revL (pv 1)) rfl), ?_⟩
    refine ⟨_, rfl, q, _, rfl, SqL.of hq, fun p hp => ?_⟩
    have nap : a ≠ p := ne_of_none ha hp
    refine ⟨_, rfl, a, C, dx, [], rfl, (by rw [upd_ne nap]; exact ha), T.cl, T.nL, (by show 0 < 1000; decide), ?_⟩
    have keep : ∀ b o, H b = some o → b ≠ a → (upd (upd H p (.lst (ts.map V.str).reverse)) a (.ins C dx (putF "left" (.ref p) []))) b = some o := fun b o e n => by
      rw [upd_ne n, upd_ne (ne_of_none e hp)]
      exact e
    refine k _ p hp (fun b o e => keep b o (s0 _ _ e) fun n => by rw [n, za] at e; cases e) keep ⟨za, s0.free hp, ⟨dx, upd_same⟩, ?_, fun x hx => so x (List.mem_reverse.mp hx)⟩
    rw [upd_ne nap.symm, upd_same, List.map_reverse]
theorem scT : FnScope ["self"] ["self"] (defScope sTake) := ⟨rfl, rfl, rfl, by decide +kernel, rfl, by decide +kernel, by decide +kernel⟩
theorem strs_own {c : VC} {Z H : Hp} : ∀ ts : List Str, OwnL c Z H (ts.map V.str) (ts.map fun s => OT.sh (.str s)) []
  | [] => .nil
  | x :: ts => OwnL.cons (F := []) (.sh (.str x)) (strs_own ts)
theorem d_strs : ∀ ts : List Str, (OT.lst (ts.map fun s => OT.sh (.str s))).d = .list (ts.map .str)
  | [] => rfl
  | x :: ts => by
    have h := d_strs ts
    simp only [OT.d, List.map_cons, PyData.list.injEq] at h ⊢
    simp [OT.ds, h, OT.d]
theorem eq_nil {ts : List Str} (so : ∀ x ∈ ts, PyData.strOk x = true) : gEq (.lst (ts.map fun s => OT.sh (.str s))) (.lst []) = some (.sh (.bool (decide (ts = [])))) := by
  have e : (OT.lst (ts.map fun s => OT.sh (.str s))).d = .list (ts.map .str) := by
    exact d_strs ts
  have fl : ∀ d ∈ ts.map PyData.str, Flat 1 d := fun d hd => by
    obtain ⟨x, hx, rfl⟩ := List.mem_map.mp hd
    exact flat_str x (so x hx) 1
  refine (gEq_fl (n := 2) (t1 := .lst (ts.map fun s => OT.sh (.str s))) (t2 := .lst []) (by rw [e]; exact flat_list (n := 1) fl) (flat_list (n := 1) fun d hd => by cases hd) (by decide)).trans ?_
  rw [e]
  show some (OT.sh (.bool (PyData.eqv (.list (ts.map .str)) (.list [])))) = _
  cases ts <;> simp [PyData.eqv, PyData.eqvAll]
theorem aft {Z H H' : Hp} {p : Addr} (k : ∀ b o, H b = some o → b ∉ [p] → H' b = some o) : After Z H [p] Z H' [p] := ⟨Same.refl _, k, fun _ h => .inl h, fun _ h => .inl h⟩
theorem ok_take {f C : Addr} {fd : FuncData} (F : Fun K "take" "Pieces.take" sTake f fd) (T : PTxt K mg C) : FnOk P w K mg base (L2.CX P w) 1 f fd ["self"] (spTake C) := by
  refine F.okX scT (fun vs H Q E h => ?_) fun cdv A outer s H vs Q E hr h => ?_
  · obtain ⟨Z, a, p, ts, rfl, _⟩ := h
    rfl
  · obtain ⟨Z, a, p, ts, rfl, s0, ⟨za, zp, ⟨dx, ha⟩, hp, so⟩, k⟩ := h
    refine ⟨_, pss_cons (ps_if (pt_cmpR (op_eqA hr.units) (pe_fld (pv 0) rfl) (pe_lst pa_nil) (nomark _)) (pss_one (ps_ret pe_str)) pss_nil)
      (pss_one (ps_ret (pe_bm0 PySem.F.plainAttrs_list PySem.F.slot_list_pop PySem.F.type_list_pop mt_pop (pe_fld (pv 0) rfl)))), ?_⟩
    refine ⟨_, rfl, a, C, dx, _, _, rfl, ha, T.cl, T.nL, lf_left p, Nat.zero_le _, fun q hq => ?_⟩
    have npq : p ≠ q := ne_of_none hp hq
    have naq : a ≠ q := ne_of_none ha hq
    have nap : a ≠ p := ne_of ha hp (by intro z; cases z)
    have s1 : Same Z (upd H q (.lst [])) := s0.trans (same_upd hq)
    refine prim_eq (c := ⟨K, w, fun _ => none⟩) Z _ _ _ _ _ _ _ _ _ s1 (.lst (by rw [upd_ne npq]; exact hp) (strs_own _)) (.lst upd_same .nil) (eq_nil so) ?_
    intro v H1 Z1 Ft s2 s3 s4 z1 ow nd sp
    cases ow with
    | sh r =>
    cases r
    have hp1 : H1 p = some (.lst (ts.reverse.map V.str)) := s2 _ _ (by rw [upd_ne npq]; exact hp)
    have ha1 : H1 a = some (.ins C dx (lf p)) := s2 _ _ (by rw [upd_ne naq]; exact ha)
    have sz : Same Z H1 := s1.trans s2
    have kp : ∀ b o, H b = some o → H1 b = some o := fun b o e => s2 _ _ (by rw [upd_ne (ne_of_none e hq)]; exact e)
    refine ⟨_, rfl, ?_⟩
    cases ts with
    | nil => exact k _ sz ⟨za, zp, ⟨dx, ha1⟩, hp1, so⟩ (aft fun b o e _ => kp b o e)
    | cons x ts =>
      have hne : decide ((x :: ts).reverse = []) = false := by simp
      rw [hne]
      refine ⟨_, rfl, a, C, dx, _, _, rfl, ha1, T.cl, T.nL, lf_left p, .inl ⟨rfl, _, SqL.of hp1⟩, p, _, .str x, rfl, rfl, hp1, ?_, ?_⟩
      · simp
      · have hd : ((x :: ts).reverse.map V.str).dropLast = ts.reverse.map V.str := by simp
        rw [hd]
        refine k _ (fun b o e => ?_) ⟨za, zp, ⟨dx, by rw [upd_ne nap]; exact ha1⟩, upd_same, fun y hy => so y (by simp only [tk, List.mem_reverse] at hy; simp [hy])⟩ (aft fun b o e n => ?_)
        · have nb : b ≠ p := fun n => by rw [n, zp] at e; cases e
          rw [upd_ne nb]
          exact sz _ _ e
        · rw [upd_ne (by simpa using n)]
          exact kp b o e
end
end Gen

end

section
set_option Elab.async false
set_option linter.all false
set_option maxRecDepth 100000
set_option maxHeartbeats 4000000
namespace Gen
open PySem PySem.Spec PyProof.Rows L2 VL
section
variable {X : Cx} {xa : Str → Option Addr} {E : XS} {kp : List Nat} {pu : Bool} {e : Expr} {pos : Pos}
def fRaise0 (x : Str) (f : Ev → Res (List PH)) : Ev → Out := fun ρ => eS (f ρ) fun hs ρ1 => match gets hs ρ1 with
  | some [_] => .exc ⟨x, none⟩ ρ1
  | _ => .bad
theorem vs_raise0 {j : Nat} {x : Str} {p q pos : Pos} {f : Ev → Res (List PH)} (g : Err0At X.K X.mg xa x) (B : VL.Bd X E j) (hg : Gl X x) (h : VPs X xa E pu [e] f)
    (hdb : (x == ("__debug__" : Str)) = false := by decide) (he : starEach [e] X.env = (false, eval e X.env) :: starEach [] X.env := by rfl) :
    VS X xa E kp (.Raise (some (.Call (.Name x p) [e] [] q)) none pos) (fRaise0 x f) := by
  obtain ⟨C, hx, hm, q, kC, t1, t2⟩ := g
  refine (ps_raise B.hc B.tk (pmk_ownA PySem.F.excBase_ValueError q hm kC (raises_own t1 t2) hg h hdb he)).imp fun D σ H ⟨Z, ρ, F, ok, q⟩ => ?_
  refine ⟨Z, ρ, F, ok, rPs_of q fun hs ρ1 vs H1 Z1 F1 o1 w1 a1 q => ?_⟩
  split at q
  · rename_i y ey
    have r := gets_rds o1 w1 ey
    cases r with
    | cons w r =>
      cases r
      exact ⟨by rw [sizeLine_eq]; simp, q _ _ σ _ _ F1 o1 ⟨C, hx, rfl, rfl⟩ a1 (Kept.refl _ _)⟩
  · exact q.elim
end
theorem isBo_of {r : FRes} {b : Bool} (h : isBo r = some b) : ∃ as, r = .ok (.sh (.bool b)) as := by
  unfold isBo at h
  split at h
  · cases h; exact ⟨_, rfl⟩
  · cases h
theorem if_not {F : List OT → FRes} {t : Str} {y : Str} {i : Nat} {ρ : Ev} {b : Bool} (h : isBo (F [.sh (.str t)]) = some b) (hi : slotAt ρ i = some (.sh (.str t))) (hi2 : ρ[i]? = some (.sh (.str t))) :
    fIfS (fNot (fB (fCall F (fACons (fArgV i) fANil)))) (fRaise0 "NoText" (fPsCons true (fPh (fC (.str y))) fPsNil)) fNx ρ = if b = true then .nx ρ else .exc ⟨"NoText", none⟩ ρ := by
  obtain ⟨as, e⟩ := isBo_of h
  cases b <;> simp -implicitDefEqProofs [e, hi, hi2, fRaise0]
theorem aft0 {Z H Z' H' : Hp} {F' : List Addr} {p : Addr} (a : After Z H [] Z' H' F') : After Z H [p] Z' H' [p] :=
  ⟨a.same, fun b o e _ => a.keep b o e (by simp), fun _ h => .inl h, fun b h => (a.newZ b h).imp id fun h => .inr (h.resolve_left (by simp))⟩
theorem PcAt.on {C a p : Addr} {Z H Z' H' : Hp} {F' : List Addr} {ts : List Str} (h : PcAt C Z H a p ts) (k : After Z H [] Z' H' F') : PcAt C Z' H' a p ts := by
  obtain ⟨za, zp, ⟨dx, ha⟩, hp, so⟩ := h
  have nz : ∀ b o, Z b = none → H b = some o → Z' b = none := fun b o z e => by
    cases hz : Z' b with
    | none => rfl
    | some u =>
      rcases k.newZ b (by rw [hz]; simp) with h | h | h
      · exact absurd z h
      · cases h
      · rw [e] at h; cases h
  exact ⟨nz _ _ za ha, nz _ _ zp hp, ⟨dx, k.keep _ _ ha (by simp)⟩, k.keep _ _ hp (by simp), so⟩
theorem word_at {t w : Str} (h : sgnW t = some w) : fOp2 gIx (true && true && true) (fPh (fC (.tuple [.str "plus", .str "less", .str "times", .str "share"]))) (fPh (fOps (gCIx ["+", "-", "*", "/"]) (fPsCons true (fPix true (fPv 2) (fPh (fC (.int 1)))) fPsNil))) [.mv, .mv, .sh (.str t)] = .ok (.sh (.str w)) [.mv, .mv, .sh (.str t)] := by
  unfold sgnW at h
  cases h1 : gIx (.sh (.str t)) (.sh (.int 1)) with
  | none => rw [h1] at h; cases h
  | some t1 =>
  rw [h1, Option.bind_some] at h
  cases h2 : gCIx ["+", "-", "*", "/"] [t1] with
  | none => rw [h2] at h; cases h
  | some t2 =>
  rw [h2, Option.bind_some] at h
  cases h3 : gIx (.sh (.tuple [.str "plus", .str "less", .str "times", .str "share"])) t2 with
  | none => rw [h3] at h; cases h
  | some t3 =>
  rw [h3, Option.bind_some] at h
  unfold tStr at h
  split at h
  · cases h
    obtain ⟨c1, rfl⟩ : ∃ c : Str, t1 = .sh (.str c) := by
      rw [gIx_s] at h1
      split at h1
      · cases ha : atI t.cps.toList 1 with
        | none => rw [ha] at h1; cases h1
        | some c => rw [ha] at h1; cases h1; exact ⟨_, rfl⟩
      · cases h1
    obtain ⟨j, rfl⟩ : ∃ j : Nat, t2 = .sh (.int j) := by
      rw [gCIx_s] at h2
      cases hj : (["+", "-", "*", "/"] : List Str).findIdx? fun y => decide (y = c1) with
      | none => rw [hj] at h2; cases h2
      | some j => rw [hj] at h2; cases h2; exact ⟨_, rfl⟩
    simp -implicitDefEqProofs [-gIx_s, -gIx_t, -gCIx_s, h1, h2, h3]
  · cases h
/-- how a promise of take, part, two ends -/
def PEnd (c : VC) (C : Addr) (Z H : Hp) (a p : Addr) (r : PR) (Q : VK) (E : XK) : Prop := match r with
  | .bad => False
  | .ok d l => ∀ v H' Z', Same Z' H' → Rp c Z' v d → PcAt C Z' H' a p l.reverse → After Z H [p] Z' H' [p] → Q v H'
  | .no => ∀ cls x H' Z', Same Z' H' → ExR c Z' H' ⟨"NoText", none⟩ cls x → After Z H [p] Z' H' [p] → E cls x H'
def spPart (c : VC) (C : Addr) (f : List Str → PR) : Sp := fun vs H Q E => ∃ (Z : Hp) (a p : Addr) (ts : List Str), vs = [.ref a] ∧ Same Z H ∧ PcAt C Z H a p ts.reverse ∧ PEnd c C Z H a p (f ts) Q E
def spTwo (c : VC) (C : Addr) (f : List Str → PR) : Sp := fun vs H Q E => ∃ (Z : Hp) (a p : Addr) (ts : List Str) (v : V) (d : D), vs = [.ref a, v] ∧ Same Z H ∧ Rp c Z v d ∧ PcAt C Z H a p ts.reverse ∧ PEnd c C Z H a p (F_two f ts d) Q E
section
variable {P : Program} {w : World} {K : PySem.W.Frag} {mg : Str → Option Value} {base : Heap} {xa : Str → Option Addr}
theorem scW : FnScope ["self", "first", "sign"] ["self", "first"] (defScope sTwo) := ⟨rfl, rfl, rfl, by decide +kernel, rfl, by decide +kernel, by decide +kernel⟩
theorem ok_two {f C fT fP : Addr} {fd fdT fdP : FuncData} {k : Nat} {g : List Str → PR} (F : Fun K "two" "Pieces.two" sTwo f fd) (T : PTxt K mg C) (TX : Txt K w mg xa) (mW : ConstAt K mg "WORDS" (.tuple [.str "plus", .str "less", .str "times", .str "share"])) (cS : CIxAt K mg "SIGNS" ["+", "-", "*", "/"]) (eN : Err0At K mg xa "NoText")
    (gS : DefAt P w K mg base xa "is_sign" ["piece"] 1 1 F_is_sign)
    (mT : Meth K C "take" fT) (GT : FnOk P w K mg base (L2.CX P w) 1 fT fdT ["self"] (spTake C)) (bT : Binds K fdT ["self"] [])
    (mP : Meth K C "part" fP) (GP : FnOk P w K mg base (L2.CX P w) k fP fdP ["self"] (spPart ⟨K, w, xa⟩ C g)) (bP : Binds K fdP ["self"] []) (hk : 1 ≤ k) :
    FnOk P w K mg base (L2.CX P w) (k + 1) f fd ["self", "first"] (spTwo ⟨K, w, xa⟩ C g) := by
  refine F.okX scW (fun vs H Q E h => ?_) fun cdv A outer s H vs Q E hr h => ?_
  · obtain ⟨Z, a, p, ts, v, d, rfl, _⟩ := h
    rfl
  · obtain ⟨Z, a, p, ts, v, d, rfl, s0, rv, pc, q⟩ := h
    have B : VL.Bd (cxOf (L2.CX P w) P w K mg base ["self", "first", "sign"] "Pieces.two" (defScope sTwo) f cdv A outer s H E) (fun _ => E) k := bd_of hr
    have hr1 : Room 1 _ := hr.mono hk
    have hp : Passes (L2.CX P w) (cxOf (L2.CX P w) P w K mg base ["self", "first", "sign"] "Pieces.two" (defScope sTwo) f cdv A outer s H E) E := fun pins σ H s e s' I c => B.hx σ pins H s e s' I c
    refine ⟨_, pss_cons (ps_set (i := 2) scW.nd rfl (Or.inl rfl) (pe_meth0 (pv 0) T.cl mT GT hr1 bT .nil hp))
      (pss_cons (vs_if (xa := xa) (kp := [0, 1, 2]) (vt_not (vt_val (ve_call (fd_of gS B.hr hk) B.hx (by rfl) (va_cons (va_name (pv 2)) va_nil)))) (vss_one (vs_raise0 eN B (by rfl) (vps_cons (vp_of ve_str) vps_nil))) vss_nil)
      (pss_one (ps_ret (pe_tup (pa_cons (ve_ix (xa := xa) (E := fun _ => E) ix_seq prim_ix (vp_of (ve_const mW (by rfl))) (vp_of (ve_cIx (by rfl) cS (vps_cons (vp_ix (vp_name (pv 2)) (vp_of ve_int) (fun _ _ => rfl)) vps_nil))) (fun _ _ => rfl))
        (pa_cons (pv 1) (pa_cons (pe_meth0 (pv 0) T.cl mP GP hr bP .nil hp) pa_nil))))))), ?_⟩
    refine ⟨_, rfl, a, pc.ob.choose, lf p, rfl, pc.ob.choose_spec, lf_no p (by decide +kernel), Z, a, p, ts, rfl, s0, pc, fun H1 s1 pc1 a1 => ?_⟩
    refine ⟨Z, [.mv, .mv, .sh (.str (tk ts).1)], [], ⟨s1, .mv (.mv (.cons (F := []) (.sh (.str _)) .nil)), List.nodup_nil, fun _ h => by cases h⟩, ?_⟩
    rcases hb : isBo (F_is_sign [.sh (.str (tk ts).1)]) with _ | b
    · simp only [F_two, hb, PEnd] at q
    · have e := if_not (y := "no sign") (i := 2) (ρ := [.mv, .mv, .sh (.str (tk ts).1)]) hb rfl rfl
      rw [e]
      cases b with
      | false =>
        simp only [F_two, hb, PEnd] at q
        refine fun cls x σ2 H2 Z2 F2 o2 xr a2 _ => q cls x H2 Z2 o2.same xr (a1.trans (aft0 a2))
      | true =>
        refine fun σ2 H2 Z2 F2 o2 a2 kk => ?_
        have pc2 := pc1.on a2
        have aa := a1.trans (aft0 (p := p) a2)
        obtain ⟨l2, k2⟩ := kk
        have g0 : σ2[0]? = some (some (.ref a)) := k2 0 (by simp)
        have g1 : σ2[1]? = some (some v) := k2 1 (by simp)
        have g2 : σ2[2]? = some (some (.str (tk ts).1)) := k2 2 (by simp)
        simp only [F_two, hb] at q
        cases hw : sgnW (tk ts).1 with
        | none => rw [hw] at q; exact q.elim
        | some wd =>
        rw [hw] at q
        refine ⟨Z2, _, F2, o2, ?_⟩
        rw [word_at hw]
        intro wv H3 Z3 F3 Ft o3 ow nd sp a3 _
        cases ow with
        | sh rw3 =>
        cases rw3
        have f2 : F2 = [] := by
          obtain ⟨_, ow, _, _⟩ := o2
          cases ow with
          | cons w _ => cases w
          | mv ow =>
            cases ow with
            | cons w _ => cases w
            | mv ow =>
              cases ow with
              | cons w ow =>
                cases w
                cases ow
                rfl
        subst f2
        have pc3 := pc2.on a3
        have aa3 := aa.trans (aft0 (p := p) a3)
        obtain ⟨za3, zp3, ⟨dx3, ha3⟩, hp3, so3⟩ := id pc3
        refine ⟨v, g1, _, g0, a, dx3, lf p, rfl, ha3, lf_no p (by decide +kernel), Z3, a, p, (tk ts).2, rfl, o3.same, pc3, ?_⟩
        cases hg : g (tk ts).2 with
        | bad => rw [hg] at q; exact q.elim
        | no =>
          rw [hg] at q
          exact fun cls x H4 Z4 s4 xr a4 => q cls x H4 Z4 s4 xr (aa3.trans a4)
        | ok d2 l2 =>
          rw [hg] at q
          intro v2 H4 Z4 s4 r4 pc4 a4
          refine ⟨by rw [sizeLine_eq]; simp, fun b hb => ?_⟩
          have o4 : Ok (⟨K, w, xa⟩ : VC) Z4 H4 [] [] [] := ⟨s4, .nil, List.nodup_nil, fun _ h => by cases h⟩
          obtain ⟨o5, a5⟩ := o4.froze (o := .tup [V.str wd, v, v2]) hb
          have rv4 := (rv.mono aa3.same).mono a4.same
          exact q (.ref b) _ _ o5.same (.tup (SqT.of upd_same) (.cons (.str wd) (.cons (rv4.mono a5.same) (.cons (r4.mono a5.same) .nil))) (fun h => by simp [isCh, isBl] at h)) (pc4.on a5) ((aa3.trans a4).trans (aft0 a5))
end
end Gen

end

section
set_option Elab.async false
set_option linter.all false
set_option maxRecDepth 100000
set_option maxHeartbeats 4000000
namespace Gen
open PySem PySem.Spec PyProof.Rows L2 VL
/-- int(text) -/
def gIntS (ts : List OT) : Option OT := match ts with
  | [.sh (.str a)] => if a.length ≤ 640 then (intText? a).map fun i => .sh (.int i) else none
  | _ => none
theorem prim_intS {c : VC} : Prim c (fun xs H Q => ∃ a n, xs = [.str a] ∧ PySem.intText? a = some n ∧ a.length ≤ 640 ∧ Q (.int n) H) gIntS := fun Z H vs ts t Q sm r e n => by
  unfold gIntS at e
  split at e
  · rename_i a
    cases r with
    | cons w r =>
      cases r
      cases w with
      | sh w =>
      cases w
      split at e
      · rename_i hl
        cases hi : intText? a with
        | none => rw [hi] at e; cases e
        | some i =>
          rw [hi] at e
          cases e
          exact ⟨a, i, rfl, hi, hl, n.int sm⟩
      · cases e
  · cases e
section
variable {P : Program} {w : World} {K : PySem.W.Frag} {mg : Str → Option Value} {base : Heap} {xa : Str → Option Addr}
theorem if_num {F : List OT → FRes} {t : Str} {ρ : Ev} {i : Nat} {b : Bool} (h : isBo (F [.sh (.str t)]) = some b) (hi : slotAt ρ i = some (.sh (.str t))) (hi2 : ρ[i]? = some (.sh (.str t))) (hs : ρ[i]?.isSome = true) :
    fIfS (fB (fCall F (fACons (fArgV i) fANil))) (fRet (fOps gIntS (fPsCons true (fPv i) fPsNil))) fNx ρ = if b = true then (match gIntS [.sh (.str t)] with
      | some v => .rt v ρ
      | none => .bad) else .nx ρ := by
  obtain ⟨as, e⟩ := isBo_of h
  cases hg : gIntS [.sh (.str t)] <;> cases b <;> simp -implicitDefEqProofs [e, hi, hi2, hg]
theorem if_ne {t m y : Str} {ρ : Ev} {i : Nat} (hi : slotAt ρ i = some (.sh (.str t))) (hi2 : ρ[i]? = some (.sh (.str t))) :
    fIfS (fB (fOp2 gNe true (fPv i) (fPh (fC (.str m))))) (fRaise0 "NoText" (fPsCons true (fPh (fC (.str y))) fPsNil)) fNx ρ = if t = m then .nx ρ else .exc ⟨"NoText", none⟩ ρ := by
  by_cases h : t = m <;> simp -implicitDefEqProofs [hi, hi2, h, fRaise0]
theorem bare {c : VC} {Z H : Hp} : ∀ {σ : L2.St} {ρ : Ev} {F : List Addr}, OwnS c Z H σ ρ F → (∀ t ∈ ρ, t = .mv ∨ ∃ d, t = .sh d) → F = []
  | _, _, _, .nil, _ => rfl
  | _, _, _, .mv w, h => bare w fun t ht => h t (List.mem_cons_of_mem _ ht)
  | _, _, _, .cons (t := t) w l, h => by
    have e := bare l fun t ht => h t (List.mem_cons_of_mem _ ht)
    subst e
    rcases h t (List.mem_cons_self ..) with rfl | ⟨d, rfl⟩
    · cases w
    · cases w; rfl
theorem mvs {c : VC} {Z H : Hp} : ∀ σ : L2.St, OwnS c Z H σ (List.replicate σ.length .mv) []
  | [] => .nil
  | _ :: σ => .mv (mvs σ)
theorem scP : FnScope ["self", "piece", "found"] ["self"] (defScope sPart) := ⟨rfl, rfl, rfl, by decide +kernel, rfl, by decide +kernel, by decide +kernel⟩
theorem ok_part {f C fT fP fW : Addr} {fd fdT fdP fdW : FuncData} {k n : Nat} (F : Fun K "part" "Pieces.part" sPart f fd) (T : PTxt K mg C) (TX : Txt K w mg xa) (eN : Err0At K mg xa "NoText")
    (gN : DefAt P w K mg base xa "is_number" ["piece"] 1 1 F_is_number)
    (mT : Meth K C "take" fT) (GT : FnOk P w K mg base (L2.CX P w) 1 fT fdT ["self"] (spTake C)) (bT : Binds K fdT ["self"] [])
    (mP : Meth K C "part" fP) (GP : FnOk P w K mg base (L2.CX P w) k fP fdP ["self"] (spPart ⟨K, w, xa⟩ C (F_part n))) (bP : Binds K fdP ["self"] [])
    (mW : Meth K C "two" fW) (GW : FnOk P w K mg base (L2.CX P w) (k + 1) fW fdW ["self", "first"] (spTwo ⟨K, w, xa⟩ C (F_part n))) (bW : Binds K fdW ["self", "first"] []) :
    FnOk P w K mg base (L2.CX P w) (k + 2) f fd ["self"] (spPart ⟨K, w, xa⟩ C (F_part (n + 1))) := by
  refine F.okX scP (fun vs H Q E h => ?_) fun cdv A outer s H vs Q E hr h => ?_
  · obtain ⟨Z, a, p, ts, rfl, _⟩ := h
    rfl
  · obtain ⟨Z, a, p, ts, rfl, s0, pc, q⟩ := h
    have B : VL.Bd (cxOf (L2.CX P w) P w K mg base ["self", "piece", "found"] "Pieces.part" (defScope sPart) f cdv A outer s H E) (fun _ => E) (k + 1) := bd_of hr
    have hr1 : Room 1 _ := hr.mono (Nat.le_add_left 1 k)
    have hrk : Room k _ := hr.mono (Nat.le_add_right k 1)
    have hp : Passes (L2.CX P w) (cxOf (L2.CX P w) P w K mg base ["self", "piece", "found"] "Pieces.part" (defScope sPart) f cdv A outer s H E) E := fun pins σ H s e s' I c => B.hx σ pins H s e s' I c
    refine ⟨_, pss_cons (ps_set (i := 1) scP.nd rfl (Or.inl rfl) (pe_meth0 (pv 0) T.cl mT GT hr1 bT .nil hp))
      (pss_cons (vs_if (xa := xa) (kp := [0, 1, 2]) (vt_val (ve_call (fd_of gN B.hr (by omega)) B.hx (by rfl) (va_cons (va_name (pv 1)) va_nil)))
        (vss_one (vs_ret (ve_callTy call_int_str prim_intS (by rfl) TX.b_int (by decide +kernel) (vps_cons (vp_name (pv 1)) vps_nil)))) vss_nil)
      (pss_cons (vs_if (xa := xa) (kp := [0, 1, 2]) (vt_cmp (op_neA B.hr.units) prim_ne (vp_name (pv 1)) (vp_of ve_str) (nomark _)) (vss_one (vs_raise0 eN B (by rfl) (vps_cons (vp_of ve_str) vps_nil))) vss_nil)
      (pss_cons (ps_set (i := 2) scP.nd rfl (Or.inl rfl) (pe_meth (pv 0) T.cl mW GW hr bW .nil hp (pa_cons (pe_meth0 (pv 0) T.cl mP GP hrk bP .nil hp) pa_nil)))
      (pss_cons (ps_if (pt_cmpR op_ne (pe_meth0 (pv 0) T.cl mT GT hr1 bT .nil hp) pe_str (nomark _)) (vss_one (vs_raise0 (xa := xa) (kp := [0, 1, 2]) eN B (by rfl) (vps_cons (vp_of ve_str) vps_nil))) pss_nil)
      (pss_one (ps_ret (pv 2))))))), ?_⟩
    refine ⟨_, rfl, a, pc.ob.choose, lf p, rfl, pc.ob.choose_spec, lf_no p (by decide +kernel), Z, a, p, ts, rfl, s0, pc, fun H1 s1 pc1 a1 => ?_⟩
    refine ⟨Z, [.mv, .sh (.str (tk ts).1), .mv], [], ⟨s1, .mv (.cons (F := []) (.sh (.str _)) (.mv .nil)), List.nodup_nil, fun _ h => by cases h⟩, ?_⟩
    rcases hb : isBo (F_is_number [.sh (.str (tk ts).1)]) with _ | b
    · simp only [F_part, hb, PEnd] at q
    · have e := if_num (i := 1) (ρ := [.mv, .sh (.str (tk ts).1), .mv]) hb rfl rfl rfl
      rw [e]
      simp only [F_part, hb] at q
      cases b with
      | true =>
        simp only [gIntS, if_true]
        by_cases hl : (tk ts).1.length ≤ 640
        case neg => simp only [hl, if_false, if_true, PEnd] at q
        cases hi : intText? (tk ts).1 with
        | none => simp only [hl, hi, if_true, PEnd] at q
        | some i =>
          simp only [hl, hi, if_true, PEnd] at q
          simp only [hl, if_true, Option.map_some]
          intro v σ' H' Z' F' Ft o ow nd sp a2 kk
          cases ow with
          | sh rp =>
            exact q v H' Z' o.same rp (pc1.on a2) (a1.trans (aft0 a2))
      | false =>
        simp only [Bool.false_eq_true, if_false] at q ⊢
        intro σ2 H2 Z2 F2 o2 a2 kk
        have pc2 := pc1.on a2
        have aa2 := a1.trans (aft0 (p := p) a2)
        have f2 : F2 = [] := bare o2.own (by simp)
        subst f2
        refine ⟨Z2, _, [], o2, ?_⟩
        have e2 := if_ne (t := (tk ts).1) (m := "(") (y := "neither a number nor a bracket") (i := 1) (ρ := [.mv, .sh (.str (tk ts).1), .mv]) rfl rfl
        rw [show (fIfS _ _ fNx [.mv, .sh (.str (tk ts).1), .mv] : Out) = _ from e2]
        by_cases ht : (tk ts).1 = "("
        case neg =>
          simp only [ht, if_false, PEnd] at q ⊢
          exact fun cls x σ3 H3 Z3 F3 o3 xr a3 _ => q cls x H3 Z3 o3.same xr (aa2.trans (aft0 a3))
        simp only [ht, if_true] at q ⊢
        intro σ3 H3 Z3 F3 o3 a3 kk3
        have f3 : F3 = [] := bare o3.own (by simp)
        subst f3
        have pc3 := pc2.on a3
        have aa3 := aa2.trans (aft0 (p := p) a3)
        have k3 := kk.trans kk3
        obtain ⟨l3, k3⟩ := k3
        have g0 : σ3[0]? = some (some (.ref a)) := k3 0 (by simp)
        obtain ⟨dx3, ha3⟩ := pc3.ob
        refine ⟨_, g0, a, dx3, lf p, rfl, ha3, lf_no p (by decide +kernel), _, g0, a, dx3, lf p, rfl, ha3, lf_no p (by decide +kernel), Z3, a, p, (tk ts).2, rfl, o3.same, pc3, ?_⟩
        cases hg : F_part n (tk ts).2 with
        | bad => rw [hg] at q; exact q.elim
        | no =>
          rw [hg] at q
          exact fun cls x H4 Z4 s4 xr a4 => q cls x H4 Z4 s4 xr (aa3.trans a4)
        | ok d l2 =>
          simp only [hg] at q
          intro v4 H4 Z4 s4 r4 pc4 a4
          refine ⟨Z4, a, p, l2, v4, d, rfl, s4, r4, pc4, ?_⟩
          cases hg2 : F_two (F_part n) l2 d with
          | bad => rw [hg2] at q; exact q.elim
          | no =>
            rw [hg2] at q
            exact fun cls x H5 Z5 s5 xr a5 => q cls x H5 Z5 s5 xr ((aa3.trans a4).trans a5)
          | ok d' l5 =>
            simp only [hg2] at q
            intro v5 H5 Z5 s5 r5 pc5 a5
            obtain ⟨dx5, ha5⟩ := pc5.ob
            have g05 : (σ3.set 2 (some v5))[0]? = some (some (.ref a)) := by rw [List.getElem?_set_ne (by decide)]; exact g0
            have g25 : (σ3.set 2 (some v5))[2]? = some (some v5) := by
              rw [List.getElem?_set_self]
              rw [l3]
              exact (by decide : 2 < 3)
            have aa5 := (aa3.trans a4).trans a5
            refine ⟨_, g05, a, dx5, lf p, rfl, ha5, lf_no p (by decide +kernel), Z5, a, p, l5, rfl, s5, pc5, fun H6 s6 pc6 a6 => ⟨rfl, _, rfl, ?_⟩⟩
            by_cases hc : (tk l5).1 = ")"
            · simp only [hc, if_true] at q
              rw [hc]
              refine ⟨v5, g25, q v5 H6 Z5 s6 r5 pc6 (aa5.trans a6)⟩
            · simp only [hc, if_false] at q
              have hd : decide (V.str (tk l5).1 = V.str ")") = false := decide_eq_false fun e => hc (V.str.inj e)
              have er : ∀ (y : Str) (ρ : Ev), fRaise0 "NoText" (fPsCons true (fPh (fC (.str y))) fPsNil) ρ = .exc ⟨"NoText", none⟩ ρ := fun y ρ => by simp -implicitDefEqProofs [fRaise0]
              rw [hd]
              refine ⟨Z5, _, [], ⟨s6, mvs _, List.nodup_nil, fun _ h => by cases h⟩, ?_⟩
              rw [er]
              exact fun cls x σ7 H7 Z7 F7 o7 xr a7 _ => q cls x H7 Z7 o7.same xr ((aa5.trans a6).trans (aft0 a7))
end
end Gen

end

section
set_option Elab.async false
set_option linter.all false
set_option maxRecDepth 100000
set_option maxHeartbeats 4000000
namespace Gen
open PySem PySem.Spec PyProof.Rows L2 VL
section
variable {P : Program} {w : World} {K : PySem.W.Frag} {mg : Str → Option Value} {base : Heap} {xa : Str → Option Addr}
theorem part_all {C fT fP fW : Addr} {fdT fdP fdW : FuncData} (T : PTxt K mg C) (TX : Txt K w mg xa) (eN : Err0At K mg xa "NoText")
    (mW : ConstAt K mg "WORDS" (.tuple [.str "plus", .str "less", .str "times", .str "share"])) (cS : CIxAt K mg "SIGNS" ["+", "-", "*", "/"])
    (gN : DefAt P w K mg base xa "is_number" ["piece"] 1 1 F_is_number) (gS : DefAt P w K mg base xa "is_sign" ["piece"] 1 1 F_is_sign)
    (FT : Fun K "take" "Pieces.take" sTake fT fdT) (mT : Meth K C "take" fT) (bT : Binds K fdT ["self"] [])
    (FP : Fun K "part" "Pieces.part" sPart fP fdP) (mP : Meth K C "part" fP) (bP : Binds K fdP ["self"] [])
    (FW : Fun K "two" "Pieces.two" sTwo fW fdW) (mW' : Meth K C "two" fW) (bW : Binds K fdW ["self", "first"] []) :
    ∀ n, FnOk P w K mg base (L2.CX P w) (2 * n + 1) fP fdP ["self"] (spPart ⟨K, w, xa⟩ C (F_part n)) ∧ FnOk P w K mg base (L2.CX P w) (2 * n + 2) fW fdW ["self", "first"] (spTwo ⟨K, w, xa⟩ C (F_part n)) := by
  have GT : FnOk P w K mg base (L2.CX P w) 1 fT fdT ["self"] (spTake C) := ok_take FT T
  intro n
  induction n with
  | zero =>
    have G : FnOk P w K mg base (L2.CX P w) 1 fP fdP ["self"] (spPart ⟨K, w, xa⟩ C (F_part 0)) := ⟨fun vs H Q E ⟨_, _, _, _, _, _, _, h⟩ => h.elim, fun A outer s H args us vs Q E _ _ _ _ ⟨_, _, _, _, _, _, _, h⟩ => h.elim⟩
    exact ⟨G, ok_two FW T TX mW cS eN gS mT GT bT mP G bP (by decide)⟩
  | succ n ih =>
    have G : FnOk P w K mg base (L2.CX P w) (2 * (n + 1) + 1) fP fdP ["self"] (spPart ⟨K, w, xa⟩ C (F_part (n + 1))) := ok_part FP T TX eN gN mT GT bT mP ih.1 bP mW' ih.2 bW
    exact ⟨G, ok_two FW T TX mW cS eN gS mT GT bT mP G bP (by omega)⟩
end
end Gen

end

section
set_option Elab.async false
set_option linter.all false
set_option maxRecDepth 100000
set_option maxHeartbeats 4000000
namespace Gen
open PySem PySem.Spec PyProof.Rows L2 VL
abbrev sRead : Stmt := top 55
abbrev NRead : List Str := ["text", "pieces", "found"]
theorem scR : FnScope NRead ["text"] (defScope sRead) := ⟨rfl, rfl, rfl, by decide +kernel, rfl, by decide +kernel, by decide +kernel⟩
theorem ne_nil {ts : List Str} (so : ∀ x ∈ ts, PyData.strOk x = true) : gNe (.lst (ts.map fun s => OT.sh (.str s))) (.lst []) = some (.sh (.bool (!decide (ts = [])))) := by
  have e := d_strs ts
  have fl : ∀ d ∈ ts.map PyData.str, Flat 1 d := fun d hd => by
    obtain ⟨x, hx, rfl⟩ := List.mem_map.mp hd
    exact flat_str x (so x hx) 1
  refine (gNe_fl (n := 2) (t1 := .lst (ts.map fun s => OT.sh (.str s))) (t2 := .lst []) (by rw [e]; exact flat_list (n := 1) fl) (flat_list (n := 1) fun d hd => by cases hd) (by decide)).trans ?_
  rw [e]
  show some (OT.sh (.bool (!PyData.eqv (.list (ts.map .str)) (.list [])))) = _
  cases ts <;> simp [PyData.eqv, PyData.eqvAll]
theorem F_part_int : ∀ (n : Nat) {l l2 : List Str} {d : D}, F_part n l = .ok d l2 → (∃ i, d = .int i) ∨ ∃ ds, d = .tuple ds
  | 0, _, _, _, h => by cases h
  | n + 1, l, l2, d, h => by
    unfold F_part at h
    split at h
    · split at h
      · split at h
        · cases h; exact .inl ⟨_, rfl⟩
        · cases h
      · cases h
    · split at h
      · split at h
        · rename_i d0 l0 e0
          split at h
          · rename_i d1 l1 e1
            split at h
            · cases h
              unfold F_two at e1
              split at e1
              · split at e1
                · split at e1
                  · cases e1; exact .inr ⟨_, rfl⟩
                  · rename_i hne
                    exact absurd e1 (hne _ _)
                · cases e1
              · cases e1
              · cases e1
            · cases h
          · rename_i hne
            exact absurd h (hne _ _)
        · rename_i hne
          exact absurd h (hne _ _)
      · cases h
    · cases h
theorem own_strs {c : VC} {Z H : Hp} : ∀ {ts : List OT} {ds : List D} {l : List Str} {xs : List V} {F : List Addr}, OwnL c Z H xs ts F → shs ts = some ds → strsOf ds = some l → xs = l.map V.str ∧ F = [] := by
  intro ts ds l xs F w h1 h2
  have e1 := shs_eq h1
  have e2 := strsOf_eq h2
  subst e1 e2
  clear h1 h2
  induction l generalizing xs F with
  | nil => cases w; exact ⟨rfl, rfl⟩
  | cons x r ih =>
    cases w with
    | cons w1 w2 =>
      cases w1 with
      | sh r1 =>
        cases r1
        obtain ⟨rfl, rfl⟩ := ih w2
        exact ⟨rfl, rfl⟩
theorem aft_new {Z H Z1 H1 H2 Z2 H3 : Hp} {F1 : List Addr} {p : Addr} (a1 : After Z H [] Z1 H1 F1) (hp : H p = none) (k : ∀ b o, H1 b = some o → H2 b = some o) (a2 : After Z1 H2 [p] Z2 H3 [p]) : After Z H [] Z2 H3 [] := by
  have up : ∀ b o, H b = some o → H2 b = some o := fun b o e => k b o (a1.keep b o e (by simp))
  have dn : ∀ b, H2 b = none → H b = none := fun b e => by
    cases h : H b with
    | none => rfl
    | some o => rw [up b o h] at e; cases e
  refine ⟨a1.same.trans a2.same, fun b o e _ => a2.keep b o (up b o e) ?_, fun _ h => (by cases h), fun b hb => ?_⟩
  · intro hb
    rw [List.mem_singleton.mp hb, hp] at e
    cases e
  · rcases a2.newZ b hb with h | h | h
    · rcases a1.newZ b h with h | h | h
      · exact .inl h
      · cases h
      · exact .inr (.inr h)
    · rw [List.mem_singleton.mp h]
      exact .inr (.inr hp)
    · exact .inr (.inr (dn b h))
theorem mthS (g : List OT → Option OT) (p2 : Bool) (h : PH) (l : Str) (f2 : Ev → Res (List PH)) (ρ : Ev) : mthAt "str" g p2 h (some (.sh (.str l))) f2 ρ = (f2 ρ).bind fun hs ρ2 => opn g (gets (h.un p2 :: hs) ρ2) ρ2 := rfl
theorem if_many {x y : Str} :
    fIfS (fB (fOp2 gGt true (fPh (fMth "str" gCountS (true && true) (fPv 0) (fPsCons true (fPh (fC (.str "("))) fPsNil))) (fPh (fC (.int 100))))) (fRaise0 "NoText" (fPsCons true (fPh (fC (.str y))) fPsNil)) fNx [.sh (.str x), .mv, .mv] =
      if Txt.count x "(" > 100 then .exc ⟨"NoText", none⟩ [.sh (.str x), .mv, .mv] else .nx [.sh (.str x), .mv, .mv] := by
  by_cases h : Txt.count x "(" > 100 <;> simp -implicitDefEqProofs [fRaise0, mthS, h]
theorem left_tst {K : PySem.W.Frag} {w : World} {C a p q : Addr} {Z H : Hp} {ts : List Str} (pc : PcAt C Z H a p ts) (s0 : Same Z H) (hq : H q = none) {Q : VK}
    (k : ∀ H', Same Z H' → PcAt C Z H' a p ts → After Z H [p] Z H' [p] → Q (.bl (!decide (ts = []))) H') : rNeA K (.ref p) (.ref q) (upd H q (.lst [])) Q := by
  obtain ⟨za, zp, ⟨dx, ha⟩, hp, so⟩ := pc
  have npq : p ≠ q := ne_of_none hp hq
  have naq : a ≠ q := ne_of_none ha hq
  have s1 : Same Z (upd H q (.lst [])) := s0.trans (same_upd hq)
  refine prim_ne (c := ⟨K, w, fun _ => none⟩) Z _ _ _ _ _ _ _ _ _ s1 (.lst (by rw [upd_ne npq]; exact hp) (strs_own _)) (.lst upd_same .nil) (ne_nil so) ?_
  intro v H1 Z1 Ft s2 s3 s4 z1 ow nd sp
  cases ow with
  | sh r =>
  cases r
  have kp : ∀ b o, H b = some o → H1 b = some o := fun b o e => s2 _ _ (by rw [upd_ne (ne_of_none e hq)]; exact e)
  exact k _ (s1.trans s2) ⟨za, zp, ⟨dx, kp _ _ ha⟩, kp _ _ hp, so⟩ (aft fun b o e _ => kp b o e)
theorem toks_eq {r : FRes} {l : List Str} (hk : toksOf r = some l) : ∃ ts ds as1, r = .ok (.lst ts) as1 ∧ shs ts = some ds ∧ strsOf ds = some l := by
  unfold toksOf at hk
  split at hk
  · rename_i ts as1
    cases hs : shs ts with
    | none => rw [hs] at hk; cases hk
    | some ds => rw [hs] at hk; exact ⟨ts, ds, as1, rfl, hs, hk⟩
  · cases hk
theorem isi_ap {d : D} (h : (∃ i, d = .int i) ∨ ∃ ds, d = .tuple ds) {y : Str} :
    fIfS (fNot (fB (fIsi "int" (fPv 2)))) (fRaise0 "NoText" (fPsCons true (fPh (fC (.str y))) fPsNil)) fNx [.mv, .mv, .sh d] = (match d with
      | .int _ => .nx [.mv, .mv, .sh d]
      | _ => .exc ⟨"NoText", none⟩ [.mv, .mv, .sh d] : Out) := by
  rcases h with ⟨i, rfl⟩ | ⟨ds, rfl⟩ <;> simp -implicitDefEqProofs [fRaise0]
section
variable {P : Program} {w : World} {K : PySem.W.Frag} {mg : Str → Option Value} {base : Heap} {xa : Str → Option Addr}
theorem ok_read {C fI fT fP fW : Addr} {fdI fdT fdP fdW : FuncData} (T : PTxt K mg C) (TX : Txt K w mg xa) (eN : Err0At K mg xa "NoText")
    (mW : ConstAt K mg "WORDS" (.tuple [.str "plus", .str "less", .str "times", .str "share"])) (cS : CIxAt K mg "SIGNS" ["+", "-", "*", "/"]) (mB : ConstAt K mg "MOST_BRACKETS" (.int 100))
    (gN : DefAt P w K mg base xa "is_number" ["piece"] 1 1 F_is_number) (gS : DefAt P w K mg base xa "is_sign" ["piece"] 1 1 F_is_sign) (gP : DefAt P w K mg base xa "pieces_of" ["text"] 1 1 F_pieces_of)
    (M : Mk K C fI) (FI : Fun K "__init__" "Pieces.__init__" sInit fI fdI) (bI : Binds K fdI ["self", "pieces"] [])
    (FT : Fun K "take" "Pieces.take" sTake fT fdT) (mT : Meth K C "take" fT) (bT : Binds K fdT ["self"] [])
    (FP : Fun K "part" "Pieces.part" sPart fP fdP) (mP : Meth K C "part" fP) (bP : Binds K fdP ["self"] [])
    (FW : Fun K "two" "Pieces.two" sTwo fW fdW) (mW' : Meth K C "two" fW) (bW : Binds K fdW ["self", "first"] [])
    (A : At K mg "read_way" sRead ["text"]) : DefAt P w K mg base xa "read_way" ["text"] 1 30 F_read_way := by
  obtain ⟨f, fd, Fu, hmg, b⟩ := A
  refine ⟨fun as h => ?_, f, fd, ?_, hmg, Fu.kp, .all b, fun_at Fu⟩
  · unfold F_read_way at h
    split at h
    · rfl
    · exact absurd rfl h
  have GI : FnOk P w K mg base (L2.CX P w) 1 fI fdI ["self", "pieces"] (spInit K C) := ok_init FI T
  obtain ⟨GP, GW⟩ := part_all (P := P) (w := w) (base := base) (xa := xa) T TX eN mW cS gN gS FT mT bT FP mP bP FW mW' bW 12
  refine Fu.okX scR (fun vs H Q E h => h.1) fun cdv A outer s H vs Q E hr h => ?_
  obtain ⟨hl, Z, as, Fa, s0, ow, nd, sp, q⟩ := h
  obtain ⟨x, rfl⟩ : ∃ x, as = [.sh (.str x)] := by
    unfold F_read_way at q
    split at q
    · exact ⟨_, rfl⟩
    · exact q.elim
  cases ow with
  | cons w1 w2 =>
  cases w2
  cases w1 with
  | sh r1 =>
  cases r1
  have B : VL.Bd (cxOf (L2.CX P w) P w K mg base NRead "read_way" (defScope sRead) f cdv A outer s H E) (fun _ => E) 29 := bd_of hr
  have hr2 : Room 2 _ := hr.mono (by decide)
  have hr25 : Room 25 _ := hr.mono (by decide)
  have hr26 : Room 26 _ := hr.mono (by decide)
  have hp : Passes (L2.CX P w) (cxOf (L2.CX P w) P w K mg base NRead "read_way" (defScope sRead) f cdv A outer s H E) E := fun pins σ H s e s' I c => B.hx σ pins H s e s' I c
  refine ⟨_, pss_cons (vs_if (xa := xa) (kp := [0, 1, 2]) (vt_cmp op_gt prim_cmp (vp_of (ve_meth PySem.F.plainAttrs_str PySem.F.slot_str_count PySem.F.type_str_count mt_count prim_countS (vp_name (pv 0)) (vps_cons (vp_of ve_str) vps_nil))) (vp_of (ve_const mB (by rfl))) (nomark _))
      (vss_one (vs_raise0 eN B (by rfl) (vps_cons (vp_of ve_str) vps_nil))) vss_nil)
    (pss_cons (ps_set (i := 1) scR.nd rfl (Or.inl rfl) (pe_make M GI hr2 (by rfl) T.mgC bI .nil hp (pa_cons (ve_call (xa := xa) (fd_of gP B.hr (by decide)) B.hx (by rfl) (va_cons (va_name (pv 0)) va_nil)) pa_nil)))
    (pss_cons (ps_set (i := 2) scR.nd rfl (Or.inl rfl) (pe_meth0 (pv 1) T.cl mP GP hr25 bP .nil hp))
    (pss_cons (ps_if (pt_cmpR (op_neA hr.units) (pe_fld (pv 1) rfl) (pe_lst pa_nil) (nomark _))
        (pss_one (ps_set (i := 2) scR.nd rfl (Or.inl rfl) (pe_meth (pv 1) T.cl mW' GW hr26 bW .nil hp (pa_cons (pv 2) pa_nil))))
        (pss_one (vs_if (xa := xa) (kp := [0, 1, 2]) (vt_not (vt_val (ve_isi (T := "int") (vp_name (pv 2)) (by rfl) TX.b_isinstance (by rfl) TX.b_int (by decide +kernel)))) (vss_one (vs_raise0 eN B (by rfl) (vps_cons (vp_of ve_str) vps_nil))) vss_nil)))
    (pss_cons (ps_if (pt_cmpR (op_neA hr.units) (pe_fld (pv 1) rfl) (pe_lst pa_nil) (nomark _)) (vss_one (vs_raise0 (xa := xa) (kp := [0, 1, 2]) eN B (by rfl) (vps_cons (vp_of ve_str) vps_nil))) pss_nil)
    (pss_one (ps_ret (pv 2))))))), ?_⟩
  have er : ∀ (y : Str) (ρ : Ev), fRaise0 "NoText" (fPsCons true (fPh (fC (.str y))) fPsNil) ρ = .exc ⟨"NoText", none⟩ ρ := fun y ρ => by simp -implicitDefEqProofs [fRaise0]
  refine ⟨Z, [.sh (.str x), .mv, .mv], [], ⟨s0, .cons (F := []) (.sh (.str _)) (.mv (.mv .nil)), List.nodup_nil, fun _ h => by cases h⟩, ?_⟩
  rw [show (fIfS _ _ fNx [.sh (.str x), .mv, .mv] : Out) = _ from if_many (x := x) (y := "brackets about nothing")]
  have okA : ∀ {Z' H' : Hp}, Same Z' H' → Ok (⟨K, w, xa⟩ : VC) Z' H' ([V.str x].map some) [.sh (.str x)] [] := fun s => ⟨s, .cons (F := []) (.sh (.str x)) .nil, List.nodup_nil, fun _ h => by cases h⟩
  by_cases hm : Txt.count x "(" > 100
  case pos =>
    simp only [F_read_way, hm, if_true] at q
    rw [if_pos hm]
    exact fun cls d σ1 H1 Z1 F1 o1 xr a1 _ => q cls d H1 Z1 [] (okA o1.same) xr (a1.to fun _ h => by cases h)
  rw [if_neg hm]
  simp only [F_read_way, hm, if_false] at q
  intro σ1 H1 Z1 F1 o1 a1 k1
  have f1 : F1 = [] := bare o1.own (by simp)
  subst f1
  cases hk : toksOf (F_pieces_of [.sh (.str x)]) with
  | none => rw [hk] at q; exact q.elim
  | some l =>
  rw [hk] at q
  simp only at q
  split at q
  case isFalse => exact q.elim
  rename_i so
  obtain ⟨ts, ds, as1, e1, e2, e3⟩ := toks_eq hk
  have e4 : fCall F_pieces_of (fACons (fArgV 0) fANil) [.sh (.str x), .mv, .mv] = .ok (.lst ts) [.sh (.str x), .mv, .mv] := by simp -implicitDefEqProofs [e1]
  refine ⟨Z1, [.sh (.str x), .mv, .mv], [], o1, ?_⟩
  rw [e4]
  intro v H2 Z2 F2 Ft o2 ow nd2 sp2 a2 _
  have f2 : F2 = [] := bare o2.own (by simp)
  subst f2
  obtain ⟨l1, k1⟩ := k1
  cases ow with
  | lst hq wl =>
  rename_i qa xs G
  obtain ⟨rfl, rfl⟩ := own_strs wl e2 e3
  intro pa dx hpa hdx hne
  have nqp : qa ≠ pa := ne_of_none hq hpa
  have nqd : qa ≠ dx := ne_of_none hq hdx
  have kn : ∀ b o, H2 b = some o → (upd (upd H2 dx (.own pa)) pa (.ins C dx [])) b = some o := fun b o e => by
    rw [upd_ne (ne_of_none e hpa), upd_ne (ne_of_none e hdx)]
    exact e
  refine ⟨Z2, pa, qa, dx, l, rfl, fun b o e => kn b o (o2.same b o e), o2.same.free hpa, upd_same, kn _ _ hq, fun y hy => List.all_eq_true.mp so y hy, fun H3 p hp s3 k3 pc3 => ⟨rfl, ?_⟩⟩
  have kk : ∀ b o, H2 b = some o → H3 b = some o := fun b o e => k3 b o (kn b o e) (ne_of_none e hpa)
  have a12 := a1.trans a2
  have hpH : H p = none := by
    cases h : H p with
    | none => rfl
    | some o => rw [kn p o (a12.keep p o h (by simp))] at hp; cases hp
  have ew : ∀ {Z' H' : Hp}, After Z2 H3 [p] Z' H' [p] → After Z H [] Z' H' [] := fun a => aft_new a12 hpH kk a
  have L1 : σ1.length = 3 := l1
  obtain ⟨b0, b1, b2, rfl⟩ : ∃ b0 b1 b2, σ1 = [b0, b1, b2] := by
    match σ1, L1 with
    | [b0, b1, b2], _ => exact ⟨_, _, _, rfl⟩
  obtain ⟨dx3, ha3⟩ := pc3.ob
  refine ⟨_, rfl, pa, dx3, lf p, rfl, ha3, lf_no p (by decide +kernel), Z2, pa, p, l, rfl, s3, pc3, ?_⟩
  cases hg : F_part 12 l with
  | bad => rw [hg] at q; exact q.elim
  | no =>
    rw [hg] at q
    exact fun cls d H4 Z4 s4 xr a4 => q cls d H4 Z4 [] (okA s4) xr (ew a4)
  | ok d l2 =>
  have shp := F_part_int 12 hg
  rw [hg] at q
  intro v4 H4 Z4 s4 r4 pc4 a4
  obtain ⟨dx4, ha4⟩ := pc4.ob
  refine ⟨_, rfl, pa, C, dx4, _, _, rfl, ha4, T.cl, T.nL, lf_left p, Nat.zero_le _, fun qn hqn => ?_⟩
  refine left_tst (w := w) pc4 s4 hqn fun H5 s5 pc5 a5 => ⟨_, rfl, ?_⟩
  have a45 := a4.trans a5
  cases l2 with
  | nil =>
    rw [show (!decide (([] : List Str).reverse = [])) = false from rfl]
    refine ⟨Z4, [.mv, .mv, .sh d], [], ⟨s5, .mv (.mv (.cons (F := []) (.sh r4) .nil)), List.nodup_nil, fun _ h => by cases h⟩, ?_⟩
    rw [show (fIfS _ _ fNx [.mv, .mv, .sh d] : Out) = _ from isi_ap shp (y := "brackets about the whole")]
    rcases shp with ⟨i, rfl⟩ | ⟨ds', rfl⟩
    · intro σ6 H6 Z6 F6 o6 a6 k6
      have f6 : F6 = [] := bare o6.own (by simp)
      subst f6
      have pc6 := pc5.on a6
      obtain ⟨l6, k6⟩ := k6
      have g61 : σ6[1]? = some (some (V.ref pa)) := k6 1 (by simp)
      have g62 : σ6[2]? = some (some v4) := k6 2 (by simp)
      obtain ⟨dx6, ha6⟩ := pc6.ob
      refine ⟨_, g61, pa, C, dx6, _, _, rfl, ha6, T.cl, T.nL, lf_left p, Nat.zero_le _, fun qn2 hqn2 => ?_⟩
      refine left_tst (w := w) pc6 o6.same hqn2 fun H7 s7 pc7 a7 => ⟨_, rfl, ?_⟩
      rw [show (!decide (([] : List Str).reverse = [])) = false from rfl]
      exact ⟨v4, g62, q v4 H7 Z6 [] [] (okA s7) (.sh (r4.mono a6.same)) List.nodup_nil (fun _ h => by cases h) (ew ((a45.trans (aft0 a6)).trans a7))⟩
    · exact fun cls dd σ6 H6 Z6 F6 o6 xr a6 _ => q cls dd H6 Z6 [] (okA o6.same) xr (ew (a45.trans (aft0 a6)))
  | cons y r =>
    have e0 : ∀ (y : Str) (r : List Str), (!decide ((y :: r).reverse = [])) = true := fun y r => by simp
    have eq : rdGo 12 x (.ok d (y :: r)) = rdEnd x (F_two (F_part 12) (y :: r) d) := by rcases shp with ⟨i, rfl⟩ | ⟨ds', rfl⟩ <;> rfl
    rw [eq] at q
    rw [e0]
    obtain ⟨dx5, ha5⟩ := pc5.ob
    refine ⟨_, rfl, pa, dx5, lf p, rfl, ha5, lf_no p (by decide +kernel), _, rfl, Z4, pa, p, y :: r, v4, d, rfl, s5, r4, pc5, ?_⟩
    cases hg2 : F_two (F_part 12) (y :: r) d with
    | bad => rw [hg2] at q; exact q.elim
    | no =>
      rw [hg2] at q
      exact fun cls dd H6 Z6 s6 xr a6 => q cls dd H6 Z6 [] (okA s6) xr (ew (a45.trans a6))
    | ok d' l5 =>
    rw [hg2] at q
    intro v5 H6 Z6 s6 r6 pc6 a6
    obtain ⟨dx6, ha6⟩ := pc6.ob
    refine ⟨_, rfl, pa, C, dx6, _, _, rfl, ha6, T.cl, T.nL, lf_left p, Nat.zero_le _, fun qn2 hqn2 => ?_⟩
    refine left_tst (w := w) pc6 s6 hqn2 fun H7 s7 pc7 a7 => ⟨_, rfl, ?_⟩
    have a67 := (a45.trans a6).trans a7
    cases l5 with
    | nil =>
      rw [show (!decide (([] : List Str).reverse = [])) = false from rfl]
      exact ⟨v5, rfl, q v5 H7 Z6 [] [] (okA s7) (.sh r6) List.nodup_nil (fun _ h => by cases h) (ew a67)⟩
    | cons y2 r2 =>
      rw [e0]
      refine ⟨Z6, [.mv, .mv, .mv], [], ⟨s7, .mv (.mv (.mv .nil)), List.nodup_nil, fun _ h => by cases h⟩, ?_⟩
      rw [er]
      exact fun cls dd σ8 H8 Z8 F8 o8 xr a8 _ => q cls dd H8 Z8 [] (okA o8.same) xr (ew (a67.trans (aft0 a8)))
abbrev sDesk : Stmt := inClass (top 60) 0
theorem scDk : FnScope ["self"] ["self"] (defScope sDesk) := ⟨rfl, rfl, rfl, by decide +kernel, rfl, by decide +kernel, by decide +kernel⟩
theorem ok_desk {f C : Addr} {fd : FuncData} (F : Fun K "__init__" "Desk.__init__" sDesk f fd) (cl : Cls K C) (n1 : NoAttr K C "numbers") (n2 : NoAttr K C "wished") : FnOk P w K mg base (L2.CX P w) 1 f fd ["self"] (spDesk K C) := by
  refine F.okX scDk (fun vs H Q E h => ?_) fun cdv A outer s H vs Q E hr h => ?_
  · obtain ⟨a, dx, rfl, _⟩ := h
    rfl
  · obtain ⟨a, dx, rfl, ha, k⟩ := h
    refine ⟨_, pss_cons (ps_fld (pv 0) (pe_tup pa_nil) rfl) (pss_one (ps_fld (pv 0) pe_non rfl)), ?_⟩
    refine ⟨by decide, fun p hp => ?_⟩
    have nap : a ≠ p := ne_of_none ha hp
    refine ⟨_, rfl, a, C, dx, [], rfl, (by rw [upd_ne nap]; exact ha), cl, n1, (by show 0 < 1000; decide), ?_⟩
    refine ⟨_, rfl, a, C, dx, _, rfl, upd_same, cl, n2, (by show 1 < 1000; decide), ?_⟩
    refine k _ _ upd_same (fun m h1 h2 => ?_) fun b o e n => ?_
    · rw [lookup_putF, if_neg h2, lookup_putF, if_neg h1]
      rfl
    · rw [upd_ne n, upd_ne n, upd_ne (ne_of_none e hp)]
      exact e
end
end Gen

end

section
set_option Elab.async false
set_option linter.all false
set_option maxRecDepth 100000
set_option maxHeartbeats 4000000
namespace Gen
open PySem PySem.Spec PyProof.Rows L2 VL
theorem all_mk {P : Program} {w : World} {K : PySem.W.Frag} {h : Heap} {mg : Str → Option Value} {fa : Addr} (KX : K.In h) (G : h.Ns mainGlobals mg) (hfa : mg "law" = some (.ref fa))
  {f0 f1 f2 f3 f4 f5 f6 f7 f8 f9 f10 f11 f12 f13 f14 f15 f16 f17 f18 f19 : Addr} {od0 an0 od1 an1 od2 an2 od3 an3 od4 an4 od5 an5 od6 an6 od7 an7 od8 an8 od9 an9 od10 an10 od11 an11 od12 an12 od13 an13 od14 an14 od15 an15 od16 an16 od17 an17 od18 an18 od19 an19 : Option Addr} {sl0 sl1 sl2 sl3 sl4 sl5 sl6 sl7 sl8 sl9 sl10 sl11 sl12 sl13 sl14 sl15 sl16 sl17 sl18 sl19 : Array (Option Value)} {oc0 kV0 dc0 pm0 cd0 ct0 oc1 kV1 dc1 pm1 cd1 ct1 oc2 kV2 dc2 pm2 cd2 ct2 oc3 kV3 dc3 pm3 cd3 ct3 oc4 kV4 dc4 pm4 cd4 ct4 oc5 kV5 dc5 pm5 cd5 ct5 oc6 kV6 dc6 pm6 cd6 ct6 oc7 kV7 dc7 pm7 cd7 ct7 oc8 kV8 dc8 pm8 cd8 ct8 oc9 kV9 dc9 pm9 cd9 ct9 oc10 kV10 dc10 pm10 cd10 ct10 oc11 kV11 dc11 pm11 cd11 ct11 oc12 kV12 dc12 pm12 cd12 ct12 oc13 kV13 dc13 pm13 cd13 ct13 oc14 kV14 dc14 pm14 cd14 ct14 oc15 kV15 dc15 pm15 cd15 ct15 oc16 kV16 dc16 pm16 cd16 ct16 oc17 kV17 dc17 pm17 cd17 ct17 oc18 kV18 dc18 pm18 cd18 ct18 oc19 kV19 dc19 pm19 cd19 ct19 : Value} {C_NoText : Addr} {CPc : Addr} {pfI : Addr} {podI panI : Option Addr} {pslI : Array (Option Value)} {pocI pkVI pdcI ppmI pcdI pctI : Value} {pfT : Addr} {podT panT : Option Addr} {pslT : Array (Option Value)} {pocT pkVT pdcT ppmT pcdT pctT : Value} {pfP : Addr} {podP panP : Option Addr} {pslP : Array (Option Value)} {pocP pkVP pdcP ppmP pcdP pctP : Value} {pfW : Addr} {podW panW : Option Addr} {pslW : Array (Option Value)} {pocW pkVW pdcW ppmW pcdW pctW : Value} {rf : Addr} {rod ran : Option Addr} {rsl : Array (Option Value)} {roc rkV rdc rpm rcd rct : Value} {mbt : Tok} {CDk fDk : Addr} {dod dan : Option Addr} {dsl : Array (Option Value)} {doc dkV ddc dpm dcd dct : Value} {cqWORDS : Addr} {cnWORDS : Nat} {csWORDS : Array (Option Value)} {ctWORDS_0 : Tok} {ctWORDS_1 : Tok} {ctWORDS_2 : Tok} {ctWORDS_3 : Tok} {cqSIGNS : Addr} {cnSIGNS : Nat} {csSIGNS : Array (Option Value)} {ctSIGNS_0 : Tok} {ctSIGNS_1 : Tok} {ctSIGNS_2 : Tok} {ctSIGNS_3 : Tok} {kq0 : Addr} {ke0 : Array DictEntry} {kn0 : Nat} {kt0_0 : Tok} {kt0_1 : Tok} {kq1 : Addr} {ko1 : Option Addr} {kn1 : Nat} {ks1 : Array (Option Value)} {kt1_0 : Tok} {kt1_1 : Tok} {kq2 : Addr} {ke2 : Array DictEntry} {kn2 : Nat} {kt2_0 : Tok} {kt2_1 : Tok} {kt2_2 : Tok} {kt2_3 : Tok} {kt3 : Tok} {kq4 : Addr} {ko4 : Option Addr} {kn4 : Nat} {ks4 : Array (Option Value)} {kt4_0 : Tok} {kt4_1 : Tok} {kt4_2 : Tok} {kt4_3 : Tok}
  (dC : PySem.W.nsIn K mainGlobals "Desk" = some (some (.ref CDk)))
  (a0 : PySem.W.nsIn K mainGlobals "key_of" = some (some (.ref f0))) (l0 : K.lookup f0 = some ⟨oc0, od0, .func (PySem.W.fnOf "key_of" "key_of" (defArgs s_key_of) (defBody s_key_of) (defScope s_key_of) .none kV0 dc0 pm0 an0 cd0 ct0), sl0⟩) (c0 : PySem.W.codeIn K cd0 "key_of" = true) (k0 : PySem.W.keepIn K (.ref f0) = true)
  (a1 : PySem.W.nsIn K mainGlobals "in_order" = some (some (.ref f1))) (l1 : K.lookup f1 = some ⟨oc1, od1, .func (PySem.W.fnOf "in_order" "in_order" (defArgs s_in_order) (defBody s_in_order) (defScope s_in_order) .none kV1 dc1 pm1 an1 cd1 ct1), sl1⟩) (c1 : PySem.W.codeIn K cd1 "in_order" = true) (k1 : PySem.W.keepIn K (.ref f1) = true)
  (a2 : PySem.W.nsIn K mainGlobals "parts_by" = some (some (.ref f2))) (l2 : K.lookup f2 = some ⟨oc2, od2, .func (PySem.W.fnOf "parts_by" "parts_by" (defArgs s_parts_by) (defBody s_parts_by) (defScope s_parts_by) .none kV2 dc2 pm2 an2 cd2 ct2), sl2⟩) (c2 : PySem.W.codeIn K cd2 "parts_by" = true) (k2 : PySem.W.keepIn K (.ref f2) = true)
  (a3 : PySem.W.nsIn K mainGlobals "form_of" = some (some (.ref f3))) (l3 : K.lookup f3 = some ⟨oc3, od3, .func (PySem.W.fnOf "form_of" "form_of" (defArgs s_form_of) (defBody s_form_of) (defScope s_form_of) .none kV3 dc3 pm3 an3 cd3 ct3), sl3⟩) (c3 : PySem.W.codeIn K cd3 "form_of" = true) (k3 : PySem.W.keepIn K (.ref f3) = true)
  (a4 : PySem.W.nsIn K mainGlobals "are_twins" = some (some (.ref f4))) (l4 : K.lookup f4 = some ⟨oc4, od4, .func (PySem.W.fnOf "are_twins" "are_twins" (defArgs s_are_twins) (defBody s_are_twins) (defScope s_are_twins) .none kV4 dc4 pm4 an4 cd4 ct4), sl4⟩) (c4 : PySem.W.codeIn K cd4 "are_twins" = true) (k4 : PySem.W.keepIn K (.ref f4) = true)
  (a5 : PySem.W.nsIn K mainGlobals "pieces_of" = some (some (.ref f5))) (l5 : K.lookup f5 = some ⟨oc5, od5, .func (PySem.W.fnOf "pieces_of" "pieces_of" (defArgs s_pieces_of) (defBody s_pieces_of) (defScope s_pieces_of) .none kV5 dc5 pm5 an5 cd5 ct5), sl5⟩) (c5 : PySem.W.codeIn K cd5 "pieces_of" = true) (k5 : PySem.W.keepIn K (.ref f5) = true)
  (a6 : PySem.W.nsIn K mainGlobals "is_number" = some (some (.ref f6))) (l6 : K.lookup f6 = some ⟨oc6, od6, .func (PySem.W.fnOf "is_number" "is_number" (defArgs s_is_number) (defBody s_is_number) (defScope s_is_number) .none kV6 dc6 pm6 an6 cd6 ct6), sl6⟩) (c6 : PySem.W.codeIn K cd6 "is_number" = true) (k6 : PySem.W.keepIn K (.ref f6) = true)
  (a7 : PySem.W.nsIn K mainGlobals "is_sign" = some (some (.ref f7))) (l7 : K.lookup f7 = some ⟨oc7, od7, .func (PySem.W.fnOf "is_sign" "is_sign" (defArgs s_is_sign) (defBody s_is_sign) (defScope s_is_sign) .none kV7 dc7 pm7 an7 cd7 ct7), sl7⟩) (c7 : PySem.W.codeIn K cd7 "is_sign" = true) (k7 : PySem.W.keepIn K (.ref f7) = true)
  (a8 : PySem.W.nsIn K mainGlobals "need" = some (some (.ref f8))) (l8 : K.lookup f8 = some ⟨oc8, od8, .func (PySem.W.fnOf "need" "need" (defArgs s_need) (defBody s_need) (defScope s_need) .none kV8 dc8 pm8 an8 cd8 ct8), sl8⟩) (c8 : PySem.W.codeIn K cd8 "need" = true) (k8 : PySem.W.keepIn K (.ref f8) = true)
  (a9 : PySem.W.nsIn K mainGlobals "_law_draw" = some (some (.ref f9))) (l9 : K.lookup f9 = some ⟨oc9, od9, .func (PySem.W.fnOf "_law_draw" "_law_draw" (defArgs s__law_draw) (defBody s__law_draw) (defScope s__law_draw) .none kV9 dc9 pm9 an9 cd9 ct9), sl9⟩) (c9 : PySem.W.codeIn K cd9 "_law_draw" = true) (k9 : PySem.W.keepIn K (.ref f9) = true)
  (a10 : PySem.W.nsIn K mainGlobals "_law_way" = some (some (.ref f10))) (l10 : K.lookup f10 = some ⟨oc10, od10, .func (PySem.W.fnOf "_law_way" "_law_way" (defArgs s__law_way) (defBody s__law_way) (defScope s__law_way) .none kV10 dc10 pm10 an10 cd10 ct10), sl10⟩) (c10 : PySem.W.codeIn K cd10 "_law_way" = true) (k10 : PySem.W.keepIn K (.ref f10) = true)
  (a11 : PySem.W.nsIn K mainGlobals "_law_text" = some (some (.ref f11))) (l11 : K.lookup f11 = some ⟨oc11, od11, .func (PySem.W.fnOf "_law_text" "_law_text" (defArgs s__law_text) (defBody s__law_text) (defScope s__law_text) .none kV11 dc11 pm11 an11 cd11 ct11), sl11⟩) (c11 : PySem.W.codeIn K cd11 "_law_text" = true) (k11 : PySem.W.keepIn K (.ref f11) = true)
  (a12 : PySem.W.nsIn K mainGlobals "_law_numbers" = some (some (.ref f12))) (l12 : K.lookup f12 = some ⟨oc12, od12, .func (PySem.W.fnOf "_law_numbers" "_law_numbers" (defArgs s__law_numbers) (defBody s__law_numbers) (defScope s__law_numbers) .none kV12 dc12 pm12 an12 cd12 ct12), sl12⟩) (c12 : PySem.W.codeIn K cd12 "_law_numbers" = true) (k12 : PySem.W.keepIn K (.ref f12) = true)
  (a13 : PySem.W.nsIn K mainGlobals "_law_turned" = some (some (.ref f13))) (l13 : K.lookup f13 = some ⟨oc13, od13, .func (PySem.W.fnOf "_law_turned" "_law_turned" (defArgs s__law_turned) (defBody s__law_turned) (defScope s__law_turned) .none kV13 dc13 pm13 an13 cd13 ct13), sl13⟩) (c13 : PySem.W.codeIn K cd13 "_law_turned" = true) (k13 : PySem.W.keepIn K (.ref f13) = true)
  (a14 : PySem.W.nsIn K mainGlobals "_law_other" = some (some (.ref f14))) (l14 : K.lookup f14 = some ⟨oc14, od14, .func (PySem.W.fnOf "_law_other" "_law_other" (defArgs s__law_other) (defBody s__law_other) (defScope s__law_other) .none kV14 dc14 pm14 an14 cd14 ct14), sl14⟩) (c14 : PySem.W.codeIn K cd14 "_law_other" = true) (k14 : PySem.W.keepIn K (.ref f14) = true)
  (a15 : PySem.W.nsIn K mainGlobals "_law_filled" = some (some (.ref f15))) (l15 : K.lookup f15 = some ⟨oc15, od15, .func (PySem.W.fnOf "_law_filled" "_law_filled" (defArgs s__law_filled) (defBody s__law_filled) (defScope s__law_filled) .none kV15 dc15 pm15 an15 cd15 ct15), sl15⟩) (c15 : PySem.W.codeIn K cd15 "_law_filled" = true) (k15 : PySem.W.keepIn K (.ref f15) = true)
  (a16 : PySem.W.findIn K (.ref CDk) "on_twins" = some (some (.ref f16))) (i16 : PySem.W.isFn K (.ref f16) = true) (l16 : K.lookup f16 = some ⟨oc16, od16, .func (PySem.W.fnOf "on_twins" "Desk.on_twins" (defArgs s_Desk_on_twins) (defBody s_Desk_on_twins) (defScope s_Desk_on_twins) .none kV16 dc16 pm16 an16 cd16 ct16), sl16⟩) (c16 : PySem.W.codeIn K cd16 "Desk.on_twins" = true) (k16 : PySem.W.keepIn K (.ref f16) = true)
  (a17 : PySem.W.findIn K (.ref CDk) "of_texts" = some (some (.ref f17))) (i17 : PySem.W.isFn K (.ref f17) = true) (l17 : K.lookup f17 = some ⟨oc17, od17, .func (PySem.W.fnOf "of_texts" "Desk.of_texts" (defArgs s_Desk_of_texts) (defBody s_Desk_of_texts) (defScope s_Desk_of_texts) .none kV17 dc17 pm17 an17 cd17 ct17), sl17⟩) (c17 : PySem.W.codeIn K cd17 "Desk.of_texts" = true) (k17 : PySem.W.keepIn K (.ref f17) = true)
  (a18 : PySem.W.findIn K (.ref CDk) "ask" = some (some (.ref f18))) (i18 : PySem.W.isFn K (.ref f18) = true) (l18 : K.lookup f18 = some ⟨oc18, od18, .func (PySem.W.fnOf "ask" "Desk.ask" (defArgs s_Desk_ask) (defBody s_Desk_ask) (defScope s_Desk_ask) .none kV18 dc18 pm18 an18 cd18 ct18), sl18⟩) (c18 : PySem.W.codeIn K cd18 "Desk.ask" = true) (k18 : PySem.W.keepIn K (.ref f18) = true)
  (a19 : PySem.W.nsIn K mainGlobals "law" = some (some (.ref f19))) (l19 : K.lookup f19 = some ⟨oc19, od19, .func (PySem.W.fnOf "law" "law" (defArgs s_law) (defBody s_law) (defScope s_law) .none kV19 dc19 pm19 an19 cd19 ct19), sl19⟩) (c19 : PySem.W.codeIn K cd19 "law" = true) (k19 : PySem.W.keepIn K (.ref f19) = true)
  (z0 : PySem.W.nsIn K mainGlobals "tuple" = some none)
  (z1 : PySem.W.nsIn K mainGlobals "isinstance" = some none)
  (z2 : PySem.W.nsIn K mainGlobals "int" = some none)
  (z3 : PySem.W.nsIn K mainGlobals "sorted" = some none)
  (z4 : PySem.W.nsIn K mainGlobals "len" = some none)
  (z5 : PySem.W.nsIn K mainGlobals "range" = some none)
  (z6 : PySem.W.nsIn K mainGlobals "min" = some none)
  (z7 : PySem.W.nsIn K mainGlobals "list" = some none)
  (z8 : PySem.W.nsIn K mainGlobals "max" = some none)
  (z9 : PySem.W.nsIn K mainGlobals "str" = some none)
  (xa_NoText : PySem.W.nsIn K mainGlobals "NoText" = some (some (.ref C_NoText)))
  (e1_NoText : PySem.W.excIn K C_NoText [.type "ValueError", .type "Exception", .type "BaseException", .type "object"] "ValueError.__new__" = true) (e2_NoText : PySem.W.keepIn K (.ref C_NoText) = true) (e3_NoText : PySem.W.subIn K (.ref C_NoText) (.type "BaseException") = some true) (e4_NoText : PySem.W.typeIn K (.ref C_NoText) = some (.type "type"))
  (pC : PySem.W.nsIn K mainGlobals "Pieces" = some (some (.ref CPc)))
  (paI : PySem.W.findIn K (.ref CPc) "__init__" = some (some (.ref pfI))) (piI : PySem.W.isFn K (.ref pfI) = true) (plI : K.lookup pfI = some ⟨pocI, podI, .func (PySem.W.fnOf "__init__" "Pieces.__init__" (defArgs sInit) (defBody sInit) (defScope sInit) .none pkVI pdcI ppmI panI pcdI pctI), pslI⟩) (pcI : PySem.W.codeIn K pcdI "Pieces.__init__" = true) (pkI : PySem.W.keepIn K (.ref pfI) = true)
  (paT : PySem.W.findIn K (.ref CPc) "take" = some (some (.ref pfT))) (piT : PySem.W.isFn K (.ref pfT) = true) (plT : K.lookup pfT = some ⟨pocT, podT, .func (PySem.W.fnOf "take" "Pieces.take" (defArgs sTake) (defBody sTake) (defScope sTake) .none pkVT pdcT ppmT panT pcdT pctT), pslT⟩) (pcT : PySem.W.codeIn K pcdT "Pieces.take" = true) (pkT : PySem.W.keepIn K (.ref pfT) = true)
  (paP : PySem.W.findIn K (.ref CPc) "part" = some (some (.ref pfP))) (piP : PySem.W.isFn K (.ref pfP) = true) (plP : K.lookup pfP = some ⟨pocP, podP, .func (PySem.W.fnOf "part" "Pieces.part" (defArgs sPart) (defBody sPart) (defScope sPart) .none pkVP pdcP ppmP panP pcdP pctP), pslP⟩) (pcP : PySem.W.codeIn K pcdP "Pieces.part" = true) (pkP : PySem.W.keepIn K (.ref pfP) = true)
  (paW : PySem.W.findIn K (.ref CPc) "two" = some (some (.ref pfW))) (piW : PySem.W.isFn K (.ref pfW) = true) (plW : K.lookup pfW = some ⟨pocW, podW, .func (PySem.W.fnOf "two" "Pieces.two" (defArgs sTwo) (defBody sTwo) (defScope sTwo) .none pkVW pdcW ppmW panW pcdW pctW), pslW⟩) (pcW : PySem.W.codeIn K pcdW "Pieces.two" = true) (pkW : PySem.W.keepIn K (.ref pfW) = true)
  (pg : PySem.W.plainGet K CPc Str.empty = true) (phd : PySem.W.hasDictIn K CPc = true) (ppo : PySem.W.plainOver K CPc = true) (psa : PySem.W.findIn K (.ref CPc) "__setattr__" = some (some (.builtin "object.__setattr__"))) (pmk : PySem.W.makesIn K CPc = true) (pkc : PySem.W.keepIn K (.ref CPc) = true) (pnL : PySem.W.findIn K (.ref CPc) "left" = some none)
  (ra : PySem.W.nsIn K mainGlobals "read_way" = some (some (.ref rf))) (rl : K.lookup rf = some ⟨roc, rod, .func (PySem.W.fnOf "read_way" "read_way" (defArgs sRead) (defBody sRead) (defScope sRead) .none rkV rdc rpm ran rcd rct), rsl⟩) (rc : PySem.W.codeIn K rcd "read_way" = true) (rk : PySem.W.keepIn K (.ref rf) = true)
  (mb : PySem.W.nsIn K mainGlobals "MOST_BRACKETS" = some (some (.int 100 mbt)))
  (da : PySem.W.findIn K (.ref CDk) "__init__" = some (some (.ref fDk))) (di : PySem.W.isFn K (.ref fDk) = true) (dl : K.lookup fDk = some ⟨doc, dod, .func (PySem.W.fnOf "__init__" "Desk.__init__" (defArgs sDesk) (defBody sDesk) (defScope sDesk) .none dkV ddc dpm dan dcd dct), dsl⟩) (dc : PySem.W.codeIn K dcd "Desk.__init__" = true) (dk : PySem.W.keepIn K (.ref fDk) = true)
  (dpg : PySem.W.plainGet K CDk Str.empty = true) (dhd : PySem.W.hasDictIn K CDk = true) (dpo : PySem.W.plainOver K CDk = true) (dsa : PySem.W.findIn K (.ref CDk) "__setattr__" = some (some (.builtin "object.__setattr__"))) (dmk : PySem.W.makesIn K CDk = true) (dkc : PySem.W.keepIn K (.ref CDk) = true) (dn1 : PySem.W.findIn K (.ref CDk) "numbers" = some none) (dn2 : PySem.W.findIn K (.ref CDk) "wished" = some none)
  (ca_WORDS : PySem.W.nsIn K mainGlobals "WORDS" = some (some (.ref cqWORDS))) (cl_WORDS : K.lookup cqWORDS = some ⟨.type "tuple", none, .seq #[.str "plus" ctWORDS_0, .str "less" ctWORDS_1, .str "times" ctWORDS_2, .str "share" ctWORDS_3] cnWORDS, csWORDS⟩)
  (ca_SIGNS : PySem.W.nsIn K mainGlobals "SIGNS" = some (some (.ref cqSIGNS))) (cl_SIGNS : K.lookup cqSIGNS = some ⟨.type "tuple", none, .seq #[.str "+" ctSIGNS_0, .str "-" ctSIGNS_1, .str "*" ctSIGNS_2, .str "/" ctSIGNS_3] cnSIGNS, csSIGNS⟩)
  (ka0 : PySem.W.nsIn K mainGlobals "RANKS" = some (some (.ref kq0))) (kl0 : K.lookup kq0 = some ⟨.type "dict", none, .dict ke0 kn0, #[]⟩) (kk0 : PySem.W.KeysLit w.params ke0.toList) (kv0_0 : PySem.W.nsIn K kq0 "sum" = some (some (.int 1 kt0_0))) (kv0_1 : PySem.W.nsIn K kq0 "product" = some (some (.int 2 kt0_1)))
  (ka1 : PySem.W.nsIn K mainGlobals "TURNED" = some (some (.ref kq1))) (kl1 : K.lookup kq1 = some ⟨.type "tuple", ko1, .seq #[.str "less" kt1_0, .str "share" kt1_1] kn1, ks1⟩)
  (ka2 : PySem.W.nsIn K mainGlobals "KINDS_forms" = some (some (.ref kq2))) (kl2 : K.lookup kq2 = some ⟨.type "dict", none, .dict ke2 kn2, #[]⟩) (kk2 : PySem.W.KeysLit w.params ke2.toList) (kv2_0 : PySem.W.nsIn K kq2 "plus" = some (some (.str "sum" kt2_0))) (kv2_1 : PySem.W.nsIn K kq2 "less" = some (some (.str "sum" kt2_1))) (kv2_2 : PySem.W.nsIn K kq2 "times" = some (some (.str "product" kt2_2))) (kv2_3 : PySem.W.nsIn K kq2 "share" = some (some (.str "product" kt2_3)))
  (ka3 : PySem.W.nsIn K mainGlobals "FIGURES" = some (some (.str "0123456789" kt3)))
  (ka4 : PySem.W.nsIn K mainGlobals "SIGNS" = some (some (.ref kq4))) (kl4 : K.lookup kq4 = some ⟨.type "tuple", ko4, .seq #[.str "+" kt4_0, .str "-" kt4_1, .str "*" kt4_2, .str "/" kt4_3] kn4, ks4⟩) (law : ∀ ns : List Int, ns.length ≤ 63 → ∃ as, F_law [.sh (.list (ns.map .int))] = .ok (.sh (.bool true)) as) :
    ∃ fd : FuncData, (∀ (s : Shared) (u : Value), BindsTo s fd ⟨[u], []⟩ [("script", u)]) ∧ ∀ base : Heap, K.In base → base.Ns mainGlobals mg → FnOk P w K mg base (L2.CX P w) 34 fa fd ["script"] (spLaw K) := by
  let xaE : Str → Option Addr := fun y => List.lookup y [("NoText", C_NoText), ("Desk", CDk)]
  have T : Txt K w mg xaE := ⟨PySem.W.mg_none_of KX G z0, PySem.W.mg_none_of KX G z1, PySem.W.mg_none_of KX G z2, PySem.W.mg_none_of KX G z3, PySem.W.mg_none_of KX G z4, PySem.W.mg_none_of KX G z5, PySem.W.mg_none_of KX G z6, PySem.W.mg_none_of KX G z7, PySem.W.mg_none_of KX G z8, PySem.W.mg_none_of KX G z9, VL.ktab_mk KX G ka0 kl0 kk0 (.int kv0_0 (.int kv0_1 .nil)), VL.const_tup KX G ka1 kl1 [(.str "less"), (.str "share")] [(.str "less"), (.str "share")] (.cons ⟨_, rfl⟩ (.cons ⟨_, rfl⟩ .nil)) (Nat.le_of_ble_eq_true rfl) (fun _ _ => (.cons (.str _) (.cons (.str _) .nil))), VL.ktab_mk KX G ka2 kl2 kk2 (.str kv2_0 (.str kv2_1 (.str kv2_2 (.str kv2_3 .nil)))), VL.const_str KX G ka3, VL.const_tup KX G ka4 kl4 [(.str "+"), (.str "-"), (.str "*"), (.str "/")] [(.str "+"), (.str "-"), (.str "*"), (.str "/")] (.cons ⟨_, rfl⟩ (.cons ⟨_, rfl⟩ (.cons ⟨_, rfl⟩ (.cons ⟨_, rfl⟩ .nil)))) (Nat.le_of_ble_eq_true rfl) (fun _ _ => (.cons (.str _) (.cons (.str _) (.cons (.str _) (.cons (.str _) .nil)))))⟩
  have A0 : At K mg "key_of" s_key_of ["form"] := at_mk KX G a0 l0 c0 k0 fun _ _ _ _ _ _ us hl => match us, hl with | [_], _ => rfl
  have A1 : At K mg "in_order" s_in_order ["forms"] := at_mk KX G a1 l1 c1 k1 fun _ _ _ _ _ _ us hl => match us, hl with | [_], _ => rfl
  have A2 : At K mg "parts_by" s_parts_by ["form", "kind"] := at_mk KX G a2 l2 c2 k2 fun _ _ _ _ _ _ us hl => match us, hl with | [_, _], _ => rfl
  have A3 : At K mg "form_of" s_form_of ["way"] := at_mk KX G a3 l3 c3 k3 fun _ _ _ _ _ _ us hl => match us, hl with | [_], _ => rfl
  have A4 : At K mg "are_twins" s_are_twins ["one", "other"] := at_mk KX G a4 l4 c4 k4 fun _ _ _ _ _ _ us hl => match us, hl with | [_, _], _ => rfl
  have A5 : At K mg "pieces_of" s_pieces_of ["text"] := at_mk KX G a5 l5 c5 k5 fun _ _ _ _ _ _ us hl => match us, hl with | [_], _ => rfl
  have A6 : At K mg "is_number" s_is_number ["piece"] := at_mk KX G a6 l6 c6 k6 fun _ _ _ _ _ _ us hl => match us, hl with | [_], _ => rfl
  have A7 : At K mg "is_sign" s_is_sign ["piece"] := at_mk KX G a7 l7 c7 k7 fun _ _ _ _ _ _ us hl => match us, hl with | [_], _ => rfl
  have A8 : At K mg "need" s_need ["truth"] := at_mk KX G a8 l8 c8 k8 fun _ _ _ _ _ _ us hl => match us, hl with | [_], _ => rfl
  have A9 : At K mg "_law_draw" s__law_draw ["script", "k"] := at_mk KX G a9 l9 c9 k9 fun _ _ _ _ _ _ us hl => match us, hl with | [_, _], _ => rfl
  have A10 : At K mg "_law_way" s__law_way ["script", "at", "fuel"] := at_mk KX G a10 l10 c10 k10 fun _ _ _ _ _ _ us hl => match us, hl with | [_, _, _], _ => rfl
  have A11 : At K mg "_law_text" s__law_text ["way", "within"] := at_mk KX G a11 l11 c11 k11 fun _ _ _ _ _ _ us hl => match us, hl with | [_, _], _ => rfl
  have A12 : At K mg "_law_numbers" s__law_numbers ["way"] := at_mk KX G a12 l12 c12 k12 fun _ _ _ _ _ _ us hl => match us, hl with | [_], _ => rfl
  have A13 : At K mg "_law_turned" s__law_turned ["script", "at", "way"] := at_mk KX G a13 l13 c13 k13 fun _ _ _ _ _ _ us hl => match us, hl with | [_, _, _], _ => rfl
  have A14 : At K mg "_law_other" s__law_other ["script", "way"] := at_mk KX G a14 l14 c14 k14 fun _ _ _ _ _ _ us hl => match us, hl with | [_, _], _ => rfl
  have A15 : At K mg "_law_filled" s__law_filled ["way", "numbers"] := at_mk KX G a15 l15 c15 k15 fun _ _ _ _ _ _ us hl => match us, hl with | [_, _], _ => rfl
  have A16 : MAt K xaE "on_twins" "Desk.on_twins" s_Desk_on_twins ["self", "text"] := ⟨CDk, _, _, by first | rfl | kernel_rfl, ⟨dpg, dhd, dpo, dsa⟩, ⟨a16, i16, k16⟩, fun_mk l16 c16 k16, (fun_mk (st := s_Desk_on_twins) l16 c16 k16).binds fun _ _ _ _ _ _ us hl => match us, hl with | [_, _], _ => rfl⟩
  have A17 : MAt K xaE "of_texts" "Desk.of_texts" s_Desk_of_texts ["self", "line"] := ⟨CDk, _, _, by first | rfl | kernel_rfl, ⟨dpg, dhd, dpo, dsa⟩, ⟨a17, i17, k17⟩, fun_mk l17 c17 k17, (fun_mk (st := s_Desk_of_texts) l17 c17 k17).binds fun _ _ _ _ _ _ us hl => match us, hl with | [_, _], _ => rfl⟩
  have A18 : MAt K xaE "ask" "Desk.ask" s_Desk_ask ["self", "line"] := ⟨CDk, _, _, by first | rfl | kernel_rfl, ⟨dpg, dhd, dpo, dsa⟩, ⟨a18, i18, k18⟩, fun_mk l18 c18 k18, (fun_mk (st := s_Desk_ask) l18 c18 k18).binds fun _ _ _ _ _ _ us hl => match us, hl with | [_, _], _ => rfl⟩
  have A19 : At K mg "law" s_law ["script"] := at_mk KX G a19 l19 c19 k19 fun _ _ _ _ _ _ us hl => match us, hl with | [_], _ => rfl
  refine law_fn (xa := xaE) A19 hfa (fun base _ _ => ?_) law
  have F_Dk := fun_mk (st := sDesk) dl dc dk
  have g_Desk_new : NewAt P w K mg base xaE := ⟨CDk, _, _, by first | rfl | kernel_rfl, PySem.W.mg_of KX G dC, ⟨dmk, da, di, dkc⟩, ok_desk F_Dk ⟨dpg, dhd, dpo, dsa⟩ dn1 dn2, F_Dk.binds (ps := ["self"]) fun _ _ _ _ _ _ us hl => match us, hl with | [_], _ => rfl⟩
  have h0 := fun n => g_key_of (P := P) (w := w) (base := base) (xa := xaE) T A0 n
  have h1 := g_in_order (P := P) (w := w) (base := base) (xa := xaE) T A1 (h0 10)
  have h2 := g_parts_by (P := P) (w := w) (base := base) (xa := xaE) T A2
  have h3 := fun n => g_form_of (P := P) (w := w) (base := base) (xa := xaE) T A3 h1 h2 n
  have h4 := g_are_twins (P := P) (w := w) (base := base) (xa := xaE) T A4 (h3 10)
  have h5 := g_pieces_of (P := P) (w := w) (base := base) (xa := xaE) T A5
  have h6 := g_is_number (P := P) (w := w) (base := base) (xa := xaE) T A6
  have h7 := g_is_sign (P := P) (w := w) (base := base) (xa := xaE) T A7
  have eN : Err0At K mg xaE "NoText" := ⟨_, by first | rfl | kernel_rfl, PySem.W.mg_of KX G xa_NoText, e1_NoText, e2_NoText, e3_NoText, e4_NoText⟩
  have TP : PTxt K mg CPc := ⟨⟨pg, phd, ppo, psa⟩, pnL, PySem.W.mg_of KX G pC⟩
  have F_I := fun_mk (st := sInit) plI pcI pkI
  have b_I := F_I.binds (ps := ["self", "pieces"]) fun _ _ _ _ _ _ us hl => match us, hl with | [_, _], _ => rfl
  have F_T := fun_mk (st := sTake) plT pcT pkT
  have b_T := F_T.binds (ps := ["self"]) fun _ _ _ _ _ _ us hl => match us, hl with | [_], _ => rfl
  have F_P := fun_mk (st := sPart) plP pcP pkP
  have b_P := F_P.binds (ps := ["self"]) fun _ _ _ _ _ _ us hl => match us, hl with | [_], _ => rfl
  have F_W := fun_mk (st := sTwo) plW pcW pkW
  have b_W := F_W.binds (ps := ["self", "first"]) fun _ _ _ _ _ _ us hl => match us, hl with | [_, _], _ => rfl
  have Ard : At K mg "read_way" sRead ["text"] := at_mk KX G ra rl rc rk fun _ _ _ _ _ _ us hl => match us, hl with | [_], _ => rfl
  have g_read_way : DefAt P w K mg base xaE "read_way" ["text"] 1 30 F_read_way := ok_read TP T eN (VL.const_tup KX G ca_WORDS cl_WORDS [(.str "plus"), (.str "less"), (.str "times"), (.str "share")] [(.str "plus"), (.str "less"), (.str "times"), (.str "share")] (.cons ⟨_, rfl⟩ (.cons ⟨_, rfl⟩ (.cons ⟨_, rfl⟩ (.cons ⟨_, rfl⟩ .nil)))) (Nat.le_of_ble_eq_true rfl) (fun _ _ => (.cons (.str _) (.cons (.str _) (.cons (.str _) (.cons (.str _) .nil)))))) ⟨_, _, _, _, PySem.W.mg_of KX G ca_SIGNS, cl_SIGNS, (.cons ⟨_, rfl⟩ (.cons ⟨_, rfl⟩ (.cons ⟨_, rfl⟩ (.cons ⟨_, rfl⟩ .nil)))), (Nat.le_of_ble_eq_true rfl)⟩ (VL.const_int KX G mb) h6 h7 h5 ⟨pmk, paI, piI, pkc⟩ F_I b_I F_T ⟨paT, piT, pkT⟩ b_T F_P ⟨paP, piP, pkP⟩ b_P F_W ⟨paW, piW, pkW⟩ b_W Ard
  have h8 := g_need (P := P) (w := w) (base := base) (xa := xaE) T A8
  have h9 := g__law_draw (P := P) (w := w) (base := base) (xa := xaE) T A9
  have h10 := fun n => g__law_way (P := P) (w := w) (base := base) (xa := xaE) T A10 h9 n
  have h11 := fun n => g__law_text (P := P) (w := w) (base := base) (xa := xaE) T A11 n
  have h12 := fun n => g__law_numbers (P := P) (w := w) (base := base) (xa := xaE) T A12 n
  have h13 := fun n => g__law_turned (P := P) (w := w) (base := base) (xa := xaE) T A13 h9 n
  have h14 := fun n => g__law_other (P := P) (w := w) (base := base) (xa := xaE) T A14 n
  have h15 := fun n => g__law_filled (P := P) (w := w) (base := base) (xa := xaE) T A15 n
  have h16 := g_Desk_on_twins (P := P) (w := w) (base := base) (xa := xaE) T A16 h4 g_read_way h8
  have h17 := g_Desk_of_texts (P := P) (w := w) (base := base) (xa := xaE) T A17 h16
  have h18 := g_Desk_ask (P := P) (w := w) (base := base) (xa := xaE) T A18 h17 h8
  exact g_law (P := P) (w := w) (base := base) (xa := xaE) T A19 h18 (h11 10) (h3 10) (h15 10) h9 (h12 10) (h10 10) (h14 10) (h13 10) g_Desk_new
end Gen

end
open VL
open PySem PySem.W PyProof.Rows in
set_option maxRecDepth 100000 in
set_option maxHeartbeats 0 in
theorem PySem.Challenge.cw_ledtowish_k36_desk_twins_holds : PySem.Challenge.rw_ledtowish_k36_desk_twins.Holds := by
  w_on; o_law; k_head; (case hw => w_witness2)
  k_fill
  refine VL.walk (k := 34) (y := "script") (l := PySem.Challenge.rw_ledtowish_k36_desk_twins) rfl rfl ⟨rfl, by decide, by decide⟩ (fun w h Y => PySem.W.km_in_of Y) ?F
  case F =>
    intro w mg fa h KX G hmg
    refine' Gen.all_mk KX G hmg ?dC ?a0 ?l0 ?c0 ?k0 ?a1 ?l1 ?c1 ?k1 ?a2 ?l2 ?c2 ?k2 ?a3 ?l3 ?c3 ?k3 ?a4 ?l4 ?c4 ?k4 ?a5 ?l5 ?c5 ?k5 ?a6 ?l6 ?c6 ?k6 ?a7 ?l7 ?c7 ?k7 ?a8 ?l8 ?c8 ?k8 ?a9 ?l9 ?c9 ?k9 ?a10 ?l10 ?c10 ?k10 ?a11 ?l11 ?c11 ?k11 ?a12 ?l12 ?c12 ?k12 ?a13 ?l13 ?c13 ?k13 ?a14 ?l14 ?c14 ?k14 ?a15 ?l15 ?c15 ?k15 ?a16 ?i16 ?l16 ?c16 ?k16 ?a17 ?i17 ?l17 ?c17 ?k17 ?a18 ?i18 ?l18 ?c18 ?k18 ?a19 ?l19 ?c19 ?k19 ?z0 ?z1 ?z2 ?z3 ?z4 ?z5 ?z6 ?z7 ?z8 ?z9 ?xa_NoText ?e1_NoText ?e2_NoText ?e3_NoText ?e4_NoText ?pC ?paI ?piI ?plI ?pcI ?pkI ?paT ?piT ?plT ?pcT ?pkT ?paP ?piP ?plP ?pcP ?pkP ?paW ?piW ?plW ?pcW ?pkW ?pg ?phd ?ppo ?psa ?pmk ?pkc ?pnL ?ra ?rl ?rc ?rk ?mb ?da ?di ?dl ?dc ?dk ?dpg ?dhd ?dpo ?dsa ?dmk ?dkc ?dn1 ?dn2 ?ca_WORDS ?cl_WORDS ?ca_SIGNS ?cl_SIGNS ?ka0 ?kl0 ?kk0 ?kv0_0 ?kv0_1 ?ka1 ?kl1 ?ka2 ?kl2 ?kk2 ?kv2_0 ?kv2_1 ?kv2_2 ?kv2_3 ?ka3 ?ka4 ?kl4 Gen.law_true
    (case xa_NoText => k_is)
    (case dC => k_is)
    (case a0 => k_is)
    (case l0 => k_is)
    (case c0 => k_is)
    (case k0 => k_is)
    (case a1 => k_is)
    (case l1 => k_is)
    (case c1 => k_is)
    (case k1 => k_is)
    (case a2 => k_is)
    (case l2 => k_is)
    (case c2 => k_is)
    (case k2 => k_is)
    (case a3 => k_is)
    (case l3 => k_is)
    (case c3 => k_is)
    (case k3 => k_is)
    (case a4 => k_is)
    (case l4 => k_is)
    (case c4 => k_is)
    (case k4 => k_is)
    (case a5 => k_is)
    (case l5 => k_is)
    (case c5 => k_is)
    (case k5 => k_is)
    (case a6 => k_is)
    (case l6 => k_is)
    (case c6 => k_is)
    (case k6 => k_is)
    (case a7 => k_is)
    (case l7 => k_is)
    (case c7 => k_is)
    (case k7 => k_is)
    (case a8 => k_is)
    (case l8 => k_is)
    (case c8 => k_is)
    (case k8 => k_is)
    (case a9 => k_is)
    (case l9 => k_is)
    (case c9 => k_is)
    (case k9 => k_is)
    (case a10 => k_is)
    (case l10 => k_is)
    (case c10 => k_is)
    (case k10 => k_is)
    (case a11 => k_is)
    (case l11 => k_is)
    (case c11 => k_is)
    (case k11 => k_is)
    (case a12 => k_is)
    (case l12 => k_is)
    (case c12 => k_is)
    (case k12 => k_is)
    (case a13 => k_is)
    (case l13 => k_is)
    (case c13 => k_is)
    (case k13 => k_is)
    (case a14 => k_is)
    (case l14 => k_is)
    (case c14 => k_is)
    (case k14 => k_is)
    (case a15 => k_is)
    (case l15 => k_is)
    (case c15 => k_is)
    (case k15 => k_is)
    (case a16 => k_is)
    (case i16 => k_is)
    (case l16 => k_is)
    (case c16 => k_is)
    (case k16 => k_is)
    (case a17 => k_is)
    (case i17 => k_is)
    (case l17 => k_is)
    (case c17 => k_is)
    (case k17 => k_is)
    (case a18 => k_is)
    (case i18 => k_is)
    (case l18 => k_is)
    (case c18 => k_is)
    (case k18 => k_is)
    (case a19 => k_is)
    (case l19 => k_is)
    (case c19 => k_is)
    (case k19 => k_is)
    (case z0 => k_is)
    (case z1 => k_is)
    (case z2 => k_is)
    (case z3 => k_is)
    (case z4 => k_is)
    (case z5 => k_is)
    (case z6 => k_is)
    (case z7 => k_is)
    (case z8 => k_is)
    (case z9 => k_is)
    (case e1_NoText => first | k_exc | k_is | rfl)
    (case e2_NoText => k_is)
    (case e3_NoText => k_is)
    (case e4_NoText => k_is)
    (case pC => k_is)
    (case paI => k_is)
    (case piI => k_is)
    (case plI => k_is)
    (case pcI => k_is)
    (case pkI => k_is)
    (case paT => k_is)
    (case piT => k_is)
    (case plT => k_is)
    (case pcT => k_is)
    (case pkT => k_is)
    (case paP => k_is)
    (case piP => k_is)
    (case plP => k_is)
    (case pcP => k_is)
    (case pkP => k_is)
    (case paW => k_is)
    (case piW => k_is)
    (case plW => k_is)
    (case pcW => k_is)
    (case pkW => k_is)
    (case pg => k_is)
    (case phd => k_is)
    (case ppo => k_is)
    (case psa => k_is)
    (case pmk => k_is)
    (case pkc => k_is)
    (case pnL => k_is)
    (case ra => k_is)
    (case rl => k_is)
    (case rc => k_is)
    (case rk => k_is)
    (case mb => k_is)
    (case da => k_is)
    (case di => k_is)
    (case dl => k_is)
    (case dc => k_is)
    (case dk => k_is)
    (case dpg => k_is)
    (case dhd => k_is)
    (case dpo => k_is)
    (case dsa => k_is)
    (case dmk => k_is)
    (case dkc => k_is)
    (case dn1 => k_is)
    (case dn2 => k_is)
    (case ca_WORDS => k_is)
    (case cl_WORDS => k_is)
    (case ca_SIGNS => k_is)
    (case cl_SIGNS => k_is)
    (case ka0 => k_is)
    (case kl0 => k_is)
    (case kk0 => exact ⟨⟨_, _, rfl, rfl⟩, ⟨_, _, rfl, rfl⟩, trivial⟩)
    (case kv0_0 => k_is)
    (case kv0_1 => k_is)
    (case ka1 => k_is)
    (case kl1 => k_is)
    (case ka2 => k_is)
    (case kl2 => k_is)
    (case kk2 => exact ⟨⟨_, _, rfl, rfl⟩, ⟨_, _, rfl, rfl⟩, ⟨_, _, rfl, rfl⟩, ⟨_, _, rfl, rfl⟩, trivial⟩)
    (case kv2_0 => k_is)
    (case kv2_1 => k_is)
    (case kv2_2 => k_is)
    (case kv2_3 => k_is)
    (case ka3 => k_is)
    (case ka4 => k_is)
    (case kl4 => k_is)
#print axioms PySem.Challenge.cw_ledtowish_k36_desk_twins_holds
