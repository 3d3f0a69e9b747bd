import PyProof.Rows.All
import Wide.All
import OpenK.AllK
import Wide.FinOn
import HandS.ForMost
import HandS.Exc
import HandS.Wide
import HandS.WordsExc
import HandS.CallSlots
import HandS.Defaults
import HandS.WordsDict
import HandS.IsInst
import HandS.IterVal
import HandS.RaiseMore
import HandS.ExcInit
import HandS.ExcIs
import HandS.ExcField
import KE.KExcIs
import HandS.SetFor
import PyProof.Rows.CountFlat
import HandS.Strs
import HandS.Sort
import HandS.SetBool
import HandS.Codes
import HandS.TupAny
import HandS.Head0
import HandS.Head1
import HandS.Head2
import HandS.HeadEnd
import HandS.HeadHook1
import HandS.HeadHook2
import HandS.HeadHook4
import KE.KStateDown
import Lean
import HandS.TryOnly
import PySem.Challenge.RW_cellsfornames_k01_words_and_spellings
set_option Elab.async false
set_option linter.all false
set_option maxRecDepth 100000
set_option maxHeartbeats 4000000
namespace DL
open PySem PySem.Spec PyProof.Rows L2

/-! ## data -/
inductive D where
  | non | bl (b : Bool) | int (i : Int) | str (s : Str) | lst (xs : List D) | tup (xs : List D) | obj (C : Addr) (fs : List (Str × D))
  | dic (kvs : List (Key × D)) | dit (kvs : List (List Key × D)) | raw (a : Addr) (o : HO)
  deriving Inhabited
def D.scal : D → Bool
  | .non => true | .bl _ => true | .int _ => true | .str _ => true | _ => false
@[simp] theorem eD_scal_1 (b : Bool) : (D.bl b).scal = true := rfl
@[simp] theorem eD_scal_2 (i : Int) : (D.int i).scal = true := rfl
@[simp] theorem eD_scal_3 (s : Str) : (D.str s).scal = true := rfl
@[simp] theorem eD_scal_4 : D.non.scal = true := rfl
mutual
/-- v is the data d, all of it in F (or written) -/
inductive Rep (K : PySem.W.Frag) (F : Hp) : V → D → Prop
  | non : Rep K F .non .non
  | bl (b : Bool) : Rep K F (.bl b) (.bl b)
  | int (i : Int) : Rep K F (.int i) (.int i)
  | str (x : Str) : Rep K F (.str x) (.str x)
  | lst {a : Addr} {vs : List V} {ds : List D} : F a = some (.lst vs) → Reps K F vs ds → Rep K F (.ref a) (.lst ds)
  | tup {a : Addr} {vs : List V} {ds : List D} : F a = some (.tup vs) → Reps K F vs ds → Rep K F (.ref a) (.tup ds)
  | obj {a C dx : Addr} {vs : List (Str × V)} {fs : List (Str × D)} : F a = some (.ins C dx vs) → Repf K F vs fs → Rep K F (.ref a) (.obj C fs)
  | dic {a : Addr} {vs : List (Key × V)} {kvs : List (Key × D)} : F a = some (.dK vs) → Repk K F vs kvs → Rep K F (.ref a) (.dic kvs)
  | dit {a : Addr} {vs : List (List Key × V)} {kvs : List (List Key × D)} : F a = some (.dT vs) → Repk K F vs kvs → Rep K F (.ref a) (.dit kvs)
  | raw {a : Addr} {o : HO} : F a = some o → Rep K F (.ref a) (.raw a o)
inductive Repk (K : PySem.W.Frag) (F : Hp) : {κ : Type} → List (κ × V) → List (κ × D) → Prop
  | nil {κ : Type} : Repk K F ([] : List (κ × V)) []
  | cons {κ : Type} {k : κ} {v : V} {vs : List (κ × V)} {d : D} {ds : List (κ × D)} : Rep K F v d → Repk K F vs ds → Repk K F ((k, v) :: vs) ((k, d) :: ds)
inductive Reps (K : PySem.W.Frag) (F : Hp) : List V → List D → Prop
  | nil : Reps K F [] []
  | cons {v : V} {vs : List V} {d : D} {ds : List D} : Rep K F v d → Reps K F vs ds → Reps K F (v :: vs) (d :: ds)
inductive Repf (K : PySem.W.Frag) (F : Hp) : List (Str × V) → List (Str × D) → Prop
  | nil : Repf K F [] []
  | cons {f : Str} {v : V} {vs : List (Str × V)} {d : D} {ds : List (Str × D)} : Rep K F v d → Repf K F vs ds → Repf K F ((f, v) :: vs) ((f, d) :: ds)
end
/-- F lies in F' -/
def Sub (F F' : Hp) : Prop := ∀ a o, F a = some o → F' a = some o
theorem Sub.refl (F : Hp) : Sub F F := fun _ _ h => h
theorem Sub.trans {F F1 F2 : Hp} (a : Sub F F1) (b : Sub F1 F2) : Sub F F2 := fun x o h => b x o (a x o h)
theorem sub_rd {H H' : Hp} {a : Addr} {u : HO} (e : Sub H H') (h : Rd H a u) : Rd H' a u := by
  rcases h with h | ⟨o, h⟩
  · exact Or.inl (e a _ h)
  · exact Or.inr ⟨o, e a _ h⟩
section
variable {K : PySem.W.Frag} {F F' G H H' : Hp}
theorem sub_l {a : Addr} {xs : List V} (e : Sub H H') (h : SqL K H a xs) : SqL K H' a xs := by
  rcases h with h | h
  · exact Or.inl (sub_rd e h)
  · exact Or.inr h
theorem qt {F : Hp} {a : Addr} {xs : List V} (h : F a = some (.tup xs)) : SqT K F a xs := .inl (.inl h)
theorem ql {F : Hp} {a : Addr} {xs : List V} (h : F a = some (.lst xs)) : SqL K F a xs := .inl (.inl h)
theorem sub_t {a : Addr} {xs : List V} (e : Sub H H') (h : SqT K H a xs) : SqT K H' a xs := by
  rcases h with h | h
  · exact Or.inl (sub_rd e h)
  · exact Or.inr h
mutual
theorem Rep.mono (e : Sub F F') : ∀ {v : V} {d : D}, Rep K F v d → Rep K F' v d
  | _, _, .non => .non
  | _, _, .bl b => .bl b
  | _, _, .int i => .int i
  | _, _, .str x => .str x
  | _, _, .lst h r => .lst (e _ _ h) (Reps.mono e r)
  | _, _, .tup h r => .tup (e _ _ h) (Reps.mono e r)
  | _, _, .obj h r => .obj (e _ _ h) (Repf.mono e r)
  | _, _, .dic h r => .dic (e _ _ h) (Repk.mono e r)
  | _, _, .dit h r => .dit (e _ _ h) (Repk.mono e r)
  | _, _, .raw h => .raw (e _ _ h)
theorem Repk.mono (e : Sub F F') : ∀ {κ : Type} {vs : List (κ × V)} {ds : List (κ × D)}, Repk K F vs ds → Repk K F' vs ds
  | _, _, _, .nil => .nil
  | _, _, _, .cons h r => .cons (Rep.mono e h) (Repk.mono e r)
theorem Reps.mono (e : Sub F F') : ∀ {vs : List V} {ds : List D}, Reps K F vs ds → Reps K F' vs ds
  | _, _, .nil => .nil
  | _, _, .cons h r => .cons (Rep.mono e h) (Reps.mono e r)
theorem Repf.mono (e : Sub F F') : ∀ {vs : List (Str × V)} {ds : List (Str × D)}, Repf K F vs ds → Repf K F' vs ds
  | _, _, .nil => .nil
  | _, _, .cons h r => .cons (Rep.mono e h) (Repf.mono e r)
end
theorem Rep.scal {v : V} {d : D} (h : Rep K F v d) (s : d.scal = true) : Rep K F' v d := by
  cases h with
  | non => exact .non
  | bl b => exact .bl b
  | int i => exact .int i
  | str x => exact .str x
  | lst _ _ => cases s
  | tup _ _ => cases s
  | obj _ _ => cases s
  | dic _ _ => cases s
  | dit _ _ => cases s
  | raw _ => cases s
theorem Reps.length : ∀ {vs : List V} {ds : List D}, Reps K F vs ds → vs.length = ds.length
  | _, _, .nil => rfl
  | _, _, .cons _ r => by rw [List.length_cons, List.length_cons, Reps.length r]
theorem Reps.get : ∀ {vs : List V} {ds : List D} {i : Nat} {d : D}, Reps K F vs ds → ds[i]? = some d → ∃ v, vs[i]? = some v ∧ Rep K F v d
  | _, _, _, _, .nil, e => by simp at e
  | _, _, 0, _, .cons r _, e => by simp at e; subst e; exact ⟨_, rfl, r⟩
  | _, _, i + 1, _, .cons _ t, e => by
    obtain ⟨u, h1, h2⟩ := Reps.get t (by simpa using e)
    exact ⟨u, by simpa using h1, h2⟩
theorem Reps.getV : ∀ {vs : List V} {ds : List D} {i : Nat} {v : V}, Reps K F vs ds → vs[i]? = some v → ∃ d, ds[i]? = some d ∧ Rep K F v d
  | _, _, _, _, .nil, e => by simp at e
  | _, _, 0, _, .cons r _, e => by simp at e; subst e; exact ⟨_, rfl, r⟩
  | _, _, i + 1, _, .cons _ t, e => by
    obtain ⟨u, h1, h2⟩ := Reps.getV t (by simpa using e)
    exact ⟨u, by simpa using h1, h2⟩
theorem Reps.append : ∀ {vs ws : List V} {ds es : List D}, Reps K F vs ds → Reps K F ws es → Reps K F (vs ++ ws) (ds ++ es)
  | _, _, _, _, .nil, s => s
  | _, _, _, _, .cons r t, s => .cons r (Reps.append t s)
theorem Reps.drop : ∀ {vs : List V} {ds : List D} (n : Nat), Reps K F vs ds → Reps K F (vs.drop n) (ds.drop n)
  | _, _, 0, r => r
  | _, _, _ + 1, .nil => .nil
  | _, _, n + 1, .cons _ t => Reps.drop n t
theorem Reps.take : ∀ {vs : List V} {ds : List D} (n : Nat), Reps K F vs ds → Reps K F (vs.take n) (ds.take n)
  | _, _, 0, _ => .nil
  | _, _, _ + 1, .nil => .nil
  | _, _, n + 1, .cons r t => .cons r (Reps.take n t)
theorem Reps.set {v : V} {d : D} (r : Rep K F v d) : ∀ {vs : List V} {ds : List D} (n : Nat), Reps K F vs ds → Reps K F (vs.set n v) (ds.set n d)
  | _, _, _, .nil => .nil
  | _, _, 0, .cons _ t => .cons r t
  | _, _, n + 1, .cons q t => .cons q (Reps.set r n t)
theorem Repf.lookup {f : Str} : ∀ {vs : List (Str × V)} {fs : List (Str × D)} {d : D}, Repf K F vs fs → fs.lookup f = some d → ∃ v, vs.lookup f = some v ∧ Rep K F v d
  | _, _, _, .nil, e => by simp at e
  | _, _, d, .cons (f := g) (v := v) (d := d') r t, e => by
    rw [List.lookup_cons] at e ⊢
    cases q : (f == g) with
    | true => rw [q] at e; simp at e; subst e; exact ⟨v, rfl, r⟩
    | false => rw [q] at e; simpa using Repf.lookup t (by simpa using e)
theorem Repf.lookupN {f : Str} : ∀ {vs : List (Str × V)} {fs : List (Str × D)}, Repf K F vs fs → fs.lookup f = none → vs.lookup f = none
  | _, _, .nil, e => rfl
  | _, _, .cons (f := g) (v := v) (d := d') r t, e => by
    rw [List.lookup_cons] at e ⊢
    cases q : (f == g) with
    | true => rw [q] at e; simp at e
    | false => rw [q] at e; simpa using Repf.lookupN t (by simpa using e)
end

/-! ## owned trees -/
inductive O where
  | fz (d : D) | fl (ds : List D) | lst (os : List O) | obj (C : Addr) (fs : List (Str × O))
  | dic (kvs : List (Key × D)) | dit (kvs : List (List Key × D))
  deriving Inhabited
mutual
@[simp ↓] def O.d : O → D
  | .fz d => d
  | .fl ds => .lst ds
  | .lst os => .lst (O.ds os)
  | .obj C fs => .obj C (O.df fs)
  | .dic kvs => .dic kvs
  | .dit kvs => .dit kvs
def O.ds : List O → List D
  | [] => []
  | o :: os => o.d :: O.ds os
def O.df : List (Str × O) → List (Str × D)
  | [] => []
  | (f, o) :: os => (f, o.d) :: O.df os
end
theorem O.ds_length : ∀ os : List O, (O.ds os).length = os.length
  | [] => rfl
  | _ :: os => by show (O.ds os).length + 1 = os.length + 1; rw [O.ds_length os]
theorem O.ds_append : ∀ os ps : List O, O.ds (os ++ ps) = O.ds os ++ O.ds ps
  | [], _ => rfl
  | o :: os, ps => by show o.d :: O.ds (os ++ ps) = o.d :: (O.ds os ++ O.ds ps); rw [O.ds_append os ps]
theorem O.ds_get : ∀ (os : List O) (i : Nat), (O.ds os)[i]? = (os[i]?).map O.d
  | [], _ => by simp [O.ds]
  | o :: os, 0 => rfl
  | o :: os, i + 1 => by show (O.ds os)[i]? = (os[i]?).map O.d; exact O.ds_get os i
theorem O.ds_fz : ∀ ds : List D, O.ds (ds.map O.fz) = ds
  | [] => rfl
  | d :: ds => by show d :: O.ds (ds.map O.fz) = d :: ds; rw [O.ds_fz ds]

mutual
/-- v is the owned tree o: its cells As in H, its frozen leaves in F -/
inductive RepO (K : PySem.W.Frag) (F H : Hp) : V → O → List Addr → Prop
  | fz {v : V} {d : D} : Rep K F v d → RepO K F H v (.fz d) []
  | fl {a : Addr} {vs : List V} {ds : List D} : H a = some (.lst vs) → Reps K F vs ds → RepO K F H (.ref a) (.fl ds) [a]
  | lst {a : Addr} {vs : List V} {os : List O} {As : List Addr} : H a = some (.lst vs) → RepOs K F H vs os As → RepO K F H (.ref a) (.lst os) (a :: As)
  | obj {a C dx : Addr} {vs : List (Str × V)} {fs : List (Str × O)} {As : List Addr} : H a = some (.ins C dx vs) → H dx = some (.own a) → RepOf K F H vs fs As → RepO K F H (.ref a) (.obj C fs) (a :: dx :: As)
  | dic {a : Addr} {vs : List (Key × V)} {kvs : List (Key × D)} : H a = some (.dK vs) → Repk K F vs kvs → RepO K F H (.ref a) (.dic kvs) [a]
  | dit {a : Addr} {vs : List (List Key × V)} {kvs : List (List Key × D)} : H a = some (.dT vs) → Repk K F vs kvs → RepO K F H (.ref a) (.dit kvs) [a]
inductive RepOs (K : PySem.W.Frag) (F H : Hp) : List V → List O → List Addr → Prop
  | nil : RepOs K F H [] [] []
  | cons {v : V} {vs : List V} {o : O} {os : List O} {As Bs : List Addr} : RepO K F H v o As → RepOs K F H vs os Bs → RepOs K F H (v :: vs) (o :: os) (As ++ Bs)
inductive RepOf (K : PySem.W.Frag) (F H : Hp) : List (Str × V) → List (Str × O) → List Addr → Prop
  | nil : RepOf K F H [] [] []
  | cons {f : Str} {v : V} {vs : List (Str × V)} {o : O} {os : List (Str × O)} {As Bs : List Addr} : RepO K F H v o As → RepOf K F H vs os Bs → RepOf K F H ((f, v) :: vs) ((f, o) :: os) (As ++ Bs)
end
section
variable {K : PySem.W.Frag} {F F' G H H' : Hp}
mutual
theorem RepO.mono (e : Sub F F') : ∀ {v : V} {o : O} {As : List Addr}, (∀ a ∈ As, ∀ u, H a = some u → H' a = some u) → RepO K F H v o As → RepO K F' H' v o As
  | _, _, _, k, .fz h => .fz (h.mono e)
  | _, _, _, k, .fl h r => .fl (k _ (List.mem_cons_self ..) _ h) (r.mono e)
  | _, _, _, k, .lst h r => .lst (k _ (List.mem_cons_self ..) _ h) (RepOs.mono e (fun a ha => k a (List.mem_cons_of_mem _ ha)) r)
  | _, _, _, k, .obj h h2 r => .obj (k _ (List.mem_cons_self ..) _ h) (k _ (List.mem_cons_of_mem _ (List.mem_cons_self ..)) _ h2) (RepOf.mono e (fun a ha => k a (List.mem_cons_of_mem _ (List.mem_cons_of_mem _ ha))) r)
  | _, _, _, k, .dic h r => .dic (k _ (List.mem_cons_self ..) _ h) (r.mono e)
  | _, _, _, k, .dit h r => .dit (k _ (List.mem_cons_self ..) _ h) (r.mono e)
theorem RepOs.mono (e : Sub F F') : ∀ {vs : List V} {os : List O} {As : List Addr}, (∀ a ∈ As, ∀ u, H a = some u → H' a = some u) → RepOs K F H vs os As → RepOs K F' H' vs os As
  | _, _, _, k, .nil => .nil
  | _, _, _, k, .cons h r => .cons (RepO.mono e (fun a ha => k a (List.mem_append_left _ ha)) h) (RepOs.mono e (fun a ha => k a (List.mem_append_right _ ha)) r)
theorem RepOf.mono (e : Sub F F') : ∀ {vs : List (Str × V)} {os : List (Str × O)} {As : List Addr}, (∀ a ∈ As, ∀ u, H a = some u → H' a = some u) → RepOf K F H vs os As → RepOf K F' H' vs os As
  | _, _, _, k, .nil => .nil
  | _, _, _, k, .cons h r => .cons (RepO.mono e (fun a ha => k a (List.mem_append_left _ ha)) h) (RepOf.mono e (fun a ha => k a (List.mem_append_right _ ha)) r)
end
mutual
theorem RepO.there : ∀ {v : V} {o : O} {As : List Addr}, RepO K F H v o As → ∀ a ∈ As, ∃ u, H a = some u
  | _, _, _, .fz h, a, ha => by cases ha
  | _, _, _, .fl h r, a, ha => by
    rcases List.mem_cons.mp ha with rfl | ha
    · exact ⟨_, h⟩
    · cases ha
  | _, _, _, .lst h r, a, ha => by
    rcases List.mem_cons.mp ha with rfl | ha
    · exact ⟨_, h⟩
    · exact RepOs.there r a ha
  | _, _, _, .obj h h2 r, a, ha => by
    rcases List.mem_cons.mp ha with rfl | ha
    · exact ⟨_, h⟩
    · rcases List.mem_cons.mp ha with rfl | ha
      · exact ⟨_, h2⟩
      · exact RepOf.there r a ha
  | _, _, _, .dic h r, a, ha => by
    rcases List.mem_cons.mp ha with rfl | ha
    · exact ⟨_, h⟩
    · cases ha
  | _, _, _, .dit h r, a, ha => by
    rcases List.mem_cons.mp ha with rfl | ha
    · exact ⟨_, h⟩
    · cases ha
theorem RepOs.there : ∀ {vs : List V} {os : List O} {As : List Addr}, RepOs K F H vs os As → ∀ a ∈ As, ∃ u, H a = some u
  | _, _, _, .nil, a, ha => by cases ha
  | _, _, _, .cons h r, a, ha => by
    rcases List.mem_append.mp ha with ha | ha
    · exact RepO.there h a ha
    · exact RepOs.there r a ha
theorem RepOf.there : ∀ {vs : List (Str × V)} {os : List (Str × O)} {As : List Addr}, RepOf K F H vs os As → ∀ a ∈ As, ∃ u, H a = some u
  | _, _, _, .nil, a, ha => by cases ha
  | _, _, _, .cons h r, a, ha => by
    rcases List.mem_append.mp ha with ha | ha
    · exact RepO.there h a ha
    · exact RepOf.there r a ha
end
/-! an owned tree is readable where F and its cells are -/
mutual
theorem RepO.read (e : Sub F G) : ∀ {v : V} {o : O} {As : List Addr}, (∀ a ∈ As, ∀ u, H a = some u → G a = some u) → RepO K F H v o As → Rep K G v o.d
  | _, _, _, k, .fz h => h.mono e
  | _, _, _, k, .fl h r => .lst (k _ (List.mem_cons_self ..) _ h) (r.mono e)
  | _, _, _, k, .lst h r => .lst (k _ (List.mem_cons_self ..) _ h) (RepOs.read e (fun a ha => k a (List.mem_cons_of_mem _ ha)) r)
  | _, _, _, k, .obj h h2 r => .obj (k _ (List.mem_cons_self ..) _ h) (RepOf.read e (fun a ha => k a (List.mem_cons_of_mem _ (List.mem_cons_of_mem _ ha))) r)
  | _, _, _, k, .dic h r => .dic (k _ (List.mem_cons_self ..) _ h) (r.mono e)
  | _, _, _, k, .dit h r => .dit (k _ (List.mem_cons_self ..) _ h) (r.mono e)
theorem RepOs.read (e : Sub F G) : ∀ {vs : List V} {os : List O} {As : List Addr}, (∀ a ∈ As, ∀ u, H a = some u → G a = some u) → RepOs K F H vs os As → Reps K G vs (O.ds os)
  | _, _, _, k, .nil => .nil
  | _, _, _, k, .cons h r => .cons (RepO.read e (fun a ha => k a (List.mem_append_left _ ha)) h) (RepOs.read e (fun a ha => k a (List.mem_append_right _ ha)) r)
theorem RepOf.read (e : Sub F G) : ∀ {vs : List (Str × V)} {os : List (Str × O)} {As : List Addr}, (∀ a ∈ As, ∀ u, H a = some u → G a = some u) → RepOf K F H vs os As → Repf K G vs (O.df os)
  | _, _, _, k, .nil => .nil
  | _, _, _, k, .cons h r => .cons (RepO.read e (fun a ha => k a (List.mem_append_left _ ha)) h) (RepOf.read e (fun a ha => k a (List.mem_append_right _ ha)) r)
end
theorem RepOs.length : ∀ {vs : List V} {os : List O} {As : List Addr}, RepOs K F H vs os As → vs.length = os.length
  | _, _, _, .nil => rfl
  | _, _, _, .cons _ r => by rw [List.length_cons, List.length_cons, RepOs.length r]
theorem RepOs.fz : ∀ {vs : List V} {ds : List D}, Reps K F vs ds → RepOs K F H vs (ds.map O.fz) []
  | _, _, .nil => .nil
  | _, _, .cons h r => .cons (As := []) (.fz h) (RepOs.fz r)
theorem RepOs.append : ∀ {vs ws : List V} {os ps : List O} {As Bs : List Addr}, RepOs K F H vs os As → RepOs K F H ws ps Bs → RepOs K F H (vs ++ ws) (os ++ ps) (As ++ Bs)
  | _, _, _, _, _, _, .nil, s => s
  | _, _, _, _, _, _, .cons (As := A1) (Bs := A2) r t, s => by
    rw [List.append_assoc]
    exact .cons r (RepOs.append t s)
theorem RepOs.get : ∀ {vs : List V} {os : List O} {As : List Addr} {i : Nat} {o : O}, RepOs K F H vs os As → os[i]? = some o → ∃ v A, vs[i]? = some v ∧ RepO K F H v o A ∧ ∀ a ∈ A, a ∈ As
  | _, _, _, _, _, .nil, e => by simp at e
  | _, _, _, 0, _, .cons r _, e => by simp at e; subst e; exact ⟨_, _, rfl, r, fun a h => List.mem_append_left _ h⟩
  | _, _, _, i + 1, _, .cons _ t, e => by
    obtain ⟨u, A, h1, h2, h3⟩ := RepOs.get t (by simpa using e)
    exact ⟨u, A, by simpa using h1, h2, fun a h => List.mem_append_right _ (h3 a h)⟩
end
end DL

namespace DL
open PySem PySem.Spec PyProof.Rows L2

/-! ## values of expressions, slots -/
inductive Pk where
  | ix (n : Nat) | fd (f : Str)
inductive W where
  | dat (d : D) | rdo (d : D) | new (o : O) | ref (i : Nat) (p : List Pk) (o : O) | sto
def W.d : W → D
  | .dat d => d | .rdo d => d | .new o => o.d | .ref _ _ o => o.d | .sto => .non
@[simp ↓] theorem eW_d_1 (d : DL.D) : (W.dat d).d = d := by first | rfl | exact propext Iff.rfl
@[simp ↓] theorem eW_d_2 (d : DL.D) : (W.rdo d).d = d := by first | rfl | exact propext Iff.rfl
@[simp ↓] theorem eW_d_3 (o : O) : (W.new o).d = o.d := by first | rfl | exact propext Iff.rfl
@[simp ↓] theorem eW_d_4 (i : Nat) (p : List Pk) (o : O) : (W.ref i p o).d = o.d := by first | rfl | exact propext Iff.rfl
inductive Slot where
  | no | dat (d : D) | rdo (d : D) | own (a : Addr) (o : O) | sto | seq (ns : List Int) | exc (a C : Addr) (d : Option Addr) (fs : List (Str × D))
/-- the fixed context of a body: the store, the entry's heap, what may change of it, the frozen part at the entry -/
structure Fx where
  st : Option Addr
  H0 : Hp
  M0 : Addr → Prop
  F0 : Hp
  np : Nat
  G0 : Hp
def StoOk (H : Hp) (p : Addr) : Prop := ∃ ns : List Int, H p = some (.lst (ns.map V.int)) ∧ 6 ≤ ns.length ∧ ns.length ≤ 100 ∧ ∀ k, ns[4]? = some k → 0 ≤ k
def SlotOk (K : PySem.W.Frag) (fx : Fx) (F G H : Hp) (σ : L2.St) (A : Nat → List Addr) (i : Nat) : Slot → Prop
  | .no => True
  | .dat d => ∃ v, σ[i]? = some (some v) ∧ Rep K F v d
  | .rdo d => ∃ v, σ[i]? = some (some v) ∧ Rep K G v d
  | .own a o => σ[i]? = some (some (.ref a)) ∧ RepO K F H (.ref a) o (A i)
  | .sto => ∃ p, fx.st = some p ∧ σ[i]? = some (some (.ref p))
  | .seq ns => ∃ a, σ[i]? = some (some (.ref a)) ∧ SqL K fx.H0 a (ns.map V.int) ∧ ¬ fx.M0 a
  | .exc a C d fs => σ[i]? = some (some (.ref a)) ∧ (d = none → fs = []) ∧ ∀ dd, d = some dd → ∃ vs, G dd = some (.xd vs) ∧ Repf K F vs fs
structure Cons (K : PySem.W.Frag) (fx : Fx) (F G H : Hp) (σ : L2.St) (S : List Slot) (A : Nat → List Addr) : Prop where
  len : σ.length = S.length
  fg : Sub F G
  gh : Sub G H
  sl : ∀ i s, S[i]? = some s → SlotOk K fx F G H σ A i s
  nod : ∀ i, (A i).Nodup
  dis : ∀ i j, i ≠ j → ∀ a ∈ A i, a ∉ A j
  nf : ∀ i, ∀ a ∈ A i, G a = none
  ah : ∀ i, ∀ a ∈ A i, ∃ u, H a = some u
  am : ∀ i, ∀ a ∈ A i, fx.H0 a = none ∨ (fx.M0 a ∧ i < fx.np)
  sto : ∀ p, fx.st = some p → G p = none ∧ (∀ i, p ∉ A i) ∧ StoOk H p ∧ fx.M0 p
  pres : ∀ a o, fx.H0 a = some o → ¬ fx.M0 a → H a = some o
  hn : ∀ a, H a = none → fx.H0 a = none
  f0 : Sub fx.F0 F
  g0 : Sub fx.G0 G
  fnew : ∀ a o, F a = some o → fx.F0 a = none → fx.H0 a = none
/-- a step that changes nothing but the store and makes new things -/
structure Grow (fx : Fx) (F G H F' G' H' : Hp) : Prop where
  f : Sub F F'
  g : Sub G G'
  h : ∀ a o, H a = some o → fx.st ≠ some a → H' a = some o
  hn : ∀ a, H' a = none → H a = none
  fn : ∀ a o, F' a = some o → F a = none → H a = none
  gn : ∀ a o, G' a = some o → G a = none → H a = none
theorem Grow.refl {fx : Fx} {F G H : Hp} : Grow fx F G H F G H := ⟨.refl F, .refl G, fun _ _ h _ => h, fun _ h => h, fun a o h n => (by rw [n] at h; cases h), fun a o h n => (by rw [n] at h; cases h)⟩
theorem Grow.trans {fx : Fx} {F G H F1 G1 H1 F2 G2 H2 : Hp} (x : Grow fx F G H F1 G1 H1) (y : Grow fx F1 G1 H1 F2 G2 H2) : Grow fx F G H F2 G2 H2 where
  f := x.f.trans y.f
  g := x.g.trans y.g
  h := fun a o e n => y.h a o (x.h a o e n) n
  hn := fun a e => x.hn a (y.hn a e)
  fn := fun a o e n => by
    cases q : F1 a with
    | none => exact x.hn a (y.fn a o e q)
    | some u => exact x.fn a u q n
  gn := fun a o e n => by
    cases q : G1 a with
    | none => exact x.hn a (y.gn a o e q)
    | some u => exact x.gn a u q n
/-- the heap without the store -/
def msk (fx : Fx) (H : Hp) : Hp := fun a => if fx.st = some a then none else H a
theorem msk_sub {fx : Fx} {H : Hp} : Sub (msk fx H) H := fun a o h => by
  unfold msk at h
  split at h
  · cases h
  · exact h
theorem msk_of {fx : Fx} {H : Hp} {a : Addr} {o : HO} (h : H a = some o) (n : fx.st ≠ some a) : msk fx H a = some o := by
  unfold msk
  rw [if_neg n]
  exact h
theorem Grow.msk {fx : Fx} {F G H F' G' H' : Hp} (g : Grow fx F G H F' G' H') : Sub (msk fx H) (msk fx H') := fun a o h => by
  have n : fx.st ≠ some a := fun e => by
    unfold DL.msk at h
    rw [if_pos e] at h
    cases h
  exact msk_of (g.h a o (msk_sub a o h) n) n

mutual
/-- the node at a path -/
inductive Nod (H : Hp) : V → O → List Pk → V → O → Prop
  | here {v : V} {o : O} : Nod H v o [] v o
  | ix {a : Addr} {vs : List V} {os : List O} {n : Nat} {p : List Pk} {v w : V} {o q : O} : H a = some (.lst vs) → vs[n]? = some v → os[n]? = some o → Nod H v o p w q → Nod H (.ref a) (.lst os) (.ix n :: p) w q
  | fx {a : Addr} {vs : List V} {ds : List D} {n : Nat} {v : V} {d : D} : H a = some (.lst vs) → vs[n]? = some v → ds[n]? = some d → Nod H (.ref a) (.fl ds) [.ix n] v (.fz d)
  | fd {a C dx : Addr} {vs : List (Str × V)} {os : List (Str × O)} {f : Str} {p : List Pk} {v w : V} {o q : O} : H a = some (.ins C dx vs) → vs.lookup f = some v → os.lookup f = some o → Nod H v o p w q → Nod H (.ref a) (.obj C os) (.fd f :: p) w q
end
def RepW (K : PySem.W.Frag) (fx : Fx) (F G H : Hp) (S : List Slot) (A : Nat → List Addr) (v : V) (B : List Addr) : W → Prop
  | .dat d => Rep K F v d ∧ B = []
  | .rdo d => Rep K G v d ∧ B = []
  | .new o => RepO K F H v o B ∧ B.Nodup ∧ ∀ b ∈ B, G b = none ∧ fx.st ≠ some b
  | .ref i p o => B = [] ∧ (∃ a o0, S[i]? = some (.own a o0) ∧ Nod H (.ref a) o0 p v o) ∧ ∃ As, RepO K F H v o As ∧ ∀ a ∈ As, a ∈ A i
  | .sto => B = [] ∧ ∃ p, fx.st = some p ∧ v = .ref p
section
variable {K : PySem.W.Frag} {fx : Fx} {F G H F' G' H' : Hp} {σ : L2.St} {S : List Slot} {A : Nat → List Addr} {v : V} {B : List Addr} {x : W}
theorem Cons.fm (c : Cons K fx F G H σ S A) : Sub F (msk fx H) := fun a o h => by
  refine msk_of (c.gh a o (c.fg a o h)) fun e => ?_
  have := (c.sto a e).1
  rw [c.fg a o h] at this
  cases this
theorem Cons.gm (c : Cons K fx F G H σ S A) : Sub G (msk fx H) := fun a o h => by
  refine msk_of (c.gh a o h) fun e => ?_
  have := (c.sto a e).1
  rw [h] at this
  cases this
theorem Cons.am_ne (c : Cons K fx F G H σ S A) {i : Nat} {a : Addr} (h : a ∈ A i) : fx.st ≠ some a := fun e => (c.sto a e).2.1 i h
/-- whatever a value is, it is its data in the heap without the store -/
theorem RepW.read (c : Cons K fx F G H σ S A) (r : RepW K fx F G H S A v B x) (n : ∀ (_ : x = .sto), False) : Rep K (msk fx H) v x.d := by
  cases x with
  | dat d => exact r.1.mono c.fm
  | rdo d => exact r.1.mono c.gm
  | new o => exact RepO.read c.fm (fun a ha u e => msk_of e (r.2.2 a ha).2) r.1
  | ref i p o =>
    obtain ⟨_, _, As, h, s⟩ := r
    exact RepO.read c.fm (fun a ha u e => msk_of e (c.am_ne (s a ha))) h
  | sto => exact (n rfl).elim
theorem RepW.rd (c : Cons K fx F G H σ S A) (r : RepW K fx F G H S A v B x) (n : ∀ (_ : x = .sto), False) : Rep K H v x.d := (r.read c n).mono msk_sub
/-- pure growth keeps the state -/
theorem Cons.grow (c : Cons K fx F G H σ S A) (g : Grow fx F G H F' G' H') (fg : Sub F' G') (gh : Sub G' H') (st : ∀ p, fx.st = some p → G' p = none ∧ StoOk H' p) : Cons K fx F' G' H' σ S A where
  len := c.len
  fg := fg
  gh := gh
  sl := fun i s e => by
    have q := c.sl i s e
    cases s with
    | no => trivial
    | dat d => obtain ⟨v, h1, h2⟩ := q; exact ⟨v, h1, h2.mono g.f⟩
    | rdo d => obtain ⟨v, h1, h2⟩ := q; exact ⟨v, h1, h2.mono g.g⟩
    | own a o => exact ⟨q.1, q.2.mono g.f fun b hb u e => g.h b u e (c.am_ne hb)⟩
    | sto => exact q
    | seq ns => exact q
    | exc a C d fs => exact ⟨q.1, q.2.1, fun dd e => by obtain ⟨vs, h2, h3⟩ := q.2.2 dd e; exact ⟨vs, g.g _ _ h2, h3.mono g.f⟩⟩
  nod := c.nod
  dis := c.dis
  nf := fun i a ha => by
    cases q : G' a with
    | none => rfl
    | some u =>
      obtain ⟨o, ho⟩ := c.ah i a ha
      have := g.gn a u q (c.nf i a ha)
      rw [ho] at this
      cases this
  ah := fun i a ha => by
    obtain ⟨o, ho⟩ := c.ah i a ha
    exact ⟨o, g.h a o ho (c.am_ne ha)⟩
  am := c.am
  sto := fun p e => ⟨(st p e).1, (c.sto p e).2.1, (st p e).2, (c.sto p e).2.2.2⟩
  pres := fun a o e n => g.h a o (c.pres a o e n) fun z => n (c.sto a z).2.2.2
  hn := fun a e => c.hn a (g.hn a e)
  f0 := c.f0.trans g.f
  g0 := c.g0.trans g.g
  fnew := fun a o e n => by
    cases q : F a with
    | none => exact c.hn a (g.fn a o e q)
    | some u => exact c.fnew a u q n
theorem Nod.keep {v w : V} {o q : O} {p : List Pk} {As : List Addr} (k : ∀ a ∈ As, ∀ u, H a = some u → H' a = some u) (r : RepO K F H v o As) (h : Nod H v o p w q) : Nod H' v o p w q := by
  induction h generalizing As with
  | here => exact .here
  | ix h1 h2 h3 h4 ih =>
    cases r with
    | lst h r =>
      rw [h1] at h
      cases h
      obtain ⟨v', A', e1, r', s'⟩ := r.get h3
      rw [h2] at e1
      cases e1
      exact .ix (k _ (List.mem_cons_self ..) _ h1) h2 h3 (ih (fun a ha => k a (List.mem_cons_of_mem _ (s' a ha))) r')
  | fx h1 h2 h3 =>
    cases r with
    | fl h r => exact .fx (k _ (List.mem_cons_self ..) _ h1) h2 h3
  | fd h1 h2 h3 h4 ih =>
    cases r with
    | obj h hd r =>
      rw [h1] at h
      cases h
      have key : ∀ {vs : List (Str × V)} {os : List (Str × O)} {As : List Addr} {f : Str} {v : V} {o : O}, RepOf K F H vs os As → vs.lookup f = some v → os.lookup f = some o → ∃ A, RepO K F H v o A ∧ ∀ a ∈ A, a ∈ As := by
        intro vs os As f v o r
        induction vs generalizing os As with
        | nil => intro e; simp at e
        | cons p vs ih =>
          cases r with
          | cons r t =>
            rename_i f' v' o' os' A1 A2
            intro e1 e2
            rw [List.lookup_cons] at e1 e2
            cases z : (f == f') with
            | true =>
              rw [z] at e1 e2
              simp at e1 e2
              subst e1 e2
              exact ⟨A1, r, fun a h => List.mem_append_left _ h⟩
            | false =>
              rw [z] at e1 e2
              obtain ⟨A', h1, h2⟩ := ih t (by simpa using e1) (by simpa using e2)
              exact ⟨A', h1, fun a h => List.mem_append_right _ (h2 a h)⟩
      obtain ⟨A', r', s'⟩ := key r h2 h3
      exact .fd (k _ (List.mem_cons_self ..) _ h1) h2 h3 (ih (fun a ha => k a (List.mem_cons_of_mem _ (List.mem_cons_of_mem _ (s' a ha)))) r')
/-- a value stays what it is over pure growth -/
theorem RepW.grow (c : Cons K fx F G H σ S A) (g : Grow fx F G H F' G' H') (r : RepW K fx F G H S A v B x) : RepW K fx F' G' H' S A v B x := by
  cases x with
  | dat d => exact ⟨r.1.mono g.f, r.2⟩
  | rdo d => exact ⟨r.1.mono g.g, r.2⟩
  | new o =>
    refine ⟨r.1.mono g.f fun b hb u e => g.h b u e (r.2.2 b hb).2, r.2.1, fun b hb => ⟨?_, (r.2.2 b hb).2⟩⟩
    cases q : G' b with
    | none => rfl
    | some u =>
      obtain ⟨o, ho⟩ := r.1.there b hb
      have := g.gn b u q (r.2.2 b hb).1
      rw [ho] at this
      cases this
  | ref i p o =>
    obtain ⟨hB, ⟨a, o0, e, n⟩, As, h, s⟩ := r
    have q := c.sl i _ e
    refine ⟨hB, ⟨a, o0, e, n.keep (fun b hb u e => g.h b u e (c.am_ne hb)) q.2⟩, As, h.mono g.f fun b hb u e => g.h b u e (c.am_ne (s b hb)), s⟩
  | sto => exact r
end
end DL

namespace DL
open PySem PySem.Spec PyProof.Rows L2

/-- what is taken of an exception: its class, its fields, the state where it is raised -/
abbrev Xp := Addr → List (Str × D) → List Slot → Prop
abbrev WE := Xp → List Slot → (W → Prop) → Prop
abbrev WT := Xp → List Slot → (Bool → Prop) → Prop
abbrev WA := Xp → List Slot → (List W → Prop) → Prop
def XRel (K : PySem.W.Frag) (fx : Fx) (Wx : WX) (xp : Xp) : Prop :=
  ∀ F G H σ S A C fs, Cons K fx F G H σ S A → xp C fs S → (fs = [] → Wx (.ref C) none σ H) ∧ ∀ d vs, H d = some (.xd vs) → Repf K F vs fs → Wx (.ref C) (some d) σ H
theorem XRel.none {K : PySem.W.Frag} {fx : Fx} {Wx : WX} : XRel K fx Wx fun _ _ _ => False := fun _ _ _ _ _ _ _ _ _ h => h.elim

/-- the reading t of a pure expression from w -/
def Snd (K : PySem.W.Frag) (Wx : WX) (t : TE) (w : WE) : Prop := ∀ (fx : Fx) (xp : Xp) F G H σ S A Qd (Q : VK), XRel K fx Wx xp → Cons K fx F G H σ S A → w xp S Qd →
    (∀ v x F' G' H' B, Grow fx F G H F' G' H' → Cons K fx F' G' H' σ S A → RepW K fx F' G' H' S A v B x → (∀ b ∈ B, H b = none) → Qd x → Q v H') → t σ H Q
def SndT (K : PySem.W.Frag) (Wx : WX) (t : TT) (w : WT) : Prop := ∀ (fx : Fx) (xp : Xp) F G H σ S A Qd (Q : Bool → Hp → Prop), XRel K fx Wx xp → Cons K fx F G H σ S A → w xp S Qd →
    (∀ b F' G' H', Grow fx F G H F' G' H' → Cons K fx F' G' H' σ S A → Qd b → Q b H') → t σ H Q
inductive RepWs (K : PySem.W.Frag) (fx : Fx) (F G H : Hp) (S : List Slot) (A : Nat → List Addr) : List V → List Addr → List W → Prop
  | nil : RepWs K fx F G H S A [] [] []
  | cons {v : V} {vs : List V} {B Bs : List Addr} {x : W} {xs : List W} : RepW K fx F G H S A v B x → RepWs K fx F G H S A vs Bs xs → (∀ b ∈ B, b ∉ Bs) → RepWs K fx F G H S A (v :: vs) (B ++ Bs) (x :: xs)
def SndA (K : PySem.W.Frag) (Wx : WX) (t : TA) (w : WA) : Prop := ∀ (fx : Fx) (xp : Xp) F G H σ S A Qd (Q : List V → Hp → Prop), XRel K fx Wx xp → Cons K fx F G H σ S A → w xp S Qd →
    (∀ vs xs F' G' H' B, Grow fx F G H F' G' H' → Cons K fx F' G' H' σ S A → RepWs K fx F' G' H' S A vs B xs → (∀ b ∈ B, H b = none) → Qd xs → Q vs H') → t σ H Q
structure PdD (X : Cx) (Wx : WX) (e : Expr) (t : TE) (w : WE) : Prop where
  pe : PE X e t
  ok : Snd X.K Wx t w
structure TdD (X : Cx) (Wx : WX) (e : Expr) (t : TT) (w : WT) : Prop where
  pt : PT X e t
  ok : SndT X.K Wx t w
structure AdD (X : Cx) (Wx : WX) (es : List Expr) (t : TA) (w : WA) : Prop where
  pa : PA X es t
  ok : SndA X.K Wx t w

section
variable {K : PySem.W.Frag} {fx : Fx} {F G H F' G' H' : Hp} {σ : L2.St} {S : List Slot} {A : Nat → List Addr} {v : V} {B : List Addr} {x : W}
theorem RepWs.grow (c : Cons K fx F G H σ S A) (g : Grow fx F G H F' G' H') : ∀ {vs : List V} {B : List Addr} {xs : List W}, RepWs K fx F G H S A vs B xs → RepWs K fx F' G' H' S A vs B xs
  | _, _, _, .nil => .nil
  | _, _, _, .cons r t n => .cons (r.grow c g) (RepWs.grow c g t) n
theorem RepW.there (c : Cons K fx F G H σ S A) (r : RepW K fx F G H S A v B x) : ∀ b ∈ B, ∃ u, H b = some u := fun b hb => by
  cases x with
  | new o => exact r.1.there b hb
  | dat d => rw [r.2] at hb; cases hb
  | rdo d => rw [r.2] at hb; cases hb
  | ref i p o => rw [r.1] at hb; cases hb
  | sto => rw [r.1] at hb; cases hb
theorem RepWs.there (c : Cons K fx F G H σ S A) : ∀ {vs : List V} {B : List Addr} {xs : List W}, RepWs K fx F G H S A vs B xs → ∀ b ∈ B, ∃ u, H b = some u
  | _, _, _, .nil => fun _ h => by cases h
  | _, _, _, .cons r t n => fun b hb => by
    rcases List.mem_append.mp hb with hb | hb
    · exact r.there c b hb
    · exact RepWs.there c t b hb
end

/-! ### slots -/
@[simp ↓] def gt : List Slot → Nat → Slot
  | [], _ => .no
  | s :: _, 0 => s
  | _ :: r, i + 1 => gt r i
theorem gt_some : ∀ {S : List Slot} {i : Nat} {s : Slot}, gt S i = s → s ≠ .no → S[i]? = some s
  | [], _, _, h, n => by unfold gt at h; exact absurd h.symm n
  | a :: _, 0, _, h, _ => by unfold gt at h; simp [h]
  | _ :: r, i + 1, _, h, n => by
    unfold gt at h
    simpa using gt_some h n
def Slot.rd (s : Slot) (i : Nat) (Q : W → Prop) : Prop := match s with
  | .dat d => Q (.dat d) | .rdo d => Q (.rdo d) | .own _ o => Q (.ref i [] o) | .sto => Q .sto | _ => False
@[simp ↓] theorem eSlot_rd_1 (d : D) (i : Nat) (Q : W → Prop) : (Slot.dat d).rd i Q = Q (.dat d) := rfl
@[simp ↓] theorem eSlot_rd_2 (d : D) (i : Nat) (Q : W → Prop) : (Slot.rdo d).rd i Q = Q (.rdo d) := rfl
@[simp ↓] theorem eSlot_rd_3 (a : Addr) (o : O) (i : Nat) (Q : W → Prop) : (Slot.own a o).rd i Q = Q (.ref i [] o) := rfl
@[simp ↓] theorem eSlot_rd_4 (i : Nat) (Q : W → Prop) : Slot.sto.rd i Q = Q .sto := rfl
@[simp ↓] def wVar (i : Nat) : WE := fun _ S Q => (gt S i).rd i Q
@[simp ↓] def wC (d : D) : WE := fun _ _ Q => Q (.dat d)
/-- the data of a value that is no store -/
def W.dd (x : W) (k : D → Prop) : Prop := match x with
  | .sto => False
  | x => k x.d
@[simp ↓] theorem eW_dd_1 (d : DL.D) (k : DL.D → Prop) : (W.dat d).dd k = k d := by first | rfl | exact propext Iff.rfl
@[simp ↓] theorem eW_dd_2 (d : DL.D) (k : DL.D → Prop) : (W.rdo d).dd k = k d := by first | rfl | exact propext Iff.rfl
@[simp ↓] theorem eW_dd_3 (o : O) (k : DL.D → Prop) : (W.new o).dd k = k o.d := by first | rfl | exact propext Iff.rfl
@[simp ↓] theorem eW_dd_4 (i : Nat) (p : List Pk) (o : O) (k : DL.D → Prop) : (W.ref i p o).dd k = k o.d := by first | rfl | exact propext Iff.rfl
@[simp ↓] theorem eW_dd_5 (k : DL.D → Prop) : W.sto.dd k = False := by first | rfl | exact propext Iff.rfl
theorem W.dd_of {x : W} {k : D → Prop} (h : x.dd k) : (∀ (_ : x = .sto), False) ∧ k x.d := by
  cases x with
  | sto => exact h.elim
  | dat d => exact ⟨fun z => (nomatch z), h⟩
  | rdo d => exact ⟨fun z => (nomatch z), h⟩
  | new d => exact ⟨fun z => (nomatch z), h⟩
  | ref i p d => exact ⟨fun z => (nomatch z), h⟩
abbrev G1 := D → (D → Prop) → Prop
abbrev G2 := D → D → (D → Prop) → Prop
/-- r does on values what g says on data; the answer is no object -/
def R2Ok (K : PySem.W.Frag) (r : R2) (g : G2) : Prop := ∀ H v1 v2 d1 d2 Qd (Q : VK), Rep K H v1 d1 → Rep K H v2 d2 → g d1 d2 Qd → (∀ v d, (∀ F, Rep K F v d) → Qd d → Q v H) → r v1 v2 H Q
def R1Ok (K : PySem.W.Frag) (r : V → Hp → VK → Prop) (g : G1) : Prop := ∀ H v1 d1 Qd (Q : VK), Rep K H v1 d1 → g d1 Qd → (∀ v d, (∀ F, Rep K F v d) → Qd d → Q v H) → r v1 H Q
def D.tb (d : D) (k : Bool → Prop) : Prop := match d with
  | .bl b => k b
  | _ => False
@[simp ↓] theorem eD_tb_1 (b : Bool) (k : Bool → Prop) : (DL.D.bl b).tb k = k b := by first | rfl | exact propext Iff.rfl
@[simp ↓] def wBin (g : G2) (wa wb : WE) : WE := fun xp S Q => wa xp S fun x => wb xp S fun y => x.dd fun d1 => y.dd fun d2 => g d1 d2 fun d => Q (.dat d)
@[simp ↓] def wCmpT (g : G2) (wa wb : WE) : WT := fun xp S Q => wa xp S fun x => wb xp S fun y => x.dd fun d1 => y.dd fun d2 => g d1 d2 fun d => d.tb Q
@[simp ↓] def wUn (g : G1) (wa : WE) : WE := fun xp S Q => wa xp S fun x => x.dd fun d1 => g d1 fun d => Q (.dat d)

section
variable {K : PySem.W.Frag} {Wx : WX} {t ta tb tc : TE} {w wa wb wc : WE}
/-- a value that changes nothing -/
theorem Snd.of_val (k : ∀ (fx : Fx) (xp : Xp) F G H σ S A Qd (Q : VK), Cons K fx F G H σ S A → w xp S Qd → (∀ v x, RepW K fx F G H S A v [] x → Qd x → Q v H) → t σ H Q) : Snd K Wx t w :=
  fun fx xp F G H σ S A Qd Q _ c hw q => k fx xp F G H σ S A Qd Q c hw fun v x r qx => q v x F G H [] .refl c r (fun _ z => by cases z) qx
theorem Snd.var {i : Nat} : Snd K Wx (tVar i) (wVar i) := Snd.of_val fun fx xp F G H σ S A Qd Q c hw q => by
  unfold wVar at hw
  cases e : gt S i with
  | no => rw [e] at hw; exact hw.elim
  | seq ns => rw [e] at hw; exact hw.elim
  | exc a C d fs => rw [e] at hw; exact hw.elim
  | dat d =>
    rw [e] at hw
    obtain ⟨v, h1, h2⟩ := c.sl i _ (gt_some e (by simp))
    exact ⟨v, h1, q v (.dat d) ⟨h2, rfl⟩ hw⟩
  | rdo d =>
    rw [e] at hw
    obtain ⟨v, h1, h2⟩ := c.sl i _ (gt_some e (by simp))
    exact ⟨v, h1, q v (.rdo d) ⟨h2, rfl⟩ hw⟩
  | own a o =>
    rw [e] at hw
    obtain ⟨h1, h2⟩ := c.sl i _ (gt_some e (by simp))
    exact ⟨_, h1, q _ (.ref i [] o) ⟨rfl, ⟨a, o, gt_some e (by simp), .here⟩, _, h2, fun _ h => h⟩ hw⟩
  | sto =>
    rw [e] at hw
    obtain ⟨p, h1, h2⟩ := c.sl i _ (gt_some e (by simp))
    exact ⟨_, h2, q _ .sto ⟨rfl, p, h1, rfl⟩ hw⟩
theorem Snd.c {v : V} {d : D} (h : ∀ F, Rep K F v d) : Snd K Wx (tC v) (wC d) := Snd.of_val fun fx xp F G H σ S A Qd Q c hw q => q _ (.dat d) ⟨h F, rfl⟩ hw
/-- two values, one behind the other -/
theorem Snd.two (ha : Snd K Wx ta wa) (hb : Snd K Wx tb wb)
    {fx : Fx} {xp : Xp} {F G H : Hp} {σ : L2.St} {S : List Slot} {A : Nat → List Addr} {Qd : W → W → Prop} {Q : V → V → Hp → Prop} (xr : XRel K fx Wx xp) (c : Cons K fx F G H σ S A) (hw : wa xp S fun x => wb xp S fun y => Qd x y)
    (q : ∀ v x u y F' G' H' B B', Grow fx F G H F' G' H' → Cons K fx F' G' H' σ S A → RepW K fx F' G' H' S A v B x → RepW K fx F' G' H' S A u B' y → (∀ b ∈ B, H b = none) → (∀ b ∈ B', H b = none ∧ b ∉ B) → Qd x y → Q v u H') :
    ta σ H fun v H1 => tb σ H1 fun u H2 => Q v u H2 := by
  refine ha fx xp F G H σ S A _ _ xr c hw fun v x F1 G1 H1 B g1 c1 r1 n1 q1 => ?_
  refine hb fx xp F1 G1 H1 σ S A _ _ xr c1 q1 fun u y F2 G2 H2 B' g2 c2 r2 n2 q2 => ?_
  refine q v x u y F2 G2 H2 B B' (g1.trans g2) c2 (r1.grow c1 g2) r2 n1 (fun b hb => ⟨g1.hn b (n2 b hb), fun z => ?_⟩) q2
  obtain ⟨w, hw⟩ := r1.there c1 b z
  rw [n2 b hb] at hw
  cases hw
theorem Snd.op {r : R2} {g : G2} (ok : R2Ok K r g) (ha : Snd K Wx ta wa) (hb : Snd K Wx tb wb) : Snd K Wx (tOp r ta tb) (wBin g wa wb) := fun fx xp F G H σ S A Qd Q xr c hw q => by
  refine Snd.two (Q := fun v u H2 => r v u H2 Q) ha hb xr c hw fun v x u y F' G' H' B B' gr c' r1 r2 n1 n2 hq => ?_
  obtain ⟨nx, hq⟩ := W.dd_of hq
  obtain ⟨ny, hq⟩ := W.dd_of hq
  exact ok H' v u _ _ _ _ (r1.rd c' nx) (r2.rd c' ny) hq fun w d rw qd => q w (.dat d) F' G' H' [] gr c' ⟨rw F', rfl⟩ (fun _ z => by cases z) qd
theorem Snd.opT {r : R2} {g : G2} (ok : R2Ok K r g) (ha : Snd K Wx ta wa) (hb : Snd K Wx tb wb) : SndT K Wx (tTest (tOp r ta tb)) (wCmpT g wa wb) := fun fx xp F G H σ S A Qd Q xr c hw q => by
  refine Snd.two (Q := fun v u H2 => r v u H2 fun x H' => ∃ k, x = .bl k ∧ Q k H') ha hb xr c hw fun v x u y F' G' H' B B' gr c' r1 r2 n1 n2 hq => ?_
  obtain ⟨nx, hq⟩ := W.dd_of hq
  obtain ⟨ny, hq⟩ := W.dd_of hq
  refine ok H' v u _ _ _ _ (r1.rd c' nx) (r2.rd c' ny) hq fun w d rw qd => ?_
  cases d with
  | bl k =>
    cases rw H' with
    | bl => exact ⟨k, rfl, q k F' G' H' gr c' qd⟩
  | _ => exact qd.elim
theorem Snd.un {r : V → Hp → VK → Prop} {g : G1} (ok : R1Ok K r g) (ha : Snd K Wx ta wa) : Snd K Wx (tUn r ta) (wUn g wa) := fun fx xp F G H σ S A Qd Q xr c hw q => by
  refine ha fx xp F G H σ S A _ _ xr c hw fun v x F1 G1 H1 B g1 c1 r1 n1 hq => ?_
  obtain ⟨nx, hq⟩ := W.dd_of hq
  exact ok H1 v _ _ _ (r1.rd c1 nx) hq fun w d rw qd => q w (.dat d) F1 G1 H1 [] g1 c1 ⟨rw F1, rfl⟩ (fun _ z => by cases z) qd
end
section
variable {X : Cx} {Wx : WX} {a b e : Expr} {ta tb : TE} {wa wb : WE} {pos : Pos}
theorem pd_var {i : Nat} {x : Str} (hN : X.N[i]? = some x := by rfl) (hv : Vis X.env.scope x := by first | exact Or.inl rfl | exact Or.inr (Or.inl rfl) | exact Or.inr (Or.inr rfl)) (hd : (x == ("__debug__" : Str)) = false := by decide) (hcd : (x == ("__classdict__" : Str)) = false := by decide) :
    PdD X Wx (.Name x pos) (tVar i) (wVar i) := ⟨pe_var hN hv hd hcd, Snd.var⟩
theorem pd_int {i : Int} {j} : PdD X Wx (.Constant (.int i) j pos) (tC (.int i)) (wC (.int i)) := ⟨pe_int, Snd.c fun _ => .int i⟩
theorem pd_bl {i : Bool} {j} : PdD X Wx (.Constant (.bool i) j pos) (tC (.bl i)) (wC (.bl i)) := ⟨pe_bl, Snd.c fun _ => .bl i⟩
theorem pd_non {j} : PdD X Wx (.Constant .none j pos) (tC .non) (wC .non) := ⟨pe_non, Snd.c fun _ => .non⟩
theorem pd_str {i : Str} {j} : PdD X Wx (.Constant (.str i) j pos) (tC (.str i)) (wC (.str i)) := ⟨pe_str, Snd.c fun _ => .str i⟩
/-- a module's constant -/
theorem pd_glob {x : Str} {v : V} {u : Value} {d : D} (hg : Gl X x) (hm : X.mg x = some u) (r : RelV v u) (h : ∀ F, Rep X.K F v d) (hd : (x == ("__debug__" : Str)) = false := by decide) : PdD X Wx (.Name x pos) (tC v) (wC d) := ⟨pe_glob hg hm r hd, Snd.c h⟩
theorem pd_bin {op : Operator} {r : R2} {g : G2} (ho : OpR X (binaryOp op) r) (ok : R2Ok X.K r g) (ha : PdD X Wx a ta wa) (hb : PdD X Wx b tb wb) : PdD X Wx (.BinOp a op b pos) (tOp r ta tb) (wBin g wa wb) := ⟨pe_op ho ha.pe hb.pe, Snd.op ok ha.ok hb.ok⟩
theorem pd_cmp {op : CmpOp} {r : R2} {g : G2} (ho : OpR X (compareOp op) r) (ok : R2Ok X.K r g) (ha : PdD X Wx a ta wa) (hb : PdD X Wx b tb wb) (hm : behindInMarks op b = false) : PdD X Wx (.Compare a [op] [b] pos) (tOp r ta tb) (wBin g wa wb) := ⟨pe_cmpR ho ha.pe hb.pe hm, Snd.op ok ha.ok hb.ok⟩
theorem td_cmp {op : CmpOp} {r : R2} {g : G2} (ho : OpR X (compareOp op) r) (ok : R2Ok X.K r g) (ha : PdD X Wx a ta wa) (hb : PdD X Wx b tb wb) (hm : behindInMarks op b = false) : TdD X Wx (.Compare a [op] [b] pos) (tTest (tOp r ta tb)) (wCmpT g wa wb) := ⟨pt_cmpR ho ha.pe hb.pe hm, Snd.opT ok ha.ok hb.ok⟩
theorem pd_un {op : UnaryOp} {r : V → Hp → VK → Prop} {g : G1} (ho : UnR X (unaryOp op) r) (ok : R1Ok X.K r g) (ha : PdD X Wx a ta wa) : PdD X Wx (.UnaryOp op a pos) (tUn r ta) (wUn g wa) := ⟨pe_un ho ha.pe, Snd.un ok ha.ok⟩
end
/-! ### the data of the operators -/
def D.py : D → PyData
  | .non => .none | .bl b => .bool b | .int i => .int i | .str s => .str s
  | .lst xs => .list (pys xs) | .tup xs => .tuple (pys xs) | _ => .none
where pys : List D → List PyData
  | [] => []
  | x :: xs => x.py :: pys xs
def D.pl : D → Bool
  | .non => true | .bl b => true | .int i => true | .str s => true
  | .lst xs => pls xs | .tup xs => pls xs | _ => false
where pls : List D → Bool
  | [] => true
  | x :: xs => x.pl && pls xs
section
variable {K : PySem.W.Frag} {H : Hp}
mutual
theorem Rep.dp : ∀ {v : V} {d : D}, Rep K H v d → d.pl = true → Dp K H v d.py
  | _, _, .non, _ => .non
  | _, _, .bl b, _ => .bl b
  | _, _, .int i, _ => .int i
  | _, _, .str x, _ => .str x
  | _, _, .lst h r, p => .lst (ql h) (Reps.dp r p)
  | _, _, .tup h r, p => .tup (qt h) (Reps.dp r p)
  | _, _, .obj h r, p => by cases p
  | _, _, .dic h r, p => by cases p
  | _, _, .dit h r, p => by cases p
  | _, _, .raw h, p => by cases p
theorem Reps.dp : ∀ {vs : List V} {ds : List D}, Reps K H vs ds → D.pl.pls ds = true → DpAll K H vs (D.py.pys ds)
  | _, _, .nil, _ => .nil
  | _, _, .cons h r, p => by
    have p' := Bool.and_eq_true_iff.mp p
    exact .cons (Rep.dp h p'.1) (Reps.dp r p'.2)
end
end
def gAdd : G2 := fun x y Q => match x, y with
  | .int i, .int j => Q (.int (i + j))
  | .str i, .str j => i.length + j.length ≤ sizeLine ∧ Q (.str (i ++ j))
  | _, _ => False
@[simp ↓] theorem egAdd_1 (i j : Int) (Q : DL.D → Prop) : gAdd (.int i) (.int j) Q = Q (.int (i + j)) := by first | rfl | exact propext Iff.rfl
@[simp ↓] theorem egAdd_2 (i j : Str) (Q : DL.D → Prop) : gAdd (.str i) (.str j) Q = (i.length + j.length ≤ sizeLine ∧ Q (.str (i ++ j))) := by first | rfl | exact propext Iff.rfl
def gI (f : Int → Int → Int) : G2 := fun x y Q => match x, y with
  | .int i, .int j => Q (.int (f i j))
  | _, _ => False
@[simp ↓] theorem egI_1 (f : Int → Int → Int) (i j : Int) (Q : DL.D → Prop) : gI f (.int i) (.int j) Q = Q (.int (f i j)) := by first | rfl | exact propext Iff.rfl
def gIC (C : Int → Int → Prop) (f : Int → Int → Int) : G2 := fun x y Q => match x, y with
  | .int i, .int j => C i j ∧ Q (.int (f i j))
  | _, _ => False
@[simp ↓] theorem egIC_1 (C : Int → Int → Prop) (f : Int → Int → Int) (i j : Int) (Q : DL.D → Prop) : gIC C f (.int i) (.int j) Q = (C i j ∧ Q (.int (f i j))) := by first | rfl | exact propext Iff.rfl
def gCmp (f : Int → Int → Bool) : G2 := fun x y Q => match x, y with
  | .int i, .int j => Q (.bl (f i j))
  | _, _ => False
@[simp ↓] theorem egCmp_1 (f : Int → Int → Bool) (i j : Int) (Q : DL.D → Prop) : gCmp f (.int i) (.int j) Q = Q (.bl (f i j)) := by first | rfl | exact propext Iff.rfl
def gEqv (f : Bool → Bool) : G2 := fun x y Q => match x, y with
  | .int i, .int j => Q (.bl (f (decide (i = j))))
  | .str i, .str j => Q (.bl (f (decide (i = j))))
  | .bl i, .bl j => Q (.bl (f (decide (i = j))))
  | .non, .non => Q (.bl (f true))
  | .non, .int _ => Q (.bl (f false))
  | .int _, .non => Q (.bl (f false))
  | .non, .str _ => Q (.bl (f false))
  | .str _, .non => Q (.bl (f false))
  | .str _, .int _ => Q (.bl (f false))
  | .int _, .str _ => Q (.bl (f false))
  | x, y => x.pl = true ∧ y.pl = true ∧ SeqAt.shaped x.py = true ∧ SeqAt.shaped y.py = true ∧ Q (.bl (f (PyData.eqv x.py y.py)))
@[simp ↓] theorem egEqv_1 (f : Bool → Bool) (i j : Int) (Q : DL.D → Prop) : gEqv f (.int i) (.int j) Q = Q (.bl (f (decide (i = j)))) := by first | rfl | exact propext Iff.rfl
@[simp ↓] theorem egEqv_2 (f : Bool → Bool) (i j : Str) (Q : DL.D → Prop) : gEqv f (.str i) (.str j) Q = Q (.bl (f (decide (i = j)))) := by first | rfl | exact propext Iff.rfl
@[simp ↓] theorem egEqv_3 (f : Bool → Bool) (i j : Bool) (Q : DL.D → Prop) : gEqv f (.bl i) (.bl j) Q = Q (.bl (f (decide (i = j)))) := by first | rfl | exact propext Iff.rfl
@[simp ↓] theorem egEqv_4 (f : Bool → Bool) (Q : DL.D → Prop) : gEqv f .non .non Q = Q (.bl (f true)) := by first | rfl | exact propext Iff.rfl
@[simp ↓] theorem egEqv_5 (f : Bool → Bool) (j : Int) (Q : DL.D → Prop) : gEqv f .non (.int j) Q = Q (.bl (f false)) := by first | rfl | exact propext Iff.rfl
@[simp ↓] theorem egEqv_6 (f : Bool → Bool) (j : Int) (Q : DL.D → Prop) : gEqv f (.int j) .non Q = Q (.bl (f false)) := by first | rfl | exact propext Iff.rfl
@[simp ↓] theorem egEqv_7 (f : Bool → Bool) (j : Str) (Q : DL.D → Prop) : gEqv f .non (.str j) Q = Q (.bl (f false)) := by first | rfl | exact propext Iff.rfl
@[simp ↓] theorem egEqv_8 (f : Bool → Bool) (j : Str) (Q : DL.D → Prop) : gEqv f (.str j) .non Q = Q (.bl (f false)) := by first | rfl | exact propext Iff.rfl
@[simp ↓] theorem egEqv_9 (f : Bool → Bool) (i : Str) (j : Int) (Q : DL.D → Prop) : gEqv f (.str i) (.int j) Q = Q (.bl (f false)) := by first | rfl | exact propext Iff.rfl
@[simp ↓] theorem egEqv_10 (f : Bool → Bool) (i : Int) (j : Str) (Q : DL.D → Prop) : gEqv f (.int i) (.str j) Q = Q (.bl (f false)) := by first | rfl | exact propext Iff.rfl
@[simp ↓] theorem egEqv_11 (f : Bool → Bool) (xs ys : List DL.D) (Q : DL.D → Prop) : gEqv f (.lst xs) (.lst ys) Q = ((DL.D.lst xs).pl = true ∧ (DL.D.lst ys).pl = true ∧ SeqAt.shaped (DL.D.lst xs).py = true ∧ SeqAt.shaped (DL.D.lst ys).py = true ∧ Q (.bl (f (PyData.eqv (DL.D.lst xs).py (DL.D.lst ys).py)))) := by first | rfl | exact propext Iff.rfl
@[simp ↓] theorem egEqv_12 (f : Bool → Bool) (xs ys : List DL.D) (Q : DL.D → Prop) : gEqv f (.tup xs) (.tup ys) Q = ((DL.D.tup xs).pl = true ∧ (DL.D.tup ys).pl = true ∧ SeqAt.shaped (DL.D.tup xs).py = true ∧ SeqAt.shaped (DL.D.tup ys).py = true ∧ Q (.bl (f (PyData.eqv (DL.D.tup xs).py (DL.D.tup ys).py)))) := by first | rfl | exact propext Iff.rfl
@[simp ↓] abbrev gEq : G2 := gEqv fun b => b
@[simp ↓] abbrev gNe : G2 := gEqv fun b => !b
def gIs (f : Bool → Bool) : G2 := fun x y Q => match y with
  | .non => Q (.bl (f (match x with | .non => true | _ => false)))
  | _ => False
section
variable {K : PySem.W.Frag} {X : Cx}
abbrev rAdd2 : R2 := fun x y H Q => (rI0 fun i j => .int (i + j)) x y H Q ∨ (fun x y H Q => ∃ i j, x = .str i ∧ y = .str j ∧ i.length + j.length ≤ sizeLine ∧ Q (.str (i ++ j)) H) x y H Q
theorem r2_add : R2Ok K rAdd2 gAdd := fun H v1 v2 d1 d2 Qd Q r1 r2 h q => by
  cases r1 <;> cases r2 <;> first | exact (show False from h).elim | skip
  · exact .inl ⟨_, _, rfl, rfl, q _ _ (fun F => .int _) h⟩
  · exact .inr ⟨_, _, rfl, rfl, h.1, q _ _ (fun F => .str _) h.2⟩
theorem op_add2 : OpR X (binaryOp .Add) rAdd2 := op_add.or op_add_str
theorem r2_I {f : Int → Int → Int} : R2Ok K (rI0 fun i j => .int (f i j)) (gI f) := fun H v1 v2 d1 d2 Qd Q r1 r2 h q => by
  cases r1 <;> cases r2 <;> first | exact (show False from h).elim | skip
  exact ⟨_, _, rfl, rfl, q _ _ (fun F => .int _) h⟩
theorem r2_IC {C : Int → Int → Prop} {f : Int → Int → Int} : R2Ok K (rI C fun i j => .int (f i j)) (gIC C f) := fun H v1 v2 d1 d2 Qd Q r1 r2 h q => by
  cases r1 <;> cases r2 <;> first | exact (show False from h).elim | skip
  exact ⟨_, _, rfl, rfl, h.1, q _ _ (fun F => .int _) h.2⟩
theorem r2_cmp {f : Int → Int → Bool} : R2Ok K (rI0 fun i j => .bl (f i j)) (gCmp f) := fun H v1 v2 d1 d2 Qd Q r1 r2 h q => by
  cases r1 <;> cases r2 <;> first | exact (show False from h).elim | skip
  exact ⟨_, _, rfl, rfl, q _ _ (fun F => .bl _) h⟩
abbrev rEq2 (K : PySem.W.Frag) : R2 := fun x y H Q => rEq x y H Q ∨ rEqD K x y H Q
abbrev rNe2 (K : PySem.W.Frag) : R2 := fun x y H Q => rNe x y H Q ∨ rNeD K x y H Q
theorem op_eq2 (hu : X.A.units + 64 < cLine) : OpR X (compareOp .Eq) (rEq2 X.K) := op_eq.or (op_eqD hu)
theorem op_ne2 (hu : X.A.units + 64 < cLine) : OpR X (compareOp .NotEq) (rNe2 X.K) := op_ne.or (op_neD hu)
theorem dec_eqI {i j : Int} : decide (V.int i = V.int j) = decide (i = j) := by by_cases h : i = j <;> simp [h]
theorem dec_eqS {i j : Str} : decide (V.str i = V.str j) = decide (i = j) := by by_cases h : i = j <;> simp [h]
theorem dec_eqB {i j : Bool} : decide (V.bl i = V.bl j) = decide (i = j) := by by_cases h : i = j <;> simp [h]
theorem r2_eq : R2Ok K (rEq2 K) gEq := fun H v1 v2 d1 d2 Qd Q r1 r2 h q => by
  have gen : (d1.pl = true ∧ d2.pl = true ∧ SeqAt.shaped d1.py = true ∧ SeqAt.shaped d2.py = true ∧ Qd (.bl (PyData.eqv d1.py d2.py))) → rEq2 K v1 v2 H Q := fun ⟨p1, p2, s1, s2, z⟩ =>
    .inr ⟨_, _, r1.dp p1, r2.dp p2, s1, s2, q _ _ (fun F => .bl _) z⟩
  have sc : ∀ {b : Bool}, scal v1 v2 = true → Qd (.bl b) → decide (v1 = v2) = b → rEq2 K v1 v2 H Q := fun {b} hs z e => .inl ⟨hs, by rw [e]; exact q _ _ (fun F => .bl _) z⟩
  cases d1 <;> cases d2 <;> first
    | exact gen h
    | (cases r1; cases r2; first
        | exact sc rfl h rfl
        | exact sc rfl h dec_eqI
        | exact sc rfl h dec_eqS
        | exact sc rfl h dec_eqB)
theorem r2_ne : R2Ok K (rNe2 K) gNe := fun H v1 v2 d1 d2 Qd Q r1 r2 h q => by
  have gen : (d1.pl = true ∧ d2.pl = true ∧ SeqAt.shaped d1.py = true ∧ SeqAt.shaped d2.py = true ∧ Qd (.bl (!PyData.eqv d1.py d2.py))) → rNe2 K v1 v2 H Q := fun ⟨p1, p2, s1, s2, z⟩ =>
    .inr ⟨_, _, r1.dp p1, r2.dp p2, s1, s2, q _ _ (fun F => .bl _) z⟩
  have sc : ∀ {b : Bool}, scal v1 v2 = true → Qd (.bl !b) → decide (v1 = v2) = b → rNe2 K v1 v2 H Q := fun {b} hs z e => .inl ⟨hs, by rw [e]; exact q _ _ (fun F => .bl _) z⟩
  cases d1 <;> cases d2 <;> first
    | exact gen h
    | (cases r1; cases r2; first
        | exact sc rfl h rfl
        | exact sc rfl h dec_eqI
        | exact sc rfl h dec_eqS
        | exact sc rfl h dec_eqB)
end
end DL

namespace DL
open PySem PySem.Spec PyProof.Rows L2

section
variable {K : PySem.W.Frag} {fx : Fx} {F G H F' G' H' : Hp} {σ : L2.St} {S : List Slot} {A : Nat → List Addr} {v : V} {B : List Addr} {x : W}

/-! ## new objects -/
theorem sub_upd {H : Hp} {p : Addr} {o : HO} (n : H p = none) : Sub H (upd H p o) := fun a u e => by
  rw [upd_ne (ne_of_none e n)]
  exact e
theorem StoOk.keep {p : Addr} (h : StoOk H p) (k : ∀ o, H p = some o → H' p = some o) : StoOk H' p := by
  obtain ⟨ns, e, r⟩ := h
  exact ⟨ns, k _ e, r⟩
/-- a new object p, not yet part of F, G -/
theorem Cons.laid (c : Cons K fx F G H σ S A) {p : Addr} {o : HO} (n : H p = none) : Grow fx F G H F G (upd H p o) ∧ Cons K fx F G (upd H p o) σ S A := by
  have g : Grow fx F G H F G (upd H p o) := ⟨.refl F, .refl G, fun a u e _ => sub_upd n a u e, fun a e => by
    by_cases h : a = p
    · rw [h]; exact n
    · rw [upd_ne h] at e; exact e, fun a u e z => (by rw [z] at e; cases e), fun a u e z => (by rw [z] at e; cases e)⟩
  exact ⟨g, c.grow g c.fg (c.gh.trans (sub_upd n)) fun q e => ⟨(c.sto q e).1, (c.sto q e).2.2.1.keep fun o h => sub_upd n q o h⟩⟩
/-- the cells of B become part of F and G -/
def frz (F H : Hp) (B : List Addr) : Hp := fun a => if a ∈ B then H a else F a
theorem frz_in {a : Addr} (h : a ∈ B) : frz F H B a = H a := if_pos h
theorem frz_out {a : Addr} (h : a ∉ B) : frz F H B a = F a := if_neg h
theorem sub_frz (n : ∀ b ∈ B, F b = none) : Sub F (frz F H B) := fun a o e => by
  by_cases h : a ∈ B
  · rw [n a h] at e; cases e
  · rw [frz_out h]; exact e
theorem frz_sub (s : Sub F H) : Sub (frz F H B) H := fun a o e => by
  by_cases h : a ∈ B
  · rw [frz_in h] at e; exact e
  · rw [frz_out h] at e; exact s a o e
theorem frz_mono (s : Sub F G) : Sub (frz F H B) (frz G H B) := fun a o e => by
  by_cases h : a ∈ B
  · rw [frz_in h] at e ⊢; exact e
  · rw [frz_out h] at e ⊢; exact s a o e
theorem Cons.freeze (c : Cons K fx F G H σ S A) (n : ∀ b ∈ B, G b = none ∧ fx.st ≠ some b ∧ fx.H0 b = none ∧ ∀ i, b ∉ A i) : Cons K fx (frz F H B) (frz G H B) H σ S A := by
  have nF : ∀ b ∈ B, F b = none := fun b hb => by
    cases q : F b with
    | none => rfl
    | some o =>
      have := c.fg b o q
      rw [(n b hb).1] at this
      cases this
  have sF := sub_frz (H := H) nF
  have sG := sub_frz (H := H) (F := G) fun b hb => (n b hb).1
  refine { c with fg := frz_mono c.fg, gh := frz_sub c.gh, sl := fun i s e => ?_, nf := fun i a ha => ?_, sto := fun p e => ?_, f0 := c.f0.trans sF, g0 := c.g0.trans sG, fnew := fun a o e z => ?_ }
  · have q := c.sl i s e
    cases s with
    | no => trivial
    | dat d => obtain ⟨v, h1, h2⟩ := q; exact ⟨v, h1, h2.mono sF⟩
    | rdo d => obtain ⟨v, h1, h2⟩ := q; exact ⟨v, h1, h2.mono sG⟩
    | own a o => exact ⟨q.1, q.2.mono sF fun _ _ _ h => h⟩
    | sto => exact q
    | seq ns => exact q
    | exc a C d fs => exact ⟨q.1, q.2.1, fun dd e => by obtain ⟨vs, h2, h3⟩ := q.2.2 dd e; exact ⟨vs, sG _ _ h2, h3.mono sF⟩⟩
  · rw [frz_out fun h => (n a h).2.2.2 i ha]
    exact c.nf i a ha
  · exact ⟨by rw [frz_out fun h => (n p h).2.1 e]; exact (c.sto p e).1, (c.sto p e).2⟩
  · by_cases h : a ∈ B
    · exact (n a h).2.2.1
    · rw [frz_out h] at e
      exact c.fnew a o e z
theorem Grow.frz (c : Cons K fx F' G' H' σ S A) (g : Grow fx F G H F' G' H') (nG : ∀ b ∈ B, G' b = none) (n : ∀ b ∈ B, H b = none) : Grow fx F G H (DL.frz F' H' B) (DL.frz G' H' B) H' where
  f := g.f.trans (sub_frz fun b hb => by
    cases q : F' b with
    | none => rfl
    | some o =>
      have := c.fg b o q
      rw [nG b hb] at this
      cases this)
  g := g.g.trans (sub_frz nG)
  h := g.h
  hn := g.hn
  fn := fun a o e z => by
    by_cases h : a ∈ B
    · exact n a h
    · rw [frz_out h] at e; exact g.fn a o e z
  gn := fun a o e z => by
    by_cases h : a ∈ B
    · exact n a h
    · rw [frz_out h] at e; exact g.gn a o e z
/-- an owned tree, frozen -/
theorem RepO.frozen {o : O} (r : RepO K F H v o B) (nF : ∀ b ∈ B, F b = none) : Rep K (frz F H B) v o.d :=
  r.read (sub_frz nF) fun a ha u e => by rw [frz_in ha]; exact e
theorem RepOs.frozen {vs : List V} {os : List O} (r : RepOs K F H vs os B) (nF : ∀ b ∈ B, F b = none) : Reps K (frz F H B) vs (O.ds os) :=
  r.read (sub_frz nF) fun a ha u e => by rw [frz_in ha]; exact e

/-! ## displays -/
/-- the frozen data of values -/
def W.fzs : List W → (List D → Prop) → Prop
  | [], k => k []
  | .dat d :: r, k => fzs r fun ds => k (d :: ds)
  | .new o :: r, k => fzs r fun ds => k (o.d :: ds)
  | .rdo d :: r, k => d.scal = true ∧ fzs r fun ds => k (d :: ds)
  | _ :: _, _ => False
@[simp ↓] theorem eW_fzs_1 (k : List DL.D → Prop) : W.fzs [] k = k [] := by first | rfl | exact propext Iff.rfl
@[simp ↓] theorem eW_fzs_2 (d : DL.D) (r : List W) (k : List DL.D → Prop) : W.fzs (.dat d :: r) k = W.fzs r fun ds => k (d :: ds) := by first | rfl | exact propext Iff.rfl
@[simp ↓] theorem eW_fzs_3 (o : O) (r : List W) (k : List DL.D → Prop) : W.fzs (.new o :: r) k = W.fzs r fun ds => k (o.d :: ds) := by first | rfl | exact propext Iff.rfl
@[simp ↓] theorem eW_fzs_4 (d : DL.D) (r : List W) (k : List DL.D → Prop) : W.fzs (.rdo d :: r) k = (d.scal = true ∧ W.fzs r fun ds => k (d :: ds)) := by first | rfl | exact propext Iff.rfl
/-- owned children -/
def W.kids : List W → (List O → Prop) → Prop
  | [], k => k []
  | .dat d :: r, k => kids r fun os => k (.fz d :: os)
  | .new o :: r, k => kids r fun os => k (o :: os)
  | .rdo d :: r, k => d.scal = true ∧ kids r fun os => k (.fz d :: os)
  | _ :: _, _ => False
@[simp ↓] theorem eW_kids_1 (k : List O → Prop) : W.kids [] k = k [] := by first | rfl | exact propext Iff.rfl
@[simp ↓] theorem eW_kids_2 (d : DL.D) (r : List W) (k : List O → Prop) : W.kids (.dat d :: r) k = W.kids r fun ds => k (.fz d :: ds) := by first | rfl | exact propext Iff.rfl
@[simp ↓] theorem eW_kids_3 (o : O) (r : List W) (k : List O → Prop) : W.kids (.new o :: r) k = W.kids r fun ds => k (o :: ds) := by first | rfl | exact propext Iff.rfl
@[simp ↓] theorem eW_kids_4 (d : DL.D) (r : List W) (k : List O → Prop) : W.kids (.rdo d :: r) k = (d.scal = true ∧ W.kids r fun ds => k (.fz d :: ds)) := by first | rfl | exact propext Iff.rfl
theorem RepWs.kids : ∀ {vs : List V} {B : List Addr} {xs : List W} {k : List O → Prop}, RepWs K fx F G H S A vs B xs → W.kids xs k → ∃ os, RepOs K F H vs os B ∧ B.Nodup ∧ (∀ b ∈ B, G b = none ∧ fx.st ≠ some b) ∧ k os
  | _, _, _, _, .nil, h => ⟨[], .nil, .nil, (fun _ z => by cases z), h⟩
  | _, _, _, _, .cons (x := .dat d) r t n, h => by
    obtain ⟨os, h1, h2, h3, h4⟩ := RepWs.kids t h
    obtain ⟨r1, rfl⟩ := r
    exact ⟨_, .cons (As := []) (.fz r1) h1, h2, h3, h4⟩
  | _, _, _, _, .cons (x := .rdo d) r t n, h => by
    obtain ⟨os, h1, h2, h3, h4⟩ := RepWs.kids t h.2
    obtain ⟨r1, rfl⟩ := r
    exact ⟨_, .cons (As := []) (.fz (r1.scal h.1)) h1, h2, h3, h4⟩
  | _, _, _, _, .cons (x := .new o) r t n, h => by
    obtain ⟨os, h1, h2, h3, h4⟩ := RepWs.kids t h
    obtain ⟨r1, r2, r3⟩ := r
    exact ⟨_, .cons r1 h1, List.nodup_append.mpr ⟨r2, h2, fun a ha b hb e => n a ha (e ▸ hb)⟩, fun b hb => (List.mem_append.mp hb).elim (r3 b) (h3 b), h4⟩
  | _, _, _, _, .cons (x := .ref _ _ _) r t n, h => h.elim
  | _, _, _, _, .cons (x := .sto) r t n, h => h.elim
theorem W.kids_fzs : ∀ {xs : List W} {k : List D → Prop}, W.fzs xs k → W.kids xs fun os => k (O.ds os)
  | [], _, h => h
  | .dat d :: r, k, h => kids_fzs (xs := r) (k := fun ds => k (d :: ds)) h
  | .new o :: r, k, h => kids_fzs (xs := r) (k := fun ds => k (o.d :: ds)) h
  | .rdo d :: r, k, h => ⟨h.1, kids_fzs (xs := r) (k := fun ds => k (d :: ds)) h.2⟩
  | .ref _ _ _ :: _, _, h => h.elim
  | .sto :: _, _, h => h.elim
@[simp ↓] def wNil : WA := fun _ _ Q => Q []
@[simp ↓] def wCons (wa : WE) (wr : WA) : WA := fun xp S Q => wa xp S fun x => wr xp S fun xs => Q (x :: xs)
/-- [..] of owned things; [..] of frozen things; (..) -/
@[simp ↓] def wLstO (wa : WA) : WE := fun xp S Q => wa xp S fun xs => xs.length ≤ 100000 ∧ W.kids xs fun os => Q (.new (.lst os))
@[simp ↓] def wLst (wa : WA) : WE := fun xp S Q => wa xp S fun xs => xs.length ≤ 100000 ∧ W.fzs xs fun ds => Q (.new (.fl ds))
@[simp ↓] def wTup (wa : WA) : WE := fun xp S Q => wa xp S fun xs => xs.length ≤ 100000 ∧ W.fzs xs fun ds => Q (.dat (.tup ds))
theorem RepWs.length : ∀ {vs : List V} {B : List Addr} {xs : List W}, RepWs K fx F G H S A vs B xs → vs.length = xs.length
  | _, _, _, .nil => rfl
  | _, _, _, .cons _ t _ => by rw [List.length_cons, List.length_cons, RepWs.length t]
theorem line_of {n : Nat} (h : n ≤ 100000) : n ≤ sizeLine := Nat.le_trans h (by decide)
theorem Cons.fnone (c : Cons K fx F G H σ S A) {b : Addr} (h : G b = none) : F b = none := by
  cases q : F b with
  | none => rfl
  | some o =>
    have := c.fg b o q
    rw [h] at this
    cases this
theorem Cons.noA (c : Cons K fx F G H σ S A) {b : Addr} (h : H b = none) (i : Nat) : b ∉ A i := fun z => by
  obtain ⟨o, e⟩ := c.ah i b z
  rw [h] at e
  cases e
variable {Wx : WX} {ta : TA} {wa : WA} {te : TE} {we : WE}
theorem SndA.nil : SndA K Wx tNil wNil := fun fx xp F G H σ S A Qd Q xr c hw q => q [] [] F G H [] .refl c .nil (fun _ z => by cases z) hw
theorem SndA.cons (he : Snd K Wx te we) (ha : SndA K Wx ta wa) : SndA K Wx (tCons te ta) (wCons we wa) := fun fx xp F G H σ S A Qd Q xr c hw q => by
  refine he fx xp F G H σ S A _ _ xr c hw fun v x F1 G1 H1 B g1 c1 r1 n1 q1 => ?_
  refine ha fx xp F1 G1 H1 σ S A _ _ xr c1 q1 fun vs xs F2 G2 H2 B' g2 c2 r2 n2 q2 => ?_
  refine q (v :: vs) (x :: xs) F2 G2 H2 (B ++ B') (g1.trans g2) c2 (.cons (r1.grow c1 g2) r2 fun b hb z => ?_) (fun b hb => ?_) q2
  · obtain ⟨w, hw⟩ := r1.there c1 b hb
    rw [n2 b z] at hw
    cases hw
  · rcases List.mem_append.mp hb with hb | hb
    · exact n1 b hb
    · exact g1.hn b (n2 b hb)
theorem Snd.lstO (ha : SndA K Wx ta wa) : Snd K Wx (tLst ta) (wLstO wa) := fun fx xp F G H σ S A Qd Q xr c hw q => by
  refine ha fx xp F G H σ S A _ _ xr c hw fun vs xs F1 G1 H1 B g1 c1 r1 n1 q1 => ?_
  obtain ⟨os, h1, h2, h3, h4⟩ := r1.kids q1.2
  refine ⟨by rw [r1.length]; exact line_of q1.1, fun p hp => ?_⟩
  obtain ⟨g2, c2⟩ := c1.laid (o := .lst vs) hp
  have hpn : G1 p = none := by
    cases e : G1 p with
    | none => rfl
    | some o =>
      have := c1.gh p o e
      rw [hp] at this
      cases this
  have hps : fx.st ≠ some p := fun e => by
    obtain ⟨ns, z, _⟩ := (c1.sto p e).2.2.1
    rw [hp] at z
    cases z
  have hpB : p ∉ B := fun z => by
    obtain ⟨o, e⟩ := h1.there p z
    rw [hp] at e
    cases e
  refine q (.ref p) (.new (.lst os)) F1 G1 _ (p :: B) (g1.trans g2) c2 ⟨.lst upd_same (h1.mono (.refl _) fun a ha u e => sub_upd hp a u e), List.nodup_cons.mpr ⟨hpB, h2⟩, fun b hb => ?_⟩ (fun b hb => ?_) h4
  · rcases List.mem_cons.mp hb with rfl | hb
    · exact ⟨hpn, hps⟩
    · exact h3 b hb
  · rcases List.mem_cons.mp hb with rfl | hb
    · exact g1.hn b hp
    · exact n1 b hb
/-- values, their new cells frozen -/
theorem SndA.frozen (ha : SndA K Wx ta wa) {fx : Fx} {xp : Xp} {F G H : Hp} {σ : L2.St} {S : List Slot} {A : Nat → List Addr} {Qd : List D → Prop} {Q : List V → Hp → Prop} (xr : XRel K fx Wx xp) (c : Cons K fx F G H σ S A)
    (hw : wa xp S fun xs => xs.length ≤ 100000 ∧ W.fzs xs Qd) (q : ∀ vs ds F' G' H', Grow fx F G H F' G' H' → Cons K fx F' G' H' σ S A → Reps K F' vs ds → vs.length ≤ 100000 → Qd ds → Q vs H') : ta σ H Q := by
  refine ha fx xp F G H σ S A _ _ xr c hw fun vs xs F1 G1 H1 B g1 c1 r1 n1 q1 => ?_
  obtain ⟨os, h1, h2, h3, h4⟩ := r1.kids (W.kids_fzs q1.2)
  exact q vs _ _ _ H1 (Grow.frz c1 g1 (fun b hb => (h3 b hb).1) n1) (c1.freeze fun b hb => ⟨(h3 b hb).1, (h3 b hb).2, c.hn b (n1 b hb), fun i => c.noA (n1 b hb) i⟩)
    (h1.frozen fun b hb => c1.fnone (h3 b hb).1) (by rw [r1.length]; exact q1.1) h4
/-- p new beside a state -/
theorem Cons.new (c : Cons K fx F G H σ S A) {p : Addr} (hp : H p = none) : G p = none ∧ F p = none ∧ fx.st ≠ some p ∧ ∀ i, p ∉ A i := by
  have hG : G p = none := by
    cases e : G p with
    | none => rfl
    | some o =>
      have := c.gh p o e
      rw [hp] at this
      cases this
  refine ⟨hG, c.fnone hG, fun e => ?_, fun i => c.noA hp i⟩
  obtain ⟨ns, z, _⟩ := (c.sto p e).2.2.1
  rw [hp] at z
  cases z
/-- a new flat list; a new tuple -/
theorem Cons.newL (c : Cons K fx F G H σ S A) {p : Addr} {vs : List V} {ds : List D} (hp : H p = none) (r : Reps K F vs ds) : Grow fx F G H F G (upd H p (.lst vs)) ∧ Cons K fx F G (upd H p (.lst vs)) σ S A ∧ RepW K fx F G (upd H p (.lst vs)) S A (.ref p) [p] (.new (.fl ds)) := by
  obtain ⟨g2, c2⟩ := c.laid (o := .lst vs) hp
  obtain ⟨n1, n2, n3, n4⟩ := c.new hp
  exact ⟨g2, c2, .fl upd_same r, List.nodup_cons.mpr ⟨List.not_mem_nil, .nil⟩, fun b hb => by
    rw [List.mem_singleton.mp hb]
    exact ⟨n1, n3⟩⟩
theorem Cons.newT (c : Cons K fx F G H σ S A) {p : Addr} {vs : List V} {ds : List D} (hp : H p = none) (r : Reps K F vs ds) :
    ∃ F' G', Grow fx F G H F' G' (upd H p (.tup vs)) ∧ Cons K fx F' G' (upd H p (.tup vs)) σ S A ∧ Rep K F' (.ref p) (.tup ds) := by
  obtain ⟨g2, c2⟩ := c.laid (o := .tup vs) hp
  obtain ⟨n1, n2, n3, n4⟩ := c.new hp
  refine ⟨_, _, Grow.frz (B := [p]) c2 g2 (fun b hb => by rw [List.mem_singleton.mp hb]; exact n1) (fun b hb => by rw [List.mem_singleton.mp hb]; exact hp), c2.freeze fun b hb => ?_, .tup ?_ (r.mono (sub_frz fun b hb => by rw [List.mem_singleton.mp hb]; exact n2))⟩
  · rw [List.mem_singleton.mp hb]
    exact ⟨n1, n3, c.hn p hp, n4⟩
  · rw [frz_in (List.mem_singleton.mpr rfl)]
    exact upd_same
theorem Snd.lst (ha : SndA K Wx ta wa) : Snd K Wx (tLst ta) (wLst wa) := fun fx xp F G H σ S A Qd Q xr c hw q => by
  refine ha.frozen xr c hw fun vs ds F1 G1 H1 g1 c1 r1 l1 q1 => ⟨line_of l1, fun p hp => ?_⟩
  obtain ⟨g2, c2, r2⟩ := c1.newL hp r1
  exact q _ _ _ _ _ _ (g1.trans g2) c2 r2 (fun b hb => by rw [List.mem_singleton.mp hb]; exact g1.hn p hp) q1
theorem Snd.tup (ha : SndA K Wx ta wa) : Snd K Wx (tTup ta) (wTup wa) := fun fx xp F G H σ S A Qd Q xr c hw q => by
  refine ha.frozen xr c hw fun vs ds F1 G1 H1 g1 c1 r1 l1 q1 => ⟨line_of l1, fun p hp => ?_⟩
  obtain ⟨F2, G2, g2, c2, r2⟩ := c1.newT hp r1
  exact q _ (.dat _) _ _ _ [] (g1.trans g2) c2 ⟨r2, rfl⟩ (fun b hb => by cases hb) q1
end
section
variable {X : Cx} {Wx : WX} {e : Expr} {es : List Expr} {te : TE} {ta : TA} {we : WE} {wa : WA} {pos : Pos}
theorem ad_nil : AdD X Wx [] tNil wNil := ⟨pa_nil, SndA.nil⟩
theorem ad_cons (he : PdD X Wx e te we) (ha : AdD X Wx es ta wa) (hs : starEach (e :: es) X.env = (false, eval e X.env) :: starEach es X.env := by rfl) : AdD X Wx (e :: es) (tCons te ta) (wCons we wa) := ⟨pa_cons he.pe ha.pa hs, SndA.cons he.ok ha.ok⟩
theorem pd_lst (ha : AdD X Wx es ta wa) : PdD X Wx (.List es pos) (tLst ta) (wLst wa) := ⟨pe_lst ha.pa, Snd.lst ha.ok⟩
theorem pd_lstO (ha : AdD X Wx es ta wa) : PdD X Wx (.List es pos) (tLst ta) (wLstO wa) := ⟨pe_lst ha.pa, Snd.lstO ha.ok⟩
theorem pd_tup {x1} (ha : AdD X Wx es ta wa) : PdD X Wx (.Tuple es x1 pos) (tTup ta) (wTup wa) := ⟨pe_tup ha.pa, Snd.tup ha.ok⟩
end
end DL

namespace DL
open PySem PySem.Spec PyProof.Rows L2

section
variable {K : PySem.W.Frag} {fx : Fx} {F G H F' G' H' : Hp} {σ : L2.St} {S : List Slot} {A : Nat → List Addr} {v : V} {B : List Addr} {x : W}

/-! ## items -/
/-- an item of frozen data stays frozen; of data that is only read it is only read, but for scalars -/
def rdW (d : D) : W := match d with
  | .non => .dat .non | .bl b => .dat (.bl b) | .int i => .dat (.int i) | .str s => .dat (.str s) | d => .rdo d
@[simp ↓] theorem erdW_1   : rdW .non = .dat .non := by first | rfl | exact propext Iff.rfl
@[simp ↓] theorem erdW_2 (b : Bool) : rdW (.bl b) = .dat (.bl b) := by first | rfl | exact propext Iff.rfl
@[simp ↓] theorem erdW_3 (i : Int) : rdW (.int i) = .dat (.int i) := by first | rfl | exact propext Iff.rfl
@[simp ↓] theorem erdW_4 (s : Str) : rdW (.str s) = .dat (.str s) := by first | rfl | exact propext Iff.rfl
@[simp ↓] theorem erdW_5 (xs : List DL.D) : rdW (.lst xs) = .rdo (.lst xs) := by first | rfl | exact propext Iff.rfl
@[simp ↓] theorem erdW_6 (xs : List DL.D) : rdW (.tup xs) = .rdo (.tup xs) := by first | rfl | exact propext Iff.rfl
@[simp ↓] theorem erdW_8 (kvs : List (Key × DL.D)) : rdW (.dic kvs) = .rdo (.dic kvs) := rfl
@[simp ↓] theorem erdW_9 (kvs : List (List Key × DL.D)) : rdW (.dit kvs) = .rdo (.dit kvs) := rfl
@[simp ↓] theorem erdW_10 (a : Addr) (o : HO) : rdW (.raw a o) = .rdo (.raw a o) := rfl
@[simp ↓] theorem erdW_7 (C : Addr) (fs : List (Str × DL.D)) : rdW (.obj C fs) = .rdo (.obj C fs) := by first | rfl | exact propext Iff.rfl
theorem rdW_rep {d : D} (r : Rep K G v d) : RepW K fx F G H S A v [] (rdW d) := by
  cases r with
  | non => exact ⟨.non, rfl⟩
  | bl b => exact ⟨.bl b, rfl⟩
  | int i => exact ⟨.int i, rfl⟩
  | str s => exact ⟨.str s, rfl⟩
  | lst h r => exact ⟨.lst h r, rfl⟩
  | tup h r => exact ⟨.tup h r, rfl⟩
  | obj h r => exact ⟨.obj h r, rfl⟩
  | dic h r => exact ⟨.dic h r, rfl⟩
  | dit h r => exact ⟨.dit h r, rfl⟩
  | raw h => exact ⟨.raw h, rfl⟩
/-- a child of an owned node -/
def kidW (i : Nat) (p : List Pk) (k : Pk) (o : O) : W := match o with
  | .fz d => .dat d
  | o => .ref i (p ++ [k]) o
@[simp ↓] theorem ekidW_5 (i : Nat) (p : List Pk) (k : Pk) (kvs : List (Key × DL.D)) : kidW i p k (.dic kvs) = .ref i (p ++ [k]) (.dic kvs) := rfl
@[simp ↓] theorem ekidW_6 (i : Nat) (p : List Pk) (k : Pk) (kvs : List (List Key × DL.D)) : kidW i p k (.dit kvs) = .ref i (p ++ [k]) (.dit kvs) := rfl
@[simp ↓] theorem ekidW_1 (i : Nat) (p : List Pk) (k : Pk) (d : DL.D) : kidW i p k (.fz d) = .dat d := by first | rfl | exact propext Iff.rfl
@[simp ↓] theorem ekidW_2 (i : Nat) (p : List Pk) (k : Pk) (ds : List DL.D) : kidW i p k (.fl ds) = .ref i (p ++ [k]) (.fl ds) := by first | rfl | exact propext Iff.rfl
@[simp ↓] theorem ekidW_3 (i : Nat) (p : List Pk) (k : Pk) (ds : List O) : kidW i p k (.lst ds) = .ref i (p ++ [k]) (.lst ds) := by first | rfl | exact propext Iff.rfl
@[simp ↓] theorem ekidW_4 (i : Nat) (p : List Pk) (k : Pk) (C : Addr) (fs : List (Str × O)) : kidW i p k (.obj C fs) = .ref i (p ++ [k]) (.obj C fs) := by first | rfl | exact propext Iff.rfl
/-- x[i], i a number -/
def W.at (x : W) (i : Int) (k : W → Prop) : Prop := match x with
  | .dat (.lst ds) => ∃ d, atI ds i = some d ∧ k (.dat d)
  | .dat (.tup ds) => ∃ d, atI ds i = some d ∧ k (.dat d)
  | .dat (.str s) => s.length ≤ sizeLine ∧ ∃ c, atI s.cps.toList i = some c ∧ k (.dat (.str ⟨#[c]⟩))
  | .rdo (.lst ds) => ∃ d, atI ds i = some d ∧ k (rdW d)
  | .rdo (.tup ds) => ∃ d, atI ds i = some d ∧ k (rdW d)
  | .new (.fl ds) => ∃ d, atI ds i = some d ∧ k (.dat d)
  | .ref _ _ (.fl ds) => ∃ d, atI ds i = some d ∧ k (.dat d)
  | .ref j p (.lst os) => ∃ n o, ixN os.length i = some n ∧ os[n]? = some o ∧ k (kidW j p (.ix n) o)
  | _ => False
@[simp ↓] theorem eW_at_1 (ds : List DL.D) (i : Int) (k : W → Prop) : (W.dat (.lst ds)).at i k = ∃ d, atI ds i = some d ∧ k (.dat d) := by first | rfl | exact propext Iff.rfl
@[simp ↓] theorem eW_at_2 (ds : List DL.D) (i : Int) (k : W → Prop) : (W.dat (.tup ds)).at i k = ∃ d, atI ds i = some d ∧ k (.dat d) := by first | rfl | exact propext Iff.rfl
@[simp ↓] theorem eW_at_3 (s : Str) (i : Int) (k : W → Prop) : (W.dat (.str s)).at i k = (s.length ≤ sizeLine ∧ ∃ c, atI s.cps.toList i = some c ∧ k (.dat (.str ⟨#[c]⟩))) := by first | rfl | exact propext Iff.rfl
@[simp ↓] theorem eW_at_4 (ds : List DL.D) (i : Int) (k : W → Prop) : (W.rdo (.lst ds)).at i k = ∃ d, atI ds i = some d ∧ k (rdW d) := by first | rfl | exact propext Iff.rfl
@[simp ↓] theorem eW_at_5 (ds : List DL.D) (i : Int) (k : W → Prop) : (W.rdo (.tup ds)).at i k = ∃ d, atI ds i = some d ∧ k (rdW d) := by first | rfl | exact propext Iff.rfl
@[simp ↓] theorem eW_at_6 (ds : List DL.D) (i : Int) (k : W → Prop) : (W.new (.fl ds)).at i k = ∃ d, atI ds i = some d ∧ k (.dat d) := by first | rfl | exact propext Iff.rfl
@[simp ↓] theorem eW_at_7 (j : Nat) (p : List Pk) (ds : List DL.D) (i : Int) (k : W → Prop) : (W.ref j p (.fl ds)).at i k = ∃ d, atI ds i = some d ∧ k (.dat d) := by first | rfl | exact propext Iff.rfl
@[simp ↓] theorem eW_at_8 (j : Nat) (p : List Pk) (os : List O) (i : Int) (k : W → Prop) : (W.ref j p (.lst os)).at i k = ∃ n o, ixN os.length i = some n ∧ os[n]? = some o ∧ k (kidW j p (.ix n) o) := by first | rfl | exact propext Iff.rfl
theorem atI_reps {vs : List V} {ds : List D} {i : Int} {d : D} (r : Reps K F vs ds) (h : atI ds i = some d) : ∃ v, atI vs i = some v ∧ Rep K F v d := by
  unfold atI at h ⊢
  rw [r.length]
  cases e : ixN ds.length i with
  | none => rw [e] at h; cases h
  | some j =>
    rw [e] at h
    exact r.get h
theorem Nod.snoc {v w : V} {o q : O} {p : List Pk} (h : Nod H v o p w q) : ∀ {u : V} {z : O} {k : Pk}, Nod H w q [k] u z → Nod H v o (p ++ [k]) u z := by
  induction h with
  | here => exact fun h => h
  | ix h1 h2 h3 h4 ih => exact fun h => .ix h1 h2 h3 (ih h)
  | fx h1 h2 h3 => intro u z k h; cases h
  | fd h1 h2 h3 h4 ih => exact fun h => .fd h1 h2 h3 (ih h)
theorem kid_rep {i : Nat} {p : List Pk} {k : Pk} {o o1 : O} {v v1 : V} {As : List Addr} (h : ∃ a o0, S[i]? = some (.own a o0) ∧ Nod H (.ref a) o0 p v1 o1) (hk : Nod H v1 o1 [k] v o) (r : RepO K F H v o As) (s : ∀ a ∈ As, a ∈ A i) : RepW K fx F G H S A v [] (kidW i p k o) := by
  obtain ⟨a, o0, e, n⟩ := h
  have g : ∀ {o : O}, Nod H v1 o1 [k] v o → RepO K F H v o As → RepW K fx F G H S A v [] (.ref i (p ++ [k]) o) := fun hk r => ⟨rfl, ⟨a, o0, e, n.snoc hk⟩, As, r, s⟩
  cases o with
  | fz d =>
    cases r with
    | fz h => exact ⟨h, rfl⟩
  | fl ds => exact g hk r
  | lst os => exact g hk r
  | obj C fs => exact g hk r
  | dic kvs => exact g hk r
  | dit kvs => exact g hk r
theorem RepW.at {i : Int} {k : W → Prop} (c : Cons K fx F G H σ S A) (r : RepW K fx F G H S A v B x) (h : x.at i k) (Q : VK) (q : ∀ w y, RepW K fx F G H S A w [] y → k y → Q w H) : rIx K v (.int i) H Q := by
  have ls : ∀ {a : Addr} {vs : List V} {w : V}, SqL K H a vs → atI vs i = some w → Q w H → rIx K (.ref a) (.int i) H Q := fun h1 h2 h3 => .inl ⟨_, _, _, _, rfl, rfl, h1, h2, h3⟩
  have ts : ∀ {a : Addr} {vs : List V} {w : V}, SqT K H a vs → atI vs i = some w → Q w H → rIx K (.ref a) (.int i) H Q := fun h1 h2 h3 => .inr (.inl ⟨_, _, _, _, rfl, rfl, h1, h2, h3⟩)
  cases x with
  | dat d =>
    obtain ⟨r, rfl⟩ := r
    cases r with
    | lst h1 h2 =>
      obtain ⟨d, e, z⟩ := h
      obtain ⟨w, e', rw⟩ := atI_reps h2 e
      exact ls (ql (c.gh _ _ (c.fg _ _ h1))) e' (q w (.dat d) ⟨rw, rfl⟩ z)
    | tup h1 h2 =>
      obtain ⟨d, e, z⟩ := h
      obtain ⟨w, e', rw⟩ := atI_reps h2 e
      exact ts (sub_t (c.fg.trans c.gh) (qt h1)) e' (q w (.dat d) ⟨rw, rfl⟩ z)
    | str s =>
      obtain ⟨l, cc, e, z⟩ := h
      exact .inr (.inr ⟨s, i, cc, rfl, rfl, l, e, q _ (.dat (.str ⟨#[cc]⟩)) ⟨.str _, rfl⟩ z⟩)
    | _ => exact h.elim
  | rdo d =>
    obtain ⟨r, rfl⟩ := r
    cases r with
    | lst h1 h2 =>
      obtain ⟨d, e, z⟩ := h
      obtain ⟨w, e', rw⟩ := atI_reps h2 e
      exact ls (ql (c.gh _ _ h1)) e' (q w _ (rdW_rep rw) z)
    | tup h1 h2 =>
      obtain ⟨d, e, z⟩ := h
      obtain ⟨w, e', rw⟩ := atI_reps h2 e
      exact ts (sub_t c.gh (qt h1)) e' (q w _ (rdW_rep rw) z)
    | _ => exact h.elim
  | new o =>
    obtain ⟨r, _, _⟩ := r
    cases r with
    | fl h1 h2 =>
      obtain ⟨d, e, z⟩ := h
      obtain ⟨w, e', rw⟩ := atI_reps h2 e
      exact ls (.inl (.inl h1)) e' (q w (.dat d) ⟨rw, rfl⟩ z)
    | _ => exact h.elim
  | ref j p o =>
    obtain ⟨_, n, As, r, s⟩ := r
    cases r with
    | fl h1 h2 =>
      obtain ⟨d, e, z⟩ := h
      obtain ⟨w, e', rw⟩ := atI_reps h2 e
      exact ls (.inl (.inl h1)) e' (q w (.dat d) ⟨rw, rfl⟩ z)
    | lst h1 h2 =>
      obtain ⟨m, o, e1, e2, z⟩ := h
      obtain ⟨w, A', e3, r', s'⟩ := h2.get e2
      refine ls (.inl (.inl h1)) ?_ (q w _ (kid_rep n (.ix h1 e3 e2 .here) r' fun a ha => s a (List.mem_cons_of_mem _ (s' a ha))) z)
      unfold atI
      rw [h2.length, e1]
      exact e3
    | _ => exact h.elim
  | sto => exact h.elim
@[simp ↓] def wIx (wa wi : WE) : WE := fun xp S Q => wa xp S fun x => wi xp S fun y => match y with
  | .dat (.int i) => x.at i Q
  | _ => False
variable {Wx : WX} {ta tb te : TE} {wa wb we : WE}
theorem Snd.ix (ha : Snd K Wx ta wa) (hb : Snd K Wx tb wb) : Snd K Wx (tOp (rIx K) ta tb) (wIx wa wb) := fun fx xp F G H σ S A Qd Q xr c hw q => by
  refine Snd.two (Q := fun v u H2 => rIx K v u H2 Q) ha hb xr c hw fun v x u y F' G' H' B B' gr c' r1 r2 n1 n2 hq => ?_
  cases y with
  | dat d =>
    cases d with
    | int i =>
      cases r2.1
      exact r1.at c' hq Q fun w y rw z => q w y F' G' H' [] gr c' rw (fun b hb => by cases hb) z
    | _ => exact hq.elim
  | _ => exact hq.elim

/-! ## whole sequences of frozen items -/
/-- a list's items, all frozen -/
def W.its (x : W) (k : List D → Prop) : Prop := match x with
  | .dat (.lst ds) => k ds
  | .new (.fl ds) => k ds
  | .ref _ _ (.fl ds) => k ds
  | .rdo (.lst ds) => ds.all D.scal = true ∧ k ds
  | _ => False
@[simp ↓] theorem eW_its_1 (ds : List DL.D) (k : List DL.D → Prop) : (W.dat (.lst ds)).its k = k ds := by first | rfl | exact propext Iff.rfl
@[simp ↓] theorem eW_its_2 (ds : List DL.D) (k : List DL.D → Prop) : (W.new (.fl ds)).its k = k ds := by first | rfl | exact propext Iff.rfl
@[simp ↓] theorem eW_its_3 (j : Nat) (p : List Pk) (ds : List DL.D) (k : List DL.D → Prop) : (W.ref j p (.fl ds)).its k = k ds := by first | rfl | exact propext Iff.rfl
@[simp ↓] theorem eW_its_4 (ds : List DL.D) (k : List DL.D → Prop) : (W.rdo (.lst ds)).its k = (ds.all DL.D.scal = true ∧ k ds) := by first | rfl | exact propext Iff.rfl
theorem Reps.scal : ∀ {vs : List V} {ds : List D}, Reps K F vs ds → ds.all D.scal = true → Reps K F' vs ds
  | _, _, .nil, _ => .nil
  | _, _, .cons h r, s => by
    rw [List.all_cons, Bool.and_eq_true] at s
    exact .cons (h.scal s.1) (Reps.scal r s.2)
theorem RepW.its {k : List D → Prop} (c : Cons K fx F G H σ S A) (r : RepW K fx F G H S A v B x) (h : x.its k) : ∃ a vs ds, v = .ref a ∧ H a = some (.lst vs) ∧ Reps K F vs ds ∧ k ds := by
  cases x with
  | dat d =>
    obtain ⟨r, rfl⟩ := r
    cases r with
    | lst h1 h2 => exact ⟨_, _, _, rfl, c.gh _ _ (c.fg _ _ h1), h2, h⟩
    | _ => exact h.elim
  | rdo d =>
    obtain ⟨r, rfl⟩ := r
    cases r with
    | lst h1 h2 => exact ⟨_, _, _, rfl, c.gh _ _ h1, h2.scal h.1, h.2⟩
    | _ => exact h.elim
  | new o =>
    obtain ⟨r, _, _⟩ := r
    cases r with
    | fl h1 h2 => exact ⟨_, _, _, rfl, h1, h2, h⟩
    | _ => exact h.elim
  | ref j p o =>
    obtain ⟨_, n, As, r, s⟩ := r
    cases r with
    | fl h1 h2 => exact ⟨_, _, _, rfl, h1, h2, h⟩
    | _ => exact h.elim
  | sto => exact h.elim
def W.tits (x : W) (k : List D → Prop) : Prop := match x with
  | .dat (.tup ds) => k ds
  | .rdo (.tup ds) => ds.all D.scal = true ∧ k ds
  | _ => False
@[simp ↓] theorem eW_tits_1 (ds : List DL.D) (k : List DL.D → Prop) : (W.dat (.tup ds)).tits k = k ds := by first | rfl | exact propext Iff.rfl
@[simp ↓] theorem eW_tits_2 (ds : List DL.D) (k : List DL.D → Prop) : (W.rdo (.tup ds)).tits k = (ds.all DL.D.scal = true ∧ k ds) := by first | rfl | exact propext Iff.rfl
theorem RepW.tits {k : List D → Prop} (c : Cons K fx F G H σ S A) (r : RepW K fx F G H S A v B x) (h : x.tits k) : ∃ a vs ds, v = .ref a ∧ SqT K H a vs ∧ Reps K F vs ds ∧ k ds := by
  cases x with
  | dat d =>
    obtain ⟨r, rfl⟩ := r
    cases r with
    | tup h1 h2 => exact ⟨_, _, _, rfl, sub_t (c.fg.trans c.gh) (qt h1), h2, h⟩
    | _ => exact h.elim
  | rdo d =>
    obtain ⟨r, rfl⟩ := r
    cases r with
    | tup h1 h2 => exact ⟨_, _, _, rfl, sub_t c.gh (qt h1), h2.scal h.1, h.2⟩
    | _ => exact h.elim
  | _ => exact h.elim

/-! ## slices -/
def cutG {α : Type} (xs : List α) (lo hi : Option Int) : List α := (xs.drop (HT.sIx xs.length 0 lo)).take (HT.sIx xs.length xs.length hi - HT.sIx xs.length 0 lo)
theorem Reps.cut {vs : List V} {ds : List D} (r : Reps K F vs ds) (lo hi : Option Int) : Reps K F (cutV vs lo hi) (cutG ds lo hi) := by
  unfold cutV cutG
  rw [r.length]
  exact (r.drop _).take _
abbrev WO := Xp → List Slot → (Option Int → Prop) → Prop
def SndO (K : PySem.W.Frag) (Wx : WX) (t : TO) (w : WO) : Prop := ∀ (fx : Fx) (xp : Xp) F G H σ S A Qd (Q : Option Int → Hp → Prop), XRel K fx Wx xp → Cons K fx F G H σ S A → w xp S Qd →
    (∀ o F' G' H', Grow fx F G H F' G' H' → Cons K fx F' G' H' σ S A → Qd o → Q o H') → t σ H Q
@[simp ↓] def wNoP : WO := fun _ _ Q => Q none
@[simp ↓] def wPart (we : WE) : WO := fun xp S Q => we xp S fun x => match x with
  | .dat (.int i) => Q (some i)
  | _ => False
theorem SndO.none : SndO K Wx tNoPart wNoP := fun fx xp F G H σ S A Qd Q xr c hw q => q _ F G H .refl c hw
theorem SndO.some (he : Snd K Wx te we) : SndO K Wx (tPart te) (wPart we) := fun fx xp F G H σ S A Qd Q xr c hw q => by
  refine he fx xp F G H σ S A _ _ xr c hw fun v x F1 G1 H1 B g1 c1 r1 n1 q1 => ?_
  cases x with
  | dat d =>
    cases d with
    | int i =>
      cases r1.1
      exact ⟨i, rfl, q (Option.some i) F1 G1 H1 g1 c1 q1⟩
    | _ => exact q1.elim
  | _ => exact q1.elim
/-- xs[a:b] of a list or a text -/
def W.cut (x : W) (lo hi : Option Int) (k : W → Prop) : Prop := match x with
  | .dat (.str s) => s.length ≤ sizeLine ∧ k (.dat (.str (cutS s lo hi)))
  | x => x.its fun ds => k (.new (.fl (cutG ds lo hi)))
@[simp ↓] theorem eW_cut_1 (s : Str) (lo hi : Option Int) (k : W → Prop) : (W.dat (.str s)).cut lo hi k = (s.length ≤ sizeLine ∧ k (.dat (.str (cutS s lo hi)))) := by first | rfl | exact propext Iff.rfl
@[simp ↓] theorem eW_cut_2 (ds : List DL.D) (lo hi : Option Int) (k : W → Prop) : (W.dat (.lst ds)).cut lo hi k = k (.new (.fl (cutG ds lo hi))) := by first | rfl | exact propext Iff.rfl
@[simp ↓] theorem eW_cut_3 (ds : List DL.D) (lo hi : Option Int) (k : W → Prop) : (W.new (.fl ds)).cut lo hi k = k (.new (.fl (cutG ds lo hi))) := by first | rfl | exact propext Iff.rfl
@[simp ↓] theorem eW_cut_4 (j : Nat) (p : List Pk) (ds : List DL.D) (lo hi : Option Int) (k : W → Prop) : (W.ref j p (.fl ds)).cut lo hi k = k (.new (.fl (cutG ds lo hi))) := by first | rfl | exact propext Iff.rfl
@[simp ↓] theorem eW_cut_5 (ds : List DL.D) (lo hi : Option Int) (k : W → Prop) : (W.rdo (.lst ds)).cut lo hi k = (ds.all DL.D.scal = true ∧ k (.new (.fl (cutG ds lo hi)))) := by first | rfl | exact propext Iff.rfl
@[simp ↓] def wSl (wa : WE) (wl wh : WO) : WE := fun xp S Q => wa xp S fun x => wl xp S fun lo => wh xp S fun hi => x.cut lo hi Q
abbrev rSl (K : PySem.W.Frag) : V → Option Int → Option Int → Hp → VK → Prop := fun x lo hi H Q => rSlL K x lo hi H Q ∨ rSlS x lo hi H Q
theorem Snd.sl {tl th : TO} {wl wh : WO} (ha : Snd K Wx ta wa) (hl : SndO K Wx tl wl) (hh : SndO K Wx th wh) : Snd K Wx (tSl (rSl K) ta tl th) (wSl wa wl wh) := fun fx xp F G H σ S A Qd Q xr c hw q => by
  refine ha fx xp F G H σ S A _ _ xr c hw fun v x F1 G1 H1 B g1 c1 r1 n1 q1 => ?_
  refine hl fx xp F1 G1 H1 σ S A _ _ xr c1 q1 fun lo F2 G2 H2 g2 c2 q2 => ?_
  refine hh fx xp F2 G2 H2 σ S A _ _ xr c2 q2 fun hi F3 G3 H3 g3 c3 q3 => ?_
  have r3 := (r1.grow c1 g2).grow c2 g3
  have gr := (g1.trans g2).trans g3
  have ls : (x.its fun ds => Qd (.new (.fl (cutG ds lo hi)))) → rSl K v lo hi H3 Q := fun h => by
    obtain ⟨a, vs, ds, rfl, hs, hr, z⟩ := r3.its c3 h
    refine .inl ⟨a, vs, rfl, ql hs, fun p hp => ?_⟩
    obtain ⟨g4, c4, r4⟩ := c3.newL hp (hr.cut lo hi)
    exact q _ _ _ _ _ _ (gr.trans g4) c4 r4 (fun b hb => by rw [List.mem_singleton.mp hb]; exact gr.hn p hp) z
  cases x with
  | dat d =>
    cases d with
    | str s =>
      cases r3.1
      exact .inr ⟨s, rfl, q3.1, q _ (.dat _) _ _ _ [] gr c3 ⟨.str _, rfl⟩ (fun b hb => by cases hb) q3.2⟩
    | _ => exact ls q3
  | _ => exact ls q3

/-! ## tests -/
@[simp ↓] def D.tru : D → Bool
  | .non => false | .bl b => b | .int i => i != 0 | .str s => (s.length : Int) != 0 | .lst xs => !xs.isEmpty | .tup xs => !xs.isEmpty | .obj _ _ => true | .dic kvs => !kvs.isEmpty | _ => true
def gTru (d : D) (k : Bool → Prop) : Prop := match d with
  | .non => k false | .bl b => k b | .int i => k (i != 0) | .str s => s.length ≤ sizeLine ∧ k ((s.length : Int) != 0)
  | .lst xs => k (!xs.isEmpty) | .tup xs => k (!xs.isEmpty) | .dic kvs => k (!kvs.isEmpty) | _ => False
@[simp ↓] theorem egTru_1 (k : Bool → Prop) : gTru .non k = k false := by first | rfl | exact propext Iff.rfl
@[simp ↓] theorem egTru_2 (b : Bool) (k : Bool → Prop) : gTru (.bl b) k = k b := by first | rfl | exact propext Iff.rfl
@[simp ↓] theorem egTru_3 (i : Int) (k : Bool → Prop) : gTru (.int i) k = k (i != 0) := by first | rfl | exact propext Iff.rfl
@[simp ↓] theorem egTru_4 (s : Str) (k : Bool → Prop) : gTru (.str s) k = (s.length ≤ sizeLine ∧ k ((s.length : Int) != 0)) := by first | rfl | exact propext Iff.rfl
@[simp ↓] theorem egTru_5 (xs : List DL.D) (k : Bool → Prop) : gTru (.lst xs) k = k (!xs.isEmpty) := by first | rfl | exact propext Iff.rfl
@[simp ↓] theorem egTru_7 (xs : List (Key × DL.D)) (k : Bool → Prop) : gTru (.dic xs) k = k (!xs.isEmpty) := rfl
@[simp ↓] theorem egTru_6 (xs : List DL.D) (k : Bool → Prop) : gTru (.tup xs) k = k (!xs.isEmpty) := by first | rfl | exact propext Iff.rfl
@[simp ↓] def wTru (wa : WE) : WT := fun xp S Q => wa xp S fun x => x.dd fun d => gTru d Q
theorem isEmpty_repk {κ : Type} {vs : List (κ × V)} {ds : List (κ × D)} (r : Repk K F vs ds) : vs.isEmpty = ds.isEmpty := by cases r <;> rfl
theorem isEmpty_reps {vs : List V} {ds : List D} (r : Reps K F vs ds) : vs.isEmpty = ds.isEmpty := by cases r <;> rfl
theorem Snd.tru (ha : Snd K Wx ta wa) : SndT K Wx (fun σ H Q => ta σ H fun x H' => ∃ k, TruV K x H' k ∧ Q k H') (wTru wa) := fun fx xp F G H σ S A Qd Q xr c hw q => by
  refine ha fx xp F G H σ S A _ _ xr c hw fun v x F1 G1 H1 B g1 c1 r1 n1 q1 => ?_
  obtain ⟨nx, hq⟩ := W.dd_of q1
  have r := r1.rd c1 nx
  cases e : x.d with
  | obj C fs => rw [e] at hq; exact hq.elim
  | non => rw [e] at hq r; cases r; exact ⟨_, rfl, q _ _ _ _ g1 c1 hq⟩
  | bl b => rw [e] at hq r; cases r; exact ⟨_, rfl, q _ _ _ _ g1 c1 hq⟩
  | int b => rw [e] at hq r; cases r; exact ⟨_, rfl, q _ _ _ _ g1 c1 hq⟩
  | str b => rw [e] at hq r; cases r; exact ⟨_, ⟨hq.1, rfl⟩, q _ _ _ _ g1 c1 hq.2⟩
  | lst b =>
    rw [e] at hq r
    cases r with
    | lst h1 h2 => exact ⟨_, .inl ⟨_, ql h1, rfl⟩, q _ _ _ _ g1 c1 (by rw [isEmpty_reps h2]; exact hq)⟩
  | tup b =>
    rw [e] at hq r
    cases r with
    | tup h1 h2 => exact ⟨_, .inr (.inl ⟨_, qt h1, rfl⟩), q _ _ _ _ g1 c1 (by rw [isEmpty_reps h2]; exact hq)⟩
  | dic b =>
    rw [e] at hq r
    cases r with
    | dic h1 h2 => exact ⟨_, .inr (.inr ⟨_, h1, rfl⟩), q _ _ _ _ g1 c1 (by rw [isEmpty_repk h2]; exact hq)⟩
  | dit b => rw [e] at hq; exact hq.elim
  | raw _ _ => rw [e] at hq; exact hq.elim
variable {t u : TT} {wt wu : WT}
@[simp ↓] def wAnd (wt wu : WT) : WT := fun xp S Q => wt xp S fun b => if b = true then wu xp S Q else Q false
@[simp ↓] def wOr (wt wu : WT) : WT := fun xp S Q => wt xp S fun b => if b = true then Q true else wu xp S Q
@[simp ↓] def wNot (wt : WT) : WT := fun xp S Q => wt xp S fun b => Q (!b)
theorem SndT.and (h1 : SndT K Wx t wt) (h2 : SndT K Wx u wu) : SndT K Wx (tAnd t u) (wAnd wt wu) := fun fx xp F G H σ S A Qd Q xr c hw q => by
  refine h1 fx xp F G H σ S A _ _ xr c hw fun b F1 G1 H1 g1 c1 q1 => ?_
  cases b with
  | true => exact h2 fx xp F1 G1 H1 σ S A _ _ xr c1 q1 fun b F2 G2 H2 g2 c2 q2 => q b F2 G2 H2 (g1.trans g2) c2 q2
  | false => exact q false F1 G1 H1 g1 c1 q1
theorem SndT.or (h1 : SndT K Wx t wt) (h2 : SndT K Wx u wu) : SndT K Wx (tOr t u) (wOr wt wu) := fun fx xp F G H σ S A Qd Q xr c hw q => by
  refine h1 fx xp F G H σ S A _ _ xr c hw fun b F1 G1 H1 g1 c1 q1 => ?_
  cases b with
  | false => exact h2 fx xp F1 G1 H1 σ S A _ _ xr c1 q1 fun b F2 G2 H2 g2 c2 q2 => q b F2 G2 H2 (g1.trans g2) c2 q2
  | true => exact q true F1 G1 H1 g1 c1 q1
theorem SndT.not (h1 : SndT K Wx t wt) : SndT K Wx (tNot t) (wNot wt) := fun fx xp F G H σ S A Qd Q xr c hw q =>
  h1 fx xp F G H σ S A _ _ xr c hw fun b F1 G1 H1 g1 c1 q1 => q _ F1 G1 H1 g1 c1 q1
/-- .. as values -/
@[simp ↓] def wB (wa : WE) : WT := fun xp S Q => wa xp S fun x => match x with
  | .dat (.bl b) => Q b
  | _ => False
@[simp ↓] def wAndV (wa wb : WE) : WE := fun xp S Q => wB wa xp S fun b => if b = true then wb xp S Q else Q (.dat (.bl false))
@[simp ↓] def wOrV (wa wb : WE) : WE := fun xp S Q => wB wa xp S fun b => if b = true then Q (.dat (.bl true)) else wb xp S Q
@[simp ↓] def wNotV (wa : WE) : WE := fun xp S Q => wB wa xp S fun b => Q (.dat (.bl (!b)))
theorem Snd.bl (ha : Snd K Wx ta wa) {fx : Fx} {xp : Xp} {F G H : Hp} {σ : L2.St} {S : List Slot} {A : Nat → List Addr} {Qd : Bool → Prop} {Q : VK} (xr : XRel K fx Wx xp) (c : Cons K fx F G H σ S A) (hw : wB wa xp S Qd)
    (q : ∀ b F' G' H', Grow fx F G H F' G' H' → Cons K fx F' G' H' σ S A → Qd b → Q (.bl b) H') : ta σ H Q := by
  refine ha fx xp F G H σ S A _ _ xr c hw fun v x F1 G1 H1 B g1 c1 r1 n1 q1 => ?_
  cases x with
  | dat d =>
    cases d with
    | bl b =>
      cases r1.1
      exact q b F1 G1 H1 g1 c1 q1
    | _ => exact q1.elim
  | _ => exact q1.elim
theorem Snd.andV (ha : Snd K Wx ta wa) (hb : Snd K Wx tb wb) : Snd K Wx (tAndV ta tb) (wAndV wa wb) := fun fx xp F G H σ S A Qd Q xr c hw q => by
  refine ha.bl xr c hw fun b F1 G1 H1 g1 c1 q1 => ⟨b, rfl, ?_⟩
  cases b with
  | true => exact hb fx xp F1 G1 H1 σ S A _ _ xr c1 q1 fun v x F2 G2 H2 B g2 c2 r2 n2 q2 => q v x F2 G2 H2 B (g1.trans g2) c2 r2 (fun b hb => g1.hn b (n2 b hb)) q2
  | false => exact q _ (.dat (.bl false)) F1 G1 H1 [] g1 c1 ⟨.bl _, rfl⟩ (fun b hb => by cases hb) q1
theorem Snd.orV (ha : Snd K Wx ta wa) (hb : Snd K Wx tb wb) : Snd K Wx (tOrV ta tb) (wOrV wa wb) := fun fx xp F G H σ S A Qd Q xr c hw q => by
  refine ha.bl xr c hw fun b F1 G1 H1 g1 c1 q1 => ⟨b, rfl, ?_⟩
  cases b with
  | false => exact hb fx xp F1 G1 H1 σ S A _ _ xr c1 q1 fun v x F2 G2 H2 B g2 c2 r2 n2 q2 => q v x F2 G2 H2 B (g1.trans g2) c2 r2 (fun b hb => g1.hn b (n2 b hb)) q2
  | true => exact q _ (.dat (.bl true)) F1 G1 H1 [] g1 c1 ⟨.bl _, rfl⟩ (fun b hb => by cases hb) q1
theorem Snd.notV (ha : Snd K Wx ta wa) : Snd K Wx (tNotV ta) (wNotV wa) := fun fx xp F G H σ S A Qd Q xr c hw q =>
  ha.bl xr c hw fun b F1 G1 H1 g1 c1 q1 => ⟨b, rfl, q _ (.dat (.bl (!b))) F1 G1 H1 [] g1 c1 ⟨.bl _, rfl⟩ (fun b hb => by cases hb) q1⟩
@[simp ↓] def wIfE (wt : WT) (wa wb : WE) : WE := fun xp S Q => wt xp S fun b => if b = true then wa xp S Q else wb xp S Q
theorem Snd.ifE (ht : SndT K Wx t wt) (ha : Snd K Wx ta wa) (hb : Snd K Wx tb wb) : Snd K Wx (tIf t ta tb) (wIfE wt wa wb) := fun fx xp F G H σ S A Qd Q xr c hw q => by
  refine ht fx xp F G H σ S A _ _ xr c hw fun b F1 G1 H1 g1 c1 q1 => ?_
  cases b with
  | true => exact ha fx xp F1 G1 H1 σ S A _ _ xr c1 q1 fun v x F2 G2 H2 B g2 c2 r2 n2 q2 => q v x F2 G2 H2 B (g1.trans g2) c2 r2 (fun b hb => g1.hn b (n2 b hb)) q2
  | false => exact hb fx xp F1 G1 H1 σ S A _ _ xr c1 q1 fun v x F2 G2 H2 B g2 c2 r2 n2 q2 => q v x F2 G2 H2 B (g1.trans g2) c2 r2 (fun b hb => g1.hn b (n2 b hb)) q2
end
section
variable {X : Cx} {Wx : WX} {a b c e : Expr} {ta tb te : TE} {wa wb we : WE} {pos : Pos} {t u : TT} {wt wu : WT} {rest : List Expr}
theorem pd_ix (ha : PdD X Wx a ta wa) (hb : PdD X Wx b tb wb) (hs : PlainIx b := by intro _ _; rfl) : PdD X Wx (.Subscript a b pos) (tOp (rIx X.K) ta tb) (wIx wa wb) := ⟨pe_ix ix_seq ha.pe hb.pe hs, Snd.ix ha.ok hb.ok⟩
structure OdD (X : Cx) (Wx : WX) (e : Option Expr) (t : TO) (w : WO) : Prop where
  po : PO X e t
  ok : SndO X.K Wx t w
theorem od_none : OdD X Wx none tNoPart wNoP := ⟨po_none, SndO.none⟩
theorem od_some (h : PdD X Wx e te we) : OdD X Wx (some e) (tPart te) (wPart we) := ⟨po_some h.pe, SndO.some h.ok⟩
theorem sl_seq : SlR X (rSl X.K) := sl_list.or sl_str
theorem pd_sl {lo hi : Option Expr} {p2 : Pos} {tl th : TO} {wl wh : WO} (ha : PdD X Wx a ta wa) (hl : OdD X Wx lo tl wl) (hh : OdD X Wx hi th wh) : PdD X Wx (.Subscript a (.Slice lo hi none p2) pos) (tSl (rSl X.K) ta tl th) (wSl wa wl wh) := ⟨pe_slice sl_seq ha.pe hl.po hh.po, Snd.sl ha.ok hl.ok hh.ok⟩
theorem td_tru (ha : PdD X Wx a ta wa) (he : ∀ whole, isTrue a X.env whole = (do let v ← whole; standAt a.pos; holding [v] (truthy v)) := by intro _; rfl) : TdD X Wx a (fun σ H Q => ta σ H fun x H' => ∃ k, TruV X.K x H' k ∧ Q k H') (wTru wa) := ⟨pt_truth ha.pe he, Snd.tru ha.ok⟩
structure BdD (X : Cx) (Wx : WX) (e : Expr) (t : TT) (w : WT) : Prop where
  pw : PW X e t
  ok : SndT X.K Wx t w
theorem bd_and1 (ha : TdD X Wx a t wt) : BdD X Wx (.BoolOp .And [a] pos) t wt := ⟨pw_and1 ha.pt, ha.ok⟩
theorem bd_or1 (ha : TdD X Wx a t wt) : BdD X Wx (.BoolOp .Or [a] pos) t wt := ⟨pw_or1 ha.pt, ha.ok⟩
theorem bd_and (ha : TdD X Wx a t wt) (hb : BdD X Wx (.BoolOp .And (b :: rest) pos) u wu) : BdD X Wx (.BoolOp .And (a :: b :: rest) pos) (tAnd t u) (wAnd wt wu) := ⟨pw_and ha.pt hb.pw, SndT.and ha.ok hb.ok⟩
theorem bd_or (ha : TdD X Wx a t wt) (hb : BdD X Wx (.BoolOp .Or (b :: rest) pos) u wu) : BdD X Wx (.BoolOp .Or (a :: b :: rest) pos) (tOr t u) (wOr wt wu) := ⟨pw_or ha.pt hb.pw, SndT.or ha.ok hb.ok⟩
theorem BdD.td (h : BdD X Wx a t wt) : TdD X Wx a t wt := ⟨h.pw.pt, h.ok⟩
theorem td_not (ha : TdD X Wx a t wt) : TdD X Wx (.UnaryOp .Not a pos) (tNot t) (wNot wt) := ⟨pt_not ha.pt, SndT.not ha.ok⟩
theorem pd_one {op} (ha : PdD X Wx a ta wa) : PdD X Wx (.BoolOp op [a] pos) ta wa := ⟨pe_one ha.pe, ha.ok⟩
theorem pd_and (ha : PdD X Wx a ta wa) (hb : PdD X Wx (.BoolOp .And (b :: rest) pos) tb wb) : PdD X Wx (.BoolOp .And (a :: b :: rest) pos) (tAndV ta tb) (wAndV wa wb) := ⟨pe_and ha.pe hb.pe, Snd.andV ha.ok hb.ok⟩
theorem pd_or (ha : PdD X Wx a ta wa) (hb : PdD X Wx (.BoolOp .Or (b :: rest) pos) tb wb) : PdD X Wx (.BoolOp .Or (a :: b :: rest) pos) (tOrV ta tb) (wOrV wa wb) := ⟨pe_or ha.pe hb.pe, Snd.orV ha.ok hb.ok⟩
theorem pd_not (ha : PdD X Wx a ta wa) : PdD X Wx (.UnaryOp .Not a pos) (tNotV ta) (wNotV wa) := ⟨pe_not ha.pe, Snd.notV ha.ok⟩
theorem pd_ifE (ht : TdD X Wx c t wt) (ha : PdD X Wx a ta wa) (hb : PdD X Wx b tb wb) : PdD X Wx (.IfExp c a b pos) (tIf t ta tb) (wIfE wt wa wb) := ⟨pe_ifExp ht.pt ha.pe hb.pe, Snd.ifE ht.ok ha.ok hb.ok⟩
end
end DL

namespace DL
open PySem PySem.Spec PyProof.Rows L2

/-! ## statements -/
structure Post where
  nx : List Slot → Prop
  rt : W → List Slot → Prop
  bk : List Slot → Prop
  ct : List Slot → Prop
  np : Nat := 0
structure RelD (K : PySem.W.Frag) (fx : Fx) (F G : Hp) (D : Ends) (P : Post) : Prop where
  nx : ∀ σ' F' G' H' S' A', Sub F F' → Sub G G' → Cons K fx F' G' H' σ' S' A' → P.nx S' → D.nx σ' H'
  bk : ∀ σ' F' G' H' S' A', Sub F F' → Sub G G' → Cons K fx F' G' H' σ' S' A' → P.bk S' → D.bk σ' H'
  ct : ∀ σ' F' G' H' S' A', Sub F F' → Sub G G' → Cons K fx F' G' H' σ' S' A' → P.ct S' → D.ct σ' H'
  rt : ∀ v x B σ' F' G' H' S' A', Sub F F' → Sub G G' → Cons K fx F' G' H' σ' S' A' → RepW K fx F' G' H' S' A' v B x → (∀ b ∈ B, fx.H0 b = none) → (∀ j, ∀ b ∈ B, b ∉ A' j) → P.rt x S' → D.rt v H'
  np : fx.np ≤ P.np
abbrev WS := Xp → Post → List Slot → Prop
def SndS (K : PySem.W.Frag) (Wx : WX) (t : TS) (w : WS) : Prop := ∀ (fx : Fx) (xp : Xp) F G H σ S A P D, XRel K fx Wx xp → Cons K fx F G H σ S A → RelD K fx F G D P → w xp P S → t D σ H
structure PsD (X : Cx) (Wx : WX) (s : Stmt) (t : TS) (w : WS) : Prop where
  ps : PS X s t
  ok : SndS X.K Wx t w
structure BkD (X : Cx) (Wx : WX) (s : List Stmt) (t : TS) (w : WS) : Prop where
  ps : PSs X s t
  ok : SndS X.K Wx t w
section
variable {K : PySem.W.Frag} {fx : Fx} {F G H F' G' H' : Hp} {σ : L2.St} {S : List Slot} {A : Nat → List Addr} {v : V} {B : List Addr} {x : W} {D : Ends} {P : Post}
theorem RelD.mono (r : RelD K fx F G D P) (f : Sub F F') (g : Sub G G') : RelD K fx F' G' D P where
  nx := fun σ' F2 G2 H2 S2 A2 f2 g2 => r.nx σ' F2 G2 H2 S2 A2 (f.trans f2) (g.trans g2)
  bk := fun σ' F2 G2 H2 S2 A2 f2 g2 => r.bk σ' F2 G2 H2 S2 A2 (f.trans f2) (g.trans g2)
  ct := fun σ' F2 G2 H2 S2 A2 f2 g2 => r.ct σ' F2 G2 H2 S2 A2 (f.trans f2) (g.trans g2)
  rt := fun v x B σ' F2 G2 H2 S2 A2 f2 g2 => r.rt v x B σ' F2 G2 H2 S2 A2 (f.trans f2) (g.trans g2)
  np := r.np
/-- another thing behind it -/
theorem RelD.nxt (r : RelD K fx F G D P) {nx : List Slot → Prop} {N : L2.St → Hp → Prop} (h : ∀ σ' F' G' H' S' A', Sub F F' → Sub G G' → Cons K fx F' G' H' σ' S' A' → nx S' → N σ' H') : RelD K fx F G { D with nx := N } { P with nx := nx } :=
  ⟨h, r.bk, r.ct, r.rt, r.np⟩

/-- the slot that a value makes -/
def W.stow (x : W) (k : Slot → Prop) : Prop := match x with
  | .dat d => k (.dat d)
  | .rdo d => k (.rdo d)
  | .new (.fz d) => k (.dat d)
  | .new o => ∀ a, k (.own a o)
  | .sto => k .sto
  | .ref _ _ _ => False
@[simp ↓] theorem eW_stow_1 (d : DL.D) (k : Slot → Prop) : (W.dat d).stow k = k (.dat d) := by first | rfl | exact propext Iff.rfl
@[simp ↓] theorem eW_stow_2 (d : DL.D) (k : Slot → Prop) : (W.rdo d).stow k = k (.rdo d) := by first | rfl | exact propext Iff.rfl
@[simp ↓] theorem eW_stow_3 (d : DL.D) (k : Slot → Prop) : (W.new (.fz d)).stow k = k (.dat d) := by first | rfl | exact propext Iff.rfl
@[simp ↓] theorem eW_stow_4 (d : List DL.D) (k : Slot → Prop) : (W.new (.fl d)).stow k = ∀ a, k (.own a (.fl d)) := by first | rfl | exact propext Iff.rfl
@[simp ↓] theorem eW_stow_5 (d : List O) (k : Slot → Prop) : (W.new (.lst d)).stow k = ∀ a, k (.own a (.lst d)) := by first | rfl | exact propext Iff.rfl
@[simp ↓] theorem eW_stow_8 (kvs : List (Key × DL.D)) (k : Slot → Prop) : (W.new (.dic kvs)).stow k = ∀ a, k (.own a (.dic kvs)) := rfl
@[simp ↓] theorem eW_stow_9 (kvs : List (List Key × DL.D)) (k : Slot → Prop) : (W.new (.dit kvs)).stow k = ∀ a, k (.own a (.dit kvs)) := rfl
@[simp ↓] theorem eW_stow_6 (C : Addr) (fs : List (Str × O)) (k : Slot → Prop) : (W.new (.obj C fs)).stow k = ∀ a, k (.own a (.obj C fs)) := by first | rfl | exact propext Iff.rfl
@[simp ↓] theorem eW_stow_7 (k : Slot → Prop) : W.sto.stow k = k .sto := by first | rfl | exact propext Iff.rfl
theorem gset {S : List Slot} {i j : Nat} {s : Slot} (h : (S.set i s)[j]? = some x') : (j = i ∧ x' = s) ∨ (j ≠ i ∧ S[j]? = some x') := by
  by_cases e : j = i
  · subst e
    rw [List.getElem?_set] at h
    simp at h
    exact .inl ⟨rfl, h.2.symm⟩
  · rw [List.getElem?_set_ne (Ne.symm e)] at h
    exact .inr ⟨e, h⟩
/-- a value is put into a slot -/
theorem Cons.put (c : Cons K fx F G H σ S A) {i : Nat} {k : Slot → Prop} (hi : i < S.length) (r : RepW K fx F G H S A v B x) (n0 : ∀ b ∈ B, fx.H0 b = none) (nA : ∀ j, ∀ b ∈ B, b ∉ A j) (h : x.stow k) :
    ∃ s A', Cons K fx F G H (σ.set i (some v)) (S.set i s) A' ∧ k s := by
  have base : ∀ (s : Slot), SlotOk K fx F G H (σ.set i (some v)) (fun j => if j = i then B else A j) i s → B.Nodup → (∀ b ∈ B, G b = none ∧ fx.st ≠ some b) → (∀ b ∈ B, ∃ u, H b = some u) →
      Cons K fx F G H (σ.set i (some v)) (S.set i s) (fun j => if j = i then B else A j) := fun s hs nd nf th => by
    refine { c with len := by simp [c.len], sl := fun j s' e => ?_, nod := fun j => ?_, dis := fun j l ne a ha => ?_, nf := fun j a ha => ?_, ah := fun j a ha => ?_, am := fun j a ha => ?_, sto := fun p e => ?_ }
    · rcases gset e with ⟨rfl, rfl⟩ | ⟨ne, e⟩
      · exact hs
      · have q := c.sl j s' e
        cases s' with
        | no => trivial
        | dat d => obtain ⟨w, h1, h2⟩ := q; exact ⟨w, by rw [List.getElem?_set_ne (Ne.symm ne)]; exact h1, h2⟩
        | rdo d => obtain ⟨w, h1, h2⟩ := q; exact ⟨w, by rw [List.getElem?_set_ne (Ne.symm ne)]; exact h1, h2⟩
        | own a o =>
          refine ⟨by rw [List.getElem?_set_ne (Ne.symm ne)]; exact q.1, ?_⟩
          simp only [if_neg ne]
          exact q.2
        | sto => obtain ⟨p, h1, h2⟩ := q; exact ⟨p, h1, by rw [List.getElem?_set_ne (Ne.symm ne)]; exact h2⟩
        | seq ns => obtain ⟨p, h1, h2⟩ := q; exact ⟨p, by rw [List.getElem?_set_ne (Ne.symm ne)]; exact h1, h2⟩
        | exc a C d fs => exact ⟨by rw [List.getElem?_set_ne (Ne.symm ne)]; exact q.1, q.2⟩
    · by_cases e : j = i
      · simp only [if_pos e]; exact nd
      · simp only [if_neg e]; exact c.nod j
    · by_cases e : j = i
      · simp only [if_pos e] at ha
        simp only [if_neg (show ¬ l = i from fun z => ne (e.trans z.symm))]
        exact nA l a ha
      · simp only [if_neg e] at ha
        by_cases z : l = i
        · simp only [if_pos z]
          exact fun hb => nA j a hb ha
        · simp only [if_neg z]
          exact c.dis j l ne a ha
    · by_cases e : j = i
      · simp only [if_pos e] at ha; exact (nf a ha).1
      · simp only [if_neg e] at ha; exact c.nf j a ha
    · by_cases e : j = i
      · simp only [if_pos e] at ha; exact th a ha
      · simp only [if_neg e] at ha; exact c.ah j a ha
    · by_cases e : j = i
      · simp only [if_pos e] at ha; exact .inl (n0 a ha)
      · simp only [if_neg e] at ha; exact c.am j a ha
    · refine ⟨(c.sto p e).1, fun j => ?_, (c.sto p e).2.2⟩
      by_cases z : j = i
      · simp only [if_pos z]; exact fun hb => (nf p hb).2 e
      · simp only [if_neg z]; exact (c.sto p e).2.1 j
  have hσ : (σ.set i (some v))[i]? = some (some v) := List.getElem?_set_self (by rw [c.len]; exact hi)
  cases x with
  | dat d =>
    obtain ⟨r, rfl⟩ := r
    exact ⟨_, _, base (.dat d) ⟨v, hσ, r⟩ .nil (fun b hb => by cases hb) (fun b hb => by cases hb), h⟩
  | rdo d =>
    obtain ⟨r, rfl⟩ := r
    exact ⟨_, _, base (.rdo d) ⟨v, hσ, r⟩ .nil (fun b hb => by cases hb) (fun b hb => by cases hb), h⟩
  | new o =>
    obtain ⟨r, nd, nf⟩ := r
    have th := r.there
    have g : ∀ a, v = .ref a → Cons K fx F G H (σ.set i (some v)) (S.set i (.own a o)) (fun j => if j = i then B else A j) := fun a e => base (.own a o) ⟨by rw [hσ, e], by simp only [if_pos]; rw [← e]; exact r⟩ nd nf th
    cases o with
    | fz d =>
      cases r with
      | fz r => exact ⟨_, _, base (.dat d) ⟨v, hσ, r⟩ .nil (fun b hb => by cases hb) (fun b hb => by cases hb), h⟩
    | fl ds => cases r with | fl h1 h2 => exact ⟨_, _, g _ rfl, h _⟩
    | lst ds => cases r with | lst h1 h2 => exact ⟨_, _, g _ rfl, h _⟩
    | obj C fs => cases r with | obj h1 h2 h3 => exact ⟨_, _, g _ rfl, h _⟩
    | dic kvs => cases r with | dic h1 h2 => exact ⟨_, _, g _ rfl, h _⟩
    | dit kvs => cases r with | dit h1 h2 => exact ⟨_, _, g _ rfl, h _⟩
  | ref j p o => exact h.elim
  | sto =>
    obtain ⟨rfl, p, e, rfl⟩ := r
    exact ⟨_, _, base .sto ⟨p, e, hσ⟩ .nil (fun b hb => by cases hb) (fun b hb => by cases hb), h⟩
variable {Wx : WX} {t u : TS} {wt wu : WS} {te : TE} {we : WE} {tc : TT} {wc : WT}
@[simp ↓] def wNext : WS := fun _ P S => P.nx S
@[simp ↓] def wSeq (w1 w2 : WS) : WS := fun xp P S => w1 xp { P with nx := fun S' => w2 xp P S' } S
theorem SndS.next : SndS K Wx tNext wNext := fun fx xp F G H σ S A P D xr c r hw => r.nx σ F G H S A (.refl F) (.refl G) c hw
theorem SndS.seq (h1 : SndS K Wx t wt) (h2 : SndS K Wx u wu) : SndS K Wx (tSeq t u) (wSeq wt wu) := fun fx xp F G H σ S A P D xr c r hw =>
  h1 fx xp F G H σ S A _ _ xr c (r.nxt fun σ' F' G' H' S' A' f g c' q => h2 fx xp F' G' H' σ' S' A' P D xr c' (r.mono f g) q) hw
@[simp ↓] def wBreak : WS := fun _ P S => P.bk S
@[simp ↓] def wCont : WS := fun _ P S => P.ct S
theorem SndS.brk : SndS K Wx tBreak wBreak := fun fx xp F G H σ S A P D xr c r hw => r.bk σ F G H S A (.refl F) (.refl G) c hw
theorem SndS.cont : SndS K Wx tCont wCont := fun fx xp F G H σ S A P D xr c r hw => r.ct σ F G H S A (.refl F) (.refl G) c hw
@[simp ↓] def wDrop (we : WE) : WS := fun xp P S => we xp S fun _ => P.nx S
theorem SndS.drop (he : Snd K Wx te we) : SndS K Wx (tDrop te) (wDrop we) := fun fx xp F G H σ S A P D xr c r hw =>
  he fx xp F G H σ S A _ _ xr c hw fun v x F1 G1 H1 B g1 c1 r1 n1 q1 => r.nx σ F1 G1 H1 S A g1.f g1.g c1 q1
@[simp ↓] def wRet (we : WE) : WS := fun xp P S => we xp S fun x => P.rt x S
theorem SndS.ret (he : Snd K Wx te we) : SndS K Wx (tRet te) (wRet we) := fun fx xp F G H σ S A P D xr c r hw =>
  he fx xp F G H σ S A _ _ xr c hw fun v x F1 G1 H1 B g1 c1 r1 n1 q1 => r.rt v x B σ F1 G1 H1 S A g1.f g1.g c1 r1 (fun b hb => c.hn b (n1 b hb)) (fun j b hb => c.noA (n1 b hb) j) q1
@[simp ↓] def wRetN : WS := fun _ P S => P.rt (.dat .non) S
theorem SndS.retN : SndS K Wx tRetN wRetN := fun fx xp F G H σ S A P D xr c r hw => r.rt .non (.dat .non) [] σ F G H S A (.refl F) (.refl G) c ⟨.non, rfl⟩ (fun b hb => by cases hb) (fun _ b hb => by cases hb) hw
@[simp ↓] def wIf (wc : WT) (wt wu : WS) : WS := fun xp P S => wc xp S fun b => if b = true then wt xp P S else wu xp P S
theorem SndS.ifs (hc : SndT K Wx tc wc) (h1 : SndS K Wx t wt) (h2 : SndS K Wx u wu) : SndS K Wx (tIfS tc t u) (wIf wc wt wu) := fun fx xp F G H σ S A P D xr c r hw => by
  refine hc fx xp F G H σ S A _ _ xr c hw fun b F1 G1 H1 g1 c1 q1 => ?_
  cases b with
  | true => exact h1 fx xp F1 G1 H1 σ S A P D xr c1 (r.mono g1.f g1.g) q1
  | false => exact h2 fx xp F1 G1 H1 σ S A P D xr c1 (r.mono g1.f g1.g) q1

/-! ## targets -/
abbrev WG := W → List Slot → (List Slot → Prop) → Prop
/-- a value that is in no slot and has no cells of its own (an item) is stored -/
def SndG (K : PySem.W.Frag) (t : TG) (w : WG) : Prop := ∀ (fx : Fx) F G H σ S A v x B Qd (Q : L2.St → Hp → Prop), Cons K fx F G H σ S A → RepW K fx F G H S A v B x → (∀ b ∈ B, fx.H0 b = none) → (∀ j, ∀ b ∈ B, b ∉ A j) → w x S Qd →
    (∀ σ' S' A', Cons K fx F G H σ' S' A' → Qd S' → Q σ' H) → t v σ H Q
@[simp ↓] def wName (i : Nat) : WG := fun x S Q => x.stow fun s => i < S.length ∧ Q (S.set i s)
theorem W.stow_imp {x : W} {k k' : Slot → Prop} (h : x.stow k) (i : ∀ s, k s → k' s) : x.stow k' := by
  cases x with
  | new o =>
    cases o with
    | fz d => exact i _ h
    | fl ds => exact fun a => i _ (h a)
    | lst ds => exact fun a => i _ (h a)
    | obj C fs => exact fun a => i _ (h a)
    | dic kvs => exact fun a => i _ (h a)
    | dit kvs => exact fun a => i _ (h a)
  | dat d => exact i _ h
  | rdo d => exact i _ h
  | sto => exact i _ h
  | ref j p o => exact h
theorem W.stow_ex {x : W} {p : Prop} {k : Slot → Prop} (h : x.stow fun s => p ∧ k s) : p ∧ x.stow k := by
  cases x with
  | new o =>
    cases o with
    | fz d => exact h
    | fl ds => exact ⟨(h 0).1, fun a => (h a).2⟩
    | lst ds => exact ⟨(h 0).1, fun a => (h a).2⟩
    | obj C fs => exact ⟨(h 0).1, fun a => (h a).2⟩
    | dic kvs => exact ⟨(h 0).1, fun a => (h a).2⟩
    | dit kvs => exact ⟨(h 0).1, fun a => (h a).2⟩
  | dat d => exact h
  | rdo d => exact h
  | sto => exact h
  | ref j p o => exact h.elim
theorem SndG.name {i : Nat} : SndG K (gName i) (wName i) := fun fx F G H σ S A v x B Qd Q c r n0 nA hw q => by
  obtain ⟨hi, h⟩ := W.stow_ex hw
  obtain ⟨s, A', c', z⟩ := c.put (k := fun s => Qd (S.set i s)) hi r n0 nA h
  exact q _ _ A' c' z
abbrev WGs := List W → List Slot → (List Slot → Prop) → Prop
inductive RepIs (K : PySem.W.Frag) (F G : Hp) : List V → List W → Prop
  | nil : RepIs K F G [] []
  | dat {v : V} {vs : List V} {d : DL.D} {xs : List W} : Rep K F v d → RepIs K F G vs xs → RepIs K F G (v :: vs) (.dat d :: xs)
  | rdo {v : V} {vs : List V} {d : DL.D} {xs : List W} : Rep K G v d → RepIs K F G vs xs → RepIs K F G (v :: vs) (.rdo d :: xs)
def SndGs (K : PySem.W.Frag) (t : TGs) (w : WGs) : Prop := ∀ (fx : Fx) F G H σ S A vs xs Qd (Q : L2.St → Hp → Prop), Cons K fx F G H σ S A → RepIs K F G vs xs → w xs S Qd →
    (∀ σ' S' A', Cons K fx F G H σ' S' A' → Qd S' → Q σ' H) → t vs σ H Q
@[simp ↓] def wgNil : WGs := fun xs S Q => xs = [] ∧ Q S
def wgCons (w : WG) (u : WGs) : WGs := fun xs S Q => match xs with
  | x :: r => w x S fun S' => u r S' Q
  | [] => False
@[simp ↓] theorem ewgCons_1 (w : WG) (u : WGs) (x : W) (r : List W) (S : List Slot) (Q : List Slot → Prop) : wgCons w u (x :: r) S Q = w x S fun S' => u r S' Q := by first | rfl | exact propext Iff.rfl
theorem SndGs.nil : SndGs K gNil wgNil := fun fx F G H σ S A vs xs Qd Q c r hw q => by
  obtain ⟨rfl, z⟩ := hw
  cases r
  exact ⟨rfl, q σ S A c z⟩
theorem SndGs.cons {t : TG} {u : TGs} {w : WG} {wu : WGs} (h1 : SndG K t w) (h2 : SndGs K u wu) : SndGs K (gCons t u) (wgCons w wu) := fun fx F G H σ S A vs xs Qd Q c r hw q => by
  cases r with
  | nil => exact hw.elim
  | dat r1 r2 => exact ⟨_, _, rfl, h1 fx F G H σ S A _ (.dat _) [] _ _ c ⟨r1, rfl⟩ (fun b hb => by cases hb) (fun j b hb => by cases hb) hw fun σ' S' A' c' z => h2 fx F G H σ' S' A' _ _ Qd Q c' r2 z q⟩
  | rdo r1 r2 => exact ⟨_, _, rfl, h1 fx F G H σ S A _ (.rdo _) [] _ _ c ⟨r1, rfl⟩ (fun b hb => by cases hb) (fun j b hb => by cases hb) hw fun σ' S' A' c' z => h2 fx F G H σ' S' A' _ _ Qd Q c' r2 z q⟩
/-- a tuple taken apart -/
def wUnp (n : Nat) (w : WGs) : WG := fun x S Q => match x with
  | .dat (.tup ds) => ds.length = n ∧ w (ds.map W.dat) S Q
  | .rdo (.tup ds) => ds.length = n ∧ w (ds.map rdW) S Q
  | _ => False
@[simp ↓] theorem ewUnp_1 (n : Nat) (w : WGs) (ds : List DL.D) (S : List Slot) (Q : List Slot → Prop) : wUnp n w (.dat (.tup ds)) S Q = (ds.length = n ∧ w (ds.map W.dat) S Q) := by first | rfl | exact propext Iff.rfl
@[simp ↓] theorem ewUnp_2 (n : Nat) (w : WGs) (ds : List DL.D) (S : List Slot) (Q : List Slot → Prop) : wUnp n w (.rdo (.tup ds)) S Q = (ds.length = n ∧ w (ds.map rdW) S Q) := by first | rfl | exact propext Iff.rfl
theorem Reps.isF : ∀ {vs : List V} {ds : List DL.D}, Reps K F vs ds → RepIs K F G vs (ds.map W.dat)
  | _, _, .nil => .nil
  | _, _, .cons h r => .dat h (Reps.isF r)
theorem Reps.isG : ∀ {vs : List V} {ds : List DL.D}, Reps K G vs ds → RepIs K F G vs (ds.map rdW)
  | _, _, .nil => .nil
  | _, _, .cons h r => by
    have t : RepIs K F G _ _ := Reps.isG r
    cases h with
    | non => exact .dat .non t
    | bl b => exact .dat (.bl b) t
    | int b => exact .dat (.int b) t
    | str b => exact .dat (.str b) t
    | lst h1 h2 => exact .rdo (.lst h1 h2) t
    | tup h1 h2 => exact .rdo (.tup h1 h2) t
    | obj h1 h2 => exact .rdo (.obj h1 h2) t
    | dic h1 h2 => exact .rdo (.dic h1 h2) t
    | dit h1 h2 => exact .rdo (.dit h1 h2) t
    | raw h1 => exact .rdo (.raw h1) t
theorem SndG.unp {n : Nat} {t : TGs} {w : WGs} (h : SndGs K t w) : SndG K (gTup K n t) (wUnp n w) := fun fx F G H σ S A v x B Qd Q c r n0 nA hw q => by
  cases x with
  | dat d =>
    cases d with
    | tup ds =>
      cases r.1 with
      | tup h1 h2 => exact ⟨_, _, rfl, sub_t (c.fg.trans c.gh) (qt h1), by rw [h2.length]; exact hw.1, h fx F G H σ S A _ _ Qd Q c h2.isF hw.2 q⟩
    | _ => exact hw.elim
  | rdo d =>
    cases d with
    | tup ds =>
      cases r.1 with
      | tup h1 h2 => exact ⟨_, _, rfl, sub_t c.gh (qt h1), by rw [h2.length]; exact hw.1, h fx F G H σ S A _ _ Qd Q c h2.isG hw.2 q⟩
    | _ => exact hw.elim
  | _ => exact hw.elim
/-- target = value -/
@[simp ↓] def wAsg (we : WE) (wg : WG) : WS := fun xp P S => we xp S fun x => wg x S P.nx
theorem SndS.asg {g : TG} {wg : WG} (he : Snd K Wx te we) (hg : SndG K g wg) : SndS K Wx (tAsg te g) (wAsg we wg) := fun fx xp F G H σ S A P D xr c r hw => by
  refine he fx xp F G H σ S A _ _ xr c hw fun v x F1 G1 H1 B g1 c1 r1 n1 q1 => ?_
  exact hg fx F1 G1 H1 σ S A v x B _ _ c1 r1 (fun b hb => c.hn b (n1 b hb)) (fun j b hb => c.noA (n1 b hb) j) q1 fun σ' S' A' c' z => r.nx σ' F1 G1 H1 S' A' g1.f g1.g c' z
/-- name op= value -/
@[simp ↓] def wAug (i : Nat) (g : G2) (we : WE) : WS := fun xp P S => match gt S i with
  | .dat d0 => we xp S fun y => y.dd fun d => g d0 d fun r => i < S.length ∧ P.nx (S.set i (.dat r))
  | _ => False
theorem SndS.aug {i : Nat} {ti : TIp} {g : G2} (he : Snd K Wx te we) (ok : R2Ok K ti g) : SndS K Wx (tAug i te ti) (wAug i g we) := fun fx xp F G H σ S A P D xr c r hw => by
  unfold wAug at hw
  cases e : gt S i with
  | dat d0 =>
    rw [e] at hw
    obtain ⟨v0, h1, h2⟩ := c.sl i _ (gt_some e (by simp))
    refine ⟨v0, h1, he fx xp F G H σ S A _ _ xr c hw fun v x F1 G1 H1 B g1 c1 r1 n1 q1 => ?_⟩
    obtain ⟨nx, hq⟩ := W.dd_of q1
    refine ok H1 v0 v _ _ _ _ (h2.mono (g1.f.trans (c1.fg.trans c1.gh))) (r1.rd c1 nx) hq fun w d rw q2 => ?_
    obtain ⟨hi, q2⟩ := q2
    obtain ⟨s, A', c', z⟩ := c1.put (v := w) (B := []) (x := .dat d) (k := fun s => P.nx (S.set i s)) hi ⟨rw F1, rfl⟩ (fun b hb => by cases hb) (fun j b hb => by cases hb) q2
    exact r.nx _ F1 G1 H1 _ A' g1.f g1.g c' z
  | _ => rw [e] at hw; exact hw.elim
/-! ## while -/
def wWhile (wc : WT) (wb : WS) : WS := fun xp P S => ∃ I : Nat → List Slot → Prop, (∃ m, I m S) ∧ ∀ m S', I m S' → wc xp S' fun b => if b = true then wb xp { P with nx := fun S2 => ∃ m', m' < m ∧ I m' S2, ct := fun S2 => ∃ m', m' < m ∧ I m' S2, bk := P.nx } S' else P.nx S'
theorem SndS.whl (hc : SndT K Wx tc wc) (hb : SndS K Wx t wt) : SndS K Wx (tWhile tc t) (wWhile wc wt) := fun fx xp F G H σ S A P D xr c r hw => by
  obtain ⟨I, ⟨m0, i0⟩, hI⟩ := hw
  refine ⟨fun m σ H => ∃ F' G' S' A', Sub F F' ∧ Sub G G' ∧ Cons K fx F' G' H σ S' A' ∧ I m S', ⟨m0, F, G, S, A, .refl F, .refl G, c, i0⟩, fun m σ' H' ⟨F', G', S', A', f, g, c', i'⟩ => ?_⟩
  refine hc fx xp F' G' H' σ' S' A' _ _ xr c' (hI m S' i') fun b F1 G1 H1 g1 c1 q1 => ?_
  have r1 := (r.mono f g).mono g1.f g1.g
  have key : ∀ σ2 F2 G2 H2 S2 A2, Sub F1 F2 → Sub G1 G2 → Cons K fx F2 G2 H2 σ2 S2 A2 → (∃ m', m' < m ∧ I m' S2) → ∃ m', m' < m ∧ ∃ F' G' S' A', Sub F F' ∧ Sub G G' ∧ Cons K fx F' G' H2 σ2 S' A' ∧ I m' S' :=
    fun σ2 F2 G2 H2 S2 A2 f2 g2 c2 ⟨m', l, i2⟩ => ⟨m', l, F2, G2, S2, A2, f.trans (g1.f.trans f2), g.trans (g1.g.trans g2), c2, i2⟩
  cases b with
  | true => exact ⟨_, fun _ _ n => n, hb fx xp F1 G1 H1 σ' S' A' _ _ xr c1 (show RelD K fx F1 G1 _ { P with nx := fun S2 => ∃ m', m' < m ∧ I m' S2, ct := fun S2 => ∃ m', m' < m ∧ I m' S2, bk := P.nx } from ⟨key, r1.nx, key, r1.rt, r1.np⟩) q1⟩
  | false => exact r1.nx σ' F1 G1 H1 S' A' (.refl _) (.refl _) c1 q1
end
section
variable {X : Cx} {Wx : WX} {s : Stmt} {rest : List Stmt} {t u : TS} {wt wu : WS} {e : Expr} {te : TE} {we : WE} {pos : Pos} {tc : TT} {wc : WT}
theorem bk_nil : BkD X Wx [] tNext wNext := ⟨pss_nil, SndS.next⟩
theorem bk_cons (h1 : PsD X Wx s t wt) (h2 : BkD X Wx rest u wu) : BkD X Wx (s :: rest) (tSeq t u) (wSeq wt wu) := ⟨pss_cons h1.ps h2.ps, SndS.seq h1.ok h2.ok⟩
theorem bk_one (h1 : PsD X Wx s t wt) : BkD X Wx [s] t wt := ⟨pss_one h1.ps, h1.ok⟩
theorem sd_pass : PsD X Wx (.Pass pos) tNext wNext := ⟨ps_pass, SndS.next⟩
theorem sd_brk : PsD X Wx (.Break pos) tBreak wBreak := ⟨ps_break, SndS.brk⟩
theorem sd_cont : PsD X Wx (.Continue pos) tCont wCont := ⟨ps_continue, SndS.cont⟩
theorem sd_drop (he : PdD X Wx e te we) (hs : swapsWith e none pos.line X.env = pure false := by rfl) : PsD X Wx (.Expr e pos) (tDrop te) (wDrop we) := ⟨ps_expr he.pe hs, SndS.drop he.ok⟩
theorem sd_ret (he : PdD X Wx e te we) : PsD X Wx (.Return (some e) pos) (tRet te) (wRet we) := ⟨ps_ret he.pe, SndS.ret he.ok⟩
theorem sd_retN : PsD X Wx (.Return none pos) tRetN wRetN := ⟨ps_retN, SndS.retN⟩
theorem sd_if {c : Expr} {a b : List Stmt} (hc : TdD X Wx c tc wc) (ha : BkD X Wx a t wt) (hb : BkD X Wx b u wu) : PsD X Wx (.If c a b pos) (tIfS tc t u) (wIf wc wt wu) := ⟨ps_if hc.pt ha.ps hb.ps, SndS.ifs hc.ok ha.ok hb.ok⟩
structure GdD (X : Cx) (target : Expr) (t : TG) (w : WG) : Prop where
  pg : PG X target t
  ok : SndG X.K t w
structure GsD (X : Cx) (ts : List Expr) (t : TGs) (w : WGs) : Prop where
  pg : PGs X ts t
  ok : SndGs X.K t w
theorem gd_name {i : Nat} {x : Str} (hN : X.N.Nodup) (hi : X.N[i]? = some x := by rfl) (hx : Loc X.env.scope x := by first | exact Or.inl rfl | exact Or.inr rfl) (hf : X.fn x = true ∨ X.env.scope.names.lookup x = some .local := by first | exact .inl rfl | exact .inr rfl | assumption) : GdD X (.Name x pos) (gName i) (wName i) := ⟨pg_name hN hi hx hf, SndG.name⟩
theorem gs_nil : GsD X [] gNil wgNil := ⟨pgs_nil, SndGs.nil⟩
theorem gs_cons {e : Expr} {es : List Expr} {t : TG} {u : TGs} {w : WG} {wu : WGs} (h1 : GdD X e t w) (h2 : GsD X es u wu) (hs : (assignEach (e :: es) X.env).map (·.2) = assign e X.env :: (assignEach es X.env).map (·.2) := by rfl) : GsD X (e :: es) (gCons t u) (wgCons w wu) := ⟨pgs_cons h1.pg h2.pg hs, SndGs.cons h1.ok h2.ok⟩
theorem gd_tup {es : List Expr} {k : Nat} {t : TGs} {w : WGs} {n : Nat} (hc : X.calm = true) (h : GsD X es t w) (hn : (assignEach es X.env).length = n := by rfl) (hst : (assignEach es X.env).findIdx? (·.1) = none := by rfl) : GdD X (.Tuple es k pos) (gTup X.K n t) (wUnp n w) := ⟨pg_tup hc h.pg hn hst, SndG.unp h.ok⟩
theorem sd_asg {tg : Expr} {g : TG} {wg : WG} (he : PdD X Wx e te we) (hg : GdD X tg g wg) (hs : swapsWithSole [tg] e pos.line X.env = pure false := by rfl) (hw : swappedStores [tg] e X.env = pure none := by rfl) (h1 : (assignEach [tg] X.env).map (·.2) = [assign tg X.env] := by rfl) : PsD X Wx (.Assign [tg] e pos) (tAsg te g) (wAsg we wg) := ⟨ps_asg he.pe hg.pg hs hw h1, SndS.asg he.ok hg.ok⟩
theorem sd_aug {i : Nat} {x : Str} {op : Operator} {ti : TIp} {g : G2} {pos' : Pos} (hN : X.N.Nodup) (he : PdD X Wx e te we) (ho : PIp X op ti) (ok : R2Ok X.K ti g) (hi : X.N[i]? = some x := by rfl) (hx : Loc X.env.scope x := by first | exact Or.inl rfl | exact Or.inr rfl) (hf : X.fn x = true ∨ X.env.scope.names.lookup x = some .local := by first | exact .inl rfl | exact .inr rfl | assumption) :
    PsD X Wx (.AugAssign (.Name x pos') op e pos) (tAug i te ti) (wAug i g we) := ⟨ps_aug hN hi hx he.pe ho hf, SndS.aug he.ok ok⟩
theorem sd_while {c : Expr} {body : List Stmt} (hp : PassesOwn (model X.prog X.w) X.A X.env X.xe) (hc : TdD X Wx c tc wc) (hb : BkD X Wx body t wt) : PsD X Wx (.While c body [] pos) (tWhile tc t) (wWhile wc wt) := ⟨ps_while hp hc.pt hb.ps, SndS.whl hc.ok hb.ok⟩
end
end DL

namespace DL
open PySem PySem.Spec PyProof.Rows L2

/-! ## what is walked -/
abbrev WI := Xp → List Slot → (Nat → (Nat → W) → (List Slot → Prop) → Prop) → Prop
def ItOk (K : PySem.W.Frag) (fx : Fx) (F G : Hp) (J : It) (n : Nat) (item : Nat → W) (stab : List Slot → Prop) : Prop :=
  ∀ i F' G' H' σ' S' A', Sub F F' → Sub G G' → Cons K fx F' G' H' σ' S' A' → stab S' →
    (n ≤ i → J.stop i H') ∧ (i < n → J.go i H' ∧ ∀ x H2, J.yld i H' x H2 → ∃ F2 G2, Grow fx F' G' H' F2 G2 H2 ∧ Cons K fx F2 G2 H2 σ' S' A' ∧ RepW K fx F2 G2 H2 S' A' x [] (item i))
def SndI (K : PySem.W.Frag) (Wx : WX) (t : TI) (w : WI) : Prop := ∀ (fx : Fx) (xp : Xp) F G H σ S A Qd (R : It → Hp → Prop), XRel K fx Wx xp → Cons K fx F G H σ S A → w xp S Qd →
  (∀ J n item stab F' G' H', Grow fx F G H F' G' H' → Cons K fx F' G' H' σ S A → stab S → ItOk K fx F' G' J n item stab → Qd n item stab → R J H') → t σ H R
structure IdD (X : Cx) (Wx : WX) (tg e : Expr) (t : TI) (w : WI) : Prop where
  pi : PI X tg e t
  ok : SndI X.K Wx t w
/-- a list as a source: its address, its items -/
def LSrc (K : PySem.W.Frag) (fx : Fx) (F G : Hp) (a : Addr) (n : Nat) (item : Nat → W) (stab : List Slot → Prop) : Prop :=
  ∀ F' G' H' σ' S' A', Sub F F' → Sub G G' → Cons K fx F' G' H' σ' S' A' → stab S' → ∃ vs, SqL K H' a vs ∧ vs.length = n ∧ ∀ (i : Nat) v, vs[i]? = some v → ∀ S2 A2, RepW K fx F' G' H' S2 A2 v [] (item i)
def datAt (ds : List D) : Nat → W := fun i => .dat (ds.getD i .non)
def rdoAt (ds : List D) : Nat → W := fun i => rdW (ds.getD i .non)
def W.lsrc (x : W) (S : List Slot) (k : Nat → (Nat → W) → (List Slot → Prop) → Prop) : Prop := match x with
  | .dat (.lst ds) => k ds.length (datAt ds) fun _ => True
  | .rdo (.lst ds) => k ds.length (rdoAt ds) fun _ => True
  | .new (.fl ds) => k ds.length (datAt ds) fun _ => True
  | .ref j [] (.fl ds) => (match gt S j with
    | .own a _ => k ds.length (datAt ds) fun S' => gt S' j = .own a (.fl ds)
    | _ => False)
  | _ => False
@[simp ↓] theorem eW_lsrc_1 (ds : List DL.D) (S : List Slot) (k : Nat → (Nat → W) → (List Slot → Prop) → Prop) : (W.dat (.lst ds)).lsrc S k = k ds.length (datAt ds) fun _ => True := by first | rfl | exact propext Iff.rfl
@[simp ↓] theorem eW_lsrc_2 (ds : List DL.D) (S : List Slot) (k : Nat → (Nat → W) → (List Slot → Prop) → Prop) : (W.rdo (.lst ds)).lsrc S k = k ds.length (rdoAt ds) fun _ => True := by first | rfl | exact propext Iff.rfl
@[simp ↓] theorem eW_lsrc_3 (ds : List DL.D) (S : List Slot) (k : Nat → (Nat → W) → (List Slot → Prop) → Prop) : (W.new (.fl ds)).lsrc S k = k ds.length (datAt ds) fun _ => True := by first | rfl | exact propext Iff.rfl
@[simp ↓] theorem eW_lsrc_4 (j : Nat) (ds : List DL.D) (S : List Slot) (k : Nat → (Nat → W) → (List Slot → Prop) → Prop) : (W.ref j [] (.fl ds)).lsrc S k = (match gt S j with | .own a _ => k ds.length (datAt ds) fun S' => gt S' j = .own a (.fl ds) | _ => False) := by first | rfl | exact propext Iff.rfl
section
variable {K : PySem.W.Frag} {fx : Fx} {F G H F' G' H' : Hp} {σ : L2.St} {S : List Slot} {A : Nat → List Addr} {v : V} {B : List Addr} {x : W}
theorem Reps.getD {vs : List V} {ds : List D} (r : Reps K F vs ds) {i : Nat} {v : V} (h : vs[i]? = some v) : Rep K F v (ds.getD i .non) := by
  obtain ⟨d, e, q⟩ := r.getV h
  rw [List.getD_eq_getElem?_getD, e]
  exact q
theorem Cons.frz (c0 : Cons K fx F G H σ S A) (g : Grow fx F G H F' G' H') (c : Cons K fx F' G' H' σ S A) (nf : ∀ b ∈ B, G' b = none ∧ fx.st ≠ some b) (n0 : ∀ b ∈ B, H b = none) :
    Grow fx F G H (frz F' H' B) (DL.frz G' H' B) H' ∧ Cons K fx (DL.frz F' H' B) (DL.frz G' H' B) H' σ S A ∧ ∀ b ∈ B, F' b = none :=
  ⟨Grow.frz c g (fun b hb => (nf b hb).1) n0, c.freeze fun b hb => ⟨(nf b hb).1, (nf b hb).2, c0.hn b (n0 b hb), fun i => c0.noA (n0 b hb) i⟩, fun b hb => c.fnone (nf b hb).1⟩
theorem LSrc.dat {a : Addr} {vs : List V} {ds : List D} (h1 : F a = some (.lst vs)) (h2 : Reps K F vs ds) : LSrc K fx F G a ds.length (datAt ds) fun _ => True :=
  fun F3 G3 H3 σ3 S3 A3 f3 _ c3 _ => ⟨vs, ql (c3.gh _ _ (c3.fg _ _ (f3 _ _ h1))), h2.length, fun i w e S2 A2 => ⟨(h2.getD e).mono f3, rfl⟩⟩
theorem RepW.lsrc0 {k : Nat → (Nat → W) → (List Slot → Prop) → Prop} (c : Cons K fx F G H σ S A) (r : RepW K fx F G H S A v B x) (nn : ∀ o, x ≠ .new o) (h : x.lsrc S k) :
    ∃ a n item stab, v = .ref a ∧ stab S ∧ LSrc K fx F G a n item stab ∧ (∃ xs, SqL K H a xs) ∧ k n item stab := by
  cases x with
  | dat d =>
    obtain ⟨r, rfl⟩ := r
    cases r with
    | lst h1 h2 => exact ⟨_, _, datAt _, _, rfl, trivial, LSrc.dat h1 h2, ⟨_, ql (c.gh _ _ (c.fg _ _ h1))⟩, h⟩
    | _ => exact h.elim
  | rdo d =>
    obtain ⟨r, rfl⟩ := r
    cases r with
    | lst h1 h2 => exact ⟨_, _, rdoAt _, _, rfl, trivial, fun F3 G3 H3 σ3 S3 A3 _ g3 c3 _ => ⟨_, ql (c3.gh _ _ (g3 _ _ h1)), h2.length, fun i w e S2 A2 => rdW_rep ((h2.getD e).mono g3)⟩, ⟨_, ql (c.gh _ _ h1)⟩, h⟩
    | _ => exact h.elim
  | new o => exact absurd rfl (nn o)
  | ref j p o =>
    cases p with
    | cons _ _ => cases o <;> exact h.elim
    | nil =>
      cases o with
      | fl ds =>
        cases e : gt S j with
        | own a o1 =>
          have h' : (match gt S j with
            | .own a _ => k ds.length (datAt ds) fun S' => gt S' j = .own a (.fl ds)
            | _ => False) := h
          rw [e] at h'
          obtain ⟨_, ⟨a', o0, e2, hn⟩, As, r, s⟩ := r
          rw [gt_some e (by simp)] at e2
          cases e2
          cases hn
          cases r with
          | fl h1 h2 =>
            refine ⟨a, _, datAt ds, _, rfl, e, fun F3 G3 H3 σ3 S3 A3 f3 g3 c3 st3 => ?_, ⟨_, .inl (.inl h1)⟩, h'⟩
            have q := (c3.sl j _ (gt_some st3 (by simp))).2
            generalize A3 j = AA at q
            cases q with
            | fl h3 h4 => exact ⟨_, .inl (.inl h3), h4.length, fun i w e S2 A2 => ⟨h4.getD e, rfl⟩⟩
        | _ =>
          have h' : (match gt S j with
            | .own a _ => k ds.length (datAt ds) fun S' => gt S' j = .own a (.fl ds)
            | _ => False) := h
          rw [e] at h'
          exact h'.elim
      | _ => exact h.elim
  | sto => exact h.elim
theorem RepW.lsrc {k : Nat → (Nat → W) → (List Slot → Prop) → Prop} (c0 : Cons K fx F G H σ S A) (c : Cons K fx F' G' H' σ S A) (g : Grow fx F G H F' G' H') (r : RepW K fx F' G' H' S A v B x) (n0 : ∀ b ∈ B, H b = none) (h : x.lsrc S k) :
    ∃ a n item stab F2 G2, v = .ref a ∧ Grow fx F G H F2 G2 H' ∧ Cons K fx F2 G2 H' σ S A ∧ stab S ∧ LSrc K fx F2 G2 a n item stab ∧ (∃ xs, SqL K H' a xs) ∧ k n item stab := by
  have old : (∀ o, x ≠ .new o) → ∃ a n item stab F2 G2, v = .ref a ∧ Grow fx F G H F2 G2 H' ∧ Cons K fx F2 G2 H' σ S A ∧ stab S ∧ LSrc K fx F2 G2 a n item stab ∧ (∃ xs, SqL K H' a xs) ∧ k n item stab := fun nn => by
    obtain ⟨a, n, item, stab, e, st, ls, hx, z⟩ := r.lsrc0 c nn h
    exact ⟨a, n, item, stab, F', G', e, g, c, st, ls, hx, z⟩
  cases x with
  | new o =>
    obtain ⟨r, nd, nf⟩ := r
    cases r with
    | fl h1 h2 =>
      obtain ⟨g2, c2, nF⟩ := c0.frz g c nf n0
      rename_i a0 vs0 ds0
      have h1' := frz_in (F := F') (H := H') (a := a0) (B := [a0]) (List.mem_singleton.mpr rfl)
      rw [h1] at h1'
      exact ⟨_, _, datAt _, _, _, _, rfl, g2, c2, trivial, LSrc.dat h1' (h2.mono (sub_frz nF)), ⟨_, .inl (.inl h1)⟩, h⟩
    | _ => exact h.elim
  | dat d => exact old fun o h => (nomatch h)
  | rdo d => exact old fun o h => (nomatch h)
  | ref j p o => exact old fun o h => (nomatch h)
  | sto => exact h.elim
variable {Wx : WX} {te : TE} {we : WE} {ta : TA} {wa : WA}
def wIList (we : WE) : WI := fun xp S Q => we xp S fun x => x.lsrc S Q
theorem SndI.list (he : Snd K Wx te we) : SndI K Wx (iList K te) (wIList we) := fun fx xp F G H σ S A Qd R xr c hw q => by
  refine he fx xp F G H σ S A _ _ xr c hw fun v x F1 G1 H1 B g1 c1 r1 n1 q1 => ?_
  obtain ⟨a, n, item, stab, F2, G2, rfl, g2, c2, st2, ls, hx, z⟩ := r1.lsrc c c1 g1 n1 q1
  refine ⟨a, rfl, hx, q _ n item stab F2 G2 H1 g2 c2 st2 (fun i F3 G3 H3 σ3 S3 A3 f3 g3 c3 st3 => ?_) z⟩
  obtain ⟨vs, h1, h2, h3⟩ := ls F3 G3 H3 σ3 S3 A3 f3 g3 c3 st3
  refine ⟨fun hn => ⟨vs, h1, by omega⟩, fun hi => ?_⟩
  have e : vs[i]? = some (vs[i]'(by omega)) := List.getElem?_eq_getElem _
  refine ⟨⟨vs, _, h1, e⟩, fun y H4 hy => ?_⟩
  obtain ⟨rfl, hy⟩ := hy
  exact ⟨F3, G3, .refl, c3, h3 i y (hy vs h1) _ _⟩
/-- a tuple -/
def wITup (we : WE) : WI := fun xp S Q => we xp S fun x => match x with
  | .dat (.tup ds) => Q ds.length (datAt ds) fun _ => True
  | .rdo (.tup ds) => Q ds.length (rdoAt ds) fun _ => True
  | _ => False
theorem SndI.tup (he : Snd K Wx te we) : SndI K Wx (iTup K te) (wITup we) := fun fx xp F G H σ S A Qd R xr c hw q => by
  refine he fx xp F G H σ S A _ _ xr c hw fun v x F1 G1 H1 B g1 c1 r1 n1 q1 => ?_
  have key : ∀ {a : Addr} {vs : List V} {n : Nat} {item : Nat → W}, SqT K G1 a vs → vs.length = n → (∀ (F3 G3 H3 : Hp) (i : Nat) (w : V), Sub F1 F3 → Sub G1 G3 → vs[i]? = some w → ∀ S2 A2, RepW K fx F3 G3 H3 S2 A2 w [] (item i)) → ItOk K fx F1 G1 (Itt K a) n item fun _ => True :=
    fun {a vs n item} h1 h2 h3 i F3 G3 H3 σ3 S3 A3 f3 g3 c3 _ => by
      have h1' : SqT K H3 a vs := sub_t (g3.trans c3.gh) h1
      refine ⟨fun hn => ⟨vs, h1', by omega⟩, fun hi => ?_⟩
      have e : vs[i]? = some (vs[i]'(by omega)) := List.getElem?_eq_getElem _
      refine ⟨⟨vs, _, h1', e⟩, fun y H4 hy => ?_⟩
      obtain ⟨rfl, hy⟩ := hy
      exact ⟨F3, G3, .refl, c3, h3 F3 G3 _ i y f3 g3 (hy vs h1') _ _⟩
  cases x with
  | dat d =>
    cases d with
    | tup ds =>
      cases r1.1 with
      | tup h1 h2 => exact ⟨_, rfl, ⟨_, sub_t (c1.fg.trans c1.gh) (qt h1)⟩, q _ _ (datAt ds) _ F1 G1 H1 g1 c1 trivial (key (sub_t c1.fg (qt h1)) h2.length fun F3 G3 H3 i w f3 g3 e S2 A2 => ⟨(h2.getD e).mono f3, rfl⟩) q1⟩
    | _ => exact q1.elim
  | rdo d =>
    cases d with
    | tup ds =>
      cases r1.1 with
      | tup h1 h2 => exact ⟨_, rfl, ⟨_, sub_t c1.gh (qt h1)⟩, q _ _ (rdoAt ds) _ F1 G1 H1 g1 c1 trivial (key (qt h1) h2.length fun F3 G3 H3 i w f3 g3 e S2 A2 => rdW_rep ((h2.getD e).mono g3)) q1⟩
    | _ => exact q1.elim
  | _ => exact q1.elim
/-- ranges -/
def rngAt (lo c : Int) : Nat → W := fun i => .dat (.int (lo + (i : Nat) * c))
def wIR1 (wa : WA) : WI := fun xp S Q => wa xp S fun xs => match xs with
  | [.dat (.int j)] => -(2 ^ 62) ≤ j ∧ j < 2 ^ 62 ∧ Q j.toNat (fun i => .dat (.int (i : Nat))) fun _ => True
  | _ => False
def wIR2 (wa : WA) : WI := fun xp S Q => wa xp S fun xs => match xs with
  | [.dat (.int i), .dat (.int j)] => (-(2 ^ 62) ≤ i ∧ i < 2 ^ 62 ∧ -(2 ^ 62) ≤ j ∧ j < 2 ^ 62) ∧ Q (j - i).toNat (fun k => .dat (.int (i + (k : Nat)))) fun _ => True
  | _ => False
def wIR3 (wa : WA) : WI := fun xp S Q => wa xp S fun xs => match xs with
  | [.dat (.int i), .dat (.int j), .dat (.int c)] => ∃ n, RgC i j c n ∧ Q n (rngAt i c) fun _ => True
  | _ => False
theorem RepWs.i1 {vs : List V} {B : List Addr} {i : Int} (r : RepWs K fx F G H S A vs B [.dat (.int i)]) : vs = [.int i] := by
  cases r with
  | cons r t n => cases t; cases r.1; rfl
theorem RepWs.i2 {vs : List V} {B : List Addr} {i j : Int} (r : RepWs K fx F G H S A vs B [.dat (.int i), .dat (.int j)]) : vs = [.int i, .int j] := by
  cases r with
  | cons r t n => cases r.1; rw [t.i1]
theorem RepWs.i3 {vs : List V} {B : List Addr} {i j k : Int} (r : RepWs K fx F G H S A vs B [.dat (.int i), .dat (.int j), .dat (.int k)]) : vs = [.int i, .int j, .int k] := by
  cases r with
  | cons r t n => cases r.1; rw [t.i2]
theorem SndI.r1 (ha : SndA K Wx ta wa) : SndI K Wx (iRng1 ta) (wIR1 wa) := fun fx xp F G H σ S A Qd R xr c hw q => by
  refine ha fx xp F G H σ S A _ _ xr c hw fun vs xs F1 G1 H1 B g1 c1 r1 n1 q1 => ?_
  split at q1
  · rename_i j
    refine ⟨j, r1.i1, q1.1, q1.2.1, q _ _ _ _ F1 G1 H1 g1 c1 (by trivial) (fun i F3 G3 H3 σ3 S3 A3 f3 g3 c3 _ => ⟨fun h => h, fun h => ⟨h, fun y H4 hy => ?_⟩⟩) q1.2.2⟩
    obtain ⟨rfl, rfl⟩ := hy
    exact ⟨F3, G3, .refl, c3, by rw [Int.zero_add]; exact .int _, rfl⟩
  · exact q1.elim
theorem SndI.r2 (ha : SndA K Wx ta wa) : SndI K Wx (iRng2 ta) (wIR2 wa) := fun fx xp F G H σ S A Qd R xr c hw q => by
  refine ha fx xp F G H σ S A _ _ xr c hw fun vs xs F1 G1 H1 B g1 c1 r1 n1 q1 => ?_
  split at q1
  · rename_i i j
    refine ⟨i, j, r1.i2, q1.1, q _ _ _ _ F1 G1 H1 g1 c1 (by trivial) (fun i F3 G3 H3 σ3 S3 A3 f3 g3 c3 _ => ⟨fun h => h, fun h => ⟨h, fun y H4 hy => ?_⟩⟩) q1.2⟩
    obtain ⟨rfl, rfl⟩ := hy
    exact ⟨F3, G3, .refl, c3, .int _, rfl⟩
  · exact q1.elim
theorem SndI.r3 (ha : SndA K Wx ta wa) : SndI K Wx (iRng3 ta) (wIR3 wa) := fun fx xp F G H σ S A Qd R xr c hw q => by
  refine ha fx xp F G H σ S A _ _ xr c hw fun vs xs F1 G1 H1 B g1 c1 r1 n1 q1 => ?_
  split at q1
  · rename_i i j k
    obtain ⟨n, hn, z⟩ := q1
    refine ⟨i, j, k, n, r1.i3, hn, q _ _ _ _ F1 G1 H1 g1 c1 (by trivial) (fun i F3 G3 H3 σ3 S3 A3 f3 g3 c3 _ => ⟨fun h => h, fun h => ⟨h, fun y H4 hy => ?_⟩⟩) z⟩
    obtain ⟨rfl, rfl⟩ := hy
    exact ⟨F3, G3, .refl, c3, .int _, rfl⟩
  · exact q1.elim
/-- a text, sign by sign -/
def wIStr (we : WE) : WI := fun xp S Q => we xp S fun x => match x with
  | .dat (.str s) => Q s.cps.size (fun i => .dat (.str ⟨#[s.cps.getD i 0]⟩)) fun _ => True
  | _ => False
theorem SndI.str (he : Snd K Wx te we) : SndI K Wx (iStr te) (wIStr we) := fun fx xp F G H σ S A Qd R xr c hw q => by
  refine he fx xp F G H σ S A _ _ xr c hw fun v x F1 G1 H1 B g1 c1 r1 n1 q1 => ?_
  cases x with
  | dat d =>
    cases d with
    | str s =>
      cases r1.1
      refine ⟨s, rfl, q _ _ _ _ F1 G1 H1 g1 c1 (by trivial) (fun i F3 G3 H3 σ3 S3 A3 f3 g3 c3 _ => ⟨fun h => h, fun h => ⟨h, fun y H4 hy => ?_⟩⟩) q1⟩
      obtain ⟨rfl, cc, e, rfl⟩ := hy
      refine ⟨F3, G3, .refl, c3, ?_, rfl⟩
      have e2 : s.cps.getD i 0 = cc := by rw [Array.getD_eq_getD_getElem?, e]; rfl
      rw [e2]
      exact .str _
    | _ => exact q1.elim
  | _ => exact q1.elim
/-- enumerate(list), zip(list, list) -/
def pairW (x y : W) : W := match x, y with
  | .dat a, .dat b => .dat (.tup [a, b])
  | x, y => .rdo (.tup [x.d, y.d])
@[simp ↓] theorem epairW_1 (a b : DL.D) : pairW (.dat a) (.dat b) = .dat (.tup [a, b]) := by first | rfl | exact propext Iff.rfl
@[simp ↓] theorem epairW_2 (a b : DL.D) : pairW (.dat a) (.rdo b) = .rdo (.tup [a, b]) := by first | rfl | exact propext Iff.rfl
@[simp ↓] theorem epairW_3 (a b : DL.D) : pairW (.rdo a) (.dat b) = .rdo (.tup [a, b]) := by first | rfl | exact propext Iff.rfl
@[simp ↓] theorem epairW_4 (a b : DL.D) : pairW (.rdo a) (.rdo b) = .rdo (.tup [a, b]) := by first | rfl | exact propext Iff.rfl
theorem Cons.newTG (c : Cons K fx F G H σ S A) {p : Addr} {vs : List V} {ds : List D} (hp : H p = none) (r : Reps K G vs ds) :
    ∃ G', Grow fx F G H F G' (upd H p (.tup vs)) ∧ Cons K fx F G' (upd H p (.tup vs)) σ S A ∧ Rep K G' (.ref p) (.tup ds) := by
  obtain ⟨g2, c2⟩ := c.laid (o := .tup vs) hp
  obtain ⟨n1, n2, n3, n4⟩ := c.new hp
  have sG := sub_frz (F := G) (H := upd H p (.tup vs)) (B := [p]) fun b hb => by rw [List.mem_singleton.mp hb]; exact n1
  have g3 : Grow fx F G H F (DL.frz G (upd H p (.tup vs)) [p]) (upd H p (.tup vs)) := ⟨g2.f, g2.g.trans sG, g2.h, g2.hn, g2.fn, fun a o e z => by
    by_cases h : a ∈ [p]
    · rw [List.mem_singleton.mp h]
      exact hp
    · rw [frz_out h] at e
      exact g2.gn a o e z⟩
  refine ⟨_, g3, c.grow g3 (c.fg.trans sG) (frz_sub c2.gh) fun q e => ⟨?_, (c2.sto q e).2.2.1⟩, .tup ?_ (r.mono sG)⟩
  · rw [frz_out fun h => n3 (by rw [← List.mem_singleton.mp h]; exact e)]
    exact (c.sto q e).1
  · rw [frz_in (List.mem_singleton.mpr rfl)]
    exact upd_same
theorem pair_new (c : Cons K fx F G H σ S A) {p : Addr} {v w : V} {x y : W} (hp : H p = none) (rx : RepW K fx F G H S A v [] x) (ry : RepW K fx F G H S A w [] y) (nx : ∀ i p o, x ≠ .ref i p o) (ny : ∀ i p o, y ≠ .ref i p o) (sx : x ≠ .sto) (sy : y ≠ .sto) (ox : ∀ o, x ≠ .new o) (oy : ∀ o, y ≠ .new o) :
    ∃ F2 G2, Grow fx F G H F2 G2 (upd H p (.tup [v, w])) ∧ Cons K fx F2 G2 (upd H p (.tup [v, w])) σ S A ∧ RepW K fx F2 G2 (upd H p (.tup [v, w])) S A (.ref p) [] (pairW x y) := by
  have gg : Rep K G v x.d → Rep K G w y.d → ∃ F2 G2, Grow fx F G H F2 G2 (upd H p (.tup [v, w])) ∧ Cons K fx F2 G2 (upd H p (.tup [v, w])) σ S A ∧ RepW K fx F2 G2 (upd H p (.tup [v, w])) S A (.ref p) [] (.rdo (.tup [x.d, y.d])) := fun h1 h2 => by
    obtain ⟨G2, g2, c2, r2⟩ := c.newTG (vs := [v, w]) hp (.cons h1 (.cons h2 .nil))
    exact ⟨F, G2, g2, c2, r2, rfl⟩
  cases x with
  | dat a =>
    cases y with
    | dat b =>
      obtain ⟨F2, G2, g2, c2, r2⟩ := c.newT (vs := [v, w]) hp (.cons rx.1 (.cons ry.1 .nil))
      exact ⟨F2, G2, g2, c2, r2, rfl⟩
    | rdo b => exact gg (rx.1.mono c.fg) ry.1
    | new o => exact absurd rfl (oy o)
    | ref i p o => exact absurd rfl (ny i p o)
    | sto => exact absurd rfl sy
  | rdo a =>
    cases y with
    | dat b => exact gg rx.1 (ry.1.mono c.fg)
    | rdo b => exact gg rx.1 ry.1
    | new o => exact absurd rfl (oy o)
    | ref i p o => exact absurd rfl (ny i p o)
    | sto => exact absurd rfl sy
  | new o => exact absurd rfl (ox o)
  | ref i p o => exact absurd rfl (nx i p o)
  | sto => exact absurd rfl sx
def isItem (x : W) : Prop := (∀ i p o, x ≠ .ref i p o) ∧ x ≠ .sto ∧ ∀ o, x ≠ .new o
theorem isItem_dat {d : D} : isItem (.dat d) := ⟨fun _ _ _ h => (nomatch h), fun h => (nomatch h), fun _ h => (nomatch h)⟩
theorem isItem_rdW {d : D} : isItem (rdW d) := by
  cases d <;> exact ⟨fun _ _ _ h => (nomatch h), fun h => (nomatch h), fun _ h => (nomatch h)⟩
/-- a source's items are items -/
def W.lsrcI (x : W) (S : List Slot) (k : Nat → (Nat → W) → (List Slot → Prop) → Prop) : Prop := x.lsrc S fun n item stab => (∀ i, isItem (item i)) ∧ k n item stab
theorem W.lsrc_items {x : W} {S : List Slot} {k : Nat → (Nat → W) → (List Slot → Prop) → Prop} (h : x.lsrc S k) : x.lsrcI S k := by
  unfold W.lsrcI
  cases x with
  | dat d => cases d <;> first | exact h.elim | exact ⟨fun i => isItem_dat, h⟩
  | rdo d => cases d <;> first | exact h.elim | exact ⟨fun i => isItem_rdW, h⟩
  | new d => cases d <;> first | exact h.elim | exact ⟨fun i => isItem_dat, h⟩
  | ref j p o =>
    cases p with
    | cons _ _ => cases o <;> exact h.elim
    | nil =>
      cases o with
      | fl ds =>
        show (match gt S j with
          | .own a _ => _
          | _ => False)
        have h' : (match gt S j with
          | .own a _ => k ds.length (datAt ds) fun S' => gt S' j = .own a (.fl ds)
          | _ => False) := h
        split
        · rename_i a o e
          rw [e] at h'
          exact ⟨fun i => isItem_dat, h'⟩
        · rename_i ne
          split at h'
          · rename_i a o e
            exact absurd e (ne a o)
          · exact h'
      | _ => exact h.elim
  | sto => exact h.elim
def wIEnum (wa : WA) : WI := fun xp S Q => wa xp S fun xs => match xs with
  | [x] => x.lsrc S fun n item stab => Q n (fun i => pairW (.dat (.int (i : Nat))) (item i)) stab
  | _ => False
theorem SndI.enum (ha : SndA K Wx ta wa) : SndI K Wx (iEnum K ta) (wIEnum wa) := fun fx xp F G H σ S A Qd R xr c hw q => by
  refine ha fx xp F G H σ S A _ _ xr c hw fun vs xs F1 G1 H1 B g1 c1 r1 n1 q1 => ?_
  split at q1
  · rename_i x
    cases r1 with
    | cons r1 t nn =>
      cases t
      obtain ⟨a, n, item, stab, F2, G2, rfl, g2, c2, st2, ls, ⟨xs, hx⟩, ii, z⟩ := r1.lsrc c c1 g1 (fun b hb => n1 b (List.mem_append_left _ hb)) (W.lsrc_items q1)
      refine ⟨a, xs, rfl, hx, q _ n _ stab F2 G2 H1 g2 c2 st2 (fun i F3 G3 H3 σ3 S3 A3 f3 g3 c3 st3 => ?_) z⟩
      obtain ⟨vs, h1, h2, h3⟩ := ls F3 G3 H3 σ3 S3 A3 f3 g3 c3 st3
      refine ⟨fun hn => ⟨vs, h1, by omega⟩, fun hi => ?_⟩
      have e : vs[i]? = some (vs[i]'(by omega)) := List.getElem?_eq_getElem _
      refine ⟨⟨vs, _, h1, e⟩, fun y H4 hy => ?_⟩
      obtain ⟨T, w, rfl, hT, rfl, hy⟩ := hy
      exact pair_new c3 hT ⟨.int _, rfl⟩ (h3 i w (hy vs h1) S3 A3) (isItem_dat).1 (ii i).1 (isItem_dat).2.1 (ii i).2.1 (isItem_dat).2.2 (ii i).2.2
  · exact q1.elim
def wIZip (wa : WA) : WI := fun xp S Q => wa xp S fun xs => match xs with
  | [x, y] => (∀ o, x ≠ .new o) ∧ (∀ o, y ≠ .new o) ∧ x.lsrc S fun n item stab => y.lsrc S fun n' item' stab' => Q (min n n') (fun i => pairW (item i) (item' i)) fun S' => stab S' ∧ stab' S'
  | _ => False
theorem SndI.zip (ha : SndA K Wx ta wa) : SndI K Wx (iZip K ta) (wIZip wa) := fun fx xp F G H σ S A Qd R xr c hw q => by
  refine ha fx xp F G H σ S A _ _ xr c hw fun vs xs F1 G1 H1 B g1 c1 r1 n1 q1 => ?_
  split at q1
  · rename_i x y
    cases r1 with
    | cons r1 t nn =>
      cases t with
      | cons r2 t nn2 =>
        cases t
        obtain ⟨nx, ny, q1⟩ := q1
        obtain ⟨a, n, item, stab, rfl, st2, ls, hx, ii, z⟩ := r1.lsrc0 c1 nx (W.lsrc_items q1)
        obtain ⟨b, n', item', stab', rfl, st3, ls', hy, ii', z⟩ := r2.lsrc0 c1 ny (W.lsrc_items z)
        obtain ⟨xs, hx⟩ := hx
        obtain ⟨ys, hy⟩ := hy
        refine ⟨a, b, xs, ys, rfl, hx, hy, q _ _ _ _ F1 G1 H1 g1 c1 ⟨st2, st3⟩ (fun i F3 G3 H3 σ3 S3 A3 f3 g3 c3 st3 => ?_) z⟩
        obtain ⟨vs, h1, h2, h3⟩ := ls F3 G3 H3 σ3 S3 A3 f3 g3 c3 st3.1
        obtain ⟨ws, h4, h5, h6⟩ := ls' F3 G3 H3 σ3 S3 A3 f3 g3 c3 st3.2
        refine ⟨fun hn => ⟨vs, ws, h1, h4, by omega⟩, fun hi => ?_⟩
        have e : vs[i]? = some (vs[i]'(by omega)) := List.getElem?_eq_getElem _
        have e' : ws[i]? = some (ws[i]'(by omega)) := List.getElem?_eq_getElem _
        refine ⟨⟨vs, ws, _, _, h1, h4, e, e'⟩, fun y H4 hy => ?_⟩
        obtain ⟨T, w, w', rfl, hT, rfl, hy, hy'⟩ := hy
        exact pair_new c3 hT (h3 i w (hy vs h1) S3 A3) (h6 i w' (hy' ws h4) S3 A3) (ii i).1 (ii' i).1 (ii i).2.1 (ii' i).2.1 (ii i).2.2 (ii' i).2.2
  · exact q1.elim

/-! ## for -/
variable {ti : TI} {wi : WI} {g : TG} {wg : WG} {t : TS} {w : WS}
def wFor (wi : WI) (wg : WG) (wb : WS) : WS := fun xp P S => wi xp S fun n item stab => ∃ I : Nat → List Slot → Prop, I 0 S ∧ (∀ k S', k ≤ n → I k S' → stab S') ∧
  (∀ k S', k < n → I k S' → wg (item k) S' fun S2 => wb xp { P with nx := I (k + 1), ct := I (k + 1), bk := P.nx } S2) ∧ ∀ S', I n S' → P.nx S'
theorem RelD.loop {D : Ends} {P : Post} (r : RelD K fx F G D P) {I : List Slot → Prop} {N : L2.St → Hp → Prop} (h : ∀ σ' F' G' H' S' A', Sub F F' → Sub G G' → Cons K fx F' G' H' σ' S' A' → I S' → N σ' H') :
    RelD K fx F G { D with nx := N, ct := N, bk := D.nx } { P with nx := I, ct := I, bk := P.nx } := ⟨h, r.nx, h, r.rt, r.np⟩
theorem SndS.for (hi : SndI K Wx ti wi) (hg : SndG K g wg) (hb : SndS K Wx t w) : SndS K Wx (tFor ti g t) (wFor wi wg w) := fun fx xp F G H σ S A P D xr c r hw => by
  refine hi fx xp F G H σ S A _ _ xr c hw fun J n item stab F1 G1 H1 g1 c1 st1 it ⟨I, i0, hst, hturn, hend⟩ => ?_
  refine ⟨fun i m σ H => m + i = n ∧ ∃ F' G' S' A', Sub F1 F' ∧ Sub G1 G' ∧ Cons K fx F' G' H σ S' A' ∧ I i S', ⟨n, rfl, F1, G1, S, A, .refl _, .refl _, c1, i0⟩, fun i m σ' H' ⟨em, F', G', S', A', f, g', c', i'⟩ => ?_⟩
  obtain ⟨h1, h2⟩ := it i F' G' H' σ' S' A' f g' c' (hst i S' (by omega) i')
  have r1 := (r.mono g1.f g1.g).mono f g'
  by_cases hi : i < n
  · obtain ⟨hgo, hy⟩ := h2 hi
    refine .inr ⟨hgo, fun σ2 H2 => ∃ F2 G2 S2 A2, Sub F' F2 ∧ Sub G' G2 ∧ Cons K fx F2 G2 H2 σ2 S2 A2 ∧ I (i + 1) S2, fun σ2 H2 ⟨F2, G2, S2, A2, f2, g2, c2, i2⟩ => ⟨m - 1, by omega, by omega, F2, G2, S2, A2, f.trans f2, g'.trans g2, c2, i2⟩, fun y H2 hyl => ?_⟩
    obtain ⟨F2, G2, g2, c2, rw2⟩ := hy y H2 hyl
    have q := hturn i S' hi i'
    refine hg fx F2 G2 H2 σ' S' A' y (item i) [] (fun S2 => w xp { P with nx := I (i + 1), ct := I (i + 1), bk := P.nx } S2) _ c2 rw2 (fun b hb => by cases hb) (fun j b hb => by cases hb) q fun σ3 S3 A3 c3 q3 => ?_
    refine hb fx xp F2 G2 H2 σ3 S3 A3 _ _ xr c3 ((r1.mono g2.f g2.g).loop (I := I (i + 1)) fun σ4 F4 G4 H4 S4 A4 f4 g4 c4 i4 => ⟨F4, G4, S4, A4, g2.f.trans f4, g2.g.trans g4, c4, i4⟩) q3
  · have e : i = n := by omega
    subst e
    exact .inl ⟨h1 (Nat.le_refl _), r1.nx σ' F' G' H' S' A' (.refl _) (.refl _) c' (hend S' i')⟩
end
section
variable {X : Cx} {Wx : WX} {tg e a b c : Expr} {te : TE} {we : WE} {ta : TA} {wa : WA} {pos p : Pos} {es : List Expr}
theorem id_list (he : PdD X Wx e te we) : IdD X Wx tg e (iList X.K te) (wIList we) := ⟨pi_list he.pe, SndI.list he.ok⟩
theorem id_tup (he : PdD X Wx e te we) : IdD X Wx tg e (iTup X.K te) (wITup we) := ⟨pi_tup he.pe, SndI.tup he.ok⟩
theorem id_str (he : PdD X Wx e te we) : IdD X Wx tg e (iStr te) (wIStr we) := ⟨pi_str he.pe, SndI.str he.ok⟩
theorem id_r1 (hm : X.mg "range" = none) (ha : AdD X Wx [a] ta wa) (hg : Gl X "range" := by rfl) (hs : starEach [a] X.env = [(false, eval a X.env)] := by rfl) : IdD X Wx tg (.Call (.Name "range" p) [a] [] pos) (iRng1 ta) (wIR1 wa) := ⟨pi_range1 hg hm ha.pa hs, SndI.r1 ha.ok⟩
theorem id_r2 (hm : X.mg "range" = none) (ha : AdD X Wx [a, b] ta wa) (hg : Gl X "range" := by rfl) (hs : starEach [a, b] X.env = [(false, eval a X.env), (false, eval b X.env)] := by rfl) (hs2 : starEach [b] X.env = [(false, eval b X.env)] := by rfl) : IdD X Wx tg (.Call (.Name "range" p) [a, b] [] pos) (iRng2 ta) (wIR2 wa) := ⟨pi_range2 hg hm ha.pa hs hs2, SndI.r2 ha.ok⟩
theorem id_r3 (hm : X.mg "range" = none) (ha : AdD X Wx [a, b, c] ta wa) (hg : Gl X "range" := by rfl) (hs : starEach [a, b, c] X.env = (false, eval a X.env) :: starEach [b, c] X.env := by rfl) (hpl : (backTo pos (starEach [b, c] X.env)).any (·.1) = false := by rfl) : IdD X Wx tg (.Call (.Name "range" p) [a, b, c] [] pos) (iRng3 ta) (wIR3 wa) := ⟨pi_range3 hg hm ha.pa hs hpl, SndI.r3 ha.ok⟩
theorem id_enum {elts : List Expr} {kk : Nat} {tpos : Pos} (hm : X.mg "enumerate" = none) (ha : AdD X Wx [e] ta wa) (hg : Gl X "enumerate" := by rfl) (hs : starEach [e] X.env = [(false, eval e X.env)] := by rfl) : IdD X Wx (.Tuple elts kk tpos) (.Call (.Name "enumerate" p) [e] [] pos) (iEnum X.K ta) (wIEnum wa) := ⟨pi_enum hg hm ha.pa hs, SndI.enum ha.ok⟩
theorem sd_for {iter : Expr} {body : List Stmt} {ti : TI} {wi : WI} {g : TG} {wg : WG} {t : TS} {w : WS} (hp : PassesOwn (model X.prog X.w) X.A X.env X.xe) (hc : X.calm = true) (hi : IdD X Wx tg iter ti wi) (hg : GdD X tg g wg)  (hb : BkD X Wx body t w) (hs : ∀ x, foldedSetIterable iter X.env x = pure x := by intro _; rfl) :
    PsD X Wx (.For tg iter body [] pos) (tFor ti g t) (wFor wi wg w) := ⟨ps_for hp hc hi.pi hg.pg hb.ps hs, SndS.for hi.ok hg.ok hb.ok⟩
end
end DL

namespace DL
open PySem PySem.Spec PyProof.Rows L2

/-! ## calls of defs that change nothing but the store -/
inductive Ag where
  | dat (d : D) | rdo (d : D) | sto
inductive Rt where
  | dat (d : D) | new (o : O)
def Rt.w : Rt → W
  | .dat d => .dat d
  | .new o => .new o
@[simp ↓] theorem eRt_w_1 (d : D) : (Rt.dat d).w = .dat d := rfl
@[simp ↓] theorem eRt_w_2 (o : O) : (Rt.new o).w = .new o := rfl
/-- what a def does, by data: its arguments, what is wanted of its answer, what is wanted of an exception -/
abbrev Fs := List Ag → (Rt → Prop) → (Addr → List (Str × D) → Prop) → Prop
def AgRep (K : PySem.W.Frag) (st : Option Addr) (F G : Hp) (v : V) : Ag → Prop
  | .dat d => Rep K F v d
  | .rdo d => Rep K G v d
  | .sto => ∃ p, st = some p ∧ v = .ref p
inductive AgReps (K : PySem.W.Frag) (st : Option Addr) (F G : Hp) : List V → List Ag → Prop
  | nil : AgReps K st F G [] []
  | cons {v : V} {vs : List V} {a : Ag} {as : List Ag} : AgRep K st F G v a → AgReps K st F G vs as → AgReps K st F G (v :: vs) (a :: as)
theorem AgReps.length {K : PySem.W.Frag} {st : Option Addr} {F G : Hp} : ∀ {vs : List V} {as : List Ag}, AgReps K st F G vs as → vs.length = as.length
  | _, _, .nil => rfl
  | _, _, .cons _ r => by rw [List.length_cons, List.length_cons, AgReps.length r]
/-- behind a call -/
structure Behind (st : Option Addr) (F H F' H' : Hp) : Prop where
  f : Sub F F'
  fh : Sub F' H'
  fn : ∀ a o, F' a = some o → F a = none → H a = none
  h : ∀ a o, H a = some o → st ≠ some a → H' a = some o
  hn : ∀ a, H' a = none → H a = none
  sto : ∀ p, st = some p → F' p = none ∧ StoOk H' p
def RtRep (K : PySem.W.Frag) (st : Option Addr) (F' H H' : Hp) (v : V) (B : List Addr) : Rt → Prop
  | .dat d => Rep K F' v d ∧ B = []
  | .new o => RepO K F' H' v o B ∧ B.Nodup ∧ ∀ b ∈ B, H b = none ∧ F' b = none ∧ st ≠ some b
def spP (K : PySem.W.Frag) (fs : Fs) : Sp := fun vs H Q E => ∃ (st : Option Addr) (F G : Hp) (as : List Ag) (Qd : Rt → Prop) (xd : Addr → List (Str × D) → Prop),
  AgReps K st F G vs as ∧ Sub F G ∧ Sub G H ∧ (∀ p, st = some p → G p = none ∧ StoOk H p) ∧ fs as Qd xd ∧
  (∀ r v F' H' B, Behind st F H F' H' → RtRep K st F' H H' v B r → Qd r → Q v H') ∧
  ∀ C fs F' H', Behind st F H F' H' → xd C fs → (fs = [] → E (.ref C) none H') ∧ ∀ d vs, H' d = some (.xd vs) → Repf K F' vs fs → E (.ref C) (some d) H'
inductive Kd where
  | d | r | s
def W.arg (x : W) (k : Kd) (q : Ag → Prop) : Prop := match k with
  | .d => (match x with
    | .dat d => q (.dat d)
    | .new o => q (.dat o.d)
    | .rdo d => d.scal = true ∧ q (.dat d)
    | _ => False)
  | .r => x.dd fun d => q (.rdo d)
  | .s => (match x with
    | .sto => q .sto
    | _ => False)
@[simp ↓] theorem eW_arg_1 (d : DL.D) (q : Ag → Prop) : (W.dat d).arg .d q = q (.dat d) := by first | rfl | exact propext Iff.rfl
@[simp ↓] theorem eW_arg_2 (o : O) (q : Ag → Prop) : (W.new o).arg .d q = q (.dat o.d) := by first | rfl | exact propext Iff.rfl
@[simp ↓] theorem eW_arg_3 (d : DL.D) (q : Ag → Prop) : (W.rdo d).arg .d q = (d.scal = true ∧ q (.dat d)) := by first | rfl | exact propext Iff.rfl
@[simp ↓] theorem eW_arg_4 (x : W) (q : Ag → Prop) : x.arg .r q = x.dd fun d => q (.rdo d) := by first | rfl | exact propext Iff.rfl
@[simp ↓] theorem eW_arg_5 (q : Ag → Prop) : W.sto.arg .s q = q .sto := by first | rfl | exact propext Iff.rfl
@[simp ↓] def W.args : List W → List Kd → (List Ag → Prop) → Prop
  | [], [], q => q []
  | x :: xs, k :: ks, q => x.arg k fun a => W.args xs ks fun as => q (a :: as)
  | _, _, _ => False
@[simp ↓] def wCall (fs : Fs) (ks : List Kd) (wa : WA) : WE := fun xp S Q => wa xp S fun xs => W.args xs ks fun as => fs as (fun r => Q r.w) fun C f => xp C f S
section
variable {K : PySem.W.Frag} {fx : Fx} {F G H F' G' H' : Hp} {σ : L2.St} {S : List Slot} {A : Nat → List Addr} {v : V} {B : List Addr} {x : W}
theorem RepWs.news : ∀ {vs : List V} {B : List Addr} {xs : List W}, RepWs K fx F G H S A vs B xs → ∀ b ∈ B, G b = none ∧ fx.st ≠ some b
  | _, _, _, .nil => fun b hb => by cases hb
  | _, _, _, .cons (x := x) r t n => fun b hb => by
    rcases List.mem_append.mp hb with hb | hb
    · cases x with
      | new o => exact r.2.2 b hb
      | dat d => rw [r.2] at hb; cases hb
      | rdo d => rw [r.2] at hb; cases hb
      | ref i p o => rw [r.1] at hb; cases hb
      | sto => rw [r.1] at hb; cases hb
    · exact RepWs.news t b hb
theorem RepWs.args : ∀ {vs : List V} {B : List Addr} {xs : List W} {ks : List Kd} {q : List Ag → Prop}, Cons K fx F G H σ S A → RepWs K fx F G H S A vs B xs → (∀ b ∈ B, F' b = H b) → Sub F F' → W.args xs ks q → ∃ as, AgReps K fx.st F' (msk fx H) vs as ∧ q as
  | _, _, _, [], _, _, .nil, _, _, h => ⟨[], .nil, h⟩
  | _, _, _, [], _, _, .cons _ _ _, _, _, h => h.elim
  | _, _, _, _ :: _, _, _, .nil, _, _, h => h.elim
  | _, _, _, k :: ks, q, c, .cons (v := v) (x := x) (xs := xs) r t n, hB, f, h => by
    have h' : x.arg k fun a => W.args xs ks fun as => q (a :: as) := h
    have go : ∀ {a : Ag}, AgRep K fx.st F' (msk fx H) v a → (W.args xs ks fun as => q (a :: as)) → ∃ as, AgReps K fx.st F' (msk fx H) (v :: _) as ∧ q as := fun ra h2 => by
      obtain ⟨as, h3, h4⟩ := RepWs.args c t (fun b hb => hB b (List.mem_append_right _ hb)) f h2
      exact ⟨_, .cons ra h3, h4⟩
    cases k with
    | d =>
      cases x with
      | dat d => exact go (a := .dat d) (r.1.mono f) h'
      | rdo d => exact go (a := .dat d) (r.1.scal h'.1) h'.2
      | new o => exact go (a := .dat o.d) (r.1.read f fun b hb u e => by rw [hB b (List.mem_append_left _ hb)]; exact e) h'
      | ref i p o => exact h'.elim
      | sto => exact h'.elim
    | r =>
      obtain ⟨nx, h'⟩ := W.dd_of (x := x) (k := fun d => W.args xs ks fun as => q (Ag.rdo d :: as)) h'
      exact go (a := .rdo x.d) (r.read c nx) h'
    | s =>
      cases x with
      | sto => exact go (a := .sto) r.2 h'
      | _ => exact h'.elim
/-- G with what F' has besides -/
def join (F G : Hp) : Hp := fun a => match F a with
  | some o => some o
  | none => G a
theorem join_l {a : Addr} {o : HO} (h : F a = some o) : join F G a = some o := by unfold join; rw [h]
theorem Cons.behind (c0 : Cons K fx F G H σ S A) (b : Behind fx.st F H F' H') : Grow fx F G H F' (join F' G) H' ∧ Cons K fx F' (join F' G) H' σ S A := by
  have sg : Sub G (join F' G) := fun a o e => by
    unfold join
    cases q : F' a with
    | none => exact e
    | some u =>
      have e1 := b.fh a u q
      have e2 := b.h a o (c0.gh a o e) fun z => by rw [(c0.sto a z).1] at e; cases e
      rw [e1] at e2
      exact e2
  have sh : Sub (join F' G) H' := fun a o e => by
    unfold join at e
    cases q : F' a with
    | none => rw [q] at e; exact b.h a o (c0.gh a o e) fun z => by rw [(c0.sto a z).1] at e; cases e
    | some u => rw [q] at e; rw [← e]; exact b.fh a u q
  have g : Grow fx F G H F' (join F' G) H' := ⟨b.f, sg, b.h, b.hn, b.fn, fun a o e z => by
    unfold join at e
    cases q : F' a with
    | none => rw [q, z] at e; cases e
    | some u => exact b.fn a u q (c0.fnone z)⟩
  refine ⟨g, c0.grow g (fun a o e => join_l e) sh fun p e => ⟨?_, (b.sto p e).2⟩⟩
  unfold join
  rw [(b.sto p e).1]
  exact (c0.sto p e).1
theorem RtRep.w (c0 : Cons K fx F G H σ S A) {r : Rt} (h : RtRep K fx.st F' H H' v B r) : RepW K fx F' (join F' G) H' S A v B r.w ∧ ∀ b ∈ B, H b = none := by
  cases r with
  | dat d => exact ⟨h, fun b hb => by rw [h.2] at hb; cases hb⟩
  | new o =>
    refine ⟨⟨h.1, h.2.1, fun b hb => ⟨?_, (h.2.2 b hb).2.2⟩⟩, fun b hb => (h.2.2 b hb).1⟩
    unfold join
    rw [(h.2.2 b hb).2.1]
    exact (c0.new (h.2.2 b hb).1).1
variable {Wx : WX} {ta : TA} {wa : WA} {fs : Fs} {ks : List Kd}
/-- the arguments of a call, their new cells frozen -/
theorem SndA.argd (ha : SndA K Wx ta wa) {fx : Fx} {xp : Xp} {F G H : Hp} {σ : L2.St} {S : List Slot} {A : Nat → List Addr} {Qd : List Ag → Prop} {Q : List V → Hp → Prop} (xr : XRel K fx Wx xp) (c : Cons K fx F G H σ S A)
    (hw : wa xp S fun xs => W.args xs ks Qd) (q : ∀ vs as F' G' H', Grow fx F G H F' G' H' → Cons K fx F' G' H' σ S A → AgReps K fx.st F' (msk fx H') vs as → Qd as → Q vs H') : ta σ H Q := by
  refine ha fx xp F G H σ S A _ _ xr c hw fun vs xs F1 G1 H1 B g1 c1 r1 n1 q1 => ?_
  obtain ⟨g2, c2, nF⟩ := c.frz g1 c1 r1.news n1
  obtain ⟨as, h1, h2⟩ := r1.args c1 (fun b hb => frz_in hb) (sub_frz nF) q1
  exact q vs as _ _ H1 g2 c2 h1 h2
/-- a def called -/
theorem Snd.call (ha : SndA K Wx ta wa) : Snd K Wx (tCallSD (spP K fs) [] (fun σ cls d H => Wx cls d σ H) ta) (wCall fs ks wa) := fun fx xp F G H σ S A Qd Q xr c hw q => by
  refine ha.argd xr c hw fun vs as F1 G1 H1 g1 c1 r1 q1 => ?_
  rw [List.append_nil]
  have msks : Sub (msk fx H1) H1 := msk_sub
  refine ⟨fx.st, F1, msk fx H1, as, _, _, r1, c1.fm, msks, fun p e => ⟨by unfold msk; rw [if_pos e], (c1.sto p e).2.2.1⟩, q1, fun r v F' H' B b rr qr => ?_, fun C f F' H' b xf => ?_⟩
  · obtain ⟨g2, c2⟩ := c1.behind b
    obtain ⟨r2, n2⟩ := rr.w c1
    exact q v r.w F' _ H' B (g1.trans g2) c2 r2 (fun b hb => g1.hn b (n2 b hb)) qr
  · obtain ⟨g2, c2⟩ := c1.behind b
    exact xr F' _ H' σ S A C f c2 xf
end
section
variable {X : Cx} {Wx : WX} {fs : Fs} {ks : List Kd} {e : Expr} {es : List Expr} {ta : TA} {wa : WA} {k : Nat} {f : Addr} {fd : FuncData} {ps : List Str} {x : Str} {p pos : Pos}
/-- an exception of a call reaches what is wished here -/
theorem passAtE (tk : Takes X Wx) (σ : L2.St) : PassesAt (L2.CX X.prog X.w) X σ (fun cls d H => Wx cls d σ H) := passAt tk σ
theorem pd_call (F : FnOk X.prog X.w X.K X.mg X.base (L2.CX X.prog X.w) k f fd ps (spP X.K fs)) (hr : Room k X.A) (hm : X.mg x = some (.ref f)) (hk : PySem.W.keepIn X.K (.ref f) = true) (hb : Binds X.K fd ps []) (tk : Takes X Wx) (ks : List Kd) (ha : AdD X Wx (e :: es) ta wa)
    (hg : Gl X x := by rfl) (hdb : (x == ("__debug__" : Str)) = false := by decide) (he : starEach (e :: es) X.env = (false, eval e X.env) :: starEach es X.env := by rfl) (hpl : (backTo pos (starEach es X.env)).any (·.1) = false := by rfl) :
    PdD X Wx (.Call (.Name x p) (e :: es) [] pos) (tCallSD (spP X.K fs) [] (fun σ cls d H => Wx cls d σ H) ta) (wCall fs ks wa) :=
  ⟨pe_callSD F hr hg hm hk hb .nil (fun σ => passAtE tk σ) ha.pa hdb he hpl, Snd.call ha.ok⟩
end

/-! ## a def keeps its promise -/
@[simp ↓] def Ag.slot : Ag → Slot
  | .dat d => .dat d
  | .rdo d => .rdo d
  | .sto => .sto
/-- the answer that a value is -/
def W.ret (x : W) (S : List Slot) (q : Rt → Prop) : Prop := match x with
  | .dat d => q (.dat d)
  | .rdo d => d.scal = true ∧ q (.dat d)
  | .new o => q (.new o)
  | .ref i [] o => (match gt S i with
    | .own _ _ => q (.new o)
    | _ => False)
  | _ => False
@[simp ↓] theorem eW_ret_1 (d : DL.D) (S : List Slot) (q : Rt → Prop) : (W.dat d).ret S q = q (.dat d) := by first | rfl | exact propext Iff.rfl
@[simp ↓] theorem eW_ret_2 (d : DL.D) (S : List Slot) (q : Rt → Prop) : (W.rdo d).ret S q = (d.scal = true ∧ q (.dat d)) := by first | rfl | exact propext Iff.rfl
@[simp ↓] theorem eW_ret_3 (o : O) (S : List Slot) (q : Rt → Prop) : (W.new o).ret S q = q (.new o) := by first | rfl | exact propext Iff.rfl
@[simp ↓] theorem eW_ret_4 (i : Nat) (o : O) (S : List Slot) (q : Rt → Prop) : (W.ref i [] o).ret S q = (match gt S i with | .own _ _ => q (.new o) | _ => False) := by first | rfl | exact propext Iff.rfl
@[simp ↓] def postOf (Qd : Rt → Prop) : Post := { nx := fun _ => Qd (.dat .non), rt := fun x S => x.ret S Qd, bk := fun _ => False, ct := fun _ => False }
@[simp ↓] def xpOf (xd : Addr → List (Str × D) → Prop) : Xp := fun C f _ => xd C f
@[simp ↓] def slots (as : List Ag) (n : Nat) : List Slot := as.map Ag.slot ++ List.replicate (n - as.length) .no
section
variable {K : PySem.W.Frag} {st : Option Addr} {F G H : Hp} {vs : List V} {as : List Ag} {n : Nat}
theorem AgReps.get : ∀ {vs : List V} {as : List Ag} {i : Nat} {a : Ag}, AgReps K st F G vs as → as[i]? = some a → ∃ v, vs[i]? = some v ∧ AgRep K st F G v a
  | _, _, _, _, .nil, e => by simp at e
  | _, _, 0, _, .cons r _, e => by simp at e; subst e; exact ⟨_, rfl, r⟩
  | _, _, i + 1, _, .cons _ t, e => by
    obtain ⟨u, h1, h2⟩ := AgReps.get t (by simpa using e)
    exact ⟨u, by simpa using h1, h2⟩
theorem cons_start (N : List Str) (r : AgReps K st F G vs as) (hl : vs.length ≤ N.length) (fg : Sub F G) (gh : Sub G H) (hst : ∀ p, st = some p → G p = none ∧ StoOk H p) :
    Cons K ⟨st, H, fun a => st = some a, F, 0, G⟩ F G H (L2.start N vs) (slots as N.length) (fun _ => []) where
  len := by
    unfold L2.start slots
    simp only [List.length_append, List.length_map, List.length_replicate, r.length]
  fg := fg
  gh := gh
  sl := fun i s e => by
    unfold slots at e
    by_cases hi : i < as.length
    · rw [List.getElem?_append_left (by simpa using hi), List.getElem?_map] at e
      cases q : as[i]? with
      | none => rw [q] at e; cases e
      | some a =>
        rw [q] at e
        cases e
        obtain ⟨v, h1, h2⟩ := r.get q
        have h3 : (L2.start N vs)[i]? = some (some v) := by
          unfold L2.start
          rw [List.getElem?_append_left (by simpa [r.length] using hi), List.getElem?_map, h1]
          rfl
        cases a with
        | dat d => exact ⟨v, h3, h2⟩
        | rdo d => exact ⟨v, h3, h2⟩
        | sto =>
          obtain ⟨p, e1, e2⟩ := h2
          exact ⟨p, e1, by rw [h3, e2]⟩
    · rw [List.getElem?_append_right (by simpa using hi), List.getElem?_replicate] at e
      split at e
      · cases e; trivial
      · cases e
  nod := fun _ => .nil
  dis := fun _ _ _ _ h => by cases h
  nf := fun _ _ h => by cases h
  ah := fun _ _ h => by cases h
  am := fun _ _ h => by cases h
  sto := fun p e => ⟨(hst p e).1, (fun _ h => by cases h), (hst p e).2, e⟩
  pres := fun _ _ h _ => h
  hn := fun _ h => h
  f0 := .refl F
  g0 := .refl G
  fnew := fun a o e z => by
    rw [show F a = none from z] at e
    cases e
theorem Cons.behind' {F' G' H' : Hp} {σ : L2.St} {S : List Slot} {A : Nat → List Addr} (c : Cons K ⟨st, H, fun a => st = some a, F, 0, G⟩ F' G' H' σ S A) : Behind st F H F' H' where
  f := c.f0
  fh := c.fg.trans c.gh
  fn := c.fnew
  h := fun a o e n => c.pres a o e n
  hn := c.hn
  sto := fun p e => ⟨c.fnone (c.sto p e).1, (c.sto p e).2.2.1⟩
/-- the body's reading from its data -/
theorem body_ok {N : List Str} {t : TS} {w : WS} {Q : VK} {E : XK} {fs : Fs} (ok : SndS K (fun cls d _ H => E cls d H) t w) (hl : vs.length ≤ N.length) (h : spP K fs vs H Q E)
    (hw : ∀ as Qd xd, fs as Qd xd → w (xpOf xd) (postOf Qd) (slots as N.length)) : t { nx := fun _ H' => Q .non H', rt := Q } (L2.start N vs) H := by
  obtain ⟨st, F, G, as, Qd, xd, r, fg, gh, hst, hf, hq, hx⟩ := h
  have c := cons_start N r hl fg gh hst
  refine ok _ (xpOf xd) F G H _ _ _ (postOf Qd) _ (fun F' G' H' σ S A C f c' xf => hx C f F' H' c'.behind' xf) c ⟨fun σ' F' G' H' S' A' _ _ c' q => hq (.dat .non) .non F' H' [] c'.behind' ⟨.non, rfl⟩ q, fun _ _ _ _ _ _ _ _ _ q => q.elim, fun _ _ _ _ _ _ _ _ _ q => q.elim, fun v x B σ' F' G' H' S' A' _ _ c' rx n0 _ q => ?_, Nat.le_refl _⟩ (hw as Qd xd hf)
  cases x with
  | dat d => exact hq (.dat d) v F' H' [] c'.behind' ⟨rx.1, rfl⟩ q
  | rdo d => exact hq (.dat d) v F' H' [] c'.behind' ⟨rx.1.scal q.1, rfl⟩ q.2
  | new o => exact hq (.new o) v F' H' B c'.behind' ⟨rx.1, rx.2.1, fun b hb => ⟨n0 b hb, c'.fnone (rx.2.2 b hb).1, (rx.2.2 b hb).2⟩⟩ q
  | ref i p o =>
    cases p with
    | cons _ _ => exact q.elim
    | nil =>
      have q' : (match gt S' i with
        | .own _ _ => Qd (.new o)
        | _ => False) := q
      split at q'
      · rename_i a o1 e
        obtain ⟨_, ⟨a', o0, e2, hn⟩, _⟩ := rx
        rw [gt_some e (by simp)] at e2
        cases e2
        cases hn
        have s := (c'.sl i _ (gt_some e (by simp))).2
        refine hq (.new _) (.ref a) F' H' (A' i) c'.behind' ⟨s, c'.nod i, fun b hb => ⟨?_, c'.fnone (c'.nf i b hb), c'.am_ne hb⟩⟩ q'
        rcases c'.am i b hb with z | z
        · exact z
        · exact absurd z.1 (c'.am_ne hb)
      · exact q'.elim
  | sto => exact q.elim
end
section
variable {P : Program} {w : World} {K : PySem.W.Frag} {mg : Str → Option Value} {base : Heap} {x qual : Str} {params : Arguments} {body : List Stmt} {scope : Scope} {f : Addr} {fd : FuncData} {N ps : List Str} {k : Nat} {fs : Fs}
abbrev WxOf (E : XK) : WX := fun cls d _ H => E cls d H
/-- THE RULE for a def that changes nothing but the store -/
theorem fn_pure {body : List Stmt} (F : FunD K x qual params body scope [] [] f fd) (S : FnScope N ps scope) (len : ∀ as Qd xd, fs as Qd xd → as.length = ps.length) (hps : ps.length ≤ N.length)
    (hbody : ∀ (cdv : Value) (A : Around) (outer : List Env) (s : Shared) (H : Hp) (E : XK), Room k (A.deeper (envOfC qual scope s.heap.objs.size f cdv)) → Takes (cxOf (L2.CX P w) P w K mg base N qual scope f cdv A outer s H E) (WxOf E) →
      PassesOwn (model P w) (A.deeper (envOfC qual scope s.heap.objs.size f cdv)) (envOfC qual scope s.heap.objs.size f cdv) (cxOf (L2.CX P w) P w K mg base N qual scope f cdv A outer s H E).xe →
      ∃ t ww, BkD (cxOf (L2.CX P w) P w K mg base N qual scope f cdv A outer s H E) (WxOf E) body t ww ∧ ∀ as Qd xd, fs as Qd xd → ww (xpOf xd) (postOf Qd) (slots as N.length)) : FnOk P w K mg base (L2.CX P w) (k + 1) f fd ps (spP K fs) := by
  have hlen : ∀ vs H Q E, spP K fs vs H Q E → vs.length = ps.length := fun vs H Q E h => by
    obtain ⟨st, F, G, as, Qd, xd, r, fg, gh, hst, hf, hq, hx⟩ := h
    rw [r.length]
    exact len as Qd xd hf
  refine F.ok S hlen fun cdv A outer s H vs Q E hr h => ?_
  obtain ⟨t, ww, bk, hw⟩ := hbody cdv A outer s H E hr (takes_of rfl rfl rfl rfl) (passes_of rfl)
  exact ⟨t, bk.ps, body_ok bk.ok (by rw [hlen _ _ _ _ h]; exact hps) h hw⟩
end
end DL

namespace DL
open PySem PySem.Spec PyProof.Rows L2

/-! ## an owned node is changed -/
def setF (f : Str) (o : O) : List (Str × O) → List (Str × O)
  | [] => []
  | (g, x) :: r => if g = f then (g, o) :: r else (g, x) :: setF f o r
@[simp ↓] def O.upd : O → List Pk → O → O
  | _, [], o' => o'
  | .lst os, .ix n :: p, o' => .lst (os.set n (O.upd (os.getD n (.fz .non)) p o'))
  | .obj C fs, .fd f :: p, o' => .obj C (setF f (O.upd ((fs.lookup f).getD (.fz .non)) p o') fs)
  | o, _, _ => o
section
variable {K : PySem.W.Frag} {fx : Fx} {F G H F' G' H' : Hp} {σ : L2.St} {S : List Slot} {A : Nat → List Addr} {v : V} {B : List Addr} {x : W}
/-- what a changed part leaves: its cells, new ones from Bn -/
def Chg (K : PySem.W.Frag) (F H F' H' : Hp) (l : Addr) (Bn : List Addr) (v : V) (o o' : O) : Prop := ∀ As, RepO K F H v o As → As.Nodup → l ∈ As → (∀ b ∈ Bn, b ∉ As) → ∃ As', RepO K F' H' v o' As' ∧ As'.Nodup ∧ ∀ a ∈ As', a ∈ As ∨ a ∈ Bn
theorem RepOs.chg {l : Addr} {Bn : List Addr} (f : Sub F F') (keep : ∀ a u, a ≠ l → H a = some u → H' a = some u) {o' : O} {w : V} {q : O} (hc : Chg K F H F' H' l Bn w q o') (hl : ∀ A', RepO K F H w q A' → l ∈ A') :
    ∀ {vs : List V} {n : Nat} {os : List O} {As : List Addr}, vs[n]? = some w → os[n]? = some q → RepOs K F H vs os As → As.Nodup → (∀ b ∈ Bn, b ∉ As) → ∃ As', RepOs K F' H' vs (os.set n o') As' ∧ As'.Nodup ∧ (∀ a ∈ As', a ∈ As ∨ a ∈ Bn) ∧ l ∈ As := by
  intro vs
  induction vs with
  | nil => intro n os As h1; simp at h1
  | cons v vs ih =>
    intro n os As h1 h2 rr nd nb
    cases rr with
    | cons r t =>
      rename_i o os A1 A2
      obtain ⟨n1, n2, n3⟩ := List.nodup_append.mp nd
      cases n with
      | zero =>
        simp at h1 h2
        subst h1 h2
        obtain ⟨A', r', nd', s'⟩ := hc A1 r n1 (hl A1 r) fun b hb z => nb b hb (List.mem_append_left _ z)
        refine ⟨A' ++ A2, .cons r' (t.mono f fun a ha u e => keep a u (fun z => n3 l (hl A1 r) a ha z.symm) e), List.nodup_append.mpr ⟨nd', n2, fun a ha b hb e => ?_⟩, fun a ha => ?_, List.mem_append_left _ (hl A1 r)⟩
        · rcases s' a ha with h | h
          · exact n3 a h b hb e
          · exact nb a h (List.mem_append_right _ (e ▸ hb))
        · rcases List.mem_append.mp ha with h | h
          · rcases s' a h with h | h
            · exact .inl (List.mem_append_left _ h)
            · exact .inr h
          · exact .inl (List.mem_append_right _ h)
      | succ n =>
        obtain ⟨A', r', nd', s', hl'⟩ := ih (n := n) (by simpa using h1) (by simpa using h2) t n2 (fun b hb z => nb b hb (List.mem_append_right _ z))
        refine ⟨A1 ++ A', .cons (r.mono f fun a ha u e => keep a u (fun z => n3 a ha l hl' z) e) r', List.nodup_append.mpr ⟨n1, nd', fun a ha b hb e => ?_⟩, fun a ha => ?_, List.mem_append_right _ hl'⟩
        · rcases s' b hb with h | h
          · exact n3 a ha b h e
          · exact nb b h (List.mem_append_left _ (e ▸ ha))
        · rcases List.mem_append.mp ha with h | h
          · exact .inl (List.mem_append_left _ h)
          · rcases s' a h with h | h
            · exact .inl (List.mem_append_right _ h)
            · exact .inr h
theorem RepOf.chg {l : Addr} {Bn : List Addr} (f : Sub F F') (keep : ∀ a u, a ≠ l → H a = some u → H' a = some u) {o' : O} {w : V} {q : O} {g : Str} (hc : Chg K F H F' H' l Bn w q o') (hl : ∀ A', RepO K F H w q A' → l ∈ A') :
    ∀ {vs : List (Str × V)} {os : List (Str × O)} {As : List Addr}, vs.lookup g = some w → os.lookup g = some q → RepOf K F H vs os As → As.Nodup → (∀ b ∈ Bn, b ∉ As) → ∃ As', RepOf K F' H' vs (setF g o' os) As' ∧ As'.Nodup ∧ (∀ a ∈ As', a ∈ As ∨ a ∈ Bn) ∧ l ∈ As := by
  intro vs
  induction vs with
  | nil => intro os As h1; simp at h1
  | cons v vs ih =>
    intro os As h1 h2 rr nd nb
    cases rr with
    | cons r t =>
      rename_i g' v o os A1 A2
      obtain ⟨n1, n2, n3⟩ := List.nodup_append.mp nd
      by_cases e : g' = g
      · subst e
        simp at h1 h2
        subst h1 h2
        obtain ⟨A', r', nd', s'⟩ := hc A1 r n1 (hl A1 r) fun b hb z => nb b hb (List.mem_append_left _ z)
        refine ⟨A' ++ A2, ?_, List.nodup_append.mpr ⟨nd', n2, fun a ha b hb e => ?_⟩, fun a ha => ?_, List.mem_append_left _ (hl A1 r)⟩
        · unfold setF
          rw [if_pos rfl]
          exact .cons r' (t.mono f fun a ha u e => keep a u (fun z => n3 l (hl A1 r) a ha z.symm) e)
        · rcases s' a ha with h | h
          · exact n3 a h b hb e
          · exact nb a h (List.mem_append_right _ (e ▸ hb))
        · rcases List.mem_append.mp ha with h | h
          · rcases s' a h with h | h
            · exact .inl (List.mem_append_left _ h)
            · exact .inr h
          · exact .inl (List.mem_append_right _ h)
      · have e' : (g == g') = false := by simpa using fun z => e (Eq.symm z)
        rw [List.lookup_cons, e'] at h1 h2
        obtain ⟨A', r', nd', s', hl'⟩ := ih (by simpa using h1) (by simpa using h2) t n2 (fun b hb z => nb b hb (List.mem_append_right _ z))
        refine ⟨A1 ++ A', ?_, List.nodup_append.mpr ⟨n1, nd', fun a ha b hb e => ?_⟩, fun a ha => ?_, List.mem_append_right _ hl'⟩
        · unfold setF
          rw [if_neg e]
          exact .cons (r.mono f fun a ha u e => keep a u (fun z => n3 a ha l hl' z) e) r'
        · rcases s' b hb with h | h
          · exact n3 a ha b h e
          · exact nb b h (List.mem_append_left _ (e ▸ ha))
        · rcases List.mem_append.mp ha with h | h
          · exact .inl (List.mem_append_left _ h)
          · rcases s' a h with h | h
            · exact .inl (List.mem_append_right _ h)
            · exact .inr h
/-- the node itself is an object, at l -/
def rooted (o : O) : Prop := match o with
  | .fz _ => False
  | _ => True
@[simp ↓] theorem erooted_1 (ds : List DL.D) : rooted (.fl ds) = True := by first | rfl | exact propext Iff.rfl
@[simp ↓] theorem erooted_2 (ds : List O) : rooted (.lst ds) = True := by first | rfl | exact propext Iff.rfl
@[simp ↓] theorem erooted_3 (C : Addr) (fs : List (Str × O)) : rooted (.obj C fs) = True := by first | rfl | exact propext Iff.rfl
@[simp ↓] theorem erooted_5 (kvs : List (Key × DL.D)) : rooted (.dic kvs) = True := rfl
@[simp ↓] theorem erooted_6 (kvs : List (List Key × DL.D)) : rooted (.dit kvs) = True := rfl
@[simp ↓] theorem erooted_4 (d : DL.D) : rooted (.fz d) = False := by first | rfl | exact propext Iff.rfl
theorem root_mem {l : Addr} {o : O} {As : List Addr} (h : RepO K F H (.ref l) o As) (r : rooted o) : l ∈ As := by
  cases h with
  | fz _ => exact r.elim
  | fl _ _ => exact List.mem_cons_self ..
  | lst _ _ => exact List.mem_cons_self ..
  | obj _ _ _ => exact List.mem_cons_self ..
  | dic _ _ => exact List.mem_cons_self ..
  | dit _ _ => exact List.mem_cons_self ..
theorem Nod.mem {w : V} {q : O} {p : List Pk} {o : O} {l : Addr} (h : Nod H v o p w q) : w = .ref l → rooted q → ∀ As, RepO K F H v o As → l ∈ As := by
  induction h with
  | here => intro e rt As r; subst e; exact root_mem r rt
  | ix h1 h2 h3 h4 ih =>
    intro e rt As r
    cases r with
    | lst h r =>
      rw [h1] at h
      cases h
      obtain ⟨v', A', e1, r', s'⟩ := r.get h3
      rw [h2] at e1
      cases e1
      exact List.mem_cons_of_mem _ (s' l (ih e rt A' r'))
  | fx h1 h2 h3 => intro e rt; exact rt.elim
  | fd h1 h2 h3 h4 ih =>
    intro e rt As r
    cases r with
    | obj h hd r =>
      rw [h1] at h
      cases h
      have key : ∀ {vs : List (Str × V)} {os : List (Str × O)} {As : List Addr} {f : Str} {v : V} {o : O}, RepOf K F H vs os As → vs.lookup f = some v → os.lookup f = some o → ∃ A, RepO K F H v o A ∧ ∀ a ∈ A, a ∈ As := by
        intro vs os As f v o r
        induction vs generalizing os As with
        | nil => intro e; simp at e
        | cons p vs ih =>
          cases r with
          | cons r t =>
            rename_i f' v' o' os' A1 A2
            intro e1 e2
            rw [List.lookup_cons] at e1 e2
            cases z : (f == f') with
            | true =>
              rw [z] at e1 e2
              simp at e1 e2
              subst e1 e2
              exact ⟨A1, r, fun a h => List.mem_append_left _ h⟩
            | false =>
              rw [z] at e1 e2
              obtain ⟨A', h1, h2⟩ := ih t (by simpa using e1) (by simpa using e2)
              exact ⟨A', h1, fun a h => List.mem_append_right _ (h2 a h)⟩
      obtain ⟨A', r', s'⟩ := key r h2 h3
      exact List.mem_cons_of_mem _ (List.mem_cons_of_mem _ (s' l (ih e rt A' r')))
/-- the tree with its node changed -/
theorem Nod.chg {l : Addr} {Bn : List Addr} {w : V} {q q' o : O} {p : List Pk} (f : Sub F F') (keep : ∀ a u, a ≠ l → H a = some u → H' a = some u) (h : Nod H v o p w q) : w = .ref l → rooted q → Chg K F H F' H' l Bn w q q' → Chg K F H F' H' l Bn v o (o.upd p q') := by
  induction h with
  | here => intro _ _ c; exact c
  | fx h1 h2 h3 => intro e rt; exact rt.elim
  | ix h1 h2 h3 h4 ih =>
    intro e rt c As r nd hl nb
    cases r with
    | lst h r =>
      rw [h1] at h
      cases h
      rename_i a vs os n p v w o q As
      obtain ⟨na, nd⟩ := List.nodup_cons.mp nd
      obtain ⟨As', r', nd', s', hl'⟩ := RepOs.chg f keep (ih e rt c) (fun A' rr => h4.mem e rt A' rr) h2 h3 r nd (fun b hb z => nb b hb (List.mem_cons_of_mem _ z))
      have hu : O.upd (.lst os) (.ix n :: p) q' = .lst (os.set n (O.upd o p q')) := by
        show O.lst (os.set n (O.upd (os.getD n (.fz .non)) p q')) = _
        rw [List.getD_eq_getElem?_getD, h3]
        rfl
      rw [hu]
      refine ⟨a :: As', .lst (keep a _ (fun z => na (z ▸ hl')) h1) r', List.nodup_cons.mpr ⟨fun z => ?_, nd'⟩, fun b hb => ?_⟩
      · rcases s' a z with h | h
        · exact na h
        · exact nb a h (List.mem_cons_self ..)
      · rcases List.mem_cons.mp hb with rfl | hb
        · exact .inl (List.mem_cons_self ..)
        · rcases s' b hb with h | h
          · exact .inl (List.mem_cons_of_mem _ h)
          · exact .inr h
  | fd h1 h2 h3 h4 ih =>
    intro e rt c As r nd hl nb
    cases r with
    | obj h hd r =>
      rw [h1] at h
      cases h
      rename_i a C dx vs os f p v w o q As
      obtain ⟨na, nd⟩ := List.nodup_cons.mp nd
      obtain ⟨nx, nd⟩ := List.nodup_cons.mp nd
      obtain ⟨As', r', nd', s', hl'⟩ := RepOf.chg ‹_› keep (ih e rt c) (fun A' rr => h4.mem e rt A' rr) h2 h3 r nd (fun b hb z => nb b hb (List.mem_cons_of_mem _ (List.mem_cons_of_mem _ z)))
      have hu : O.upd (.obj C os) (.fd f :: p) q' = .obj C (setF f (O.upd o p q') os) := by
        show O.obj C (setF f (O.upd ((os.lookup f).getD (.fz .non)) p q') os) = _
        rw [h3]
        rfl
      rw [hu]
      refine ⟨a :: dx :: As', .obj (keep a _ (fun z => na (z ▸ List.mem_cons_of_mem _ hl')) h1) (keep dx _ (fun z => nx (z ▸ hl')) hd) r', List.nodup_cons.mpr ⟨fun z => ?_, List.nodup_cons.mpr ⟨fun z => ?_, nd'⟩⟩, fun b hb => ?_⟩
      · rcases List.mem_cons.mp z with z | z
        · exact na (List.mem_cons.mpr (.inl z))
        · rcases s' a z with h | h
          · exact na (List.mem_cons_of_mem _ h)
          · exact nb a h (List.mem_cons_self ..)
      · rcases s' dx z with h | h
        · exact nx h
        · exact nb dx h (List.mem_cons_of_mem _ (List.mem_cons_self ..))
      · rcases List.mem_cons.mp hb with rfl | hb
        · exact .inl (List.mem_cons_self ..)
        · rcases List.mem_cons.mp hb with rfl | hb
          · exact .inl (List.mem_cons_of_mem _ (List.mem_cons_self ..))
          · rcases s' b hb with h | h
            · exact .inl (List.mem_cons_of_mem _ (List.mem_cons_of_mem _ h))
            · exact .inr h
/-- slot j with the node at p changed -/
@[simp ↓] def updS (S : List Slot) (j : Nat) (p : List Pk) (o' : O) : List Slot := match gt S j with
  | .own a o => S.set j (.own a (o.upd p o'))
  | _ => S
/-- the state behind a change of the object at l, the node at p of slot j -/
theorem Cons.chg {l : Addr} {u' : HO} {Bn : List Addr} {j : Nat} {p : List Pk} {q q' : O} (c : Cons K fx F G H σ S A) (r : RepW K fx F G H S A (.ref l) [] (.ref j p q)) (rt : rooted q) (nB : ∀ b ∈ Bn, G b = none ∧ fx.st ≠ some b ∧ fx.H0 b = none ∧ (∀ i, b ∉ A i) ∧ ∃ u, H b = some u)
    (h : Chg K F H F (upd H l u') l Bn (.ref l) q q') : ∃ A', Cons K fx F G (upd H l u') σ (updS S j p q') A' := by
  obtain ⟨_, ⟨a, o0, e, n⟩, As, hr, hs⟩ := r
  have sj := c.sl j _ e
  have lA : l ∈ A j := hs l (root_mem hr rt)
  have keep : ∀ b u, b ≠ l → H b = some u → upd H l u' b = some u := fun b u nb e => by rw [upd_ne nb]; exact e
  have ljo : ∀ {i : Nat}, i ≠ j → l ∉ A i := fun {i} ne z => c.dis i j ne l z lA
  have lG : G l = none := c.nf j l lA
  have lst : fx.st ≠ some l := c.am_ne lA
  obtain ⟨As', r', nd', s'⟩ := n.chg (.refl F) keep rfl rt h (A j) sj.2 (c.nod j) lA fun b hb => (nB b hb).2.2.2.1 j
  have gj : gt S j = .own a o0 := by
    have : ∀ (S : List Slot) (j : Nat) (s : Slot), S[j]? = some s → gt S j = s := by
      intro S
      induction S with
      | nil => intro j s h; simp at h
      | cons x S ih =>
        intro j s h
        cases j with
        | zero => simp at h; exact h
        | succ j => exact ih j s (by simpa using h)
    exact this S j _ e
  have hj : j < S.length := (List.getElem?_eq_some_iff.mp e).1
  have eS : updS S j p q' = S.set j (.own a (o0.upd p q')) := by unfold updS; rw [gj]
  refine ⟨fun i => if i = j then As' else A i, ?_⟩
  rw [eS]
  have up : ∀ b u, H b = some u → ∃ u2, upd H l u' b = some u2 := fun b u e => by
    by_cases z : b = l
    · rw [z]; exact ⟨u', upd_same⟩
    · exact ⟨u, keep b u z e⟩
  refine { c with len := by simp [c.len], gh := fun b u e => keep b u (fun z => by rw [z, lG] at e; cases e) (c.gh b u e), sl := fun i s e' => ?_, nod := fun i => ?_, dis := fun i k ne b hb => ?_, nf := fun i b hb => ?_, ah := fun i b hb => ?_, am := fun i b hb => ?_, sto := fun p e => ?_, pres := fun b u e m => ?_, hn := fun b e => ?_ }
  · rcases gset e' with ⟨rfl, rfl⟩ | ⟨ne, e'⟩
    · refine ⟨sj.1, ?_⟩
      simp only [if_pos]
      exact r'
    · have qq := c.sl i s e'
      cases s with
      | own a2 o2 =>
        refine ⟨qq.1, ?_⟩
        simp only [if_neg ne]
        exact qq.2.mono (.refl F) fun b hb u e => keep b u (fun z => ljo ne (z ▸ hb)) e
      | no => trivial
      | dat d => exact qq
      | rdo d => exact qq
      | sto => exact qq
      | seq ns => exact qq
      | exc a C d fs => exact qq
  · by_cases z : i = j
    · simp only [if_pos z]; exact nd'
    · simp only [if_neg z]; exact c.nod i
  · by_cases z : i = j
    · simp only [if_pos z] at hb
      simp only [if_neg (show ¬ k = j from fun z2 => ne (z.trans z2.symm))]
      rcases s' b hb with h | h
      · exact fun hk => c.dis i k ne b (z ▸ h) hk
      · exact (nB b h).2.2.2.1 k
    · simp only [if_neg z] at hb
      by_cases z2 : k = j
      · simp only [if_pos z2]
        intro hk
        rcases s' b hk with h | h
        · exact c.dis i j z b hb h
        · exact (nB b h).2.2.2.1 i hb
      · simp only [if_neg z2]
        exact c.dis i k ne b hb
  · by_cases z : i = j
    · simp only [if_pos z] at hb
      rcases s' b hb with h | h
      · exact c.nf j b h
      · exact (nB b h).1
    · simp only [if_neg z] at hb; exact c.nf i b hb
  · by_cases z : i = j
    · simp only [if_pos z] at hb
      exact r'.there b hb
    · simp only [if_neg z] at hb
      obtain ⟨u, e⟩ := c.ah i b hb
      exact up b u e
  · by_cases z : i = j
    · simp only [if_pos z] at hb
      rcases s' b hb with h | h
      · rw [z]; exact c.am j b h
      · exact .inl (nB b h).2.2.1
    · simp only [if_neg z] at hb; exact c.am i b hb
  · refine ⟨(c.sto p e).1, fun i => ?_, (c.sto p e).2.2.1.keep fun o h => keep p o (fun z => lst (by rw [e, z])) h, (c.sto p e).2.2.2⟩
    by_cases z : i = j
    · simp only [if_pos z]
      intro hb
      rcases s' p hb with h | h
      · exact (c.sto p e).2.1 j h
      · exact (nB p h).2.1 e
    · simp only [if_neg z]; exact (c.sto p e).2.1 i
  · refine keep b u (fun z => ?_) (c.pres b u e m)
    rcases c.am j l lA with h | h
    · rw [z, h] at e; cases e
    · exact m (z ▸ h.1)
  · by_cases z : b = l
    · rw [z, upd_same] at e; cases e
    · rw [upd_ne z] at e; exact c.hn b e
end
end DL

namespace DL
open PySem PySem.Spec PyProof.Rows L2

section
variable {K : PySem.W.Frag} {fx : Fx} {F G H F' G' H' : Hp} {σ : L2.St} {S : List Slot} {A : Nat → List Addr} {v : V} {B : List Addr} {x : W}
/-- the list at a flat node -/
theorem RepW.flat {j : Nat} {p : List Pk} {ds : List D} (r : RepW K fx F G H S A v B (.ref j p (.fl ds))) : ∃ l vs, v = .ref l ∧ B = [] ∧ H l = some (.lst vs) ∧ Reps K F vs ds := by
  obtain ⟨rfl, _, As, h, _⟩ := r
  cases h with
  | fl h1 h2 => exact ⟨_, _, rfl, rfl, h1, h2⟩
theorem Cons.chgFl {l : Addr} {j : Nat} {p : List Pk} {ds ds' : List D} {vs' : List V} (c : Cons K fx F G H σ S A) (r : RepW K fx F G H S A (.ref l) [] (.ref j p (.fl ds))) (h : Reps K F vs' ds') : ∃ A', Cons K fx F G (upd H l (.lst vs')) σ (updS S j p (.fl ds')) A' :=
  c.chg (Bn := []) r trivial (fun b hb => by cases hb) fun As ra nd hl nb => ⟨[l], .fl upd_same h, List.nodup_cons.mpr ⟨List.not_mem_nil, .nil⟩, fun a ha => by
    rw [List.mem_singleton.mp ha]
    exact .inl hl⟩
def W.fz1 (x : W) (k : D → Prop) : Prop := match x with
  | .dat d => k d
  | .new o => k o.d
  | .rdo d => d.scal = true ∧ k d
  | _ => False
@[simp ↓] theorem eW_fz1_1 (d : DL.D) (k : DL.D → Prop) : (W.dat d).fz1 k = k d := by first | rfl | exact propext Iff.rfl
@[simp ↓] theorem eW_fz1_2 (d : O) (k : DL.D → Prop) : (W.new d).fz1 k = k d.d := by first | rfl | exact propext Iff.rfl
@[simp ↓] theorem eW_fz1_3 (d : DL.D) (k : DL.D → Prop) : (W.rdo d).fz1 k = (d.scal = true ∧ k d) := by first | rfl | exact propext Iff.rfl
def W.kid1 (x : W) (k : O → Prop) : Prop := match x with
  | .dat d => k (.fz d)
  | .new o => k o
  | .rdo d => d.scal = true ∧ k (.fz d)
  | _ => False
@[simp ↓] theorem eW_kid1_1 (d : DL.D) (k : O → Prop) : (W.dat d).kid1 k = k (.fz d) := by first | rfl | exact propext Iff.rfl
@[simp ↓] theorem eW_kid1_2 (d : O) (k : O → Prop) : (W.new d).kid1 k = k d := by first | rfl | exact propext Iff.rfl
@[simp ↓] theorem eW_kid1_3 (d : DL.D) (k : O → Prop) : (W.rdo d).kid1 k = (d.scal = true ∧ k (.fz d)) := by first | rfl | exact propext Iff.rfl
/-- a value, its new cells frozen -/
theorem RepW.fz1 {k : D → Prop} (c0 : Cons K fx F G H σ S A) (g : Grow fx F G H F' G' H') (c : Cons K fx F' G' H' σ S A) (r : RepW K fx F' G' H' S A v B x) (n0 : ∀ b ∈ B, H b = none) (h : x.fz1 k) :
    ∃ F2 G2 d, Grow fx F G H F2 G2 H' ∧ Cons K fx F2 G2 H' σ S A ∧ Sub F' F2 ∧ Sub G' G2 ∧ Rep K F2 v d ∧ k d := by
  cases x with
  | dat d => exact ⟨F', G', d, g, c, .refl _, .refl _, r.1, h⟩
  | rdo d => exact ⟨F', G', d, g, c, .refl _, .refl _, r.1.scal h.1, h.2⟩
  | new o =>
    obtain ⟨g2, c2, nF⟩ := c0.frz g c r.2.2 n0
    exact ⟨_, _, _, g2, c2, sub_frz nF, sub_frz fun b hb => (r.2.2 b hb).1, r.1.frozen nF, h⟩
  | _ => exact h.elim
/-- .. its new cells its own -/
theorem RepW.kid1 {k : O → Prop} (r : RepW K fx F G H S A v B x) (h : x.kid1 k) : ∃ o, RepO K F H v o B ∧ B.Nodup ∧ (∀ b ∈ B, G b = none ∧ fx.st ≠ some b) ∧ k o := by
  cases x with
  | dat d =>
    obtain ⟨r, rfl⟩ := r
    exact ⟨_, .fz r, .nil, (fun b hb => by cases hb), h⟩
  | rdo d =>
    obtain ⟨r, rfl⟩ := r
    exact ⟨_, .fz (r.scal h.1), .nil, (fun b hb => by cases hb), h.2⟩
  | new o => exact ⟨_, r.1, r.2.1, r.2.2, h⟩
  | _ => exact h.elim
/-- the list at a node of owned things; one more -/
theorem Cons.chgApp {l : Addr} {j : Nat} {p : List Pk} {os : List O} {o : O} {vs : List V} (c : Cons K fx F G H σ S A) (r : RepW K fx F G H S A (.ref l) [] (.ref j p (.lst os))) (hl : H l = some (.lst vs)) (ro : RepO K F H v o B) (nd : B.Nodup)
    (nB : ∀ b ∈ B, G b = none ∧ fx.st ≠ some b ∧ fx.H0 b = none ∧ (∀ i, b ∉ A i)) : ∃ A', Cons K fx F G (upd H l (.lst (vs ++ [v]))) σ (updS S j p (.lst (os ++ [o]))) A' := by
  have lA : l ∈ A j := by
    obtain ⟨_, _, As, h, s⟩ := r
    exact s l (root_mem h trivial)
  have lB : l ∉ B := fun z => (nB l z).2.2.2 j lA
  have keep : ∀ b u, b ≠ l → H b = some u → upd H l (.lst (vs ++ [v])) b = some u := fun b u nb e => by rw [upd_ne nb]; exact e
  refine c.chg (Bn := B) r trivial (fun b hb => ⟨(nB b hb).1, (nB b hb).2.1, (nB b hb).2.2.1, (nB b hb).2.2.2, ro.there b hb⟩) fun As ra ndA hlA nb => ?_
  cases ra with
  | lst h1 h2 =>
    rw [hl] at h1
    cases h1
    rename_i As
    obtain ⟨n1, n2⟩ := List.nodup_cons.mp ndA
    refine ⟨l :: (As ++ (B ++ [])), .lst upd_same ((h2.mono (.refl F) fun b hb u e => keep b u (fun z => n1 (z ▸ hb)) e).append (.cons (ro.mono (.refl F) fun b hb u e => keep b u (fun z => lB (z ▸ hb)) e) .nil)), List.nodup_cons.mpr ⟨fun z => ?_, List.nodup_append.mpr ⟨n2, by rw [List.append_nil]; exact nd, fun a ha b hb e => ?_⟩⟩, fun a ha => ?_⟩
    · rcases List.mem_append.mp z with z | z
      · exact n1 z
      · rw [List.append_nil] at z
        exact lB z
    · rw [List.append_nil] at hb
      exact nb b hb (List.mem_cons_of_mem _ (e ▸ ha))
    · rcases List.mem_cons.mp ha with rfl | ha
      · exact .inl (List.mem_cons_self ..)
      · rcases List.mem_append.mp ha with h | h
        · exact .inl (List.mem_cons_of_mem _ h)
        · rw [List.append_nil] at h
          exact .inr h
theorem RepW.owned {j : Nat} {p : List Pk} {os : List O} (r : RepW K fx F G H S A v B (.ref j p (.lst os))) : ∃ l vs, v = .ref l ∧ B = [] ∧ H l = some (.lst vs) ∧ vs.length = os.length := by
  obtain ⟨rfl, _, As, h, _⟩ := r
  cases h with
  | lst h1 h2 => exact ⟨_, _, rfl, rfl, h1, h2.length⟩
theorem lt_line {n : Nat} (h : n < 100000) : n < sizeLine := Nat.lt_of_lt_of_le h (by decide)
variable {Wx : WX} {to te ti : TE} {wo we wi : WE}
@[simp ↓] def wApp (wo we : WE) : WS := fun xp P S => wo xp S fun x => match x with
  | .ref j p (.fl ds) => we xp S fun y => ds.length < 100000 ∧ y.fz1 fun d => P.nx (updS S j p (.fl (ds ++ [d])))
  | .ref j p (.lst os) => we xp S fun y => os.length < 100000 ∧ y.kid1 fun o => P.nx (updS S j p (.lst (os ++ [o])))
  | _ => False
theorem SndS.app (ho : Snd K Wx to wo) (he : Snd K Wx te we) : SndS K Wx (tDrop (tBM K "list" rAppend to (tCons te tNil))) (wApp wo we) := fun fx xp F G H σ S A P D xr c r hw => by
  refine ho fx xp F G H σ S A _ _ xr c hw fun v x F1 G1 H1 B g1 c1 r1 n1 q1 => ?_
  cases x with
  | ref j p o =>
    cases o with
    | fl ds =>
      obtain ⟨l, xs, rfl, rfl, hl, _⟩ := r1.flat
      refine ⟨.inl ⟨rfl, xs, .inl (.inl hl)⟩, he fx xp F1 G1 H1 σ S A _ _ xr c1 q1 fun w y F2 G2 H2 B2 g2 c2 r2 n2 q2 => ?_⟩
      have rx := r1.grow c1 g2
      have rD := r.mono g1.f g1.g
      obtain ⟨l', vs, e, _, h1, h2⟩ := rx.flat
      cases e
      obtain ⟨F3, G3, d, g3, c3, f3, gg3, rd, z⟩ := r2.fz1 c1 g2 c2 n2 q2.2
      refine ⟨l, vs, w, rfl, rfl, h1, by rw [h2.length]; exact lt_line q2.1, ?_⟩
      obtain ⟨A', c4⟩ := c3.chgFl (ds := ds) (r1.grow c1 g3) ((h2.mono f3).append (.cons rd .nil))
      exact rD.nx σ F3 G3 _ _ A' g3.f g3.g c4 z
    | lst os =>
      obtain ⟨l, xs, rfl, rfl, hl, _⟩ := r1.owned
      refine ⟨.inl ⟨rfl, xs, .inl (.inl hl)⟩, he fx xp F1 G1 H1 σ S A _ _ xr c1 q1 fun w y F2 G2 H2 B2 g2 c2 r2 n2 q2 => ?_⟩
      have rx := r1.grow c1 g2
      have rD := r.mono g1.f g1.g
      obtain ⟨l', vs, e, _, h1, h2⟩ := rx.owned
      cases e
      obtain ⟨o, ro, nd, nB, z⟩ := r2.kid1 q2.2
      refine ⟨l, vs, w, rfl, rfl, h1, by rw [h2]; exact lt_line q2.1, ?_⟩
      obtain ⟨A', c4⟩ := c2.chgApp rx h1 ro nd fun b hb => ⟨(nB b hb).1, (nB b hb).2, c.hn b (g1.hn b (n2 b hb)), fun i => c1.noA (n2 b hb) i⟩
      exact rD.nx σ F2 G2 _ _ A' g2.f g2.g c4 z
    | _ => exact q1.elim
  | _ => exact q1.elim
/-- xs[i] = e, the items frozen -/
@[simp ↓] def wSetI (we wo wi : WE) : WS := fun xp P S => we xp S fun y => wo xp S fun x => wi xp S fun z => match x, z with
  | .ref j p (.fl ds), .dat (.int k) => ∃ n, ixN ds.length k = some n ∧ y.fz1 fun d => P.nx (updS S j p (.fl (ds.set n d)))
  | _, _ => False
theorem SndS.setI (he : Snd K Wx te we) (ho : Snd K Wx to wo) (hi : Snd K Wx ti wi) : SndS K Wx (tAsg te (gSub to ti rSetL)) (wSetI we wo wi) := fun fx xp F G H σ S A P D xr c r hw => by
  refine he fx xp F G H σ S A _ _ xr c hw fun w y F1 G1 H1 B1 g1 c1 r1 n1 q1 => ?_
  refine ho fx xp F1 G1 H1 σ S A _ _ xr c1 q1 fun v x F2 G2 H2 B2 g2 c2 r2 n2 q2 => ?_
  refine hi fx xp F2 G2 H2 σ S A _ _ xr c2 q2 fun u z F3 G3 H3 B3 g3 c3 r3 n3 q3 => ?_
  have ry := (r1.grow c1 g2).grow c2 g3
  have rx := r2.grow c2 g3
  have gg := (g1.trans g2).trans g3
  cases x with
  | ref j p o =>
    cases o with
    | fl ds =>
      cases z with
      | dat d =>
        cases d with
        | int k =>
          cases r3.1
          obtain ⟨n, hn, q⟩ := q3
          obtain ⟨F4, G4, d, g4, c4, f4, gg4, rd, z⟩ := ry.fz1 c gg c3 n1 q
          obtain ⟨l, vs, rfl, rfl, h1, h2⟩ := rx.flat
          refine ⟨l, vs, k, n, rfl, rfl, h1, by rw [h2.length]; exact hn, ?_⟩
          have rx4 : RepW K fx F4 G4 H3 S A (.ref l) [] (.ref j p (.fl ds)) := by
            obtain ⟨e1, e2, As, h, s⟩ := rx
            exact ⟨e1, e2, As, h.mono f4 (fun _ _ _ h => h), s⟩
          obtain ⟨A', c5⟩ := c4.chgFl rx4 ((h2.mono f4).set rd n)
          exact r.nx σ F4 G4 _ _ A' g4.f g4.g c5 z
        | _ => exact q3.elim
      | _ => exact q3.elim
    | _ => exact q3.elim
  | _ => exact q3.elim
end
end DL
namespace L2
open PySem PySem.Spec PyProof.Rows
/-- what a built-in method's call asks of its place in the text -/
structure BmSide (X : Cx) (o : Expr) (name : Str) (e : Expr) (es : List Expr) (apos cpos : Pos) : Prop where
  hbase : attributeBase o name X.env (eval o X.env) = eval o X.env
  hfew : ((backTo cpos (starEach (e :: es) X.env)).all (fun x => !x.1) && (backToKw cpos (keywordEach [] X.env)).all (fun x => x.1.isSome)
      && decide ((e :: es).length + ([] : List Keyword).length + (if ([] : List Keyword).isEmpty then 0 else 1) < 30)) = true
  hline : (apos.endLine == cpos.line) = true
  hs : starEach (e :: es) X.env = (false, eval e X.env) :: starEach es X.env
  hplain : (backTo cpos (starEach es X.env)).any (·.1) = false
theorem pe_bm' {X : Cx} {o e : Expr} {es : List Expr} {to : TE} {t : TA} {name : Str} {apos cpos : Pos} {T id : String} {r : V → List V → Hp → VK → Prop} (pa : PlainAttrs T) (slot : Slot T name id) (hty : typeOf (.builtin id) = pure (.type "method_descriptor")) (hm : MtR X id r) (ho : PE X o to) (ha : PA X (e :: es) t)
    (m : BmSide X o name e es apos cpos) : PE X (.Call (.Attribute o name apos) (e :: es) [] cpos) (tBM X.K T r to t) := pe_bm pa slot hty hm ho ha m.hbase m.hfew m.hline m.hs m.hplain
end L2
namespace DL
open PySem PySem.Spec PyProof.Rows L2
section
variable {X : Cx} {Wx : WX} {o e i : Expr} {to te ti : TE} {wo we wi : WE} {apos pos epos spos : Pos}
theorem sd_app (ho : PdD X Wx o to wo) (he : PdD X Wx e te we) (m : BmSide X o "append" e [] apos pos := by exact ⟨rfl, rfl, rfl, rfl, rfl⟩) (hs : swapsWith (.Call (.Attribute o "append" apos) [e] [] pos) none epos.line X.env = pure false := by rfl) :
    PsD X Wx (.Expr (.Call (.Attribute o "append" apos) [e] [] pos) epos) (tDrop (tBM X.K "list" rAppend to (tCons te tNil))) (wApp wo we) := ⟨ps_expr (pe_bm' PySem.F.plainAttrs_list PySem.F.slot_list_append PySem.F.type_list_append mt_append ho.pe (pa_cons he.pe pa_nil m.hs) m) hs, SndS.app ho.ok he.ok⟩
theorem sd_setI (he : PdD X Wx e te we) (ho : PdD X Wx o to wo) (hi : PdD X Wx i ti wi) (ha : ∀ v, assign (.Subscript o i spos) X.env v = (do
      let ov ← holding [v] (eval o X.env)
      let iv ← holding [v, ov] (eval i X.env)
      standAt spos
      holding [v, ov, iv] (setItem ov iv v)
      release [v, ov, iv] []) := by intro _; rfl) (hs : swapsWithSole [.Subscript o i spos] e pos.line X.env = pure false := by rfl) (hw : swappedStores [.Subscript o i spos] e X.env = pure none := by rfl)
    (h1 : (assignEach [.Subscript o i spos] X.env).map (·.2) = [assign (.Subscript o i spos) X.env] := by rfl) : PsD X Wx (.Assign [.Subscript o i spos] e pos) (tAsg te (gSub to ti rSetL)) (wSetI we wo wi) := ⟨ps_asg he.pe (pg_sub ho.pe hi.pe set_list ha) hs hw h1, SndS.setI he.ok ho.ok hi.ok⟩
end
end DL

namespace DL
open PySem PySem.Spec PyProof.Rows L2

section
variable {K : PySem.W.Frag} {fx : Fx} {F G H F' G' H' : Hp} {σ : L2.St} {S : List Slot} {A : Nat → List Addr} {v : V} {B : List Addr} {x : W}
/-! ## list comprehensions -/
def wipeS (S : List Slot) : List Nat → List Slot
  | [] => S
  | v :: vs => (wipeS S vs).set v .no
def noOwn (S : List Slot) : List Nat → Prop
  | [] => True
  | v :: vs => (match gt S v with
    | .own _ _ => False
    | _ => True) ∧ noOwn S vs
theorem wipeS_length (S : List Slot) : ∀ vs : List Nat, (wipeS S vs).length = S.length
  | [] => rfl
  | v :: vs => by unfold wipeS; rw [List.length_set, wipeS_length S vs]
theorem wipeS_get {s : Slot} {i : Nat} : ∀ {vs : List Nat}, (wipeS S vs)[i]? = some s → s = .no ∨ (S[i]? = some s ∧ i ∉ vs)
  | [], h => .inr ⟨h, by simp⟩
  | v :: vs, h => by
    unfold wipeS at h
    rcases gset h with ⟨rfl, rfl⟩ | ⟨ne, h⟩
    · exact .inl rfl
    · rcases wipeS_get h with e | ⟨e, n⟩
      · exact .inl e
      · exact .inr ⟨e, by simp [ne, n]⟩
theorem wipe_get {o : Option V} {i : Nat} : ∀ {vs : List Nat}, i ∉ vs → (wipe σ vs)[i]? = σ[i]? := wipe_out
theorem Cons.wipe {vs : List Nat} (c : Cons K fx F G H σ S A) : Cons K fx F G H (L2.wipe σ vs) (wipeS S vs) A := by
  refine { c with len := by rw [wipe_length, wipeS_length]; exact c.len, sl := fun i s e => ?_ }
  rcases wipeS_get e with rfl | ⟨e, n⟩
  · trivial
  · have q := c.sl i s e
    have w : (L2.wipe σ vs)[i]? = σ[i]? := wipe_out n
    cases s with
    | no => trivial
    | dat d => obtain ⟨u, h1, h2⟩ := q; exact ⟨u, by rw [w]; exact h1, h2⟩
    | rdo d => obtain ⟨u, h1, h2⟩ := q; exact ⟨u, by rw [w]; exact h1, h2⟩
    | own a o => exact ⟨by rw [w]; exact q.1, q.2⟩
    | sto => obtain ⟨u, h1, h2⟩ := q; exact ⟨u, h1, by rw [w]; exact h2⟩
    | seq ns => obtain ⟨u, h1, h2⟩ := q; exact ⟨u, by rw [w]; exact h1, h2⟩
    | exc a C d fs => exact ⟨by rw [w]; exact q.1, q.2⟩
/-- an untracked cell beside a state is written -/
theorem Cons.poke (c : Cons K fx F G H σ S A) {p : Addr} {o : HO} (n : G p = none) (nA : ∀ i, p ∉ A i) (st : fx.st ≠ some p) (h0 : fx.H0 p = none) : Cons K fx F G (upd H p o) σ S A := by
  have keep : ∀ b u, b ≠ p → H b = some u → upd H p o b = some u := fun b u nb e => by rw [upd_ne nb]; exact e
  refine { c with gh := fun a u e => keep a u (fun z => by rw [z, n] at e; cases e) (c.gh a u e), sl := fun i s e => ?_, ah := fun i a ha => ?_, sto := fun q e => ⟨(c.sto q e).1, (c.sto q e).2.1, (c.sto q e).2.2.1.keep fun o h => keep q o (fun z => st (by rw [e, z])) h, (c.sto q e).2.2.2⟩, pres := fun a u e m => keep a u (fun z => by rw [z, h0] at e; cases e) (c.pres a u e m), hn := fun a e => ?_ }
  · have q := c.sl i s e
    cases s with
    | own a o2 => exact ⟨q.1, q.2.mono (.refl F) fun b hb u e => keep b u (fun z => nA i (z ▸ hb)) e⟩
    | no => trivial
    | dat d => exact q
    | rdo d => exact q
    | sto => exact q
    | seq ns => exact q
    | exc a C d fs => exact q
  · obtain ⟨u, e⟩ := c.ah i a ha
    exact ⟨u, keep a u (fun z => nA i (z ▸ ha)) e⟩
  · by_cases z : a = p
    · rw [z]; exact h0
    · rw [upd_ne z] at e; exact c.hn a e
variable {Wx : WX} {ti : TI} {wi : WI} {g : TG} {wg : WG} {tt : TT} {wt : WT} {te : TE} {we : WE}
def W0 : WX := fun _ _ _ _ => False
def xp0 : Xp := fun _ _ _ => False
/-- the target stores own names alone -/
def Stores (g : TG) (vs : List Nat) : Prop := ∀ v (σ0 σ : L2.St) H (Q : L2.St → Hp → Prop), L2.wipe σ vs = L2.wipe σ0 vs → g v σ H Q → g v σ H fun σ2 H2 => L2.wipe σ2 vs = L2.wipe σ0 vs ∧ Q σ2 H2
def StoresS (g : TGs) (vs : List Nat) : Prop := ∀ v (σ0 σ : L2.St) H (Q : L2.St → Hp → Prop), L2.wipe σ vs = L2.wipe σ0 vs → g v σ H Q → g v σ H fun σ2 H2 => L2.wipe σ2 vs = L2.wipe σ0 vs ∧ Q σ2 H2
theorem wipe_set {o : Option V} {i : Nat} : ∀ {vs : List Nat} {σ : L2.St}, (i ∈ vs → L2.wipe (σ.set i o) vs = L2.wipe σ vs) ∧ (i ∉ vs → L2.wipe (σ.set i o) vs = (L2.wipe σ vs).set i o)
  | [], σ => ⟨(fun h => by cases h), fun _ => rfl⟩
  | v :: vs, σ => by
    have ih := wipe_set (o := o) (i := i) (vs := vs) (σ := σ)
    refine ⟨fun h => ?_, fun h => ?_⟩
    · unfold L2.wipe
      by_cases m : i ∈ vs
      · rw [ih.1 m]
      · have e : i = v := by
          rcases List.mem_cons.mp h with h | h
          · exact h
          · exact absurd h m
        rw [ih.2 m, e, List.set_set]
    · unfold L2.wipe
      have m : i ∉ vs := fun z => h (List.mem_cons_of_mem _ z)
      have e : i ≠ v := fun z => h (by rw [z]; exact List.mem_cons_self ..)
      rw [ih.2 m, List.set_comm _ _ e]
theorem wipe_wipe : ∀ {us vs : List Nat} {σ : L2.St}, (∀ i ∈ us, i ∈ vs) → L2.wipe (L2.wipe σ us) vs = L2.wipe σ vs
  | [], _, _, _ => rfl
  | u :: us, vs, σ, h => by
    show L2.wipe ((L2.wipe σ us).set u none) vs = _
    rw [wipe_set.1 (h u (List.mem_cons_self ..)), wipe_wipe fun i hi => h i (List.mem_cons_of_mem _ hi)]
theorem Stores.name {i : Nat} {vs : List Nat} (h : i ∈ vs) : Stores (gName i) vs := fun v σ0 σ H Q e q => ⟨by rw [wipe_set.1 h]; exact e, q⟩
theorem StoresS.nil {vs : List Nat} : StoresS gNil vs := fun v σ0 σ H Q e q => ⟨q.1, e, q.2⟩
theorem StoresS.cons {vs : List Nat} {t : TG} {u : TGs} (h1 : Stores t vs) (h2 : StoresS u vs) (m : ∀ v σ H Q Q', (∀ σ H, Q σ H → Q' σ H) → t v σ H Q → t v σ H Q') : StoresS (gCons t u) vs := fun v σ0 σ H Q e q => by
  obtain ⟨w, r, e1, q⟩ := q
  refine ⟨w, r, e1, m _ _ _ _ _ (fun σ2 H2 z => ?_) (h1 w σ0 σ H _ e q)⟩
  exact h2 r σ0 σ2 H2 Q z.1 z.2
theorem Stores.unp {vs : List Nat} {n : Nat} {u : TGs} (h : StoresS u vs) : Stores (gTup K n u) vs := fun v σ0 σ H Q e q => by
  obtain ⟨a, xs, e1, e2, e3, q⟩ := q
  exact ⟨a, xs, e1, e2, e3, h xs σ0 σ H Q e q⟩
theorem mono_name {i : Nat} : ∀ v σ H Q Q', (∀ σ H, Q σ H → Q' σ H) → gName i v σ H Q → gName i v σ H Q' := fun _ _ _ _ _ h q => h _ _ q
/-- [elt for target in iter if test], the items frozen -/
def wLc (wi : WI) (wg : WG) (wt : WT) (we : WE) (vs : List Nat) : WE := fun xp S Q => wi xp S fun n item stab => n ≤ 100000 ∧ stab (wipeS S vs) ∧ ∃ I : Nat → List D → Prop, I 0 [] ∧
  (∀ k ds, k < n → ds.length ≤ k → I k ds → wg (item k) (wipeS S vs) fun S2 => wt xp0 S2 fun b => if b = true then we xp0 S2 fun y => y.fz1 fun d => I (k + 1) (ds ++ [d]) else I (k + 1) ds) ∧ ∀ ds, ds.length ≤ n → I n ds → Q (.new (.fl ds))
/-- .. the items owned -/
def wLcO (wi : WI) (wg : WG) (wt : WT) (we : WE) (vs : List Nat) : WE := fun xp S Q => wi xp S fun n item stab => n ≤ 100000 ∧ stab (wipeS S vs) ∧ ∃ I : Nat → List O → Prop, I 0 [] ∧
  (∀ k ds, k < n → ds.length ≤ k → I k ds → wg (item k) (wipeS S vs) fun S2 => wt xp0 S2 fun b => if b = true then we xp0 S2 fun y => y.kid1 fun d => I (k + 1) (ds ++ [d]) else I (k + 1) ds) ∧ ∀ ds, ds.length ≤ n → I n ds → Q (.new (.lst ds))
theorem SndT.yes : SndT K Wx tYes (fun _ _ Q => Q true) := fun fx xp F G H σ S A Qd Q xr c hw q => q true F G H .refl c hw
theorem Cons.unwipe {vs : List Nat} {F2 G2 H2 : Hp} (c : Cons K fx F G H σ S A) (g : Grow fx F G H F2 G2 H2) (c2 : Cons K fx F2 G2 H2 (L2.wipe σ vs) (wipeS S vs) A) : Cons K fx F2 G2 H2 σ S A :=
  c.grow g c2.fg c2.gh fun p e => ⟨(c2.sto p e).1, (c2.sto p e).2.2.1⟩
theorem Grow.poke {F1 G1 H1 : Hp} {p : Addr} {o : HO} (g : Grow fx F1 G1 H1 F G H) (n : H1 p = none) : Grow fx F1 G1 H1 F G (upd H p o) :=
  ⟨g.f, g.g, fun a u e st => by rw [upd_ne (ne_of_none e n)]; exact g.h a u e st, fun a e => by
    by_cases z : a = p
    · rw [z]; exact n
    · rw [upd_ne z] at e; exact g.hn a e, g.fn, g.gn⟩
theorem Grow.old {F1 G1 H1 : Hp} {p : Addr} {u : HO} (g : Grow fx F1 G1 H1 F G H) (n : G1 p = none) (e : H1 p = some u) : G p = none := by
  cases z : G p with
  | none => rfl
  | some w =>
    have := g.gn p w z n
    rw [e] at this
    cases this
theorem Cons.regrow {F2 G2 H2 : Hp} {σ2 : L2.St} {S2 : List Slot} {A2 : Nat → List Addr} (c : Cons K fx F G H σ S A) (g : Grow fx F G H F2 G2 H2) (c2 : Cons K fx F2 G2 H2 σ2 S2 A2) : Cons K fx F2 G2 H2 σ S A :=
  c.grow g c2.fg c2.gh fun p e => ⟨(c2.sto p e).1, (c2.sto p e).2.2.1⟩
theorem Snd.lc {vs : List Nat} (hi : SndI K Wx ti wi) (hg : SndG K g wg) (hst : Stores g vs) (ht : SndT K W0 tt wt) (he : Snd K W0 te we) : Snd K Wx (tLc ti g tt te vs) (wLc wi wg wt we vs) := fun fx xp F G H σ S A Qd Q xr c hw q => by
  refine hi fx xp F G H σ S A _ _ xr c hw fun J n item stab F1 G1 H1 g1 c1 st1 it ⟨hn, stw, I, i0, turn, fin⟩ => ?_
  intro Dl hD
  obtain ⟨nG, nF, nst, nA⟩ := c1.new hD
  have h0 : fx.H0 Dl = none := c1.hn Dl hD
  refine ⟨fun i m H => m + i = n ∧ ∃ ds acc F' G', Grow fx F1 G1 H1 F' G' H ∧ Cons K fx F' G' H (L2.wipe σ vs) (wipeS S vs) A ∧ G' Dl = none ∧ H Dl = some (.lst acc) ∧ Reps K F' acc ds ∧ ds.length ≤ i ∧ I i ds, ⟨n, rfl, [], [], F1, G1, ?_⟩, fun i m H2 ⟨em, ds, acc, F2, G2, g2, c2, nG2, hl, ra, hlen, hI⟩ => ?_⟩
  · obtain ⟨g2, c2⟩ := c1.laid (o := .lst []) hD
    exact ⟨g2, c2.wipe, nG, upd_same, .nil, Nat.le_refl _, i0⟩
  · obtain ⟨h1, h2⟩ := it i F2 G2 H2 (L2.wipe σ vs) (wipeS S vs) A g2.f g2.g c2 stw
    by_cases hi : i < n
    · obtain ⟨hgo, hy⟩ := h2 hi
      refine .inr ⟨hgo, fun H3 => ∃ ds acc F' G', Grow fx F1 G1 H1 F' G' H3 ∧ Cons K fx F' G' H3 (L2.wipe σ vs) (wipeS S vs) A ∧ G' Dl = none ∧ H3 Dl = some (.lst acc) ∧ Reps K F' acc ds ∧ ds.length ≤ i + 1 ∧ I (i + 1) ds, fun H3 z => ⟨m - 1, by omega, by omega, z⟩, fun y H3 hyl => ?_⟩
      obtain ⟨F3, G3, g3, c3, rw3⟩ := hy y H3 hyl
      refine hst y σ (L2.wipe σ vs) H3 _ (wipe_wipe fun _ h => h) (hg fx F3 G3 H3 _ _ A y (item i) [] _ _ c3 rw3 (fun b hb => by cases hb) (fun j b hb => by cases hb) (turn i ds hi hlen hI) fun σ4 S4 A4 c4 q4 => ?_)
      refine ht fx xp0 F3 G3 H3 σ4 S4 A4 _ _ XRel.none c4 q4 fun b F5 G5 H5 g5 c5 q5 => ?_
      cases b with
      | true =>
        refine he fx xp0 F5 G5 H5 σ4 S4 A4 _ _ XRel.none c5 q5 fun w z F6 G6 H6 B g6 c6 r6 n6 q6 => ?_
        obtain ⟨F7, G7, d, g7, c7, f7, gg7, rd, q7⟩ := r6.fz1 c4 (g5.trans g6) c6 (fun b hb => g5.hn b (n6 b hb)) q6
        have gall := g3.trans g7
        have hl7 := gall.h Dl _ hl nst
        have nG7 := gall.old nG2 hl
        refine ⟨acc, hl7, by rw [ra.length]; exact lt_line (by omega), ds ++ [d], acc ++ [w], F7, G7, (g2.trans gall).poke hD, (c3.regrow g7 c7).poke nG7 nA nst h0, nG7, upd_same, (ra.mono gall.f).append (.cons rd .nil), by rw [List.length_append]; exact Nat.succ_le_succ hlen, q7⟩
      | false =>
        have gall := g3.trans g5
        exact ⟨ds, acc, F5, G5, g2.trans gall, c3.regrow g5 c5, gall.old nG2 hl, gall.h Dl _ hl nst, ra.mono gall.f, by omega, q5⟩
    · have e : i = n := by omega
      subst e
      exact .inl ⟨h1 (Nat.le_refl _), q (.ref Dl) (.new (.fl ds)) F2 G2 H2 [Dl] (g1.trans g2) (c1.regrow g2 c2) ⟨.fl hl ra, List.nodup_cons.mpr ⟨List.not_mem_nil, .nil⟩, fun b hb => by
        rw [List.mem_singleton.mp hb]
        exact ⟨nG2, nst⟩⟩ (fun b hb => by rw [List.mem_singleton.mp hb]; exact g1.hn _ hD) (fin ds hlen hI)⟩
theorem Snd.lcO {vs : List Nat} (hi : SndI K Wx ti wi) (hg : SndG K g wg) (hst : Stores g vs) (ht : SndT K W0 tt wt) (he : Snd K W0 te we) : Snd K Wx (tLc ti g tt te vs) (wLcO wi wg wt we vs) := fun fx xp F G H σ S A Qd Q xr c hw q => by
  refine hi fx xp F G H σ S A _ _ xr c hw fun J n item stab F1 G1 H1 g1 c1 st1 it ⟨hn, stw, I, i0, turn, fin⟩ => ?_
  intro Dl hD
  obtain ⟨nG, nF, nst, nA⟩ := c1.new hD
  have h0 : fx.H0 Dl = none := c1.hn Dl hD
  have inv : ∀ (F' G' H' : Hp) (acc : List V) (ds : List O) (Bs : List Addr), (RepOs K F' H' acc ds Bs ∧ Bs.Nodup ∧ ∀ b ∈ Bs, G' b = none ∧ fx.st ≠ some b ∧ H1 b = none ∧ b ≠ Dl) → ∀ {F2 G2 H2 : Hp}, Grow fx F' G' H' F2 G2 H2 → RepOs K F2 H2 acc ds Bs ∧ Bs.Nodup ∧ ∀ b ∈ Bs, G2 b = none ∧ fx.st ≠ some b ∧ H1 b = none ∧ b ≠ Dl :=
    fun F' G' H' acc ds Bs ⟨r, nd, nb⟩ F2 G2 H2 g => ⟨r.mono g.f fun b hb u e => g.h b u e (nb b hb).2.1, nd, fun b hb => by
      obtain ⟨u, e⟩ := r.there b hb
      exact ⟨g.old (nb b hb).1 e, (nb b hb).2.1, (nb b hb).2.2.1, (nb b hb).2.2.2⟩⟩
  refine ⟨fun i m H => m + i = n ∧ ∃ ds acc Bs F' G', Grow fx F1 G1 H1 F' G' H ∧ Cons K fx F' G' H (L2.wipe σ vs) (wipeS S vs) A ∧ G' Dl = none ∧ H Dl = some (.lst acc) ∧ (RepOs K F' H acc ds Bs ∧ Bs.Nodup ∧ ∀ b ∈ Bs, G' b = none ∧ fx.st ≠ some b ∧ H1 b = none ∧ b ≠ Dl) ∧ ds.length ≤ i ∧ I i ds, ⟨n, rfl, [], [], [], F1, G1, ?_⟩, fun i m H2 ⟨em, ds, acc, Bs, F2, G2, g2, c2, nG2, hl, ra, hlen, hI⟩ => ?_⟩
  · obtain ⟨g2, c2⟩ := c1.laid (o := .lst []) hD
    exact ⟨g2, c2.wipe, nG, upd_same, ⟨.nil, .nil, fun b hb => by cases hb⟩, Nat.le_refl _, i0⟩
  · obtain ⟨h1, h2⟩ := it i F2 G2 H2 (L2.wipe σ vs) (wipeS S vs) A g2.f g2.g c2 stw
    by_cases hi : i < n
    · obtain ⟨hgo, hy⟩ := h2 hi
      refine .inr ⟨hgo, fun H3 => ∃ ds acc Bs F' G', Grow fx F1 G1 H1 F' G' H3 ∧ Cons K fx F' G' H3 (L2.wipe σ vs) (wipeS S vs) A ∧ G' Dl = none ∧ H3 Dl = some (.lst acc) ∧ (RepOs K F' H3 acc ds Bs ∧ Bs.Nodup ∧ ∀ b ∈ Bs, G' b = none ∧ fx.st ≠ some b ∧ H1 b = none ∧ b ≠ Dl) ∧ ds.length ≤ i + 1 ∧ I (i + 1) ds, fun H3 z => ⟨m - 1, by omega, by omega, z⟩, fun y H3 hyl => ?_⟩
      obtain ⟨F3, G3, g3, c3, rw3⟩ := hy y H3 hyl
      refine hst y σ (L2.wipe σ vs) H3 _ (wipe_wipe fun _ h => h) (hg fx F3 G3 H3 _ _ A y (item i) [] _ _ c3 rw3 (fun b hb => by cases hb) (fun j b hb => by cases hb) (turn i ds hi hlen hI) fun σ4 S4 A4 c4 q4 => ?_)
      refine ht fx xp0 F3 G3 H3 σ4 S4 A4 _ _ XRel.none c4 q4 fun b F5 G5 H5 g5 c5 q5 => ?_
      cases b with
      | true =>
        refine he fx xp0 F5 G5 H5 σ4 S4 A4 _ _ XRel.none c5 q5 fun w z F6 G6 H6 B g6 c6 r6 n6 q6 => ?_
        obtain ⟨o, ro, nd, nB, q7⟩ := r6.kid1 q6
        have g56 := g5.trans g6
        have gall := g3.trans g56
        have hl7 := gall.h Dl _ hl nst
        have nG7 := gall.old nG2 hl
        obtain ⟨ra1, ra2, ra3⟩ := inv _ _ _ _ _ _ ra gall
        have nBH : ∀ b ∈ B, H2 b = none := fun b hb => g3.hn b (g5.hn b (n6 b hb))
        have nBD : ∀ b ∈ B, b ≠ Dl := fun b hb e => by have := nBH b hb; rw [e, hl] at this; cases this
        have nBs : ∀ b ∈ B, b ∉ Bs := fun b hb z => by
          obtain ⟨u, e⟩ := ra.1.there b z
          rw [nBH b hb] at e
          cases e
        refine ⟨acc, hl7, by rw [ra1.length]; exact lt_line (by omega), ds ++ [o], acc ++ [w], Bs ++ (B ++ []), F6, G6, (g2.trans gall).poke hD, (c3.regrow g56 c6).poke nG7 nA nst h0, nG7, upd_same, ⟨(ra1.mono (.refl _) fun b hb u e => by rw [upd_ne (ra3 b hb).2.2.2]; exact e).append (.cons (ro.mono (.refl _) fun b hb u e => by rw [upd_ne (nBD b hb)]; exact e) .nil), ?_, fun b hb => ?_⟩, by rw [List.length_append]; exact Nat.succ_le_succ hlen, q7⟩
        · rw [List.append_nil]
          exact List.nodup_append.mpr ⟨ra2, nd, fun a ha b hb e => nBs b hb (e ▸ ha)⟩
        · rw [List.append_nil] at hb
          rcases List.mem_append.mp hb with hb | hb
          · exact ra3 b hb
          · exact ⟨(nB b hb).1, (nB b hb).2, g2.hn b (nBH b hb), nBD b hb⟩
      | false =>
        have gall := g3.trans g5
        exact ⟨ds, acc, Bs, F5, G5, g2.trans gall, c3.regrow g5 c5, gall.old nG2 hl, gall.h Dl _ hl nst, inv _ _ _ _ _ _ ra gall, by omega, q5⟩
    · have e : i = n := by omega
      subst e
      refine .inl ⟨h1 (Nat.le_refl _), q (.ref Dl) (.new (.lst ds)) F2 G2 H2 (Dl :: Bs) (g1.trans g2) (c1.regrow g2 c2) ⟨.lst hl ra.1, List.nodup_cons.mpr ⟨fun z => (ra.2.2 Dl z).2.2.2 rfl, ra.2.1⟩, fun b hb => ?_⟩ (fun b hb => ?_) (fin ds hlen hI)⟩
      · rcases List.mem_cons.mp hb with rfl | hb
        · exact ⟨nG2, nst⟩
        · exact ⟨(ra.2.2 b hb).1, (ra.2.2 b hb).2.1⟩
      · rcases List.mem_cons.mp hb with rfl | hb
        · exact g1.hn _ hD
        · exact g1.hn b (ra.2.2 b hb).2.2.1
end
/-- the block of a comprehension -/
abbrev blkOf (X : Cx) (scope : Scope) (s : Shared) (H : Hp) (C : Addr) (cl : List (Str × Addr)) (fp : List Addr) : Cx := X.blk s H scope (compEnvC scope cl C X.env) fp
structure LsD (X : Cx) (Wx : WX) (ifs : List Expr) (t : TT) (w : WT) : Prop where
  pt : PTs X ifs t
  ok : SndT X.K Wx t w
section
variable {X : Cx} {Wx : WX} {elt tg iter : Expr} {ifs : List Expr} {scope : Scope} {own : List (Str × Nat)} {pos spos py : Pos} {ti : TI} {wi : WI} {g : TG} {wg : WG} {tt : TT} {wt : WT} {te : TE} {we : WE}
theorem ls_nil : LsD X Wx [] tYes (fun _ _ Q => Q true) := ⟨pts_nil, SndT.yes⟩
theorem ls_one {c : Expr} (h : TdD X Wx c tt wt) : LsD X Wx [c] tt wt := ⟨pts_one h.pt, h.ok⟩
theorem pd_lc (hc : X.calm = true) (hN : X.N.Nodup) (hi : IdD X Wx tg iter ti wi) (ok : BlkOk X.N X.env.scope scope own) (hg : ∀ s H C cl fp, GdD (blkOf X scope s H C cl fp) tg g wg) (ht : ∀ s H C cl fp, LsD (blkOf X scope s H C cl fp) W0 ifs tt wt) (he : ∀ s H C cl fp, PdD (blkOf X scope s H C cl fp) W0 elt te we)
    (hst : Stores g (own.map (·.2))) (hs : ∀ x, foldedSetIterable iter X.env x = pure x := by intro _; rfl) : PdD X Wx (.ListComp elt [⟨tg, iter, ifs, 0⟩] scope pos) (tLc ti g tt te (own.map (·.2))) (wLc wi wg wt we (own.map (·.2))) :=
  ⟨pe_lc hc hN hi.pi ok (fun s H C cl fp => (hg s H C cl fp).pg) (fun s H C cl fp => (ht s H C cl fp).pt) (fun s H C cl fp => (he s H C cl fp).pe) hs, Snd.lc hi.ok (hg X.s_0 X.H_0 0 [] []).ok hst (ht X.s_0 X.H_0 0 [] []).ok (he X.s_0 X.H_0 0 [] []).ok⟩
theorem pd_lcO (hc : X.calm = true) (hN : X.N.Nodup) (hi : IdD X Wx tg iter ti wi) (ok : BlkOk X.N X.env.scope scope own) (hg : ∀ s H C cl fp, GdD (blkOf X scope s H C cl fp) tg g wg) (ht : ∀ s H C cl fp, LsD (blkOf X scope s H C cl fp) W0 ifs tt wt) (he : ∀ s H C cl fp, PdD (blkOf X scope s H C cl fp) W0 elt te we)
    (hst : Stores g (own.map (·.2))) (hs : ∀ x, foldedSetIterable iter X.env x = pure x := by intro _; rfl) : PdD X Wx (.ListComp elt [⟨tg, iter, ifs, 0⟩] scope pos) (tLc ti g tt te (own.map (·.2))) (wLcO wi wg wt we (own.map (·.2))) :=
  ⟨pe_lc hc hN hi.pi ok (fun s H C cl fp => (hg s H C cl fp).pg) (fun s H C cl fp => (ht s H C cl fp).pt) (fun s H C cl fp => (he s H C cl fp).pe) hs, Snd.lcO hi.ok (hg X.s_0 X.H_0 0 [] []).ok hst (ht X.s_0 X.H_0 0 [] []).ok (he X.s_0 X.H_0 0 [] []).ok⟩
/-- name = [..] -/
theorem sd_setLc {i : Nat} {y : Str} (hc : X.calm = true) (hN : X.N.Nodup) (hsw : swapsWith (.ListComp elt [⟨tg, iter, ifs, 0⟩] scope pos) (some (.Name y py)) spos.line X.env = pure true) (hi : IdD X Wx tg iter ti wi) (ok : BlkOk X.N X.env.scope scope own) (hg : ∀ s H C cl fp, GdD (blkOf X scope s H C cl fp) tg g wg) (ht : ∀ s H C cl fp, LsD (blkOf X scope s H C cl fp) W0 ifs tt wt) (he : ∀ s H C cl fp, PdD (blkOf X scope s H C cl fp) W0 elt te we)
    (hst : Stores g (own.map (·.2))) (hy : X.N[i]? = some y := by rfl) (hyl : X.env.scope.names.lookup y = some .local := by rfl) (hs : ∀ x, foldedSetIterable iter X.env x = pure x := by intro _; rfl) : PsD X Wx (.Assign [.Name y py] (.ListComp elt [⟨tg, iter, ifs, 0⟩] scope pos) spos) (tAsg (tLc ti g tt te (own.map (·.2))) (gName i)) (wAsg (wLc wi wg wt we (own.map (·.2))) (wName i)) :=
  ⟨ps_setLc hc hN hy hyl hsw hi.pi ok (fun s H C cl fp => (hg s H C cl fp).pg) (fun s H C cl fp => (ht s H C cl fp).pt) (fun s H C cl fp => (he s H C cl fp).pe) hs, SndS.asg (Snd.lc hi.ok (hg X.s_0 X.H_0 0 [] []).ok hst (ht X.s_0 X.H_0 0 [] []).ok (he X.s_0 X.H_0 0 [] []).ok) SndG.name⟩
theorem sd_setLcO {i : Nat} {y : Str} (hc : X.calm = true) (hN : X.N.Nodup) (hsw : swapsWith (.ListComp elt [⟨tg, iter, ifs, 0⟩] scope pos) (some (.Name y py)) spos.line X.env = pure true) (hi : IdD X Wx tg iter ti wi) (ok : BlkOk X.N X.env.scope scope own) (hg : ∀ s H C cl fp, GdD (blkOf X scope s H C cl fp) tg g wg) (ht : ∀ s H C cl fp, LsD (blkOf X scope s H C cl fp) W0 ifs tt wt) (he : ∀ s H C cl fp, PdD (blkOf X scope s H C cl fp) W0 elt te we)
    (hst : Stores g (own.map (·.2))) (hy : X.N[i]? = some y := by rfl) (hyl : X.env.scope.names.lookup y = some .local := by rfl) (hs : ∀ x, foldedSetIterable iter X.env x = pure x := by intro _; rfl) : PsD X Wx (.Assign [.Name y py] (.ListComp elt [⟨tg, iter, ifs, 0⟩] scope pos) spos) (tAsg (tLc ti g tt te (own.map (·.2))) (gName i)) (wAsg (wLcO wi wg wt we (own.map (·.2))) (wName i)) :=
  ⟨ps_setLc hc hN hy hyl hsw hi.pi ok (fun s H C cl fp => (hg s H C cl fp).pg) (fun s H C cl fp => (ht s H C cl fp).pt) (fun s H C cl fp => (he s H C cl fp).pe) hs, SndS.asg (Snd.lcO hi.ok (hg X.s_0 X.H_0 0 [] []).ok hst (ht X.s_0 X.H_0 0 [] []).ok (he X.s_0 X.H_0 0 [] []).ok) SndG.name⟩
end
end DL

namespace DL
open PySem PySem.Spec PyProof.Rows L2

/-! ## built-in functions by data -/
abbrev GN := List D → (D → Prop) → Prop
def RcOk (K : PySem.W.Frag) (r : List V → Hp → VK → Prop) (g : GN) : Prop := ∀ H vs ds Qd (Q : VK), Reps K H vs ds → g ds Qd → (∀ v d, (∀ F, Rep K F v d) → Qd d → Q v H) → r vs H Q
@[simp ↓] def W.dds : List W → (List D → Prop) → Prop
  | [], k => k []
  | x :: xs, k => x.dd fun d => W.dds xs fun ds => k (d :: ds)
@[simp ↓] def wFn (g : GN) (wa : WA) : WE := fun xp S Q => wa xp S fun xs => W.dds xs fun ds => g ds fun d => Q (.dat d)
section
variable {K : PySem.W.Frag} {fx : Fx} {F G H F' G' H' : Hp} {σ : L2.St} {S : List Slot} {A : Nat → List Addr} {v : V} {B : List Addr} {x : W}
theorem RepWs.dds : ∀ {vs : List V} {B : List Addr} {xs : List W} {k : List D → Prop}, Cons K fx F G H σ S A → RepWs K fx F G H S A vs B xs → W.dds xs k → ∃ ds, Reps K H vs ds ∧ k ds
  | _, _, _, _, _, .nil, h => ⟨[], .nil, h⟩
  | _, _, _, k, c, .cons (x := x) (xs := xs) r t n, h => by
    obtain ⟨nx, h⟩ := W.dd_of (x := x) (k := fun d => W.dds xs fun ds => k (d :: ds)) h
    obtain ⟨ds, h1, h2⟩ := RepWs.dds c t h
    exact ⟨_, .cons (r.rd c nx) h1, h2⟩
variable {Wx : WX} {ta : TA} {wa : WA} {te : TE} {we : WE}
theorem Snd.fn {r : List V → Hp → VK → Prop} {g : GN} (ok : RcOk K r g) (ha : SndA K Wx ta wa) : Snd K Wx (tCB r ta) (wFn g wa) := fun fx xp F G H σ S A Qd Q xr c hw q => by
  refine ha fx xp F G H σ S A _ _ xr c hw fun vs xs F1 G1 H1 B g1 c1 r1 n1 q1 => ?_
  obtain ⟨ds, h1, h2⟩ := r1.dds c1 q1
  exact ok H1 vs ds _ _ h1 h2 fun v d rv qd => q v (.dat d) F1 G1 H1 [] g1 c1 ⟨rv F1, rfl⟩ (fun b hb => by cases hb) qd
def gLen : GN := fun ds Q => match ds with
  | [.str s] => s.length ≤ sizeLine ∧ Q (.int s.length)
  | [.lst xs] => Q (.int xs.length)
  | [.tup xs] => Q (.int xs.length)
  | [.dic xs] => Q (.int xs.length)
  | _ => False
@[simp ↓] theorem egLen_4 (xs : List (Key × DL.D)) (Q : DL.D → Prop) : gLen [.dic xs] Q = Q (.int xs.length) := rfl
@[simp ↓] theorem egLen_1 (s : Str) (Q : DL.D → Prop) : gLen [.str s] Q = (s.length ≤ sizeLine ∧ Q (.int s.length)) := by first | rfl | exact propext Iff.rfl
@[simp ↓] theorem egLen_2 (xs : List DL.D) (Q : DL.D → Prop) : gLen [.lst xs] Q = Q (.int xs.length) := by first | rfl | exact propext Iff.rfl
@[simp ↓] theorem egLen_3 (xs : List DL.D) (Q : DL.D → Prop) : gLen [.tup xs] Q = Q (.int xs.length) := by first | rfl | exact propext Iff.rfl
abbrev rLen2 (K : PySem.W.Frag) : List V → Hp → VK → Prop := fun xs H Q => (∃ x n, xs = [x] ∧ LenV K x H n ∧ Q (.int n) H) ∨ ∃ a kvs, xs = [V.ref a] ∧ H a = some (.dK kvs) ∧ Q (.int kvs.length) H
theorem call_len2 {X : Cx} : CallR X (.builtin "len") (rLen2 X.K) := fun pins s σ H xs us Q I r h => by
  rcases h with h | h
  · exact call_len pins s σ H xs us Q I r h
  · exact call_lenD pins s σ H xs us Q I r h
theorem Repk.length {κ : Type} {K : PySem.W.Frag} {F : Hp} : ∀ {vs : List (κ × V)} {ds : List (κ × DL.D)}, Repk K F vs ds → vs.length = ds.length
  | _, _, .nil => rfl
  | _, _, .cons _ r => by rw [List.length_cons, List.length_cons, Repk.length r]
theorem rc_len : RcOk K (rLen2 K) gLen := fun H vs ds Qd Q r h q => by
  cases r with
  | nil => exact h.elim
  | cons r t =>
    cases t with
    | cons _ _ => exact absurd h (by unfold gLen; split <;> simp_all)
    | nil =>
      cases r with
      | str s => exact .inl ⟨_, _, rfl, ⟨h.1, rfl⟩, q _ _ (fun F => .int _) h.2⟩
      | lst h1 h2 => exact .inl ⟨_, _, rfl, .inl ⟨_, ql h1, rfl⟩, q _ _ (fun F => .int _) (by rw [h2.length]; exact h)⟩
      | tup h1 h2 => exact .inl ⟨_, _, rfl, .inr ⟨_, qt h1, rfl⟩, q _ _ (fun F => .int _) (by rw [h2.length]; exact h)⟩
      | dic h1 h2 => exact .inr ⟨_, _, rfl, h1, q _ _ (fun F => .int _) (by rw [h2.length]; exact h)⟩
      | _ => exact h.elim
def gInt : GN := fun ds Q => match ds with
  | [.int i] => Q (.int i)
  | [.bl b] => Q (.int (if b then 1 else 0))
  | [.str s] => ∃ n, PySem.intText? s = some n ∧ s.length ≤ 640 ∧ Q (.int n)
  | _ => False
@[simp ↓] theorem egInt_1 (i : Int) (Q : DL.D → Prop) : gInt [.int i] Q = Q (.int i) := by first | rfl | exact propext Iff.rfl
@[simp ↓] theorem egInt_2 (b : Bool) (Q : DL.D → Prop) : gInt [.bl b] Q = Q (.int (if b then 1 else 0)) := by first | rfl | exact propext Iff.rfl
@[simp ↓] theorem egInt_3 (s : Str) (Q : DL.D → Prop) : gInt [.str s] Q = ∃ n, PySem.intText? s = some n ∧ s.length ≤ 640 ∧ Q (.int n) := by first | rfl | exact propext Iff.rfl
abbrev rInt2 : List V → Hp → VK → Prop := fun xs H Q => ((∃ i, xs = [.int i] ∧ Q (.int i) H) ∨ ∃ k, xs = [.bl k] ∧ Q (.int (if k then 1 else 0)) H) ∨ ∃ a n, xs = [.str a] ∧ PySem.intText? a = some n ∧ a.length ≤ 640 ∧ Q (.int n) H
theorem rc_int : RcOk K rInt2 gInt := fun H vs ds Qd Q r h q => by
  cases r with
  | nil => exact h.elim
  | cons r t =>
    cases t with
    | cons _ _ => exact absurd h (by unfold gInt; split <;> simp_all)
    | nil =>
      cases r with
      | int i => exact .inl (.inl ⟨_, rfl, q _ _ (fun F => .int _) h⟩)
      | bl i => exact .inl (.inr ⟨_, rfl, q _ _ (fun F => .int _) h⟩)
      | str s =>
        obtain ⟨n, h1, h2, h3⟩ := h
        exact .inr ⟨_, _, rfl, h1, h2, q _ _ (fun F => .int _) h3⟩
      | _ => exact h.elim
def g1I (f : Int → Int) : GN := fun ds Q => match ds with
  | [.int i] => Q (.int (f i))
  | _ => False
@[simp ↓] theorem eg1I_1 (f : Int → Int) (i : Int) (Q : DL.D → Prop) : g1I f [.int i] Q = Q (.int (f i)) := by first | rfl | exact propext Iff.rfl
def g2I (f : Int → Int → Int) : GN := fun ds Q => match ds with
  | [.int i, .int j] => Q (.int (f i j))
  | _ => False
@[simp ↓] theorem eg2I_1 (f : Int → Int → Int) (i j : Int) (Q : DL.D → Prop) : g2I f [.int i, .int j] Q = Q (.int (f i j)) := by first | rfl | exact propext Iff.rfl
def gStr : GN := fun ds Q => match ds with
  | [.int i] => i.natAbs.log2 < 1920 ∧ Q (.str (toString i))
  | _ => False
theorem rc_1I {f : Int → Int} : RcOk K (fun xs H Q => ∃ i, xs = [.int i] ∧ Q (.int (f i)) H) (g1I f) := fun H vs ds Qd Q r h q => by
  cases r with
  | nil => exact h.elim
  | cons r t =>
    cases t with
    | cons _ _ => exact absurd h (by unfold g1I; split <;> simp_all)
    | nil =>
      cases r with
      | int i => exact ⟨_, rfl, q _ _ (fun F => .int _) h⟩
      | _ => exact h.elim
theorem rc_2I {f : Int → Int → Int} : RcOk K (fun xs H Q => ∃ i j, xs = [.int i, .int j] ∧ Q (.int (f i j)) H) (g2I f) := fun H vs ds Qd Q r h q => by
  unfold g2I at h
  split at h
  · cases r with
    | cons r t => cases t with
      | cons r2 t => cases t; cases r; cases r2; exact ⟨_, _, rfl, q _ _ (fun F => .int _) h⟩
  · exact h.elim
theorem rc_str : RcOk K (fun xs H Q => ∃ i : Int, xs = [.int i] ∧ i.natAbs.log2 < 1920 ∧ Q (.str (toString i)) H) gStr := fun H vs ds Qd Q r h q => by
  unfold gStr at h
  split at h
  · cases r with
    | cons r t => cases t; cases r; exact ⟨_, rfl, h.1, q _ _ (fun F => .str _) h.2⟩
  · exact h.elim
def dInts (ns : List Int) : List D := ns.map D.int
theorem Reps.dInts : ∀ {vs : List V} {ns : List Int}, Reps K F vs (DL.dInts ns) → vs = ns.map V.int
  | _, [], r => by cases r; rfl
  | _, n :: ns, r => by
    cases r with
    | cons r t => cases r; rw [Reps.dInts t]; rfl
theorem reps_ints : ∀ (ns : List Int), Reps K F (ns.map V.int) (DL.dInts ns)
  | [] => .nil
  | n :: ns => .cons (.int n) (reps_ints ns)
def dStrs (ns : List Str) : List D := ns.map D.str
theorem Reps.dStrs : ∀ {vs : List V} {ns : List Str}, Reps K F vs (DL.dStrs ns) → vs = ns.map V.str
  | _, [], r => by cases r; rfl
  | _, n :: ns, r => by
    cases r with
    | cons r t => cases r; rw [Reps.dStrs t]; rfl
theorem reps_strs : ∀ (ns : List Str), Reps K F (ns.map V.str) (DL.dStrs ns)
  | [] => .nil
  | n :: ns => .cons (.str n) (reps_strs ns)
def gSum : GN := fun ds Q => match ds with
  | [.lst xs] => ∃ ns, xs = dInts ns ∧ Q (.int ns.sum)
  | _ => False
theorem rc_sum : RcOk K (rSum K) gSum := fun H vs ds Qd Q r h q => by
  unfold gSum at h
  split at h
  · cases r with
    | cons r t =>
      cases t
      cases r with
      | lst h1 h2 =>
        obtain ⟨ns, rfl, z⟩ := h
        rw [h2.dInts] at h1
        exact ⟨_, ns, rfl, ql h1, q _ _ (fun F => .int _) z⟩
  · exact h.elim
def gMaxL : GN := fun ds Q => match ds with
  | [.lst xs] => ∃ ns, xs = dInts ns ∧ 0 < ns.length ∧ ∀ m, m ∈ ns → (∀ y, y ∈ ns → y ≤ m) → Q (.int m)
  | _ => False
def gMinL : GN := fun ds Q => match ds with
  | [.lst xs] => ∃ ns, xs = dInts ns ∧ 0 < ns.length ∧ ∀ m, m ∈ ns → (∀ y, y ∈ ns → m ≤ y) → Q (.int m)
  | _ => False
theorem rc_maxL : RcOk K (rMax K) gMaxL := fun H vs ds Qd Q r h q => by
  unfold gMaxL at h
  split at h
  · cases r with
    | cons r t =>
      cases t
      cases r with
      | lst h1 h2 =>
        obtain ⟨ns, rfl, hp, z⟩ := h
        rw [h2.dInts] at h1
        exact ⟨_, ns, rfl, ql h1, hp, fun m hm hy => q _ _ (fun F => .int _) (z m hm hy)⟩
  · exact h.elim
theorem rc_minL : RcOk K (rMin K) gMinL := fun H vs ds Qd Q r h q => by
  unfold gMinL at h
  split at h
  · cases r with
    | cons r t =>
      cases t
      cases r with
      | lst h1 h2 =>
        obtain ⟨ns, rfl, hp, z⟩ := h
        rw [h2.dInts] at h1
        exact ⟨_, ns, rfl, ql h1, hp, fun m hm hy => q _ _ (fun F => .int _) (z m hm hy)⟩
  · exact h.elim
/-! ### in, not in -/
def eqS : D → D → Bool
  | .non, .non => true
  | .bl a, .bl b => a == b
  | .bl a, .int b => (if a then 1 else 0) == b
  | .int a, .bl b => a == (if b then 1 else 0)
  | .int a, .int b => a == b
  | .str a, .str b => a == b
  | _, _ => false
def inS (x : D) (xs : List D) : Bool := xs.any fun y => eqS y x
def gIn (neg : Bool) : G2 := fun x y Q => match y with
  | .lst ys => x.scal = true ∧ ys.all D.scal = true ∧ Q (.bl (if neg then !inS x ys else inS x ys))
  | .tup ys => x.scal = true ∧ ys.all D.scal = true ∧ Q (.bl (if neg then !inS x ys else inS x ys))
  | .str z => (match x with
    | .str s => ∃ c, s = ⟨#[c]⟩ ∧ Q (.bl (if neg then !decide (c ∈ z.cps.toList) else decide (c ∈ z.cps.toList)))
    | _ => False)
  | _ => False
@[simp ↓] theorem egIn_1 (n : Bool) (x : DL.D) (ys : List DL.D) (Q : DL.D → Prop) : gIn n x (.lst ys) Q = (x.scal = true ∧ ys.all D.scal = true ∧ Q (.bl (if n then !inS x ys else inS x ys))) := rfl
@[simp ↓] theorem egIn_2 (n : Bool) (x : DL.D) (ys : List DL.D) (Q : DL.D → Prop) : gIn n x (.tup ys) Q = (x.scal = true ∧ ys.all D.scal = true ∧ Q (.bl (if n then !inS x ys else inS x ys))) := rfl
@[simp ↓] theorem egIn_3 (n : Bool) (s z : Str) (Q : DL.D → Prop) : gIn n (.str s) (.str z) Q = ∃ c, s = ⟨#[c]⟩ ∧ Q (.bl (if n then !decide (c ∈ z.cps.toList) else decide (c ∈ z.cps.toList))) := rfl
abbrev rIn2 (K : PySem.W.Frag) : R2 := fun x y H Q => rIn K false x y H Q ∨ (fun x y H Q => ∃ (c : Nat) (z : Str), x = .str ⟨#[c]⟩ ∧ y = .str z ∧ Q (.bl (decide (c ∈ z.cps.toList))) H) x y H Q
abbrev rNotIn2 (K : PySem.W.Frag) : R2 := fun x y H Q => rIn K true x y H Q ∨ (fun x y H Q => ∃ (c : Nat) (z : Str), x = .str ⟨#[c]⟩ ∧ y = .str z ∧ Q (.bl (!decide (c ∈ z.cps.toList))) H) x y H Q
theorem Rep.flat {d : D} (r : Rep K F v d) (s : d.scal = true) : flatV v = true := by
  cases r <;> first | rfl | cases s
theorem Reps.flat : ∀ {vs : List V} {ds : List D}, Reps K F vs ds → ds.all D.scal = true → vs.all flatV = true
  | _, _, .nil, _ => rfl
  | _, _, .cons h r, s => by
    rw [List.all_cons, Bool.and_eq_true] at s ⊢
    exact ⟨h.flat s.1, Reps.flat r s.2⟩
theorem Rep.eqS {w : V} {d e : D} (r : Rep K F v d) (r2 : Rep K F' w e) (s : d.scal = true) (s2 : e.scal = true) : eqV v w = DL.eqS d e := by
  cases r <;> cases r2 <;> first | rfl | cases s | cases s2
theorem Reps.inS {w : V} {e : D} (r2 : Rep K F' w e) (s2 : e.scal = true) : ∀ {vs : List V} {ds : List D}, Reps K F vs ds → ds.all D.scal = true → inV w vs = DL.inS e ds
  | _, _, .nil, _ => rfl
  | _, _, .cons h r, s => by
    rw [List.all_cons, Bool.and_eq_true] at s
    show (eqV _ w || inV w _) = (DL.eqS _ e || DL.inS e _)
    rw [h.eqS r2 s.1 s2, Reps.inS r2 s2 r s.2]
theorem r2_in : R2Ok K (rIn2 K) (gIn false) := fun H v1 v2 d1 d2 Qd Q r1 r2 h q => by
  cases r2 with
  | lst h1 h2 => exact .inl ⟨_, _, rfl, .inl (ql h1), r1.flat h.1, h2.flat h.2.1, by rw [h2.inS r1 h.1 h.2.1]; exact q _ _ (fun F => .bl _) h.2.2⟩
  | tup h1 h2 => exact .inl ⟨_, _, rfl, .inr (qt h1), r1.flat h.1, h2.flat h.2.1, by rw [h2.inS r1 h.1 h.2.1]; exact q _ _ (fun F => .bl _) h.2.2⟩
  | str z =>
    cases r1 with
    | str s =>
      obtain ⟨c, rfl, h⟩ := h
      exact .inr ⟨c, z, rfl, rfl, q _ _ (fun F => .bl _) h⟩
    | _ => exact h.elim
  | _ => exact h.elim
theorem r2_notIn : R2Ok K (rNotIn2 K) (gIn true) := fun H v1 v2 d1 d2 Qd Q r1 r2 h q => by
  cases r2 with
  | lst h1 h2 => exact .inl ⟨_, _, rfl, .inl (ql h1), r1.flat h.1, h2.flat h.2.1, by rw [h2.inS r1 h.1 h.2.1]; exact q _ _ (fun F => .bl _) h.2.2⟩
  | tup h1 h2 => exact .inl ⟨_, _, rfl, .inr (qt h1), r1.flat h.1, h2.flat h.2.1, by rw [h2.inS r1 h.1 h.2.1]; exact q _ _ (fun F => .bl _) h.2.2⟩
  | str z =>
    cases r1 with
    | str s =>
      obtain ⟨c, rfl, h⟩ := h
      exact .inr ⟨c, z, rfl, rfl, q _ _ (fun F => .bl _) h⟩
    | _ => exact h.elim
  | _ => exact h.elim
theorem scal_ints : ∀ ns : List Int, (dInts ns).all D.scal = true
  | [] => rfl
  | _ :: ns => scal_ints ns
theorem scal_strs : ∀ ns : List Str, (dStrs ns).all D.scal = true
  | [] => rfl
  | _ :: ns => scal_strs ns
@[simp] theorem inS_ints (i : Int) : ∀ ns : List Int, inS (.int i) (dInts ns) = decide (i ∈ ns)
  | [] => rfl
  | n :: ns => by
    show ((n == i) || inS (.int i) (dInts ns)) = _
    rw [inS_ints i ns, Bool.eq_iff_iff, Bool.or_eq_true, beq_iff_eq, decide_eq_true_iff, decide_eq_true_iff, List.mem_cons]
    exact ⟨fun h => h.imp Eq.symm (fun h => h), fun h => h.imp Eq.symm (fun h => h)⟩
theorem inS_strs (i : Str) : ∀ ns : List Str, inS (.str i) (dStrs ns) = decide (i ∈ ns)
  | [] => rfl
  | n :: ns => by
    show ((n == i) || inS (.str i) (dStrs ns)) = _
    rw [inS_strs i ns, Bool.eq_iff_iff, Bool.or_eq_true, beq_iff_eq, decide_eq_true_iff, decide_eq_true_iff, List.mem_cons]
    exact ⟨fun h => h.imp Eq.symm (fun h => h), fun h => h.imp Eq.symm (fun h => h)⟩
/-! ### list(x), tuple(x) -/
def W.lof : List W → (List D → Prop) → Prop
  | [.dat (.tup ds)], k => k ds
  | [x], k => x.its k
  | _, _ => False
@[simp ↓] theorem eW_lof_1 (ds : List D) (k : List D → Prop) : W.lof [.dat (.tup ds)] k = k ds := rfl
@[simp ↓] theorem eW_lof_2 (ds : List D) (k : List D → Prop) : W.lof [.dat (.lst ds)] k = k ds := rfl
@[simp ↓] theorem eW_lof_3 (ds : List D) (k : List D → Prop) : W.lof [.rdo (.lst ds)] k = (ds.all D.scal = true ∧ k ds) := rfl
@[simp ↓] theorem eW_lof_4 (ds : List D) (k : List D → Prop) : W.lof [.new (.fl ds)] k = k ds := rfl
@[simp ↓] theorem eW_lof_5 (i : Nat) (p : List Pk) (ds : List D) (k : List D → Prop) : W.lof [.ref i p (.fl ds)] k = k ds := rfl
@[simp ↓] def wListOf (wa : WA) : WE := fun xp S Q => wa xp S fun xs => W.lof xs fun ds => Q (.new (.fl ds))
abbrev rListOf (K : PySem.W.Frag) : List V → Hp → VK → Prop := fun xs H Q => ∃ p ys, xs = [.ref p] ∧ (SqL K H p ys ∨ SqT K H p ys) ∧ ∀ l, H l = none → Q (.ref l) (upd H l (.lst ys))
theorem Snd.listOf (ha : SndA K Wx ta wa) : Snd K Wx (tCB (rListOf K) ta) (wListOf wa) := fun fx xp F G H σ S A Qd Q xr c hw q => by
  refine ha fx xp F G H σ S A _ _ xr c hw fun vs xs F1 G1 H1 B g1 c1 r1 n1 q1 => ?_
  have fin : ∀ {p : Addr} {ys : List V} {ds : List D}, vs = [.ref p] → (SqL K H1 p ys ∨ SqT K H1 p ys) → Reps K F1 ys ds → Qd (.new (.fl ds)) → rListOf K vs H1 Q := fun {p ys ds} e h1 h2 z => by
    subst e
    refine ⟨p, ys, rfl, h1, fun l hl => ?_⟩
    obtain ⟨g4, c4, r4⟩ := c1.newL hl h2
    exact q _ _ _ _ _ _ (g1.trans g4) c4 r4 (fun b hb => by rw [List.mem_singleton.mp hb]; exact g1.hn l hl) z
  cases r1 with
  | nil => exact q1.elim
  | cons r t nn =>
    cases t with
    | cons _ _ _ => exact absurd q1 (by simp [W.lof])
    | nil =>
      rename_i v1 B1 x
      have its : (x.its fun ds => Qd (.new (.fl ds))) → rListOf K [v1] H1 Q := fun h => by
        obtain ⟨a, vs, ds, rfl, hs, hr, z⟩ := r.its c1 h
        exact fin rfl (.inl (ql hs)) hr z
      cases x with
      | dat d =>
        cases d with
        | tup ds =>
          cases r.1 with
          | tup h1 h2 => exact fin rfl (.inr (sub_t (c1.fg.trans c1.gh) (qt h1))) h2 q1
        | _ => exact its q1
      | _ => exact its q1
@[simp ↓] def wTupOf (wa : WA) : WE := fun xp S Q => wa xp S fun xs => W.lof xs fun ds => Q (.dat (.tup ds))
abbrev rTupOf (K : PySem.W.Frag) : List V → Hp → VK → Prop := fun xs H Q => ∃ p ys, xs = [.ref p] ∧ ((SqL K H p ys ∧ ∀ l, H l = none → Q (.ref l) (upd H l (.tup ys))) ∨ (SqT K H p ys ∧ Q (.ref p) H))
theorem Snd.tupOf (ha : SndA K Wx ta wa) : Snd K Wx (tCB (rTupOf K) ta) (wTupOf wa) := fun fx xp F G H σ S A Qd Q xr c hw q => by
  refine ha fx xp F G H σ S A _ _ xr c hw fun vs xs F1 G1 H1 B g1 c1 r1 n1 q1 => ?_
  cases r1 with
  | nil => exact q1.elim
  | cons r t nn =>
    cases t with
    | cons _ _ _ => exact absurd q1 (by simp [W.lof])
    | nil =>
      rename_i v1 B1 x
      have its : (x.its fun ds => Qd (.dat (.tup ds))) → rTupOf K [v1] H1 Q := fun h => by
        obtain ⟨a, vs, ds, rfl, hs, hr, z⟩ := r.its c1 h
        refine ⟨a, vs, rfl, .inl ⟨ql hs, fun l hl => ?_⟩⟩
        obtain ⟨F2, G2, g4, c4, r4⟩ := c1.newT hl hr
        exact q _ (.dat _) _ _ _ [] (g1.trans g4) c4 ⟨r4, rfl⟩ (fun b hb => by cases hb) z
      cases x with
      | dat d =>
        cases d with
        | tup ds =>
          obtain ⟨r1, rfl⟩ := r
          cases r1 with
          | tup h1 h2 => exact ⟨_, _, rfl, .inr ⟨sub_t (c1.fg.trans c1.gh) (qt h1), q _ (.dat _) F1 G1 H1 [] g1 c1 ⟨.tup h1 h2, rfl⟩ (fun b hb => by cases hb) q1⟩⟩
        | _ => exact its q1
      | _ => exact its q1
end
section
variable {X : Cx} {Wx : WX} {a e : Expr} {es : List Expr} {ta : TA} {wa : WA} {te : TE} {we : WE} {x : Str} {p pos : Pos} {id T : String} {r : List V → Hp → VK → Prop}
theorem pd_fn {g : GN} (hc : CallR X (.builtin id) r) (ok : RcOk X.K r g) (hv : bootBuiltins x = some (.builtin id)) (hm : X.mg x = none) (ha : AdD X Wx (e :: es) ta wa) (hg : Gl X x := by rfl) (hn : x ≠ "__name__" := by decide) (hdb : (x == ("__debug__" : Str)) = false := by decide)
    (he : starEach (e :: es) X.env = (false, eval e X.env) :: starEach es X.env := by rfl) (hpl : (backTo pos (starEach es X.env)).any (·.1) = false := by rfl) : PdD X Wx (.Call (.Name x p) (e :: es) [] pos) (tCB r ta) (wFn g wa) := ⟨pe_callB hc hg hm hv ha.pa hn hdb he hpl, Snd.fn ok ha.ok⟩
theorem pd_ty {g : GN} (hc : CallR X (.type T) r) (ok : RcOk X.K r g) (hv : bootBuiltins x = some (.type T)) (hm : X.mg x = none) (ha : AdD X Wx (e :: es) ta wa) (hg : Gl X x := by rfl) (hn : x ≠ "__name__" := by decide) (hdb : (x == ("__debug__" : Str)) = false := by decide)
    (he : starEach (e :: es) X.env = (false, eval e X.env) :: starEach es X.env := by rfl) (hpl : (backTo pos (starEach es X.env)).any (·.1) = false := by rfl) : PdD X Wx (.Call (.Name x p) (e :: es) [] pos) (tCB r ta) (wFn g wa) := ⟨pe_callTy hc hg hm hv ha.pa hn hdb he hpl, Snd.fn ok ha.ok⟩
theorem call_int2 : CallR X (.type "int") rInt2 := call_int1.or call_int_str
theorem op_in2 : OpR X (compareOp .In) (rIn2 X.K) := op_in_seq.or op_in_sign
theorem op_notIn2 : OpR X (compareOp .NotIn) (rNotIn2 X.K) := op_notIn_seq.or op_notIn_sign
theorem pd_listOf (hm : X.mg "list" = none) (ha : AdD X Wx (e :: es) ta wa) (hg : Gl X "list" := by rfl) (he : starEach (e :: es) X.env = (false, eval e X.env) :: starEach es X.env := by rfl) (hpl : (backTo pos (starEach es X.env)).any (·.1) = false := by rfl) :
    PdD X Wx (.Call (.Name "list" p) (e :: es) [] pos) (tCB (rListOf X.K) ta) (wListOf wa) := ⟨pe_callTy call_list_of hg hm (by decide +kernel) ha.pa (by decide) (by decide) he hpl, Snd.listOf ha.ok⟩
theorem pd_tupOf (hm : X.mg "tuple" = none) (ha : AdD X Wx (e :: es) ta wa) (hg : Gl X "tuple" := by rfl) (he : starEach (e :: es) X.env = (false, eval e X.env) :: starEach es X.env := by rfl) (hpl : (backTo pos (starEach es X.env)).any (·.1) = false := by rfl) :
    PdD X Wx (.Call (.Name "tuple" p) (e :: es) [] pos) (tCB (rTupOf X.K) ta) (wTupOf wa) := ⟨pe_callTy call_tuple_of hg hm (by decide +kernel) ha.pa (by decide) (by decide) he hpl, Snd.tupOf ha.ok⟩
end
end DL

namespace DL
open PySem PySem.Spec PyProof.Rows L2

/-! ## an own slot frozen -/
@[simp ↓] def frzS (S : List Slot) (i : Nat) : List Slot := match gt S i with
  | .own _ o => S.set i (.dat o.d)
  | _ => S
section
variable {K : PySem.W.Frag} {fx : Fx} {F G H F' G' H' : Hp} {σ : L2.St} {S : List Slot} {A : Nat → List Addr} {v : V} {B : List Addr} {x : W} {D : Ends} {P : Post}
theorem Cons.frzS (c : Cons K fx F G H σ S A) {i : Nat} (hi : fx.np ≤ i) : ∃ F' G' A', Sub F F' ∧ Sub G G' ∧ Cons K fx F' G' H σ (DL.frzS S i) A' := by
  unfold DL.frzS
  cases e : gt S i with
  | own a o =>
    have e' := gt_some e (by simp)
    obtain ⟨h1, h2⟩ := c.sl i _ e'
    have n0 : ∀ b ∈ A i, fx.H0 b = none := fun b hb => by
      rcases c.am i b hb with z | z
      · exact z
      · exact absurd z.2 (Nat.not_lt.mpr hi)
    have nF : ∀ b ∈ A i, F b = none := fun b hb => c.fnone (c.nf i b hb)
    refine ⟨DL.frz F H (A i), DL.frz G H (A i), fun j => if j = i then [] else A j, sub_frz nF, sub_frz (c.nf i), ?_⟩
    have hA : ∀ {j : Nat} {b : Addr}, b ∈ (if j = i then [] else A j) → j ≠ i ∧ b ∈ A j := fun {j b} hb => by
      by_cases z : j = i
      · rw [if_pos z] at hb; cases hb
      · rw [if_neg z] at hb; exact ⟨z, hb⟩
    refine { c with len := by simp [c.len], fg := frz_mono c.fg, gh := frz_sub c.gh, sl := fun j s e2 => ?_, nod := fun j => ?_, dis := fun j k ne b hb hk => ?_, nf := fun j b hb => ?_, ah := fun j b hb => c.ah j b (hA hb).2, am := fun j b hb => c.am j b (hA hb).2, sto := fun p ep => ?_, f0 := c.f0.trans (sub_frz nF), g0 := c.g0.trans (sub_frz (c.nf i)), fnew := fun b u eb z => ?_ }
    · rcases gset e2 with ⟨rfl, rfl⟩ | ⟨ne, e2⟩
      · exact ⟨_, h1, h2.frozen nF⟩
      · have q := c.sl j s e2
        cases s with
        | no => trivial
        | dat d => obtain ⟨v, q1, q2⟩ := q; exact ⟨v, q1, q2.mono (sub_frz nF)⟩
        | rdo d => obtain ⟨v, q1, q2⟩ := q; exact ⟨v, q1, q2.mono (sub_frz (c.nf i))⟩
        | own a2 o2 =>
          refine ⟨q.1, ?_⟩
          simp only [if_neg ne]
          exact q.2.mono (sub_frz nF) fun _ _ _ h => h
        | sto => exact q
        | seq ns => exact q
        | exc a C d fs => exact ⟨q.1, q.2.1, fun dd e => by obtain ⟨vs, h2, h3⟩ := q.2.2 dd e; exact ⟨vs, sub_frz (c.nf i) _ _ h2, h3.mono (sub_frz nF)⟩⟩
    · by_cases z : j = i
      · simp only [if_pos z]; exact .nil
      · simp only [if_neg z]; exact c.nod j
    · exact c.dis j k ne b (hA hb).2 (hA hk).2
    · rw [frz_out fun z => c.dis j i (hA hb).1 b (hA hb).2 z]
      exact c.nf j b (hA hb).2
    · refine ⟨?_, fun j hb => (c.sto p ep).2.1 j (hA hb).2, (c.sto p ep).2.2⟩
      rw [frz_out fun z => (c.sto p ep).2.1 i z]
      exact (c.sto p ep).1
    · by_cases m : b ∈ A i
      · exact n0 b m
      · rw [frz_out m] at eb
        exact c.fnew b u eb z
  | _ => exact ⟨F, G, A, .refl F, .refl G, c⟩
variable {Wx : WX} {t u : TS} {wt wu : WS} {te : TE} {we : WE} {tc : TT} {wc : WT} {ta tb : TE} {wa wb : WE}
/-- slot i frozen ahead of a statement, behind it -/
@[simp ↓] def wPz (i : Nat) (w : WS) : WS := fun xp P S => P.np ≤ i ∧ w xp P (frzS S i)
@[simp ↓] def wFz (i : Nat) (w : WS) : WS := fun xp P S => P.np ≤ i ∧ w xp { P with nx := fun S' => P.nx (frzS S' i) } S
theorem SndS.pz {i : Nat} (h : SndS K Wx t wt) : SndS K Wx t (wPz i wt) := fun fx xp F G H σ S A P D xr c r hw => by
  obtain ⟨F', G', A', f, g, c'⟩ := c.frzS (Nat.le_trans r.np hw.1)
  exact h fx xp F' G' H σ _ A' P D xr c' (r.mono f g) hw.2
theorem SndS.fz {i : Nat} (h : SndS K Wx t wt) : SndS K Wx t (wFz i wt) := fun fx xp F G H σ S A P D xr c r hw => by
  refine h fx xp F G H σ S A { P with nx := fun S' => P.nx (DL.frzS S' i) } D xr c ⟨fun σ' F' G' H' S' A' f g c' q => ?_, r.bk, r.ct, r.rt, r.np⟩ hw.2
  obtain ⟨F2, G2, A2, f2, g2, c2⟩ := c'.frzS (Nat.le_trans r.np hw.1)
  exact r.nx σ' F2 G2 H' _ A2 (f.trans f2) (g.trans g2) c2 q
/-! ## list + list, list * int -/
@[simp ↓] def wCat (wa wb : WE) : WE := fun xp S Q => wa xp S fun x => wb xp S fun y => x.its fun ds => y.its fun es => ds.length + es.length ≤ 100000 ∧ Q (.new (.fl (ds ++ es)))
theorem Snd.cat (ha : Snd K Wx ta wa) (hb : Snd K Wx tb wb) : Snd K Wx (tOp rCat ta tb) (wCat wa wb) := fun fx xp F G H σ S A Qd Q xr c hw q => by
  refine Snd.two (Q := fun v u H2 => rCat v u H2 Q) ha hb xr c hw fun v x u y F' G' H' B B' gr c' r1 r2 n1 n2 hq => ?_
  obtain ⟨a, vs, ds, rfl, h1, h2, hq⟩ := r1.its c' hq
  obtain ⟨b, ws, es, rfl, h3, h4, hz, hq⟩ := r2.its c' hq
  refine ⟨a, b, vs, ws, rfl, rfl, h1, h3, by rw [h2.length, h4.length]; exact line_of hz, fun p hp => ?_⟩
  obtain ⟨g2, c2, r2⟩ := c'.newL hp (h2.append h4)
  exact q _ _ _ _ _ _ (gr.trans g2) c2 r2 (fun b hb => by rw [List.mem_singleton.mp hb]; exact gr.hn p hp) hq
@[simp ↓] def wRep (wa wb : WE) : WE := fun xp S Q => wa xp S fun x => wb xp S fun y => x.its fun ds => (match y with
  | .dat (.int k) => -(2 ^ 63) ≤ k ∧ k < 2 ^ 63 ∧ ds.length * k.toNat ≤ 100000 ∧ Q (.new (.fl (List.replicate k.toNat ds).flatten))
  | _ => False)
theorem Reps.rep {vs : List V} {ds : List DL.D} (r : Reps K F vs ds) : ∀ n : Nat, Reps K F (List.replicate n vs).flatten (List.replicate n ds).flatten
  | 0 => .nil
  | n + 1 => by
    rw [List.replicate_succ, List.replicate_succ, List.flatten_cons, List.flatten_cons]
    exact r.append (Reps.rep r n)
theorem Snd.rep (ha : Snd K Wx ta wa) (hb : Snd K Wx tb wb) : Snd K Wx (tOp rRep ta tb) (wRep wa wb) := fun fx xp F G H σ S A Qd Q xr c hw q => by
  refine Snd.two (Q := fun v u H2 => rRep v u H2 Q) ha hb xr c hw fun v x u y F' G' H' B B' gr c' r1 r2 n1 n2 hq => ?_
  obtain ⟨a, vs, ds, rfl, h1, h2, hq⟩ := r1.its c' hq
  cases y with
  | dat d =>
    cases d with
    | int k =>
      cases r2.1
      obtain ⟨k1, k2, k3, hq⟩ := hq
      refine ⟨a, k, vs, rfl, rfl, h1, k1, k2, by rw [h2.length]; exact line_of k3, fun p hp => ?_⟩
      obtain ⟨g2, c2, r2⟩ := c'.newL hp (h2.rep k.toNat)
      exact q _ _ _ _ _ _ (gr.trans g2) c2 r2 (fun b hb => by rw [List.mem_singleton.mp hb]; exact gr.hn p hp) hq
    | _ => exact hq.elim
  | _ => exact hq.elim
/-! ## is -/
def isD (neg : Bool) : G2 := fun x y Q => match y with
  | .non => Q (.bl (match x with | .non => !neg | _ => neg))
  | .bl b => Q (.bl (match x with | .bl c => (c == b) != neg | _ => neg))
  | _ => False
@[simp ↓] theorem eisD_1 (n : Bool) (x : DL.D) (Q : DL.D → Prop) : isD n x .non Q = Q (.bl (match x with | .non => !n | _ => n)) := by first | rfl | exact propext Iff.rfl
@[simp ↓] theorem eisD_2 (n : Bool) (x : DL.D) (b : Bool) (Q : DL.D → Prop) : isD n x (.bl b) Q = Q (.bl (match x with | .bl c => (c == b) != n | _ => n)) := by first | rfl | exact propext Iff.rfl
end
section
variable {X : Cx}
abbrev rIsB (neg : Bool) : R2 := fun x y H Q => ∃ b, (y = .non ∧ b = decide (x = .non) ∨ ∃ k, y = .bl k ∧ b = decide (x = .bl k)) ∧ Q (.bl (b != neg)) H
theorem isB_ok {M : Model} {A : Around} {E : Value → Shared → Prop} {s : Shared} {x : V} {u : Value} {k : Bool} {R : Bool → Shared → Prop} (r : RelV x u) (q : R (decide (x = .bl k)) s) : wpAny M A (isSame u (.bool k)) R E s := by
  have eq_ : ∀ {u : Value}, plainIs u (.bool k) = true → ((u == Value.bool k) = decide (x = .bl k)) → wpAny M A (isSame u (.bool k)) R E s := fun h1 h2 => wpAny_isSame_plain h1 (by rw [h2]; exact q)
  cases x with
  | ref a => cases r; exact eq_ rfl rfl
  | non => cases r; exact eq_ rfl rfl
  | bl b => cases r; cases b <;> cases k <;> exact eq_ rfl rfl
  | int i => obtain ⟨t, rfl⟩ := r; exact eq_ rfl rfl
  | str x => obtain ⟨t, rfl⟩ := r; exact eq_ rfl rfl
  | byt x => obtain ⟨t, rfl⟩ := r; exact eq_ rfl rfl
  | flt x => obtain ⟨t, rfl⟩ := r; exact eq_ rfl rfl
  | ty n => cases r; exact eq_ rfl rfl
theorem op_isB : OpR X (compareOp .Is) (rIsB false) := by
  intro pins s σ H x y v u Q I rx ry h
  obtain ⟨b, h, q⟩ := h
  rcases h with ⟨rfl, rfl⟩ | ⟨k, rfl, rfl⟩
  · exact op_isN pins s σ H x _ v u Q I rx ry ⟨rfl, by simpa using q⟩
  · cases ry
    show wpAny _ _ ((isSame v (Value.bool k)) >>= fun z => pure (Value.bool z)) _ _ s
    exact wpAny_bind (isB_ok rx (wpAny_pure (fin_bl I (by simpa using q) rfl)))
theorem op_isntB : OpR X (compareOp .IsNot) (rIsB true) := by
  intro pins s σ H x y v u Q I rx ry h
  obtain ⟨b, h, q⟩ := h
  rcases h with ⟨rfl, rfl⟩ | ⟨k, rfl, rfl⟩
  · exact op_notN pins s σ H x _ v u Q I rx ry ⟨rfl, by simpa using q⟩
  · cases ry
    show wpAny _ _ ((isSame v (Value.bool k)) >>= fun z => pure (Value.bool (!z))) _ _ s
    exact wpAny_bind (isB_ok rx (wpAny_pure (fin_bl I (by simpa using q) rfl)))
theorem r2_isB {K : PySem.W.Frag} {neg : Bool} : R2Ok K (rIsB neg) (isD neg) := fun H v1 v2 d1 d2 Qd Q r1 r2 h q => by
  cases r2 with
  | non =>
    refine ⟨_, .inl ⟨rfl, rfl⟩, q _ _ (fun F => .bl _) ?_⟩
    cases r1 <;> cases neg <;> simpa [isD] using h
  | bl b =>
    refine ⟨_, .inr ⟨b, rfl, rfl⟩, q _ _ (fun F => .bl _) ?_⟩
    cases r1 <;> cases neg <;> cases b <;> simp_all [isD]
    all_goals first | assumption | (rename_i c; cases c <;> simp_all)
  | _ => exact h.elim
end
/-! ## isinstance of the built-in types -/
@[simp ↓] def D.tyN : D → String
  | .non => "NoneType" | .bl _ => "bool" | .int _ => "int" | .str _ => "str" | .lst _ => "list" | .tup _ => "tuple" | _ => ""
def D.ty1 : D → Bool
  | .obj _ _ => false | .dic _ => false | .dit _ => false | .raw _ _ => false | _ => true
def gIsi (T : String) : G1 := fun x Q => match x with
  | .obj _ _ => False
  | .dic _ => False
  | .dit _ => False
  | .raw _ _ => False
  | x => Q (.bl (x.tyN == T || (x.tyN == "bool" && T == "int")))
@[simp ↓] theorem egIsi_1 (T : String)  (Q : DL.D → Prop) : gIsi T (.non) Q = Q (.bl ((.non : DL.D).tyN == T || ((.non : DL.D).tyN == "bool" && T == "int"))) := by first | rfl | exact propext Iff.rfl
@[simp ↓] theorem egIsi_2 (T : String) (b : Bool) (Q : DL.D → Prop) : gIsi T (.bl b) Q = Q (.bl ((.bl b : DL.D).tyN == T || ((.bl b : DL.D).tyN == "bool" && T == "int"))) := by first | rfl | exact propext Iff.rfl
@[simp ↓] theorem egIsi_3 (T : String) (i : Int) (Q : DL.D → Prop) : gIsi T (.int i) Q = Q (.bl ((.int i : DL.D).tyN == T || ((.int i : DL.D).tyN == "bool" && T == "int"))) := by first | rfl | exact propext Iff.rfl
@[simp ↓] theorem egIsi_4 (T : String) (s : Str) (Q : DL.D → Prop) : gIsi T (.str s) Q = Q (.bl ((.str s : DL.D).tyN == T || ((.str s : DL.D).tyN == "bool" && T == "int"))) := by first | rfl | exact propext Iff.rfl
@[simp ↓] theorem egIsi_5 (T : String) (xs : List DL.D) (Q : DL.D → Prop) : gIsi T (.lst xs) Q = Q (.bl ((.lst xs : DL.D).tyN == T || ((.lst xs : DL.D).tyN == "bool" && T == "int"))) := by first | rfl | exact propext Iff.rfl
@[simp ↓] theorem egIsi_6 (T : String) (xs : List DL.D) (Q : DL.D → Prop) : gIsi T (.tup xs) Q = Q (.bl ((.tup xs : DL.D).tyN == T || ((.tup xs : DL.D).tyN == "bool" && T == "int"))) := by first | rfl | exact propext Iff.rfl
structure TyFacts (T : String) : Prop where
  k : ∀ (K : PySem.W.Frag), PySem.W.kitOne K (.type "NoneType") (.type T) = some ("NoneType" == T || ("NoneType" == "bool" && T == "int")) ∧ PySem.W.kitOne K (.type "bool") (.type T) = some ("bool" == T || ("bool" == "bool" && T == "int")) ∧
    PySem.W.kitOne K (.type "int") (.type T) = some ("int" == T || ("int" == "bool" && T == "int")) ∧ PySem.W.kitOne K (.type "str") (.type T) = some ("str" == T || ("str" == "bool" && T == "int")) ∧
    PySem.W.kitOne K (.type "list") (.type T) = some ("list" == T || ("list" == "bool" && T == "int")) ∧ PySem.W.kitOne K (.type "tuple") (.type T) = some ("tuple" == T || ("tuple" == "bool" && T == "int"))
theorem tf_int : TyFacts "int" := ⟨fun K => ⟨rfl, rfl, rfl, rfl, rfl, rfl⟩⟩
theorem tf_bool : TyFacts "bool" := ⟨fun K => ⟨rfl, rfl, rfl, rfl, rfl, rfl⟩⟩
theorem tf_str : TyFacts "str" := ⟨fun K => ⟨rfl, rfl, rfl, rfl, rfl, rfl⟩⟩
theorem tf_list : TyFacts "list" := ⟨fun K => ⟨rfl, rfl, rfl, rfl, rfl, rfl⟩⟩
theorem tf_tuple : TyFacts "tuple" := ⟨fun K => ⟨rfl, rfl, rfl, rfl, rfl, rfl⟩⟩
section
variable {K : PySem.W.Frag} {H : Hp} {v : V} {d : D} {Wx : WX} {ta : TE} {wa : WE}
theorem tyx_seqT {a : Addr} {xs : List V} (h : SqT K H a xs) : TyX K H (.ref a) (.type "tuple") := by
  rcases h with (h | ⟨o, h⟩) | ⟨o, its, n, h, hc, _⟩
  · exact .base (.tup h)
  · exact .fTuple h
  · exact .kTuple h hc
theorem Rep.tyx (r : Rep K H v d) (n : d.ty1 = true) : TyX K H v (.type d.tyN) := by
  cases r with
  | non => exact .base .non
  | bl b => exact .base (.bl b)
  | int b => exact .base (.int b)
  | str b => exact .base (.str b)
  | lst h r => exact .base (.lst h)
  | tup h r => exact tyx_seqT (qt h)
  | obj h r => cases n
  | dic h r => cases n
  | dit h r => cases n
  | raw h => cases n
theorem Snd.isi {T : String} (tf : TyFacts T) (ha : Snd K Wx ta wa) : Snd K Wx (tCB (rIsi K) (tCons ta (tCons (tC (.ty T)) tNil))) (wUn (gIsi T) wa) := fun fx xp F G H σ S A Qd Q xr c hw q => by
  refine ha fx xp F G H σ S A _ _ xr c hw fun v x F1 G1 H1 B g1 c1 r1 n1 hq => ?_
  obtain ⟨nx, hq⟩ := W.dd_of hq
  have r := r1.rd c1 nx
  have key : x.d.ty1 = true → Qd (.dat (.bl (x.d.tyN == T || (x.d.tyN == "bool" && T == "int")))) → rIsi K [v, .ty T] H1 Q := fun no z => by
    refine ⟨v, .ty T, _, _, _, rfl, .ty T, r.tyx no, ?_, q _ (.dat (.bl _)) F1 G1 H1 [] g1 c1 ⟨.bl _, rfl⟩ (fun _ z => by cases z) z⟩
    obtain ⟨k1, k2, k3, k4, k5, k6⟩ := tf.k K
    cases e : x.d with
    | obj C fs => rw [e] at no; cases no
    | dic _ => rw [e] at no; cases no
    | dit _ => rw [e] at no; cases no
    | raw _ _ => rw [e] at no; cases no
    | non => exact k1
    | bl _ => exact k2
    | int _ => exact k3
    | str _ => exact k4
    | lst _ => exact k5
    | tup _ => exact k6
  cases e : x.d with
  | obj C fs => rw [e] at hq; exact hq.elim
  | dic _ => rw [e] at hq; exact hq.elim
  | dit _ => rw [e] at hq; exact hq.elim
  | raw _ _ => rw [e] at hq; exact hq.elim
  | _ => rw [e] at hq; exact key (by rw [e]; rfl) (by rw [e]; exact hq)
end
section
variable {X : Cx} {Wx : WX} {a b e : Expr} {ta tb te : TE} {wa wb we : WE} {p p2 pos : Pos} {s : Stmt} {t : TS} {wt : WS}
theorem sd_pz {i : Nat} (h : PsD X Wx s t wt) : PsD X Wx s t (wPz i wt) := ⟨h.ps, SndS.pz h.ok⟩
theorem sd_fz {i : Nat} (h : PsD X Wx s t wt) : PsD X Wx s t (wFz i wt) := ⟨h.ps, SndS.fz h.ok⟩
theorem pd_cat (ha : PdD X Wx a ta wa) (hb : PdD X Wx b tb wb) : PdD X Wx (.BinOp a .Add b pos) (tOp rCat ta tb) (wCat wa wb) := ⟨pe_op op_cat ha.pe hb.pe, Snd.cat ha.ok hb.ok⟩
theorem pd_rep (ha : PdD X Wx a ta wa) (hb : PdD X Wx b tb wb) : PdD X Wx (.BinOp a .Mult b pos) (tOp rRep ta tb) (wRep wa wb) := ⟨pe_op op_rep ha.pe hb.pe, Snd.rep ha.ok hb.ok⟩
theorem pd_isi {T : Str} {TS : String} (tf : TyFacts TS) (hv : bootBuiltins T = some (.type TS)) (hmT : X.mg T = none) (hm : X.mg "isinstance" = none) (ha : PdD X Wx a ta wa) (hg : Gl X "isinstance" := by rfl) (hgT : Gl X T := by rfl) (hnT : T ≠ "__name__" := by decide) (hdT : (T == ("__debug__" : Str)) = false := by decide)
    (hs : starEach [.Name T p2] X.env = (false, eval (.Name T p2) X.env) :: starEach [] X.env := by rfl)
    (he : starEach [a, .Name T p2] X.env = (false, eval a X.env) :: starEach [.Name T p2] X.env := by rfl) (hpl : (backTo pos (starEach [.Name T p2] X.env)).any (·.1) = false := by rfl) :
    PdD X Wx (.Call (.Name "isinstance" p) [a, .Name T p2] [] pos) (tCB (rIsi X.K) (tCons ta (tCons (tC (.ty TS)) tNil))) (wUn (gIsi TS) wa) :=
  ⟨pe_callB call_isi hg hm (by decide +kernel) (pa_cons ha.pe (pa_cons (pe_bltn hgT hmT hv rfl hnT hdT) pa_nil hs) he) (by decide) (by decide) he hpl, Snd.isi tf ha.ok⟩
theorem pd_is (ha : PdD X Wx a ta wa) (hb : PdD X Wx b tb wb) (hm : behindInMarks .Is b = false := by rfl) : PdD X Wx (.Compare a [.Is] [b] pos) (tOp (rIsB false) ta tb) (wBin (isD false) wa wb) := pd_cmp op_isB r2_isB ha hb hm
theorem pd_isnt (ha : PdD X Wx a ta wa) (hb : PdD X Wx b tb wb) (hm : behindInMarks .IsNot b = false := by rfl) : PdD X Wx (.Compare a [.IsNot] [b] pos) (tOp (rIsB true) ta tb) (wBin (isD true) wa wb) := pd_cmp op_isntB r2_isB ha hb hm
theorem td_is (ha : PdD X Wx a ta wa) (hb : PdD X Wx b tb wb) (hm : behindInMarks .Is b = false := by rfl) : TdD X Wx (.Compare a [.Is] [b] pos) (tTest (tOp (rIsB false) ta tb)) (wCmpT (isD false) wa wb) := td_cmp op_isB r2_isB ha hb hm
theorem td_isnt (ha : PdD X Wx a ta wa) (hb : PdD X Wx b tb wb) (hm : behindInMarks .IsNot b = false := by rfl) : TdD X Wx (.Compare a [.IsNot] [b] pos) (tTest (tOp (rIsB true) ta tb)) (wCmpT (isD true) wa wb) := td_cmp op_isntB r2_isB ha hb hm
end
end DL

namespace DL
open PySem PySem.Spec PyProof.Rows L2

/-! ## negation -/
theorem r1_neg {K : PySem.W.Frag} : R1Ok K (rU fun i => .int (-i)) (fun x Q => match x with | .int i => Q (.int (-i)) | _ => False) := fun H v d Qd Q r h q => by
  cases r with
  | int i => exact ⟨i, rfl, q _ _ (fun F => .int _) h⟩
  | _ => exact h.elim
def gNeg : G1 := fun x Q => match x with | .int i => Q (.int (-i)) | _ => False
@[simp ↓] theorem egNeg_1 (i : Int) (Q : DL.D → Prop) : gNeg (.int i) Q = Q (.int (-i)) := by first | rfl | exact propext Iff.rfl
theorem pd_neg {X : Cx} {Wx : WX} {a : Expr} {ta : TE} {wa : WE} {pos : Pos} (ha : PdD X Wx a ta wa) : PdD X Wx (.UnaryOp .USub a pos) (tUn (rU fun i => .int (-i)) ta) (wUn gNeg wa) := pd_un un_neg r1_neg ha

/-! ## powers, constants of the module -/
def CPowW (i j : Int) : Prop := 0 ≤ j ∧ (Builtin.Int.intBits i : Int) * j ≤ 2 ^ 27
theorem op_powW {X : Cx} : OpR X (binaryOp .Pow) (rI CPowW fun i j => .int (i ^ j.toNat)) := opI fun _ _ _ _ _ _ _ hc q => pow_int hc.1 hc.2 q
theorem pd_gint {X : Cx} {Wx : WX} {x : Str} {pos : Pos} {i : Int} (h : ∃ t, X.mg x = some (.int i t)) (hg : Gl X x := by rfl) (hd : (x == ("__debug__" : Str)) = false := by decide) : PdD X Wx (.Name x pos) (tC (.int i)) (wC (.int i)) := by
  obtain ⟨t, h⟩ := h
  exact pd_glob hg h ⟨t, rfl⟩ (fun _ => .int i) hd
theorem pd_gstr {X : Cx} {Wx : WX} {x : Str} {pos : Pos} {i : Str} (h : ∃ t, X.mg x = some (.str i t)) (hg : Gl X x := by rfl) (hd : (x == ("__debug__" : Str)) = false := by decide) : PdD X Wx (.Name x pos) (tC (.str i)) (wC (.str i)) := by
  obtain ⟨t, h⟩ := h
  exact pd_glob hg h ⟨t, rfl⟩ (fun _ => .str i) hd
/-! ## bodies whose first argument is their own -/
section
variable {K : PySem.W.Frag} {st : Option Addr} {F G H : Hp} {vs : List V} {as : List Ag} {n : Nat}
theorem cons_startIO {a : Addr} {o : O} {Ac : List Addr} (N : List Str) (ro : RepO K F H (.ref a) o Ac) (nd : Ac.Nodup) (nG : ∀ b ∈ Ac, G b = none ∧ st ≠ some b) (r : AgReps K st F G vs as) (hl : vs.length + 1 ≤ N.length) (fg : Sub F G) (gh : Sub G H) (hst : ∀ p, st = some p → G p = none ∧ StoOk H p) :
    Cons K ⟨st, H, fun b => st = some b ∨ b ∈ Ac, F, 1, G⟩ F G H (L2.start N (.ref a :: vs)) (.own a o :: slots as (N.length - 1)) (fun i => if i = 0 then Ac else []) where
  len := by
    unfold L2.start slots
    simp only [List.length_append, List.length_map, List.length_replicate, r.length, List.length_cons]
    have := r.length
    omega
  fg := fg
  gh := gh
  sl := fun i s e => by
    have h0 : ∀ {i : Nat}, (L2.start N (.ref a :: vs))[i + 1]? = ((vs.map some) ++ List.replicate (N.length - (vs.length + 1)) (none : Option V))[i]? := fun {i} => by
      unfold L2.start
      simp
    cases i with
    | zero =>
      simp at e
      subst e
      refine ⟨by unfold L2.start; simp, ?_⟩
      simp only [if_pos]
      exact ro
    | succ i =>
      have e' : (slots as (N.length - 1))[i]? = some s := by simpa using e
      unfold slots at e'
      by_cases hi : i < as.length
      · rw [List.getElem?_append_left (by simpa using hi), List.getElem?_map] at e'
        cases q : as[i]? with
        | none => rw [q] at e'; cases e'
        | some ag =>
          rw [q] at e'
          cases e'
          obtain ⟨v, h1, h2⟩ := r.get q
          have h3 : (L2.start N (.ref a :: vs))[i + 1]? = some (some v) := by
            rw [h0, List.getElem?_append_left (by simpa [r.length] using hi), List.getElem?_map, h1]
            rfl
          cases ag with
          | dat d => exact ⟨v, h3, h2⟩
          | rdo d => exact ⟨v, h3, h2⟩
          | sto =>
            obtain ⟨p, e1, e2⟩ := h2
            exact ⟨p, e1, by rw [h3, e2]⟩
      · rw [List.getElem?_append_right (by simpa using hi), List.getElem?_replicate] at e'
        split at e'
        · cases e'; trivial
        · cases e'
  nod := fun i => by
    by_cases z : i = 0
    · simp only [if_pos z]; exact nd
    · simp only [if_neg z]; exact .nil
  dis := fun i j ne b hb hj => by
    by_cases z : i = 0
    · rw [if_neg (by omega)] at hj; cases hj
    · rw [if_neg z] at hb; cases hb
  nf := fun i b hb => by
    by_cases z : i = 0
    · rw [if_pos z] at hb; exact (nG b hb).1
    · rw [if_neg z] at hb; cases hb
  ah := fun i b hb => by
    by_cases z : i = 0
    · rw [if_pos z] at hb; exact ro.there b hb
    · rw [if_neg z] at hb; cases hb
  am := fun i b hb => by
    by_cases z : i = 0
    · rw [if_pos z] at hb; exact .inr ⟨.inr hb, by rw [z]; exact Nat.one_pos⟩
    · rw [if_neg z] at hb; cases hb
  sto := fun p e => ⟨(hst p e).1, (fun i hb => by
    by_cases z : i = 0
    · rw [if_pos z] at hb; exact (nG p hb).2 e
    · rw [if_neg z] at hb; cases hb), (hst p e).2, .inl e⟩
  pres := fun _ _ h _ => h
  hn := fun _ h => h
  f0 := .refl F
  g0 := .refl G
  fnew := fun a o e z => by
    rw [show F a = none from z] at e
    cases e
end
/-- what the store's numbers keep -/
def StoNs (ns : List Int) : Prop := 6 ≤ ns.length ∧ ns.length ≤ 100 ∧ ∀ k, ns[4]? = some k → 0 ≤ k
/-- _law_take -/
def fsTake : Fs := fun as Qd _ => ∃ many : Int, as = [.sto, .dat (.int many)] ∧ many ≤ 10 ^ 60 ∧ ∀ r : Int, 0 ≤ r → (r < many ∨ r = 0) → Qd (.dat (.int r))
@[simp ↓] def postTake (a : Addr) (many : Int) : Post := { nx := fun _ => False, rt := fun x S => ∃ (r : Int) (ns : List Int), x = .dat (.int r) ∧ 0 ≤ r ∧ (r < many ∨ r = 0) ∧ gt S 0 = .own a (.fl (dInts ns)) ∧ StoNs ns, bk := fun _ => False, ct := fun _ => False, np := 1 }
section
variable {P : Program} {w : World} {K : PySem.W.Frag} {mg : Str → Option Value} {base : Heap} {x qual : Str} {params : Arguments} {body : List Stmt} {scope : Scope} {f : Addr} {fd : FuncData} {N ps : List Str} {k : Nat} {fs : Fs}
theorem fn_take {p1 p2 : Str} (FD : FunD K x qual params body scope [] [] f fd) (S : FnScope N [p1, p2] scope) (hps : 2 ≤ N.length)
    (hbody : ∀ (cdv : Value) (A : Around) (outer : List Env) (s : Shared) (H : Hp) (E : XK), Room k (A.deeper (envOfC qual scope s.heap.objs.size f cdv)) → Takes (cxOf (L2.CX P w) P w K mg base N qual scope f cdv A outer s H E) (WxOf E) →
      PassesOwn (model P w) (A.deeper (envOfC qual scope s.heap.objs.size f cdv)) (envOfC qual scope s.heap.objs.size f cdv) (cxOf (L2.CX P w) P w K mg base N qual scope f cdv A outer s H E).xe →
      ∃ t ww, BkD (cxOf (L2.CX P w) P w K mg base N qual scope f cdv A outer s H E) (WxOf E) body t ww ∧ ∀ (a : Addr) (ns : List Int) (many : Int), StoNs ns → many ≤ 10 ^ 60 → ww (fun _ _ _ => False) (postTake a many) (.own a (.fl (dInts ns)) :: .dat (.int many) :: List.replicate (N.length - 2) .no)) :
    FnOk P w K mg base (L2.CX P w) (k + 1) f fd [p1, p2] (spP K fsTake) := by
  refine FD.ok S (fun vs H Q E h => ?_) fun cdv A outer s H vs Q E hr h => ?_
  · obtain ⟨st, F, G, as, Qd, xd, r, fg, gh, hst, ⟨many, rfl, hmany, hf⟩, hq, hx⟩ := h
    rw [r.length]
    rfl
  obtain ⟨t, ww, bk, hw⟩ := hbody cdv A outer s H E hr (takes_of rfl rfl rfl rfl) (passes_of rfl)
  refine ⟨t, bk.ps, ?_⟩
  obtain ⟨st, F, G, as, Qd, xd, r, fg, gh, hst, ⟨many, rfl, hmany, hf⟩, hq, hx⟩ := h
  cases r with
  | @cons _ vs1 _ _ r1 r2 =>
    obtain ⟨p, rfl, rfl⟩ := r1
    obtain ⟨gp, ns, hp, h6, h100, h4⟩ := hst p rfl
    have fp : F p = none := by
      cases e : F p with
      | none => rfl
      | some o => have := fg p o e; rw [gp] at this; cases this
    have r2' : AgReps K none F G vs1 [.dat (.int many)] := by
      cases r2 with
      | cons a b => cases b; exact .cons a .nil
    have c := cons_startIO (st := none) N (.fl (ds := dInts ns) hp (reps_ints ns)) (List.nodup_cons.mpr ⟨List.not_mem_nil, .nil⟩) (fun b hb => by rw [List.mem_singleton.mp hb]; exact ⟨gp, by simp⟩) r2' (by rw [r2'.length]; exact hps) fg gh (fun _ z => by cases z)
    refine bk.ok ⟨none, H, fun b => none = some b ∨ b ∈ [p], F, 1, G⟩ (fun _ _ _ => False) F G H _ _ _ (postTake p many) { nx := fun _ H2 => Q .non H2, rt := Q } XRel.none c ⟨fun _ _ _ _ _ _ _ _ _ q => q.elim, fun _ _ _ _ _ _ _ _ _ q => q.elim, fun _ _ _ _ _ _ _ _ _ q => q.elim, fun v x B σ' F' G' H' S' A' f g c' rx n0 _ q => ?_, Nat.le_refl _⟩ ?_
    · obtain ⟨r, ms, rfl, hr1, hr2, e, hm⟩ := q
      obtain ⟨rx1, rfl⟩ := rx
      cases rx1
      obtain ⟨s1, s2⟩ := c'.sl 0 _ (gt_some e (by simp))
      have hH : ∃ vs, H' p = some (.lst vs) ∧ Reps K F' vs (dInts ms) ∧ p ∈ A' 0 := by
        generalize A' 0 = AA at s2
        cases s2 with
        | fl e1 e2 => exact ⟨_, e1, e2, List.mem_singleton.mpr rfl⟩
      obtain ⟨vs', hH, hR, hA⟩ := hH
      rw [hR.dInts] at hH
      have fp' : F' p = none := c'.fnone (c'.nf 0 p hA)
      refine hq (.dat (.int r)) _ F' H' [] ⟨c'.f0, c'.fg.trans c'.gh, c'.fnew, fun b o eb ne => c'.pres b o eb fun z => ?_, c'.hn, fun q eq => ?_⟩ ⟨.int r, rfl⟩ (hf r hr1 hr2)
      · rcases z with z | z
        · cases z
        · exact ne (by rw [List.mem_singleton.mp z])
      · cases eq
        exact ⟨fp', ms, hH, hm.1, hm.2.1, hm.2.2⟩
    · have := hw p ns many ⟨h6, h100, h4⟩ hmany
      have e : (Slot.own p (.fl (dInts ns)) :: slots [.dat (.int many)] (N.length - 1)) = .own p (.fl (dInts ns)) :: .dat (.int many) :: List.replicate (N.length - 2) .no := by
        unfold slots
        simp [Ag.slot]
        omega
      rw [e]
      exact this
end

/-! ## the script; the store made; the law -/
section
variable {K : PySem.W.Frag} {Wx : WX}
@[simp ↓] def wCutScr (i : Nat) (wl wh : WO) : WE := fun xp S Q => match gt S i with
  | .seq ns => wl xp S fun lo => wh xp S fun hi => Q (.new (.fl (cutG (dInts ns) lo hi)))
  | _ => False
theorem Cons.sqH0 {fx : Fx} {F G H : Hp} {σ : L2.St} {S : List Slot} {A : Nat → List Addr} (c : Cons K fx F G H σ S A) {a : Addr} {xs : List V} (h : SqL K fx.H0 a xs) (n : ¬ fx.M0 a) : SqL K H a xs := by
  rcases h with (h | ⟨o, h⟩) | h
  · exact .inl (.inl (c.pres a _ h n))
  · exact .inl (.inr ⟨o, c.pres a _ h n⟩)
  · exact .inr h
theorem Snd.cutScr {i : Nat} {tl th : TO} {wl wh : WO} (hl : SndO K Wx tl wl) (hh : SndO K Wx th wh) : Snd K Wx (tSl (rSl K) (tVar i) tl th) (wCutScr i wl wh) := fun fx xp F G H σ S A Qd Q xr c hw q => by
  unfold wCutScr at hw
  cases e : gt S i with
  | seq ns =>
    rw [e] at hw
    obtain ⟨a, h1, h2, h3⟩ := c.sl i _ (gt_some e (by simp))
    refine ⟨_, h1, ?_⟩
    refine hl fx xp F G H σ S A _ _ xr c hw fun lo F2 G2 H2 g2 c2 q2 => ?_
    refine hh fx xp F2 G2 H2 σ S A _ _ xr c2 q2 fun hi F3 G3 H3 g3 c3 q3 => ?_
    refine .inl ⟨a, _, rfl, c3.sqH0 h2 h3, fun p hp => ?_⟩
    obtain ⟨g4, c4, r4⟩ := c3.newL hp ((reps_ints ns).cut lo hi)
    exact q _ _ _ _ _ _ ((g2.trans g3).trans g4) c4 r4 (fun b hb => by rw [List.mem_singleton.mp hb]; exact (g2.trans g3).hn p hp) q3
  | _ => rw [e] at hw; exact hw.elim
end
theorem pd_cutScr {X : Cx} {Wx : WX} {i : Nat} {x : Str} {lo hi : Option Expr} {p2 pos pos' : Pos} {tl th : TO} {wl wh : WO} (hl : OdD X Wx lo tl wl) (hh : OdD X Wx hi th wh) (hN : X.N[i]? = some x := by rfl) (hv : Vis X.env.scope x := by first | exact Or.inl rfl | exact Or.inr (Or.inl rfl) | exact Or.inr (Or.inr rfl)) (hd : (x == ("__debug__" : Str)) = false := by decide) (hcd : (x == ("__classdict__" : Str)) = false := by decide) :
    PdD X Wx (.Subscript (.Name x pos') (.Slice lo hi none p2) pos) (tSl (rSl X.K) (tVar i) tl th) (wCutScr i wl wh) := ⟨pe_slice sl_seq (pe_var hN hv hd hcd) hl.po hh.po, Snd.cutScr hl.ok hh.ok⟩
/-- _law_store -/
def spStore (K : PySem.W.Frag) : Sp := fun vs H Q _ => ∃ (a : Addr) (ns : List Int), vs = [.ref a] ∧ SqL K H a (ns.map V.int) ∧ ns.length ≤ 63 ∧ ∀ p H', (∀ b u, H b = some u → H' b = some u) → H p = none → StoOk H' p → Q (.ref p) H'
def spLaw (K : PySem.W.Frag) : Sp := fun vs H Q _ => ∃ (a : Addr) (ns : List Int), vs = [.ref a] ∧ SqL K H a (ns.map V.int) ∧ ns.length ≤ 63 ∧ ∀ H', Q (.bl true) H'
@[simp ↓] def postStore : Post := { nx := fun _ => False, rt := fun x _ => ∃ ms : List Int, x = .new (.fl (dInts ms)) ∧ StoNs ms, bk := fun _ => False, ct := fun _ => False }
@[simp ↓] def postLaw : Post := { nx := fun _ => False, rt := fun x _ => x = .dat (.bl true), bk := fun _ => False, ct := fun _ => False }
section
variable {P : Program} {w : World} {K : PySem.W.Frag} {mg : Str → Option Value} {base : Heap} {x qual : Str} {params : Arguments} {body : List Stmt} {scope : Scope} {f : Addr} {fd : FuncData} {N ps : List Str} {k : Nat} {fs : Fs}
abbrev Cxx (P : Program) (w : World) (K : PySem.W.Frag) (mg : Str → Option Value) (base : Heap) (N : List Str) (qual : Str) (scope : Scope) (f : Addr) (cdv : Value) (A : Around) (outer : List Env) (s : Shared) (H : Hp) (E : XK) : Cx := cxOf (L2.CX P w) P w K mg base N qual scope f cdv A outer s H E
theorem start_get {N : List Str} {vs : List V} {i : Nat} {v : V} (h : vs[i]? = some v) : (L2.start N vs)[i]? = some (some v) := by
  unfold L2.start
  have hi : i < vs.length := (List.getElem?_eq_some_iff.mp h).1
  rw [List.getElem?_append_left (by simpa using hi), List.getElem?_map, h]
  rfl
theorem fn_store {p1 : Str} (FD : FunD K x qual params body scope [] [] f fd) (S : FnScope N [p1] scope) (hps : 1 ≤ N.length)
    (hbody : ∀ (cdv : Value) (A : Around) (outer : List Env) (s : Shared) (H : Hp) (E : XK), Room k (A.deeper (envOfC qual scope s.heap.objs.size f cdv)) → Takes (Cxx P w K mg base N qual scope f cdv A outer s H E) (WxOf E) →
      PassesOwn (model P w) (A.deeper (envOfC qual scope s.heap.objs.size f cdv)) (envOfC qual scope s.heap.objs.size f cdv) (Cxx P w K mg base N qual scope f cdv A outer s H E).xe →
      ∃ t ww, BkD (Cxx P w K mg base N qual scope f cdv A outer s H E) (WxOf E) body t ww ∧ ∀ (ns : List Int), ns.length ≤ 63 → ww (fun _ _ _ => False) postStore (.seq ns :: List.replicate (N.length - 1) .no)) :
    FnOk P w K mg base (L2.CX P w) (k + 1) f fd [p1] (spStore K) := by
  refine FD.ok S (fun vs H Q E h => ?_) fun cdv A outer s H vs Q E hr h => ?_
  · obtain ⟨a, ns, rfl, _⟩ := h
    rfl
  obtain ⟨t, ww, bk, hw⟩ := hbody cdv A outer s H E hr (takes_of rfl rfl rfl rfl) (passes_of rfl)
  refine ⟨t, bk.ps, ?_⟩
  obtain ⟨a, ns, rfl, hs, hn, hq⟩ := h
  have c : Cons K ⟨none, H, fun _ => False, fun _ => none, 0, fun _ => none⟩ (fun _ => none) (fun _ => none) H (L2.start N [.ref a]) (.seq ns :: List.replicate (N.length - 1) .no) (fun _ => []) := {
    len := by unfold L2.start; simp
    fg := fun _ _ z => by cases z
    gh := fun _ _ z => by cases z
    sl := fun i s e => by
      cases i with
      | zero => simp at e; subst e; exact ⟨a, start_get rfl, hs, fun z => z⟩
      | succ i =>
        rw [List.getElem?_cons_succ, List.getElem?_replicate] at e
        split at e
        · cases e; trivial
        · cases e
    nod := fun _ => .nil
    dis := fun _ _ _ _ h => by cases h
    nf := fun _ _ h => by cases h
    ah := fun _ _ h => by cases h
    am := fun _ _ h => by cases h
    sto := fun _ h => by cases h
    pres := fun _ _ h _ => h
    hn := fun _ h => h
    f0 := fun _ _ z => by cases z
    g0 := fun _ _ z => by cases z
    fnew := fun _ _ z => by cases z }
  refine bk.ok _ (fun _ _ _ => False) _ _ H _ _ _ postStore { nx := fun _ H2 => Q .non H2, rt := Q } XRel.none c ⟨fun _ _ _ _ _ _ _ _ _ q => q.elim, fun _ _ _ _ _ _ _ _ _ q => q.elim, fun _ _ _ _ _ _ _ _ _ q => q.elim, fun v x B σ' F' G' H' S' A' f g c' rx n0 _ q => ?_, Nat.le_refl _⟩ (hw ns hn)
  obtain ⟨ms, rfl, h6, h100, h4⟩ := q
  obtain ⟨r1, r2, r3⟩ := rx
  cases r1 with
  | fl e1 e2 =>
    rw [e2.dInts] at e1
    exact hq _ H' (fun b u e => c'.pres b u e fun z => z) (n0 _ (List.mem_singleton.mpr rfl)) ⟨ms, e1, h6, h100, h4⟩
theorem fn_law {p1 : Str} {s0 : Stmt} {rest : List Stmt} (FD : FunD K x qual params (s0 :: rest) scope [] [] f fd) (S : FnScope N [p1] scope) (hps : 2 ≤ N.length)
    (hbody : ∀ (cdv : Value) (A : Around) (outer : List Env) (s : Shared) (H : Hp) (E : XK), Room k (A.deeper (envOfC qual scope s.heap.objs.size f cdv)) → Takes (Cxx P w K mg base N qual scope f cdv A outer s H E) (WxOf E) →
      PassesOwn (model P w) (A.deeper (envOfC qual scope s.heap.objs.size f cdv)) (envOfC qual scope s.heap.objs.size f cdv) (Cxx P w K mg base N qual scope f cdv A outer s H E).xe →
      PS (Cxx P w K mg base N qual scope f cdv A outer s H E) s0 (tAsg (tCallSD (spStore K) [] (fun _ cls d H => E cls d H) (tCons (tVar 0) tNil)) (gName 1)) ∧
      ∃ t ww, BkD (Cxx P w K mg base N qual scope f cdv A outer s H E) (WxOf E) rest t ww ∧ ww (fun _ _ _ => False) postLaw (.no :: .sto :: List.replicate (N.length - 2) .no)) :
    FnOk P w K mg base (L2.CX P w) (k + 1) f fd [p1] (spLaw K) := by
  refine FD.ok S (fun vs H Q E h => ?_) fun cdv A outer s H vs Q E hr h => ?_
  · obtain ⟨a, ns, rfl, _⟩ := h
    rfl
  obtain ⟨p0, t, ww, bk, hw⟩ := hbody cdv A outer s H E hr (takes_of rfl rfl rfl rfl) (passes_of rfl)
  refine ⟨_, pss_cons p0 bk.ps, ?_⟩
  obtain ⟨a, ns, rfl, hs, hn, hq⟩ := h
  refine ⟨_, start_get rfl, a, ns, rfl, hs, hn, fun p H' keep hp sto => ?_⟩
  have c : Cons K ⟨some p, H', fun b => some p = some b, fun _ => none, 0, fun _ => none⟩ (fun _ => none) (fun _ => none) H' ((L2.start N [.ref a]).set 1 (some (.ref p))) (.no :: .sto :: List.replicate (N.length - 2) .no) (fun _ => []) := {
    len := by unfold L2.start; simp; omega
    fg := fun _ _ z => by cases z
    gh := fun _ _ z => by cases z
    sl := fun i s e => by
      cases i with
      | zero => simp at e; subst e; trivial
      | succ i =>
        cases i with
        | zero =>
          simp at e
          subst e
          refine ⟨p, rfl, ?_⟩
          rw [List.getElem?_set]
          unfold L2.start
          simp
          omega
        | succ i =>
          rw [List.getElem?_cons_succ, List.getElem?_cons_succ, List.getElem?_replicate] at e
          split at e
          · cases e; trivial
          · cases e
    nod := fun _ => .nil
    dis := fun _ _ _ _ h => by cases h
    nf := fun _ _ h => by cases h
    ah := fun _ _ h => by cases h
    am := fun _ _ h => by cases h
    sto := fun q h => by cases h; exact ⟨rfl, (fun _ z => by cases z), sto, rfl⟩
    pres := fun _ _ h _ => h
    hn := fun _ h => h
    f0 := fun _ _ z => by cases z
    g0 := fun _ _ z => by cases z
    fnew := fun _ _ z => by cases z }
  refine bk.ok _ (fun _ _ _ => False) _ _ H' _ _ _ postLaw { nx := fun _ H2 => Q .non H2, rt := Q } XRel.none c ⟨fun _ _ _ _ _ _ _ _ _ q => q.elim, fun _ _ _ _ _ _ _ _ _ q => q.elim, fun _ _ _ _ _ _ _ _ _ q => q.elim, fun v x B σ' F' G' H2 S' A' f g c' rx n0 _ q => ?_, Nat.le_refl _⟩ hw
  cases q
  cases rx.1
  exact hq H2
end
end DL

namespace DL
open PySem PySem.Spec PyProof.Rows L2

theorem takesW {X : Cx} : Takes X W0 := fun u s' ⟨a, B, sI, pins, σ, H, cls, d, e, I, nb, up, sky, na, os, ag, w⟩ => w.elim
theorem bt_len : bootBuiltins "len" = some (.builtin "len") := by decide +kernel
theorem bt_max : bootBuiltins "max" = some (.builtin "max") := by decide +kernel
theorem bt_min : bootBuiltins "min" = some (.builtin "min") := by decide +kernel
theorem bt_sum : bootBuiltins "sum" = some (.builtin "sum") := by decide +kernel
theorem bt_abs : bootBuiltins "abs" = some (.builtin "abs") := by decide +kernel
theorem bt_int : bootBuiltins "int" = some (.type "int") := by decide +kernel
theorem bt_str : bootBuiltins "str" = some (.type "str") := by decide +kernel
theorem bt_bool : bootBuiltins "bool" = some (.type "bool") := by decide +kernel
theorem bt_list : bootBuiltins "list" = some (.type "list") := by decide +kernel
theorem bt_tuple : bootBuiltins "tuple" = some (.type "tuple") := by decide +kernel
def gStr2 : GN := fun ds Q => match ds with
  | [.int i] => i.natAbs.log2 < 1920 ∧ Q (.str (toString i))
  | [.str s] => Q (.str s)
  | _ => False
@[simp ↓] theorem egStr2_1 (i : Int) (Q : DL.D → Prop) : gStr2 [.int i] Q = (i.natAbs.log2 < 1920 ∧ Q (.str (toString i))) := by first | rfl | exact propext Iff.rfl
@[simp ↓] theorem egStr2_2 (s : Str) (Q : DL.D → Prop) : gStr2 [.str s] Q = Q (.str s) := by first | rfl | exact propext Iff.rfl
abbrev rStr2 : List V → Hp → VK → Prop := fun xs H Q => (∃ i : Int, xs = [.int i] ∧ i.natAbs.log2 < 1920 ∧ Q (.str (toString i)) H) ∨ ∃ a, xs = [.str a] ∧ Q (.str a) H
theorem call_str2 {X : Cx} : CallR X (.type "str") rStr2 := call_str_int.or SkE.call_str_str
theorem rc_str2 {K : PySem.W.Frag} : RcOk K rStr2 gStr2 := fun H vs ds Qd Q r h q => by
  unfold gStr2 at h
  split at h
  · cases r with
    | cons r t => cases t; cases r; exact .inl ⟨_, rfl, h.1, q _ _ (fun F => .str _) h.2⟩
  · cases r with
    | cons r t => cases t; cases r; exact .inr ⟨_, rfl, q _ _ (fun F => .str _) h⟩
  · exact h.elim
theorem id_zip {X : Cx} {Wx : WX} {tg a b : Expr} {ta : TA} {wa : WA} {pos p : Pos} (h : PI X tg (.Call (.Name "zip" p) [a, b] [] pos) (iZip X.K ta)) (ha : AdD X Wx [a, b] ta wa) : IdD X Wx tg (.Call (.Name "zip" p) [a, b] [] pos) (iZip X.K ta) (wIZip wa) := ⟨h, SndI.zip ha.ok⟩
end DL

namespace DL
open PySem PySem.Spec PyProof.Rows L2

/-! ## fields -/
@[simp ↓] def putO (f : Str) (o : O) : List (Str × O) → List (Str × O)
  | [] => [(f, o)]
  | (g, x) :: r => if g = f then (g, o) :: r else (g, x) :: putO f o r
section
variable {K : PySem.W.Frag} {fx : Fx} {F G H F' G' H' : Hp} {σ : L2.St} {S : List Slot} {A : Nat → List Addr} {v : V} {B : List Addr} {x : W}
theorem RepOf.get : ∀ {vs : List (Str × V)} {os : List (Str × O)} {As : List Addr} {f : Str} {o : O}, RepOf K F H vs os As → os.lookup f = some o → ∃ v A, vs.lookup f = some v ∧ RepO K F H v o A ∧ ∀ a ∈ A, a ∈ As
  | _, _, _, _, _, .nil, e => by simp at e
  | _, _, _, f, o, .cons (f := g) (v := v) (o := o') (As := A1) r t, e => by
    rw [List.lookup_cons] at e ⊢
    cases q : (f == g) with
    | true => rw [q] at e; simp at e; subst e; exact ⟨v, A1, rfl, r, fun a h => List.mem_append_left _ h⟩
    | false =>
      rw [q] at e
      obtain ⟨v', A', h1, h2, h3⟩ := RepOf.get t (by simpa using e)
      exact ⟨v', A', by simpa using h1, h2, fun a h => List.mem_append_right _ (h3 a h)⟩
theorem RepOf.put {f : Str} {o : O} (r : RepO K F H v o B) (nb : B.Nodup) : ∀ {vs : List (Str × V)} {os : List (Str × O)} {As : List Addr}, RepOf K F H vs os As → As.Nodup → (∀ b ∈ B, b ∉ As) → ∃ As', RepOf K F H (putF f v vs) (putO f o os) As' ∧ As'.Nodup ∧ ∀ a ∈ As', a ∈ As ∨ a ∈ B
  | _, _, _, .nil, _, _ => ⟨B ++ [], .cons r .nil, by rw [List.append_nil]; exact nb, fun a h => by rw [List.append_nil] at h; exact .inr h⟩
  | _, _, _, .cons (f := g) (v := w) (vs := vs) (o := q) (os := os) (As := A1) (Bs := A2) r1 t, nd, dj => by
    obtain ⟨n1, n2, n3⟩ := List.nodup_append.mp nd
    by_cases e : g = f
    · subst e
      have e1 : putF g v ((g, w) :: vs) = (g, v) :: vs := by rw [putF]; simp
      have e2 : putO g o ((g, q) :: os) = (g, o) :: os := by rw [putO]; simp
      rw [e1, e2]
      refine ⟨B ++ A2, .cons r t, List.nodup_append.mpr ⟨nb, n2, fun a ha b hb e => dj a ha (List.mem_append_right _ (e ▸ hb))⟩, fun a h => ?_⟩
      rcases List.mem_append.mp h with h | h
      · exact .inr h
      · exact .inl (List.mem_append_right _ h)
    · have e1 : putF f v ((g, w) :: vs) = (g, w) :: putF f v vs := by rw [putF]; simp [e]
      have e2 : putO f o ((g, q) :: os) = (g, q) :: putO f o os := by rw [putO]; simp [e]
      rw [e1, e2]
      obtain ⟨As', h1, h2, h3⟩ := RepOf.put r nb t n2 fun b hb z => dj b hb (List.mem_append_right _ z)
      refine ⟨A1 ++ As', .cons r1 h1, List.nodup_append.mpr ⟨n1, h2, fun a ha b hb e => ?_⟩, fun a h => ?_⟩
      · rcases h3 b hb with z | z
        · exact n3 a ha b z e
        · exact dj b z (List.mem_append_left _ (e ▸ ha))
      · rcases List.mem_append.mp h with h | h
        · exact .inl (List.mem_append_left _ h)
        · rcases h3 a h with h | h
          · exact .inl (List.mem_append_right _ h)
          · exact .inr h
theorem RepOf.length : ∀ {vs : List (Str × V)} {os : List (Str × O)} {As : List Addr}, RepOf K F H vs os As → vs.length = os.length
  | _, _, _, .nil => rfl
  | _, _, _, .cons _ t => by rw [List.length_cons, List.length_cons, RepOf.length t]
def W.fld (x : W) (C : Addr) (f : Str) (k : W → Prop) : Prop := match x with
  | .dat (.obj C' fs) => C' = C ∧ ∃ d, fs.lookup f = some d ∧ k (.dat d)
  | .rdo (.obj C' fs) => C' = C ∧ ∃ d, fs.lookup f = some d ∧ k (rdW d)
  | .ref j p (.obj C' fs) => C' = C ∧ ∃ o, fs.lookup f = some o ∧ k (kidW j p (.fd f) o)
  | _ => False
@[simp ↓] theorem eW_fld_1 (fs : List (Str × DL.D)) (C' C : Addr) (f : Str) (k : W → Prop) : (W.dat (.obj C' fs)).fld C f k = (C' = C ∧ ∃ d, fs.lookup f = some d ∧ k (.dat d)) := by first | rfl | exact propext Iff.rfl
@[simp ↓] theorem eW_fld_2 (fs : List (Str × DL.D)) (C' C : Addr) (f : Str) (k : W → Prop) : (W.rdo (.obj C' fs)).fld C f k = (C' = C ∧ ∃ d, fs.lookup f = some d ∧ k (rdW d)) := by first | rfl | exact propext Iff.rfl
@[simp ↓] theorem eW_fld_3 (j : Nat) (p : List Pk) (fs : List (Str × O)) (C' C : Addr) (f : Str) (k : W → Prop) : (W.ref j p (.obj C' fs)).fld C f k = (C' = C ∧ ∃ o, fs.lookup f = some o ∧ k (kidW j p (.fd f) o)) := by first | rfl | exact propext Iff.rfl
@[simp ↓] def wFld (C : Addr) (f : Str) (we : WE) : WE := fun xp S Q => we xp S fun x => x.fld C f Q
variable {Wx : WX} {te tv : TE} {we wv : WE}
theorem Snd.fld {C : Addr} {f : Str} (c0 : Cls K C) (n : NoAttr K C f) (he : Snd K Wx te we) : Snd K Wx (tFld K te f) (wFld C f we) := fun fx xp F G H σ S A Qd Q xr c hw q => by
  refine he fx xp F G H σ S A _ _ xr c hw fun v x F1 G1 H1 B g1 c1 r1 n1 hq => ?_
  cases x with
  | dat d =>
    cases d with
    | obj C' fs =>
      obtain ⟨rfl, d, e, z⟩ := hq
      cases r1.1 with
      | obj h1 h2 =>
        obtain ⟨w, e', r'⟩ := h2.lookup e
        exact ⟨_, _, _, _, w, rfl, c1.gh _ _ (c1.fg _ _ h1), c0, n, e', q w (.dat d) F1 G1 H1 [] g1 c1 ⟨r', rfl⟩ (fun b hb => by cases hb) z⟩
    | _ => exact hq.elim
  | rdo d =>
    cases d with
    | obj C' fs =>
      obtain ⟨rfl, d, e, z⟩ := hq
      cases r1.1 with
      | obj h1 h2 =>
        obtain ⟨w, e', r'⟩ := h2.lookup e
        exact ⟨_, _, _, _, w, rfl, c1.gh _ _ h1, c0, n, e', q w _ F1 G1 H1 [] g1 c1 (rdW_rep r') (fun b hb => by cases hb) z⟩
    | _ => exact hq.elim
  | ref j p o =>
    cases o with
    | obj C' fs =>
      obtain ⟨rfl, o, e, z⟩ := hq
      obtain ⟨_, nd, As, r, s⟩ := r1
      cases r with
      | obj h1 h2 h3 =>
        obtain ⟨w, A', e', r', s'⟩ := h3.get e
        exact ⟨_, _, _, _, w, rfl, h1, c0, n, e', q w _ F1 G1 H1 [] g1 c1 (kid_rep nd (.fd h1 e' e .here) r' fun a ha => s a (List.mem_cons_of_mem _ (List.mem_cons_of_mem _ (s' a ha)))) (fun b hb => by cases hb) z⟩
    | _ => exact hq.elim
  | _ => exact hq.elim
/-- the object at a node with a field stored -/
theorem Cons.chgFd {l C dx : Addr} {j : Nat} {p : List Pk} {fs : List (Str × O)} {f : Str} {o : O} {vs : List (Str × V)} (c : Cons K fx F G H σ S A) (r : RepW K fx F G H S A (.ref l) [] (.ref j p (.obj C fs))) (hl : H l = some (.ins C dx vs)) (ro : RepO K F H v o B) (nd : B.Nodup)
    (nB : ∀ b ∈ B, G b = none ∧ fx.st ≠ some b ∧ fx.H0 b = none ∧ (∀ i, b ∉ A i)) : ∃ A', Cons K fx F G (upd H l (.ins C dx (putF f v vs))) σ (updS S j p (.obj C (putO f o fs))) A' := by
  have lA : l ∈ A j := by
    obtain ⟨_, _, As, h, s⟩ := r
    exact s l (root_mem h trivial)
  have lB : l ∉ B := fun z => (nB l z).2.2.2 j lA
  have keep : ∀ b u, b ≠ l → H b = some u → upd H l (.ins C dx (putF f v vs)) b = some u := fun b u nb e => by rw [upd_ne nb]; exact e
  refine c.chg (Bn := B) r trivial (fun b hb => ⟨(nB b hb).1, (nB b hb).2.1, (nB b hb).2.2.1, (nB b hb).2.2.2, ro.there b hb⟩) fun As ra ndA hlA nb => ?_
  cases ra with
  | @obj _ _ dx' vs' _ As' h1 hd h2 =>
    rw [hl] at h1
    cases h1
    obtain ⟨n1, n2⟩ := List.nodup_cons.mp ndA
    obtain ⟨n3, n4⟩ := List.nodup_cons.mp n2
    have dl : dx ≠ l := fun z => n1 (List.mem_cons.mpr (.inl z.symm))
    have k2 : RepOf K F (upd H l (.ins C dx (putF f v vs))) vs fs As' := h2.mono (.refl F) fun b hb u e => keep b u (fun z => n1 (List.mem_cons_of_mem _ (z ▸ hb))) e
    obtain ⟨As2, q1, q2, q3⟩ := k2.put (f := f) (ro.mono (.refl F) fun b hb u e => keep b u (fun z => lB (z ▸ hb)) e) nd n4 fun b hb z => nb b hb (List.mem_cons_of_mem _ (List.mem_cons_of_mem _ z))
    refine ⟨l :: dx :: As2, .obj upd_same (keep dx _ dl hd) q1, List.nodup_cons.mpr ⟨fun z => ?_, List.nodup_cons.mpr ⟨fun z => ?_, q2⟩⟩, fun a ha => ?_⟩
    · rcases List.mem_cons.mp z with z | z
      · exact dl z.symm
      · rcases q3 l z with z | z
        · exact n1 (List.mem_cons_of_mem _ z)
        · exact lB z
    · rcases q3 dx z with z | z
      · exact n3 z
      · exact nb dx z (List.mem_cons_of_mem _ (List.mem_cons_self ..))
    · rcases List.mem_cons.mp ha with rfl | ha
      · exact .inl (List.mem_cons_self ..)
      · rcases List.mem_cons.mp ha with rfl | ha
        · exact .inl (List.mem_cons_of_mem _ (List.mem_cons_self ..))
        · rcases q3 a ha with z | z
          · exact .inl (List.mem_cons_of_mem _ (List.mem_cons_of_mem _ z))
          · exact .inr z
theorem RepW.inst {j : Nat} {p : List Pk} {C : Addr} {fs : List (Str × O)} (r : RepW K fx F G H S A v B (.ref j p (.obj C fs))) : ∃ l dx vs, v = .ref l ∧ B = [] ∧ H l = some (.ins C dx vs) ∧ vs.length = fs.length := by
  obtain ⟨rfl, _, As, h, _⟩ := r
  cases h with
  | obj h1 h2 h3 => exact ⟨_, _, _, rfl, rfl, h1, h3.length⟩
/-- o.f = e -/
@[simp ↓] def wSetF (C : Addr) (f : Str) (wo wv : WE) : WS := fun xp P S => wv xp S fun y => wo xp S fun x => match x with
  | .ref j p (.obj C' fs) => C' = C ∧ fs.length < 1000 ∧ y.kid1 fun o => P.nx (updS S j p (.obj C (putO f o fs)))
  | _ => False
theorem SndS.setF {C : Addr} {f : Str} {to : TE} {wo : WE} (c0 : Cls K C) (n : NoAttr K C f) (ho : Snd K Wx to wo) (hv : Snd K Wx tv wv) : SndS K Wx (sFld K to tv f) (wSetF C f wo wv) := fun fx xp F G H σ S A P D xr c r hw => by
  refine hv fx xp F G H σ S A _ _ xr c hw fun w y F1 G1 H1 B1 g1 c1 r1 n1 q1 => ?_
  refine ho fx xp F1 G1 H1 σ S A _ _ xr c1 q1 fun v x F2 G2 H2 B2 g2 c2 r2 n2 q2 => ?_
  have ry := r1.grow c1 g2
  cases x with
  | ref j p o =>
    cases o with
    | obj C' fs =>
      obtain ⟨rfl, hl, q2⟩ := q2
      obtain ⟨l, dx, vs, rfl, rfl, h1, h2⟩ := r2.inst
      obtain ⟨o, ro, nd, nB, z⟩ := ry.kid1 q2
      refine ⟨l, _, dx, vs, rfl, h1, c0, n, by rw [h2]; exact hl, ?_⟩
      obtain ⟨A', c4⟩ := c2.chgFd (f := f) r2 h1 ro nd fun b hb => ⟨(nB b hb).1, (nB b hb).2, c.hn b (n1 b hb), fun i => c.noA (n1 b hb) i⟩
      exact r.nx σ F2 G2 _ _ A' (g1.f.trans g2.f) (g1.g.trans g2.g) c4 z
    | _ => exact q2.elim
  | _ => exact q2.elim
/-- o.f op= e, scalars -/
@[simp ↓] def wAugF (C : Addr) (f : Str) (g : G2) (wo wv : WE) : WS := fun xp P S => wo xp S fun x => match x with
  | .ref j p (.obj C' fs) => C' = C ∧ fs.length < 1000 ∧ ∃ d0, fs.lookup f = some (.fz d0) ∧ wv xp S fun y => y.dd fun d => g d0 d fun r => P.nx (updS S j p (.obj C (putO f (.fz r) fs)))
  | _ => False
theorem SndS.augF {C : Addr} {f : Str} {to : TE} {wo : WE} {rd : V → V → Hp → VK → Prop} {g : G2} (ok : R2Ok K rd g) (c0 : Cls K C) (n : NoAttr K C f) (ho : Snd K Wx to wo) (hv : Snd K Wx tv wv) : SndS K Wx (sFldAug K to tv rd f) (wAugF C f g wo wv) := fun fx xp F G H σ S A P D xr c r hw => by
  refine ho fx xp F G H σ S A _ _ xr c hw fun v x F1 G1 H1 B1 g1 c1 r1 n1 q1 => ?_
  cases x with
  | ref j p o =>
    cases o with
    | obj C' fs =>
      obtain ⟨rfl, hl, d0, e, q1⟩ := q1
      have r1' := r1
      obtain ⟨l, dx, vs, rfl, rfl, h1, h2⟩ := r1.inst
      obtain ⟨_, nd, As, ra, s⟩ := r1
      cases ra with
      | obj h1' hd h3 =>
        rw [h1] at h1'
        cases h1'
        obtain ⟨w, A1, e', r', s'⟩ := h3.get e
        cases r' with
        | fz r' =>
          refine ⟨l, _, dx, vs, w, rfl, h1, c0, n, e', ?_⟩
          refine hv fx xp F1 G1 H1 σ S A _ _ xr c1 q1 fun u y F2 G2 H2 B2 g2 c2 r2 n2 q2 => ?_
          obtain ⟨ny, q2⟩ := W.dd_of q2
          refine ok H2 w u _ _ _ _ (r'.mono (g2.f.trans (c2.fg.trans c2.gh))) (r2.rd c2 ny) q2 fun z d rz q3 => ?_
          have rx := r1'.grow c1 g2
          obtain ⟨l', dx', vs', el, _, h4, h5⟩ := rx.inst
          cases el
          refine ⟨dx', vs', h4, by rw [h5]; exact hl, ?_⟩
          obtain ⟨A', c4⟩ := c2.chgFd (f := f) rx h4 (.fz (rz F2)) .nil fun b hb => by cases hb
          exact r.nx σ F2 G2 _ _ A' (g1.f.trans g2.f) (g1.g.trans g2.g) c4 q3
    | _ => exact q1.elim
  | _ => exact q1.elim
end
section
variable {X : Cx} {Wx : WX} {o e : Expr} {to te : TE} {wo we : WE} {f : Str} {C : Addr} {pos pos' : Pos}
theorem pd_fld (c : Cls X.K C) (n : NoAttr X.K C f) (he : PdD X Wx e te we) (hb : attributeBase e f X.env (eval e X.env) = eval e X.env := by rfl) : PdD X Wx (.Attribute e f pos) (tFld X.K te f) (wFld C f we) := ⟨pe_fld he.pe hb, Snd.fld c n he.ok⟩
theorem sd_setF (c : Cls X.K C) (n : NoAttr X.K C f) (ho : PdD X Wx o to wo) (he : PdD X Wx e te we) (hs : swapsWith e (some (.Attribute o f pos')) pos.line X.env = pure false := by rfl) : PsD X Wx (.Assign [.Attribute o f pos'] e pos) (sFld X.K to te f) (wSetF C f wo we) := ⟨ps_fld ho.pe he.pe hs, SndS.setF c n ho.ok he.ok⟩
theorem sd_augF {op : Operator} {rd : V → V → Hp → VK → Prop} {g : G2} (hop : InOp X op rd) (ok : R2Ok X.K rd g) (c : Cls X.K C) (n : NoAttr X.K C f) (ho : PdD X Wx o to wo) (he : PdD X Wx e te we) : PsD X Wx (.AugAssign (.Attribute o f pos') op e pos) (sFldAug X.K to te rd f) (wAugF C f g wo we) := ⟨ps_fldaug ho.pe he.pe hop, SndS.augF ok c n ho.ok he.ok⟩
end
end DL

namespace DL
open PySem PySem.Spec PyProof.Rows L2

/-! ## defs that change their first argument -/
abbrev FsIO := O → List Ag → (Rt → O → Prop) → (Addr → List (Str × D) → O → Prop) → Prop
/-- behind a call that changed the cells Ac -/
structure BehIO (st : Option Addr) (F H F' H' : Hp) (Ac : List Addr) : Prop where
  f : Sub F F'
  fh : Sub F' H'
  fn : ∀ a o, F' a = some o → F a = none → H a = none
  h : ∀ a o, H a = some o → st ≠ some a → a ∉ Ac → H' a = some o
  hn : ∀ a, H' a = none → H a = none
  sto : ∀ p, st = some p → F' p = none ∧ StoOk H' p
structure OwnIO (K : PySem.W.Frag) (st : Option Addr) (F' H H' : Hp) (Ac : List Addr) (a : Addr) (o' : O) (Ac' : List Addr) : Prop where
  rep : RepO K F' H' (.ref a) o' Ac'
  rt : rooted o'
  nd : Ac'.Nodup
  wh : ∀ b ∈ Ac', b ∈ Ac ∨ H b = none
  nf : ∀ b ∈ Ac', F' b = none
  ns : ∀ b ∈ Ac', st ≠ some b
def spIO (K : PySem.W.Frag) (fs : FsIO) : Sp := fun ws H Q E => ∃ (st : Option Addr) (F G : Hp) (a : Addr) (vs : List V) (o : O) (Ac : List Addr) (as : List Ag) (Qd : Rt → O → Prop) (xd : Addr → List (Str × D) → O → Prop),
  ws = .ref a :: vs ∧ RepO K F H (.ref a) o Ac ∧ rooted o ∧ Ac.Nodup ∧ (∀ b ∈ Ac, G b = none ∧ st ≠ some b) ∧ AgReps K st F G vs as ∧ Sub F G ∧ Sub G H ∧ (∀ p, st = some p → G p = none ∧ StoOk H p) ∧ fs o as Qd xd ∧
  (∀ r v F' H' B o' Ac', BehIO st F H F' H' Ac → OwnIO K st F' H H' Ac a o' Ac' → RtRep K st F' H H' v B r → (∀ b ∈ B, b ∉ Ac') → Qd r o' → Q v H') ∧
  ∀ C fs F' H' o' Ac', BehIO st F H F' H' Ac → OwnIO K st F' H H' Ac a o' Ac' → xd C fs o' → (fs = [] → E (.ref C) none H') ∧ ∀ d vs, H' d = some (.xd vs) → Repf K F' vs fs → E (.ref C) (some d) H'
/-- the answer, slot 0 apart -/
def W.retIO (x : W) (S : List Slot) (q : Rt → Prop) : Prop := match x with
  | .dat d => q (.dat d)
  | .rdo d => d.scal = true ∧ q (.dat d)
  | .new o => q (.new o)
  | .ref (i + 1) [] o => (match gt S (i + 1) with
    | .own _ _ => q (.new o)
    | _ => False)
  | _ => False
@[simp ↓] theorem eW_retIO_1 (d : DL.D) (S : List Slot) (q : Rt → Prop) : (W.dat d).retIO S q = q (.dat d) := by first | rfl | exact propext Iff.rfl
@[simp ↓] theorem eW_retIO_2 (d : DL.D) (S : List Slot) (q : Rt → Prop) : (W.rdo d).retIO S q = (d.scal = true ∧ q (.dat d)) := by first | rfl | exact propext Iff.rfl
@[simp ↓] theorem eW_retIO_3 (o : O) (S : List Slot) (q : Rt → Prop) : (W.new o).retIO S q = q (.new o) := by first | rfl | exact propext Iff.rfl
@[simp ↓] theorem eW_retIO_4 (i : Nat) (o : O) (S : List Slot) (q : Rt → Prop) : (W.ref (i + 1) [] o).retIO S q = (match gt S (i + 1) with | .own _ _ => q (.new o) | _ => False) := by first | rfl | exact propext Iff.rfl
@[simp ↓] def postIO (a : Addr) (Qd : Rt → O → Prop) : Post := { nx := fun S => ∃ o', rooted o' ∧ gt S 0 = .own a o' ∧ Qd (.dat .non) o', rt := fun x S => ∃ o', rooted o' ∧ gt S 0 = .own a o' ∧ x.retIO S fun r => Qd r o', bk := fun _ => False, ct := fun _ => False, np := 1 }
@[simp ↓] def xpIO (a : Addr) (xd : Addr → List (Str × D) → O → Prop) : Xp := fun C f S => ∃ o', rooted o' ∧ gt S 0 = .own a o' ∧ xd C f o'
section
variable {K : PySem.W.Frag} {st : Option Addr} {F G H : Hp}
theorem Cons.behIO {Ac : List Addr} {F' G' H' : Hp} {σ : L2.St} {S : List Slot} {A : Nat → List Addr} (c : Cons K ⟨st, H, fun b => st = some b ∨ b ∈ Ac, F, 1, G⟩ F' G' H' σ S A) : BehIO st F H F' H' Ac where
  f := c.f0
  fh := c.fg.trans c.gh
  fn := c.fnew
  h := fun a o e n m => c.pres a o e fun z => z.elim n m
  hn := c.hn
  sto := fun p e => ⟨c.fnone (c.sto p e).1, (c.sto p e).2.2.1⟩
theorem Cons.ownIO {a : Addr} {Ac : List Addr} {F' G' H' : Hp} {σ : L2.St} {S : List Slot} {A : Nat → List Addr} {o' : O} (c : Cons K ⟨st, H, fun b => st = some b ∨ b ∈ Ac, F, 1, G⟩ F' G' H' σ S A) (e : gt S 0 = .own a o') (rt : rooted o') : OwnIO K st F' H H' Ac a o' (A 0) where
  rep := (c.sl 0 _ (gt_some e (by simp))).2
  rt := rt
  nd := c.nod 0
  wh := fun b hb => by
    rcases c.am 0 b hb with z | z
    · exact .inr z
    · rcases z.1 with z | z
      · exact absurd z (c.am_ne hb)
      · exact .inl z
  nf := fun b hb => c.fnone (c.nf 0 b hb)
  ns := fun b hb => c.am_ne hb
variable {P : Program} {w : World} {mg : Str → Option Value} {base : Heap} {x qual : Str} {params : Arguments} {body : List Stmt} {scope : Scope} {f : Addr} {fd : FuncData} {N ps : List Str} {k : Nat} {fs : FsIO}
/-- THE RULE for a def that changes its first argument -/
theorem fn_io (FD : FunD K x qual params body scope [] [] f fd) (S : FnScope N ps scope) (len : ∀ o as Qd xd, fs o as Qd xd → as.length + 1 = ps.length) (hps : ps.length ≤ N.length)
    (hbody : ∀ (cdv : Value) (A : Around) (outer : List Env) (s : Shared) (H : Hp) (E : XK), Room k (A.deeper (envOfC qual scope s.heap.objs.size f cdv)) → Takes (Cxx P w K mg base N qual scope f cdv A outer s H E) (WxOf E) →
      PassesOwn (model P w) (A.deeper (envOfC qual scope s.heap.objs.size f cdv)) (envOfC qual scope s.heap.objs.size f cdv) (Cxx P w K mg base N qual scope f cdv A outer s H E).xe →
      ∃ t ww, BkD (Cxx P w K mg base N qual scope f cdv A outer s H E) (WxOf E) body t ww ∧ ∀ a o as Qd xd, rooted o → fs o as Qd xd → ww (xpIO a xd) (postIO a Qd) (.own a o :: slots as (N.length - 1))) :
    FnOk P w K mg base (L2.CX P w) (k + 1) f fd ps (spIO K fs) := by
  have hlen : ∀ vs H Q E, spIO K fs vs H Q E → vs.length = ps.length := fun vs H Q E h => by
    obtain ⟨st, F, G, a, vs, o, Ac, as, Qd, xd, rfl, ro, rt, nd, nG, r, fg, gh, hst, hf, hq, hx⟩ := h
    rw [List.length_cons, r.length]
    exact len o as Qd xd hf
  refine FD.ok S hlen fun cdv A outer s H vs Q E hr h => ?_
  obtain ⟨t, ww, bk, hw⟩ := hbody cdv A outer s H E hr (takes_of rfl rfl rfl rfl) (passes_of rfl)
  refine ⟨t, bk.ps, ?_⟩
  have hl := hlen _ _ _ _ h
  obtain ⟨st, F, G, a, vs, o, Ac, as, Qd, xd, rfl, ro, rt, nd, nG, r, fg, gh, hst, hf, hq, hx⟩ := h
  have c := cons_startIO N ro nd nG r (by rw [List.length_cons] at hl; omega) fg gh hst
  refine bk.ok _ (xpIO a xd) F G H _ _ _ (postIO a Qd) { nx := fun _ H2 => Q .non H2, rt := Q } (fun F' G' H' σ S A C f c' xf => ?_) c ⟨fun σ' F' G' H' S' A' _ _ c' q => ?_, fun _ _ _ _ _ _ _ _ _ q => q.elim, fun _ _ _ _ _ _ _ _ _ q => q.elim, fun v x B σ' F' G' H' S' A' _ _ c' rx n0 nA q => ?_, Nat.le_refl _⟩ (hw a o as Qd xd rt hf)
  · obtain ⟨o', r', e, z⟩ := xf
    exact hx C f F' H' o' _ c'.behIO (c'.ownIO e r') z
  · obtain ⟨o', r', e, z⟩ := q
    exact hq (.dat .non) .non F' H' [] o' _ c'.behIO (c'.ownIO e r') ⟨.non, rfl⟩ (fun _ z => by cases z) z
  · obtain ⟨o', r', e, q⟩ := q
    have own := c'.ownIO e r'
    cases x with
    | dat d => exact hq (.dat d) v F' H' [] o' _ c'.behIO own ⟨rx.1, rfl⟩ (fun _ z => by cases z) q
    | rdo d => exact hq (.dat d) v F' H' [] o' _ c'.behIO own ⟨rx.1.scal q.1, rfl⟩ (fun _ z => by cases z) q.2
    | new o2 =>
      refine hq (.new o2) v F' H' B o' _ c'.behIO own ⟨rx.1, rx.2.1, fun b hb => ⟨n0 b hb, c'.fnone (rx.2.2 b hb).1, (rx.2.2 b hb).2⟩⟩ (fun b hb => nA 0 b hb) q
    | ref i p o2 =>
      cases i with
      | zero => cases p <;> exact q.elim
      | succ i =>
        cases p with
        | cons _ _ => exact q.elim
        | nil =>
          have q' : (match gt S' (i + 1) with
            | .own _ _ => Qd (.new o2) o'
            | _ => False) := q
          split at q'
          · rename_i a2 o1 e1
            obtain ⟨_, ⟨a', o0, e2, hn⟩, _⟩ := rx
            rw [gt_some e1 (by simp)] at e2
            cases e2
            cases hn
            have s := (c'.sl (i + 1) _ (gt_some e1 (by simp))).2
            refine hq (.new _) (.ref a2) F' H' (A' (i + 1)) o' _ c'.behIO own ⟨s, c'.nod (i + 1), fun b hb => ⟨?_, c'.fnone (c'.nf (i + 1) b hb), c'.am_ne hb⟩⟩ (fun b hb => c'.dis (i + 1) 0 (by omega) b hb) q'
            rcases c'.am (i + 1) b hb with z | z
            · exact z
            · exact absurd z.2 (by show ¬ i + 1 < 1; omega)
          · exact q'.elim
    | sto => exact q.elim
end
end DL

namespace L2
open PySem PySem.Spec PyProof.Rows
section
variable {X : Cx} {CX : CXT} {k : Nat} {f C : Addr} {fd : FuncData} {ps : List Str} {sp : Sp} {E : St → XK} {x m : Str} {p pos apos : Pos} {e o : Expr} {es : List Expr} {ta : TE} {t : TA}
/-- C(..), what is raised wished for at the caller's slots -/
def tMakeSD (C : Addr) (sp : Sp) (E : St → XK) (t : TA) : TE := fun σ H Q => t σ H fun vs H1 => ∀ x dx, H1 x = none → H1 dx = none → dx ≠ x →
  sp (.ref x :: vs) (upd (upd H1 dx (.own x)) x (.ins C dx [])) (fun v H2 => v = .non ∧ Q (.ref x) H2) (E σ)
def tMethSD (C : Addr) (m : Str) (sp : Sp) (E : St → XK) (ta : TE) (t : TA) : TE := fun σ H Q => ta σ H fun x H1 => ∃ a dx fs, x = .ref a ∧ H1 a = some (.ins C dx fs) ∧ fs.lookup m = none ∧
  t σ H1 fun vs H2 => sp (x :: vs) H2 Q (E σ)
theorem run_makeSD {pins : List (Addr × Obj)} {σ : St} {H : Hp} {s : Shared} {Q : VK} {us : List Value} {vs : List V} (M : Mk X.K C f) (F : FnOk X.prog X.w X.K X.mg X.base CX k f fd ps sp) (hr : Room (k + 1) X.A) (hb : Binds X.K fd ps [])
    (hx : PassesAt CX X σ (E σ)) (I : Inv X pins σ H s) (r : Vals vs us)
    (h : ∀ x dx, H x = none → H dx = none → dx ≠ x → sp (.ref x :: vs) (upd (upd H dx (.own x)) x (.ins C dx [])) (fun v H2 => v = .non ∧ Q (.ref x) H2) (E σ)) :
    wpAny (model X.prog X.w) X.A (call (.ref C) us) (EP X pins σ Q) X.xe s := by
  have hq := h (s.heap.objs.size + 1) s.heap.objs.size (I.hok.fresh (Nat.le_succ _)) (I.hok.fresh (Nat.le_refl _)) (Nat.ne_of_lt (Nat.lt_succ_self _))
  have I2 := Inv.made (C := C) I
  have r2 : Vals (V.ref (s.heap.objs.size + 1) :: vs) (Value.ref (s.heap.objs.size + 1) :: us) := .cons rfl r
  have hl : (Value.ref (s.heap.objs.size + 1) :: us).length = ps.length := by
    have e := r2.length
    rw [F.len _ _ _ _ hq] at e
    exact e.symm
  have hb' := hb _ (Value.ref (s.heap.objs.size + 1) :: us) I2.kIn (by rw [List.append_nil]; exact hl)
  rw [List.append_nil] at hb'
  refine wpAny_call (make_map (f := f) I.kIn M.makes M.init (beq_iff_eq.mp M.fn) (codeAny_mono (F.run _ X.stack _ _ ⟨Value.ref (s.heap.objs.size + 1) :: us, []⟩ (Value.ref (s.heap.objs.size + 1) :: us) _ _ (E σ) (hr.make C us [])
    (I2.env0.make C us []) hb' r2 hq) fun r s' hq' => ?_))
  cases r with
  | error e => exact hx pins _ _ e s' I2 hq'
  | ok fl =>
    cases fl with
    | ret u =>
      obtain ⟨v, H', I3, rv, ev, q3⟩ := I2.after hq'
      subst ev
      exact ⟨rv, ⟨V.ref (s.heap.objs.size + 1), H', I3, rfl, q3⟩⟩
    | next => exact False.elim hq'
    | brk => exact False.elim hq'
    | cont => exact False.elim hq'
theorem pe_makeSD (M : Mk X.K C f) (F : FnOk X.prog X.w X.K X.mg X.base CX k f fd ps sp) (hr : Room (k + 1) X.A) (hg : Gl X x) (hm : X.mg x = some (.ref C)) (hb : Binds X.K fd ps []) (hx : ∀ σ, PassesAt CX X σ (E σ))
    (ha : PA X (e :: es) t) (hdb : (x == ("__debug__" : Str)) = false := by decide) (he : starEach (e :: es) X.env = (false, eval e X.env) :: starEach es X.env := by rfl) (hpl : (backTo pos (starEach es X.env)).any (·.1) = false := by rfl) :
    PE X (.Call (.Name x p) (e :: es) [] pos) (tMakeSD C sp E t) := by
  refine ⟨fun pins s σ H Q I h => ?_⟩
  refine wpAny_Call_Name_kw (ld_glob I hg hm ?_ hdb)
  refine PySem.W.callWith_K (h₀ := X.base) I.ok.mod.kin M.kp (thn (ha.run pos pins s σ H _ I h) fun us s1 ⟨vs, H1, I1, r, q⟩ => ⟨I1.kIn, ?_⟩) he hpl
  exact run_makeSD M F hr hb (hx σ) I1 r q
theorem pe_methSD {pl : Sem Bool} (he : PE X o ta) (c : Cls X.K C) (hm : Meth X.K C m f) (F : FnOk X.prog X.w X.K X.mg X.base CX k f fd ps sp) (hr : Room k X.A) (hb : Binds X.K fd ps []) (hx : ∀ σ, PassesAt CX X σ (E σ)) (ha : PA X (e :: es) t)
    (hst : starEach (e :: es) X.env = (false, eval e X.env) :: starEach es X.env := by rfl) (hpl : (backTo pos (starEach es X.env)).any (·.1) = false := by rfl)
    (ht : eval (.Call (.Attribute o m apos) (e :: es) [] pos) X.env = (do
      let ov ← eval o X.env
      standAt apos.atName
      let (f, first) ← holding [ov] (getMethod ov m pl)
      callWith pos f first (backTo pos (starEach (e :: es) X.env)) (backToKw pos (keywordEach [] X.env))) := by rfl) :
    PE X (.Call (.Attribute o m apos) (e :: es) [] pos) (tMethSD C m sp E ta t) := by
  refine ⟨fun pins s σ H Q I h => ?_⟩
  refine PySem.W.methodCall_KW (pl := pl) (thn (he.run pins s σ H _ I h) fun u s1 ⟨x, H1, I1, rx, a, dx, fs, ex, ea, l, q⟩ => ?_) ht
  subst ex
  obtain rfl : u = Value.ref a := rx
  refine getmeth_ok I1 ea c hm l ?_
  refine PySem.W.callWith_K (first := [.ref a]) (h₀ := X.base) I.ok.mod.kin hm.kp (thn (ha.run pos pins s1 σ H1 _ I1 q) fun us s2 ⟨vs, H2, I2, r, q2⟩ => ⟨I2.kIn, ?_⟩) hst hpl
  exact run_fnSD (us := .ref a :: us) (vs := .ref a :: vs) F hr hb .nil (hx σ) I2 (.cons rfl r) (by rw [List.append_nil]; exact q2)
theorem pe_methSD0 {pl : Sem Bool} (he : PE X o ta) (c : Cls X.K C) (hm : Meth X.K C m f) (F : FnOk X.prog X.w X.K X.mg X.base CX k f fd ps sp) (hr : Room k X.A) (hb : Binds X.K fd ps []) (hx : ∀ σ, PassesAt CX X σ (E σ))
    (ht : eval (.Call (.Attribute o m apos) [] [] pos) X.env = (do
      let ov ← eval o X.env
      standAt apos.atName
      let (f, first) ← holding [ov] (getMethod ov m pl)
      callWith pos f first (backTo pos (starEach [] X.env)) (backToKw pos (keywordEach [] X.env))) := by rfl) :
    PE X (.Call (.Attribute o m apos) [] [] pos) (tMethSD C m sp E ta tNil) := by
  refine ⟨fun pins s σ H Q I h => ?_⟩
  refine PySem.W.methodCall_KW (pl := pl) (thn (he.run pins s σ H _ I h) fun u s1 ⟨x, H1, I1, rx, a, dx, fs, ex, ea, l, q⟩ => ?_) ht
  subst ex
  obtain rfl : u = Value.ref a := rx
  refine getmeth_ok I1 ea c hm l ?_
  exact PySem.W.callWith_K0 (first := [.ref a]) I1.kIn hm.kp (run_fnSD (us := [.ref a]) (vs := [.ref a]) F hr hb .nil (hx σ) I1 (.cons rfl .nil) (by rw [List.append_nil]; exact q))
end
end L2
namespace DL
open PySem PySem.Spec PyProof.Rows L2
section
variable {K : PySem.W.Frag} {fx : Fx} {F G H F' G' H' : Hp} {σ : L2.St} {S : List Slot} {A : Nat → List Addr} {v : V} {B : List Addr} {x : W}
variable {Wx : WX} {ta : TA} {wa : WA} {fs : FsIO} {ks : List Kd} {te : TE} {we : WE}
/-- C(..) -/
@[simp ↓] def wMake (C : Addr) (fs : FsIO) (ks : List Kd) (wa : WA) : WE := fun xp S Q => wa xp S fun xs => W.args xs ks fun as => fs (.obj C []) as (fun r o' => r = .dat .non ∧ Q (.new o')) fun C' f _ => xp C' f S
theorem Snd.make {C : Addr} (ha : SndA K Wx ta wa) : Snd K Wx (tMakeSD C (spIO K fs) (fun σ cls d H => Wx cls d σ H) ta) (wMake C fs ks wa) := fun fx xp F G H σ S A Qd Q xr c hw q => by
  refine ha.argd xr c hw fun vs as F1 G1 H1 g1 c1 r1 q1 x dx hx hdx ne => ?_
  have n1 := c1.new hx
  have n2 := c1.new hdx
  have s2 : Sub H1 (upd (upd H1 dx (.own x)) x (.ins C dx [])) := fun a o e => by
    rw [upd_ne (ne_of_none e hx), upd_ne (ne_of_none e hdx)]
    exact e
  have s2n : ∀ a, upd (upd H1 dx (.own x)) x (.ins C dx []) a = none → H1 a = none := fun a e => by
    by_cases z : a = x
    · rw [z]; exact hx
    · by_cases z2 : a = dx
      · rw [z2]; exact hdx
      · rw [upd_ne z, upd_ne z2] at e; exact e
  have ac : ∀ b ∈ [x, dx], H1 b = none ∧ G1 b = none ∧ fx.st ≠ some b := fun b hb => by
    rcases List.mem_cons.mp hb with rfl | hb
    · exact ⟨hx, n1.1, n1.2.2.1⟩
    · rw [List.mem_singleton.mp hb]; exact ⟨hdx, n2.1, n2.2.2.1⟩
  have beh : ∀ {F' H' : Hp}, BehIO fx.st F1 (upd (upd H1 dx (.own x)) x (.ins C dx [])) F' H' [x, dx] → Behind fx.st F1 H1 F' H' := fun b =>
    ⟨b.f, b.fh, fun a o e z => s2n a (b.fn a o e z), fun a o e n => b.h a o (s2 a o e) n fun z => (by rw [(ac a z).1] at e; cases e), fun a e => s2n a (b.hn a e), b.sto⟩
  refine ⟨fx.st, F1, msk fx H1, x, vs, .obj C [], [x, dx], as, _, _, rfl, .obj upd_same (by rw [upd_ne ne]; exact upd_same) .nil, trivial, ?_, fun b hb => ⟨?_, (ac b hb).2.2⟩, r1, c1.fm, msk_sub.trans s2, fun p e => ⟨by unfold msk; rw [if_pos e], (c1.sto p e).2.2.1.keep fun o h => s2 _ _ h⟩, q1, fun r v F' H' B o' Ac' b own rr _ qr => ?_, fun C' f F' H' o' Ac' b own xf => ?_⟩
  · exact List.nodup_cons.mpr ⟨fun z => ne (List.mem_singleton.mp z).symm, List.nodup_cons.mpr ⟨List.not_mem_nil, .nil⟩⟩
  · cases e : msk fx H1 b with
    | none => rfl
    | some u => have := msk_sub b u e; rw [(ac b hb).1] at this; cases this
  · obtain ⟨rfl, qr⟩ := qr
    cases rr.1
    refine ⟨rfl, ?_⟩
    have b1 := beh b
    obtain ⟨g2, c2⟩ := c1.behind b1
    have cn : ∀ a ∈ Ac', H1 a = none := fun a ha => by
      rcases own.wh a ha with z | z
      · exact (ac a z).1
      · exact s2n a z
    refine q (.ref x) (.new o') F' _ H' Ac' (g1.trans g2) c2 ⟨own.rep, own.nd, fun a ha => ⟨?_, own.ns a ha⟩⟩ (fun a ha => g1.hn a (cn a ha)) qr
    unfold join
    rw [own.nf a ha]
    exact (c1.new (cn a ha)).1
  · obtain ⟨g2, c2⟩ := c1.behind (beh b)
    exact xr F' _ H' σ S A C' f c2 xf
/-- o.m(..), the object only read -/
def wMethP (C : Addr) (m : Str) (fs : Fs) (ks : List Kd) (wo : WE) (wa : WA) : WE := fun xp S Q => wo xp S fun x => (match x.d with
  | .obj C' fl => C' = C ∧ fl.lookup m = none
  | _ => False) ∧ wa xp S fun xs => W.args (x :: xs) (.r :: ks) fun as => fs as (fun r => Q r.w) fun C f => xp C f S
theorem Snd.methP {C : Addr} {m : Str} {fs : Fs} {to : TE} {wo : WE} (ho : Snd K Wx to wo) (ha : SndA K Wx ta wa) : Snd K Wx (tMethSD C m (spP K fs) (fun σ cls d H => Wx cls d σ H) to ta) (wMethP C m fs ks wo wa) := fun fx xp F G H σ S A Qd Q xr c hw q => by
  refine ho fx xp F G H σ S A _ _ xr c hw fun v x F1 G1 H1 B g1 c1 r1 n1 ⟨hx, q1⟩ => ?_
  have nst : ∀ (_ : x = .sto), False := fun e => by rw [e] at hx; exact hx
  have rd := r1.rd c1 nst
  cases ed : x.d with
  | obj C' fl =>
    rw [ed] at hx rd
    obtain ⟨rfl, hl⟩ := hx
    cases rd with
    | obj h1 h2 =>
      refine ⟨_, _, _, rfl, h1, h2.lookupN hl, ?_⟩
      refine ha fx xp F1 G1 H1 σ S A _ _ xr c1 q1 fun vs xs F2 G2 H2 B2 g2 c2 r2 n2 q2 => ?_
      have rx := r1.grow c1 g2
      have rws : RepWs K fx F2 G2 H2 S A (_ :: vs) (B ++ B2) (x :: xs) := .cons rx r2 fun b hb z => by
        obtain ⟨u, e⟩ := r1.there c1 b hb
        rw [n2 b z] at e
        cases e
      have n12 : ∀ b ∈ B ++ B2, H b = none := fun b hb => by
        rcases List.mem_append.mp hb with hb | hb
        · exact n1 b hb
        · exact g1.hn b (n2 b hb)
      obtain ⟨g3, c3, nF⟩ := c.frz (g1.trans g2) c2 rws.news n12
      obtain ⟨as, h4, h5⟩ := rws.args c2 (fun b hb => frz_in hb) (sub_frz nF) q2
      have msks : Sub (msk fx H2) H2 := msk_sub
      refine ⟨fx.st, _, msk fx H2, as, _, _, h4, c3.fm, msks, fun p e => ⟨by unfold msk; rw [if_pos e], (c3.sto p e).2.2.1⟩, h5, fun r v F' H' B b rr qr => ?_, fun C f F' H' b xf => ?_⟩
      · obtain ⟨g4, c4⟩ := c3.behind b
        obtain ⟨r4, n4⟩ := rr.w c3
        exact q v r.w F' _ H' B (g3.trans g4) c4 r4 (fun b hb => g3.hn b (n4 b hb)) qr
      · obtain ⟨g4, c4⟩ := c3.behind b
        exact xr F' _ H' σ S A C f c4 xf
  | _ => rw [ed] at hx; exact hx.elim
end
section
variable {X : Cx} {Wx : WX} {fs : FsIO} {fp : Fs} {ks : List Kd} {e o : Expr} {es : List Expr} {ta : TA} {wa : WA} {to : TE} {wo : WE} {k : Nat} {f C : Addr} {fd : FuncData} {ps : List Str} {x m : Str} {p pos apos : Pos}
theorem pd_make (M : Mk X.K C f) (F : FnOk X.prog X.w X.K X.mg X.base (L2.CX X.prog X.w) k f fd ps (spIO X.K fs)) (hr : Room (k + 1) X.A) (hm : X.mg x = some (.ref C)) (hb : Binds X.K fd ps []) (tk : Takes X Wx) (ks : List Kd) (ha : AdD X Wx (e :: es) ta wa)
    (hg : Gl X x := by rfl) (hdb : (x == ("__debug__" : Str)) = false := by decide) (he : starEach (e :: es) X.env = (false, eval e X.env) :: starEach es X.env := by rfl) (hpl : (backTo pos (starEach es X.env)).any (·.1) = false := by rfl) :
    PdD X Wx (.Call (.Name x p) (e :: es) [] pos) (tMakeSD C (spIO X.K fs) (fun σ cls d H => Wx cls d σ H) ta) (wMake C fs ks wa) := ⟨pe_makeSD M F hr hg hm hb (fun σ => passAtE tk σ) ha.pa hdb he hpl, Snd.make ha.ok⟩
end
end DL

namespace DL
open PySem PySem.Spec PyProof.Rows L2

section
variable {K : PySem.W.Frag} {fx : Fx} {F G H F' G' H' : Hp} {σ : L2.St} {S : List Slot} {A : Nat → List Addr} {v : V} {B : List Addr} {x : W}
/-- behind a call that changed slot j -/
theorem Cons.behindIO {j : Nat} {a : Addr} {o o' : O} {Ac' : List Addr} (c : Cons K fx F G H σ S A) (e : S[j]? = some (.own a o)) (b : BehIO fx.st F H F' H' (A j)) (own : OwnIO K fx.st F' H H' (A j) a o' Ac') :
    Sub F F' ∧ Sub G (join F' G) ∧ Cons K fx F' (join F' G) H' σ (S.set j (.own a o')) (fun i => if i = j then Ac' else A i) := by
  have keep : ∀ p u, H p = some u → fx.st ≠ some p → p ∉ A j → H' p = some u := fun p u h1 h2 h3 => b.h p u h1 h2 h3
  have gk : ∀ p u, G p = some u → H' p = some u := fun p u h => keep p u (c.gh p u h) (fun z => by rw [(c.sto p z).1] at h; cases h) fun z => by rw [c.nf j p z] at h; cases h
  have sg : Sub G (join F' G) := fun p u h => by
    unfold join
    cases q : F' p with
    | none => exact h
    | some w =>
      have e1 := b.fh p w q
      rw [gk p u h] at e1
      exact e1.symm
  have sh : Sub (join F' G) H' := fun p u h => by
    unfold join at h
    cases q : F' p with
    | none => rw [q] at h; exact gk p u h
    | some w => rw [q] at h; rw [← h]; exact b.fh p w q
  have jn : ∀ p, F' p = none → G p = none → join F' G p = none := fun p h1 h2 => by unfold join; rw [h1]; exact h2
  have fA : ∀ {i : Nat} {p : Addr}, p ∈ A i → F' p = none := fun {i p} hp => by
    cases q : F' p with
    | none => rfl
    | some w =>
      obtain ⟨u, hu⟩ := c.ah i p hp
      rw [b.fn p w q (c.fnone (c.nf i p hp))] at hu
      cases hu
  have newA : ∀ {p : Addr}, H p = none → ∀ i, p ∉ A i := fun {p} h i => c.noA h i
  have hA : ∀ {i : Nat} {p : Addr}, i ≠ j → (p ∈ if i = j then Ac' else A i) → p ∈ A i := fun {i p} ne hp => by rw [if_neg ne] at hp; exact hp
  have hj : j < S.length := (List.getElem?_eq_some_iff.mp e).1
  refine ⟨b.f, sg, { len := by simp [c.len], fg := fun p u h => join_l h, gh := sh, sl := fun i s q => ?_, nod := fun i => ?_, dis := fun i k ne p hp hk => ?_, nf := fun i p hp => ?_, ah := fun i p hp => ?_, am := fun i p hp => ?_, sto := fun p ep => ?_, pres := fun p u h m => ?_, hn := fun p h => c.hn p (b.hn p h), f0 := c.f0.trans b.f, g0 := c.g0.trans sg, fnew := fun p u h z => ?_ }⟩
  · rcases gset q with ⟨rfl, rfl⟩ | ⟨ne, q⟩
    · refine ⟨(c.sl i _ e).1, ?_⟩
      simp only [if_pos]
      exact own.rep
    · have qq := c.sl i s q
      cases s with
      | no => trivial
      | dat d => obtain ⟨v, h1, h2⟩ := qq; exact ⟨v, h1, h2.mono b.f⟩
      | rdo d => obtain ⟨v, h1, h2⟩ := qq; exact ⟨v, h1, h2.mono sg⟩
      | own a2 o2 =>
        refine ⟨qq.1, ?_⟩
        simp only [if_neg ne]
        exact qq.2.mono b.f fun p hp u h => keep p u h (c.am_ne hp) (c.dis i j ne p hp)
      | sto => exact qq
      | seq ns => exact qq
      | exc a C d fs => exact ⟨qq.1, qq.2.1, fun dd e => by obtain ⟨vs, h2, h3⟩ := qq.2.2 dd e; exact ⟨vs, sg _ _ h2, h3.mono b.f⟩⟩
  · by_cases z : i = j
    · simp only [if_pos z]; exact own.nd
    · simp only [if_neg z]; exact c.nod i
  · by_cases z : i = j
    · rw [if_pos z] at hp
      have hk' := hA (fun z2 => ne (z.trans z2.symm)) hk
      rcases own.wh p hp with w | w
      · exact c.dis i k ne p (z ▸ w) hk'
      · exact newA w k hk'
    · have hp' := hA z hp
      by_cases z2 : k = j
      · rw [if_pos z2] at hk
        rcases own.wh p hk with w | w
        · exact c.dis i j z p hp' w
        · exact newA w i hp'
      · exact c.dis i k ne p hp' (hA z2 hk)
  · by_cases z : i = j
    · rw [if_pos z] at hp
      refine jn p (own.nf p hp) ?_
      rcases own.wh p hp with w | w
      · exact c.nf j p w
      · exact (c.new w).1
    · have hp' := hA z hp
      exact jn p (fA hp') (c.nf i p hp')
  · by_cases z : i = j
    · rw [if_pos z] at hp; exact own.rep.there p hp
    · have hp' := hA z hp
      obtain ⟨u, hu⟩ := c.ah i p hp'
      exact ⟨u, keep p u hu (c.am_ne hp') (c.dis i j z p hp')⟩
  · by_cases z : i = j
    · rw [if_pos z] at hp
      rcases own.wh p hp with w | w
      · rw [z]; exact c.am j p w
      · exact .inl (c.hn p w)
    · exact c.am i p (hA z hp)
  · refine ⟨jn p (b.sto p ep).1 (c.sto p ep).1, fun i hp => ?_, (b.sto p ep).2, (c.sto p ep).2.2.2⟩
    by_cases z : i = j
    · rw [if_pos z] at hp; exact own.ns p hp ep
    · exact (c.sto p ep).2.1 i (hA z hp)
  · refine keep p u (c.pres p u h m) (fun z => m (c.sto p z).2.2.2) fun z => ?_
    rcases c.am j p z with w | w
    · rw [w] at h; cases h
    · exact m w.1
  · cases q : F p with
    | none => exact c.hn p (b.fn p u h q)
    | some w => exact c.fnew p w q z
/-- the heap without the store and slot j -/
def mskA (fx : Fx) (Aj : List Addr) (H : Hp) : Hp := fun a => if fx.st = some a ∨ a ∈ Aj then none else H a
theorem mskA_sub {Aj : List Addr} : Sub (mskA fx Aj H) H := fun a o h => by
  unfold mskA at h
  split at h
  · cases h
  · exact h
theorem mskA_of {Aj : List Addr} {a : Addr} {u : HO} (h : H a = some u) (n : fx.st ≠ some a) (m : a ∉ Aj) : mskA fx Aj H a = some u := by
  unfold mskA
  rw [if_neg fun z => z.elim n m]
  exact h
theorem mskA_none {Aj : List Addr} {a : Addr} (h : fx.st = some a ∨ a ∈ Aj) : mskA fx Aj H a = none := by
  unfold mskA
  rw [if_pos h]
theorem Cons.gA (c : Cons K fx F G H σ S A) (j : Nat) : Sub G (mskA fx (A j) H) := fun a o h => mskA_of (c.gh a o h) (fun z => by rw [(c.sto a z).1] at h; cases h) fun z => by rw [c.nf j a z] at h; cases h
def W.off (x : W) (j : Nat) : Prop := match x with
  | .ref i _ _ => i ≠ j
  | .sto => False
  | _ => True
@[simp ↓] theorem eW_off_1 (d : DL.D) (j : Nat) : (W.dat d).off j = True := by first | rfl | exact propext Iff.rfl
@[simp ↓] theorem eW_off_2 (d : DL.D) (j : Nat) : (W.rdo d).off j = True := by first | rfl | exact propext Iff.rfl
@[simp ↓] theorem eW_off_3 (d : O) (j : Nat) : (W.new d).off j = True := by first | rfl | exact propext Iff.rfl
@[simp ↓] theorem eW_off_4 (i : Nat) (p : List Pk) (o : O) (j : Nat) : (W.ref i p o).off j = (i ≠ j) := by first | rfl | exact propext Iff.rfl
theorem RepW.readA {j : Nat} (c : Cons K fx F G H σ S A) (r : RepW K fx F G H S A v B x) (nB : ∀ b ∈ B, b ∉ A j) (o : x.off j) : Rep K (mskA fx (A j) H) v x.d := by
  cases x with
  | dat d => exact r.1.mono (c.fg.trans (c.gA j))
  | rdo d => exact r.1.mono (c.gA j)
  | new o => exact RepO.read (c.fg.trans (c.gA j)) (fun a ha u e => mskA_of e (r.2.2 a ha).2 (nB a ha)) r.1
  | ref i p o' =>
    obtain ⟨_, _, As, h, s⟩ := r
    exact RepO.read (c.fg.trans (c.gA j)) (fun a ha u e => mskA_of e (c.am_ne (s a ha)) (c.dis i j o a (s a ha))) h
  | sto => exact o.elim
@[simp ↓] def W.args2 (j : Nat) : List W → List Kd → (List Ag → Prop) → Prop
  | [], [], q => q []
  | x :: xs, k :: ks, q => (match k with
    | .s => True
    | _ => x.off j) ∧ x.arg k fun a => W.args2 j xs ks fun as => q (a :: as)
  | _, _, _ => False
theorem RepWs.args2 {j : Nat} : ∀ {vs : List V} {B : List Addr} {xs : List W} {ks : List Kd} {q : List Ag → Prop}, Cons K fx F G H σ S A → RepWs K fx F G H S A vs B xs → (∀ b ∈ B, b ∉ A j) → (∀ b ∈ B, F' b = H b) → Sub F F' → W.args2 j xs ks q → ∃ as, AgReps K fx.st F' (mskA fx (A j) H) vs as ∧ q as
  | _, _, _, [], _, _, .nil, _, _, _, h => ⟨[], .nil, h⟩
  | _, _, _, [], _, _, .cons _ _ _, _, _, _, h => h.elim
  | _, _, _, _ :: _, _, _, .nil, _, _, _, h => h.elim
  | _, _, _, k :: ks, q, c, .cons (v := v) (x := x) (xs := xs) r t n, nB, hB, f, h => by
    obtain ⟨ho, h'⟩ := h
    have go : ∀ {a : Ag}, AgRep K fx.st F' (mskA fx (A j) H) v a → (W.args2 j xs ks fun as => q (a :: as)) → ∃ as, AgReps K fx.st F' (mskA fx (A j) H) (v :: _) as ∧ q as := fun ra h2 => by
      obtain ⟨as, h3, h4⟩ := RepWs.args2 c t (fun b hb => nB b (List.mem_append_right _ hb)) (fun b hb => hB b (List.mem_append_right _ hb)) f h2
      exact ⟨_, .cons ra h3, h4⟩
    cases k with
    | d =>
      cases x with
      | dat d => exact go (a := .dat d) (r.1.mono f) h'
      | rdo d => exact go (a := .dat d) (r.1.scal h'.1) h'.2
      | new o => exact go (a := .dat o.d) (r.1.read f fun b hb u e => by rw [hB b (List.mem_append_left _ hb)]; exact e) h'
      | ref i p o => exact h'.elim
      | sto => exact h'.elim
    | r =>
      obtain ⟨nx, h'⟩ := W.dd_of (x := x) (k := fun d => W.args2 j xs ks fun as => q (Ag.rdo d :: as)) h'
      exact go (a := .rdo x.d) (r.readA c (fun b hb => nB b (List.mem_append_left _ hb)) ho) h'
    | s =>
      cases x with
      | sto => exact go (a := .sto) r.2 h'
      | _ => exact h'.elim

/-! ## values that change slots -/
abbrev WM := Xp → List Slot → (W → List Slot → Prop) → Prop
abbrev WTM := Xp → List Slot → (Bool → List Slot → Prop) → Prop
def SndM (K : PySem.W.Frag) (Wx : WX) (t : TE) (w : WM) : Prop := ∀ (fx : Fx) (xp : Xp) F G H σ S A Qd (Q : VK), XRel K fx Wx xp → Cons K fx F G H σ S A → w xp S Qd →
    (∀ v x F' G' H' B S' A', Sub F F' → Sub G G' → Cons K fx F' G' H' σ S' A' → RepW K fx F' G' H' S' A' v B x → (∀ b ∈ B, fx.H0 b = none) → (∀ j, ∀ b ∈ B, b ∉ A' j) → Qd x S' → Q v H') → t σ H Q
def SndTM (K : PySem.W.Frag) (Wx : WX) (t : TT) (w : WTM) : Prop := ∀ (fx : Fx) (xp : Xp) F G H σ S A Qd (Q : Bool → Hp → Prop), XRel K fx Wx xp → Cons K fx F G H σ S A → w xp S Qd →
    (∀ b F' G' H' S' A', Sub F F' → Sub G G' → Cons K fx F' G' H' σ S' A' → Qd b S' → Q b H') → t σ H Q
variable {Wx : WX} {ta : TA} {wa : WA} {fs : FsIO} {ks : List Kd} {te : TE} {we : WE} {wm : WM} {t u : TT} {wt wu : WT} {mt mu : WTM}
@[simp ↓] def mPure (we : WE) : WM := fun xp S Q => we xp S fun x => Q x S
@[simp ↓] def mPureT (wt : WT) : WTM := fun xp S Q => wt xp S fun b => Q b S
theorem SndM.pure (h : Snd K Wx te we) : SndM K Wx te (mPure we) := fun fx xp F G H σ S A Qd Q xr c hw q =>
  h fx xp F G H σ S A _ _ xr c hw fun v x F1 G1 H1 B g1 c1 r1 n1 q1 => q v x F1 G1 H1 B S A g1.f g1.g c1 r1 (fun b hb => c.hn b (n1 b hb)) (fun j b hb => c.noA (n1 b hb) j) q1
theorem SndTM.pure (h : SndT K Wx t wt) : SndTM K Wx t (mPureT wt) := fun fx xp F G H σ S A Qd Q xr c hw q =>
  h fx xp F G H σ S A _ _ xr c hw fun b F1 G1 H1 g1 c1 q1 => q b F1 G1 H1 S A g1.f g1.g c1 q1
/-- the call, its first argument slot j -/
@[simp ↓] def ioCall (fs : FsIO) (ks : List Kd) (xp : Xp) (S : List Slot) (Q : W → List Slot → Prop) (x : W) (xs : List W) : Prop := match x with
  | .ref j [] o => (match gt S j with
    | .own a _ => rooted o ∧ W.args2 j xs ks fun as => fs o as (fun r o' => Q r.w (S.set j (.own a o'))) fun C f o' => xp C f (S.set j (.own a o'))
    | _ => False)
  | _ => False
theorem io_call {fxx : Fx} {xp : Xp} {F G H F1 G1 H1 : Hp} {vs : List V} {xs : List W} {Qd : W → List Slot → Prop} {Q : VK} (xr : XRel K fx Wx xp) (c : Cons K fx F G H σ S A) (g1 : Grow fx F G H F1 G1 H1) (c1 : Cons K fx F1 G1 H1 σ S A)
    (r0 : RepW K fx F1 G1 H1 S A v [] x) (rs : RepWs K fx F1 G1 H1 S A vs B xs) (n1 : ∀ b ∈ B, H b = none) (hw : ioCall fs ks xp S Qd x xs)
    (q : ∀ v x F' G' H' B S' A', Sub F F' → Sub G G' → Cons K fx F' G' H' σ S' A' → RepW K fx F' G' H' S' A' v B x → (∀ b ∈ B, fx.H0 b = none) → (∀ j, ∀ b ∈ B, b ∉ A' j) → Qd x S' → Q v H') : spIO K fs (v :: vs) H1 Q (fun cls d H => Wx cls d σ H) := by
  cases x with
  | ref j p o =>
    cases p with
    | cons _ _ => exact hw.elim
    | nil =>
      have hw' : (match gt S j with
        | .own a _ => rooted o ∧ W.args2 j xs ks fun as => fs o as (fun r o' => Qd r.w (S.set j (.own a o'))) fun C f o' => xp C f (S.set j (.own a o'))
        | _ => False) := hw
      split at hw'
      · rename_i a o1 e1
        obtain ⟨rt, hw'⟩ := hw'
        obtain ⟨_, ⟨a', o0, e2, hn⟩, _⟩ := r0
        have e3 := gt_some e1 (by simp)
        rw [e3] at e2
        cases e2
        cases hn
        obtain ⟨g2, c2, nF⟩ := c.frz g1 c1 rs.news n1
        obtain ⟨as, h4, h5⟩ := rs.args2 c1 (fun b hb => c.noA (n1 b hb) j) (fun b hb => frz_in hb) (sub_frz nF) hw'
        refine ⟨fx.st, _, mskA fx (A j) H1, a, vs, o, A j, as, _, _, rfl, (c2.sl j _ e3).2, rt, c2.nod j, fun b hb => ⟨mskA_none (.inr hb), c2.am_ne hb⟩, h4, c2.fg.trans (c2.gA j), mskA_sub, fun p e => ⟨mskA_none (.inl e), (c2.sto p e).2.2.1⟩, h5, fun r w F' H' B' o' Ac' b own rr dj qr => ?_, fun C f F' H' o' Ac' b own xf => ?_⟩
        · obtain ⟨s1, s2, c3⟩ := c2.behindIO e3 b own
          have key : RepW K fx F' (join F' (DL.frz G1 H1 B)) H' (S.set j (.own a o')) (fun i => if i = j then Ac' else A i) w B' r.w ∧ (∀ b ∈ B', H1 b = none) := by
            cases r with
            | dat d => exact ⟨rr, fun b hb => by rw [rr.2] at hb; cases hb⟩
            | new o2 =>
              refine ⟨⟨rr.1, rr.2.1, fun b hb => ⟨?_, (rr.2.2 b hb).2.2⟩⟩, fun b hb => (rr.2.2 b hb).1⟩
              unfold join
              rw [(rr.2.2 b hb).2.1]
              exact (c2.new (rr.2.2 b hb).1).1
          refine q w r.w F' _ H' B' _ _ (g2.f.trans s1) (g2.g.trans s2) c3 key.1 (fun b hb => c.hn b (g2.hn b (key.2 b hb))) (fun i b hb => ?_) qr
          by_cases z : i = j
          · simp only [if_pos z]; exact dj b hb
          · simp only [if_neg z]; exact c2.noA (key.2 b hb) i
        · obtain ⟨s1, s2, c3⟩ := c2.behindIO e3 b own
          exact xr F' _ H' σ _ _ C f c3 xf
      · exact hw'.elim
  | _ => exact hw.elim
/-- f(x, ..), x changed -/
@[simp ↓] def wCallIO (fs : FsIO) (ks : List Kd) (wa : WA) : WM := fun xp S Q => wa xp S fun xs => match xs with
  | x :: xs => ioCall fs ks xp S Q x xs
  | [] => False
theorem ioCall_ref {xp : Xp} {Q : W → List Slot → Prop} {xs : List W} (h : ioCall fs ks xp S Q x xs) : ∃ j o, x = .ref j [] o := by
  cases x with
  | ref j p o =>
    cases p with
    | nil => exact ⟨j, o, rfl⟩
    | cons _ _ => exact h.elim
  | _ => exact h.elim
theorem SndM.callIO (ha : SndA K Wx ta wa) : SndM K Wx (tCallSD (spIO K fs) [] (fun σ cls d H => Wx cls d σ H) ta) (wCallIO fs ks wa) := fun fx xp F G H σ S A Qd Q xr c hw q => by
  refine ha fx xp F G H σ S A _ _ xr c hw fun vs xs F1 G1 H1 B g1 c1 r1 n1 q1 => ?_
  rw [List.append_nil]
  cases r1 with
  | nil => exact q1.elim
  | cons r t n =>
    obtain ⟨j, o, rfl⟩ := ioCall_ref q1
    obtain ⟨rfl, _⟩ := id r
    exact io_call (fxx := fx) xr c g1 c1 r t (fun b hb => n1 b (List.mem_append_right _ hb)) q1 q
/-- o.m(..), o changed -/
@[simp ↓] def wMethIO (C : Addr) (m : Str) (fs : FsIO) (ks : List Kd) (wo : WE) (wa : WA) : WM := fun xp S Q => wo xp S fun x => (match x with
  | .ref _ [] (.obj C' fl) => C' = C ∧ fl.lookup m = none
  | _ => False) ∧ wa xp S fun xs => ioCall fs ks xp S Q x xs
theorem RepOf.lookupN {f : Str} : ∀ {vs : List (Str × V)} {os : List (Str × O)} {As : List Addr}, RepOf K F H vs os As → os.lookup f = none → vs.lookup f = none
  | _, _, _, .nil, _ => rfl
  | _, _, _, .cons (f := g) r t, e => by
    rw [List.lookup_cons] at e ⊢
    cases q : (f == g) with
    | true => rw [q] at e; simp at e
    | false => rw [q] at e; simpa using RepOf.lookupN t (by simpa using e)
theorem SndM.methIO {C : Addr} {m : Str} {to : TE} {wo : WE} (ho : Snd K Wx to wo) (ha : SndA K Wx ta wa) : SndM K Wx (tMethSD C m (spIO K fs) (fun σ cls d H => Wx cls d σ H) to ta) (wMethIO C m fs ks wo wa) := fun fx xp F G H σ S A Qd Q xr c hw q => by
  refine ho fx xp F G H σ S A _ _ xr c hw fun v x F1 G1 H1 B g1 c1 r1 n1 ⟨hx, q1⟩ => ?_
  cases x with
  | ref j p o =>
    cases p with
    | cons _ _ => exact hx.elim
    | nil =>
      cases o with
      | obj C' fl =>
        obtain ⟨rfl, hl⟩ := hx
        obtain ⟨rfl, nn, As, ro, ss⟩ := id r1
        cases ro with
        | obj h1 h2 h3 =>
          refine ⟨_, _, _, rfl, h1, h3.lookupN hl, ?_⟩
          refine ha fx xp F1 G1 H1 σ S A _ _ xr c1 q1 fun vs xs F2 G2 H2 B2 g2 c2 r2 n2 q2 => ?_
          exact io_call (fxx := fx) xr c (g1.trans g2) c2 (r1.grow c1 g2) r2 (fun b hb => g1.hn b (n2 b hb)) q2 q
      | _ => exact hx.elim
  | _ => exact hx.elim
end
end DL

namespace DL
open PySem PySem.Spec PyProof.Rows L2
section
variable {K : PySem.W.Frag} {fx : Fx} {F G H F' G' H' : Hp} {σ : L2.St} {S : List Slot} {A : Nat → List Addr} {v : V} {B : List Addr} {x : W}
variable {Wx : WX} {ta : TA} {wa : WA} {fs : Fs} {ks : List Kd} {te tf : TE} {we : WE} {wm wn : WM} {t u : TT} {mt mu : WTM}
@[simp ↓] def mTru (wm : WM) : WTM := fun xp S Q => wm xp S fun x S' => x.dd fun d => gTru d fun b => Q b S'
theorem gTru_ok {d : D} {k : Bool → Prop} (r : Rep K H v d) (h : gTru d k) : ∃ b, TruV K v H b ∧ k b := by
  cases r with
  | non => exact ⟨_, rfl, h⟩
  | bl b => exact ⟨_, rfl, h⟩
  | int i => exact ⟨_, rfl, h⟩
  | str s => exact ⟨_, ⟨h.1, rfl⟩, h.2⟩
  | lst h1 h2 => exact ⟨_, .inl ⟨_, ql h1, rfl⟩, by rw [isEmpty_reps h2]; exact h⟩
  | tup h1 h2 => exact ⟨_, .inr (.inl ⟨_, qt h1, rfl⟩), by rw [isEmpty_reps h2]; exact h⟩
  | obj _ _ => exact h.elim
  | dic h1 h2 => exact ⟨_, .inr (.inr ⟨_, h1, rfl⟩), by rw [isEmpty_repk h2]; exact h⟩
  | dit _ _ => exact h.elim
  | raw _ => exact h.elim
theorem SndM.tru (ha : SndM K Wx te wm) : SndTM K Wx (fun σ H Q => te σ H fun x H' => ∃ k, TruV K x H' k ∧ Q k H') (mTru wm) := fun fx xp F G H σ S A Qd Q xr c hw q => by
  refine ha fx xp F G H σ S A _ _ xr c hw fun v x F1 G1 H1 B S1 A1 f1 g1 c1 r1 n1 m1 q1 => ?_
  obtain ⟨nx, hq⟩ := W.dd_of q1
  obtain ⟨b, h1, h2⟩ := gTru_ok (r1.rd c1 nx) hq
  exact ⟨b, h1, q b F1 G1 H1 S1 A1 f1 g1 c1 h2⟩
@[simp ↓] def mAnd (wt wu : WTM) : WTM := fun xp S Q => wt xp S fun b S' => if b = true then wu xp S' Q else Q false S'
@[simp ↓] def mOr (wt wu : WTM) : WTM := fun xp S Q => wt xp S fun b S' => if b = true then Q true S' else wu xp S' Q
@[simp ↓] def mNot (wt : WTM) : WTM := fun xp S Q => wt xp S fun b S' => Q (!b) S'
theorem SndTM.and (h1 : SndTM K Wx t mt) (h2 : SndTM K Wx u mu) : SndTM K Wx (tAnd t u) (mAnd mt mu) := fun fx xp F G H σ S A Qd Q xr c hw q => by
  refine h1 fx xp F G H σ S A _ _ xr c hw fun b F1 G1 H1 S1 A1 f1 g1 c1 q1 => ?_
  cases b with
  | true => exact h2 fx xp F1 G1 H1 σ S1 A1 _ _ xr c1 q1 fun b F2 G2 H2 S2 A2 f2 g2 c2 q2 => q b F2 G2 H2 S2 A2 (f1.trans f2) (g1.trans g2) c2 q2
  | false => exact q false F1 G1 H1 S1 A1 f1 g1 c1 q1
theorem SndTM.or (h1 : SndTM K Wx t mt) (h2 : SndTM K Wx u mu) : SndTM K Wx (tOr t u) (mOr mt mu) := fun fx xp F G H σ S A Qd Q xr c hw q => by
  refine h1 fx xp F G H σ S A _ _ xr c hw fun b F1 G1 H1 S1 A1 f1 g1 c1 q1 => ?_
  cases b with
  | false => exact h2 fx xp F1 G1 H1 σ S1 A1 _ _ xr c1 q1 fun b F2 G2 H2 S2 A2 f2 g2 c2 q2 => q b F2 G2 H2 S2 A2 (f1.trans f2) (g1.trans g2) c2 q2
  | true => exact q true F1 G1 H1 S1 A1 f1 g1 c1 q1
theorem SndTM.not (h1 : SndTM K Wx t mt) : SndTM K Wx (tNot t) (mNot mt) := fun fx xp F G H σ S A Qd Q xr c hw q =>
  h1 fx xp F G H σ S A _ _ xr c hw fun b F1 G1 H1 S1 A1 f1 g1 c1 q1 => q _ F1 G1 H1 S1 A1 f1 g1 c1 q1
@[simp ↓] def mAndV (wm wn : WM) : WM := fun xp S Q => wm xp S fun x S' => match x with
  | .dat (.bl b) => if b = true then wn xp S' Q else Q (.dat (.bl false)) S'
  | _ => False
@[simp ↓] def mOrV (wm wn : WM) : WM := fun xp S Q => wm xp S fun x S' => match x with
  | .dat (.bl b) => if b = true then Q (.dat (.bl true)) S' else wn xp S' Q
  | _ => False
theorem SndM.andV (ha : SndM K Wx te wm) (hb : SndM K Wx tf wn) : SndM K Wx (tAndV te tf) (mAndV wm wn) := fun fx xp F G H σ S A Qd Q xr c hw q => by
  refine ha fx xp F G H σ S A _ _ xr c hw fun v x F1 G1 H1 B S1 A1 f1 g1 c1 r1 n1 m1 q1 => ?_
  cases x with
  | dat d =>
    cases d with
    | bl b =>
      cases r1.1
      refine ⟨b, rfl, ?_⟩
      cases b with
      | true => exact hb fx xp F1 G1 H1 σ S1 A1 _ _ xr c1 q1 fun v x F2 G2 H2 B S2 A2 f2 g2 c2 r2 n2 m2 q2 => q v x F2 G2 H2 B S2 A2 (f1.trans f2) (g1.trans g2) c2 r2 n2 m2 q2
      | false => exact q _ (.dat (.bl false)) F1 G1 H1 [] S1 A1 f1 g1 c1 ⟨.bl _, rfl⟩ (fun _ z => by cases z) (fun _ _ z => by cases z) q1
    | _ => exact q1.elim
  | _ => exact q1.elim
theorem SndM.orV (ha : SndM K Wx te wm) (hb : SndM K Wx tf wn) : SndM K Wx (tOrV te tf) (mOrV wm wn) := fun fx xp F G H σ S A Qd Q xr c hw q => by
  refine ha fx xp F G H σ S A _ _ xr c hw fun v x F1 G1 H1 B S1 A1 f1 g1 c1 r1 n1 m1 q1 => ?_
  cases x with
  | dat d =>
    cases d with
    | bl b =>
      cases r1.1
      refine ⟨b, rfl, ?_⟩
      cases b with
      | false => exact hb fx xp F1 G1 H1 σ S1 A1 _ _ xr c1 q1 fun v x F2 G2 H2 B S2 A2 f2 g2 c2 r2 n2 m2 q2 => q v x F2 G2 H2 B S2 A2 (f1.trans f2) (g1.trans g2) c2 r2 n2 m2 q2
      | true => exact q _ (.dat (.bl true)) F1 G1 H1 [] S1 A1 f1 g1 c1 ⟨.bl _, rfl⟩ (fun _ z => by cases z) (fun _ _ z => by cases z) q1
    | _ => exact q1.elim
  | _ => exact q1.elim
/-- f(m, ..), m a value that changes slots -/
@[simp ↓] def mCall (fs : Fs) (ks : List Kd) (wm : WM) (wa : WA) : WM := fun xp S Q => wm xp S fun x S' => wa xp S' fun xs => W.args (x :: xs) ks fun as => fs as (fun r => Q r.w S') fun C f => xp C f S'
theorem SndM.call (hm : SndM K Wx te wm) (ha : SndA K Wx ta wa) : SndM K Wx (tCallSD (spP K fs) [] (fun σ cls d H => Wx cls d σ H) (tCons te ta)) (mCall fs ks wm wa) := fun fx xp F G H σ S A Qd Q xr c hw q => by
  refine hm fx xp F G H σ S A _ _ xr c hw fun v x F1 G1 H1 B1 S1 A1 f1 g1 c1 r1 n1 m1 q1 => ?_
  refine ha fx xp F1 G1 H1 σ S1 A1 _ _ xr c1 q1 fun vs xs F2 G2 H2 B2 g2 c2 r2 n2 q2 => ?_
  show spP K fs ((v :: vs) ++ []) H2 Q _
  rw [List.append_nil]
  have rws : RepWs K fx F2 G2 H2 S1 A1 (v :: vs) (B1 ++ B2) (x :: xs) := .cons (r1.grow c1 g2) r2 fun b hb z => by
    obtain ⟨u, e⟩ := r1.there c1 b hb
    rw [n2 b z] at e
    cases e
  have nw := rws.news
  have n0 : ∀ b ∈ B1 ++ B2, fx.H0 b = none ∧ ∀ i, b ∉ A1 i := fun b hb => by
    rcases List.mem_append.mp hb with hb | hb
    · exact ⟨n1 b hb, fun i => m1 i b hb⟩
    · exact ⟨c1.hn b (n2 b hb), fun i => c1.noA (n2 b hb) i⟩
  have nF : ∀ b ∈ B1 ++ B2, F2 b = none := fun b hb => c2.fnone (nw b hb).1
  have c3 := c2.freeze (B := B1 ++ B2) fun b hb => ⟨(nw b hb).1, (nw b hb).2, (n0 b hb).1, (n0 b hb).2⟩
  obtain ⟨as, h4, h5⟩ := rws.args c2 (fun b hb => frz_in hb) (sub_frz nF) q2
  have msks : Sub (msk fx H2) H2 := msk_sub
  have sF : Sub F (DL.frz F2 H2 (B1 ++ B2)) := f1.trans (g2.f.trans (sub_frz nF))
  have sG : Sub G (DL.frz G2 H2 (B1 ++ B2)) := g1.trans (g2.g.trans (sub_frz fun b hb => (nw b hb).1))
  refine ⟨fx.st, _, msk fx H2, as, _, _, h4, c3.fm, msks, fun p e => ⟨by unfold msk; rw [if_pos e], (c3.sto p e).2.2.1⟩, h5, fun r v F' H' B b rr qr => ?_, fun C f F' H' b xf => ?_⟩
  · obtain ⟨g4, c4⟩ := c3.behind b
    obtain ⟨r4, n4⟩ := rr.w c3
    exact q v r.w F' _ H' B S1 A1 (sF.trans g4.f) (sG.trans g4.g) c4 r4 (fun b hb => c3.hn b (n4 b hb)) (fun i b hb => c3.noA (n4 b hb) i) qr
  · obtain ⟨g4, c4⟩ := c3.behind b
    exact xr F' _ H' σ S1 A1 C f c4 xf
/-! statements -/
variable {t1 t2 : TS} {w1 w2 : WS}
@[simp ↓] def mIf (mt : WTM) (w1 w2 : WS) : WS := fun xp P S => mt xp S fun b S' => if b = true then w1 xp P S' else w2 xp P S'
theorem SndS.mifs (hc : SndTM K Wx t mt) (h1 : SndS K Wx t1 w1) (h2 : SndS K Wx t2 w2) : SndS K Wx (tIfS t t1 t2) (mIf mt w1 w2) := fun fx xp F G H σ S A P D xr c r hw => by
  refine hc fx xp F G H σ S A _ _ xr c hw fun b F1 G1 H1 S1 A1 f1 g1 c1 q1 => ?_
  cases b with
  | true => exact h1 fx xp F1 G1 H1 σ S1 A1 P D xr c1 (r.mono f1 g1) q1
  | false => exact h2 fx xp F1 G1 H1 σ S1 A1 P D xr c1 (r.mono f1 g1) q1
@[simp ↓] def mAsg (wm : WM) (wg : WG) : WS := fun xp P S => wm xp S fun x S' => wg x S' P.nx
theorem SndS.masg {g : TG} {wg : WG} (he : SndM K Wx te wm) (hg : SndG K g wg) : SndS K Wx (tAsg te g) (mAsg wm wg) := fun fx xp F G H σ S A P D xr c r hw => by
  refine he fx xp F G H σ S A _ _ xr c hw fun v x F1 G1 H1 B S1 A1 f1 g1 c1 r1 n1 m1 q1 => ?_
  exact hg fx F1 G1 H1 σ S1 A1 v x B _ _ c1 r1 n1 m1 q1 fun σ' S' A' c' z => r.nx σ' F1 G1 H1 S' A' f1 g1 c' z
@[simp ↓] def mDrop (wm : WM) : WS := fun xp P S => wm xp S fun _ S' => P.nx S'
theorem SndS.mdrop (he : SndM K Wx te wm) : SndS K Wx (tDrop te) (mDrop wm) := fun fx xp F G H σ S A P D xr c r hw =>
  he fx xp F G H σ S A _ _ xr c hw fun v x F1 G1 H1 B S1 A1 f1 g1 c1 r1 n1 m1 q1 => r.nx σ F1 G1 H1 S1 A1 f1 g1 c1 q1
@[simp ↓] def mRet (wm : WM) : WS := fun xp P S => wm xp S fun x S' => P.rt x S'
theorem SndS.mret (he : SndM K Wx te wm) : SndS K Wx (tRet te) (mRet wm) := fun fx xp F G H σ S A P D xr c r hw =>
  he fx xp F G H σ S A _ _ xr c hw fun v x F1 G1 H1 B S1 A1 f1 g1 c1 r1 n1 m1 q1 => r.rt v x B σ F1 G1 H1 S1 A1 f1 g1 c1 r1 n1 m1 q1
end
structure PmD (X : Cx) (Wx : WX) (e : Expr) (t : TE) (w : WM) : Prop where
  pe : PE X e t
  ok : SndM X.K Wx t w
structure TmD (X : Cx) (Wx : WX) (e : Expr) (t : TT) (w : WTM) : Prop where
  pt : PT X e t
  ok : SndTM X.K Wx t w
structure BmD (X : Cx) (Wx : WX) (e : Expr) (t : TT) (w : WTM) : Prop where
  pw : PW X e t
  ok : SndTM X.K Wx t w
section
variable {X : Cx} {Wx : WX} {fs : FsIO} {fp : Fs} {ks : List Kd} {a b e o : Expr} {es rest : List Expr} {ta : TA} {wa : WA} {to te tf : TE} {wo we : WE} {wm wn : WM} {t u : TT} {wt : WT} {mt mu : WTM} {k : Nat} {f C : Addr} {fd : FuncData} {ps : List Str} {x m : Str} {p pos apos : Pos} {t1 t2 : TS} {w1 w2 : WS}
theorem pm_pure (h : PdD X Wx e te we) : PmD X Wx e te (mPure we) := ⟨h.pe, SndM.pure h.ok⟩
theorem tm_pure (h : TdD X Wx e t wt) : TmD X Wx e t (mPureT wt) := ⟨h.pt, SndTM.pure h.ok⟩
theorem tm_tru (ha : PmD X Wx a te wm) (he : ∀ whole, isTrue a X.env whole = (do let v ← whole; standAt a.pos; holding [v] (truthy v)) := by intro _; rfl) : TmD X Wx a (fun σ H Q => te σ H fun x H' => ∃ k, TruV X.K x H' k ∧ Q k H') (mTru wm) := ⟨pt_truth ha.pe he, SndM.tru ha.ok⟩
theorem bm_and1 (ha : TmD X Wx a t mt) : BmD X Wx (.BoolOp .And [a] pos) t mt := ⟨pw_and1 ha.pt, ha.ok⟩
theorem bm_or1 (ha : TmD X Wx a t mt) : BmD X Wx (.BoolOp .Or [a] pos) t mt := ⟨pw_or1 ha.pt, ha.ok⟩
theorem bm_and (ha : TmD X Wx a t mt) (hb : BmD X Wx (.BoolOp .And (b :: rest) pos) u mu) : BmD X Wx (.BoolOp .And (a :: b :: rest) pos) (tAnd t u) (mAnd mt mu) := ⟨pw_and ha.pt hb.pw, SndTM.and ha.ok hb.ok⟩
theorem bm_or (ha : TmD X Wx a t mt) (hb : BmD X Wx (.BoolOp .Or (b :: rest) pos) u mu) : BmD X Wx (.BoolOp .Or (a :: b :: rest) pos) (tOr t u) (mOr mt mu) := ⟨pw_or ha.pt hb.pw, SndTM.or ha.ok hb.ok⟩
theorem BmD.tm (h : BmD X Wx a t mt) : TmD X Wx a t mt := ⟨h.pw.pt, h.ok⟩
theorem tm_not (ha : TmD X Wx a t mt) : TmD X Wx (.UnaryOp .Not a pos) (tNot t) (mNot mt) := ⟨pt_not ha.pt, SndTM.not ha.ok⟩
theorem pm_one {op} (ha : PmD X Wx a te wm) : PmD X Wx (.BoolOp op [a] pos) te wm := ⟨pe_one ha.pe, ha.ok⟩
theorem pm_and (ha : PmD X Wx a te wm) (hb : PmD X Wx (.BoolOp .And (b :: rest) pos) tf wn) : PmD X Wx (.BoolOp .And (a :: b :: rest) pos) (tAndV te tf) (mAndV wm wn) := ⟨pe_and ha.pe hb.pe, SndM.andV ha.ok hb.ok⟩
theorem pm_or (ha : PmD X Wx a te wm) (hb : PmD X Wx (.BoolOp .Or (b :: rest) pos) tf wn) : PmD X Wx (.BoolOp .Or (a :: b :: rest) pos) (tOrV te tf) (mOrV wm wn) := ⟨pe_or ha.pe hb.pe, SndM.orV ha.ok hb.ok⟩
theorem pm_callIO (F : FnOk X.prog X.w X.K X.mg X.base (L2.CX X.prog X.w) k f fd ps (spIO X.K fs)) (hr : Room k X.A) (hm : X.mg x = some (.ref f)) (hk : PySem.W.keepIn X.K (.ref f) = true) (hb : Binds X.K fd ps []) (tk : Takes X Wx) (ks : List Kd) (ha : AdD X Wx (e :: es) ta wa)
    (hg : Gl X x := by rfl) (hdb : (x == ("__debug__" : Str)) = false := by decide) (he : starEach (e :: es) X.env = (false, eval e X.env) :: starEach es X.env := by rfl) (hpl : (backTo pos (starEach es X.env)).any (·.1) = false := by rfl) :
    PmD X Wx (.Call (.Name x p) (e :: es) [] pos) (tCallSD (spIO X.K fs) [] (fun σ cls d H => Wx cls d σ H) ta) (wCallIO fs ks wa) := ⟨pe_callSD F hr hg hm hk hb .nil (fun σ => passAtE tk σ) ha.pa hdb he hpl, SndM.callIO ha.ok⟩
theorem pm_call (F : FnOk X.prog X.w X.K X.mg X.base (L2.CX X.prog X.w) k f fd ps (spP X.K fp)) (hr : Room k X.A) (hm : X.mg x = some (.ref f)) (hk : PySem.W.keepIn X.K (.ref f) = true) (hb : Binds X.K fd ps []) (tk : Takes X Wx) (ks : List Kd) (h1 : PmD X Wx e te wm) (ha : AdD X Wx es ta wa)
    (hg : Gl X x := by rfl) (hdb : (x == ("__debug__" : Str)) = false := by decide) (he : starEach (e :: es) X.env = (false, eval e X.env) :: starEach es X.env := by rfl) (hpl : (backTo pos (starEach es X.env)).any (·.1) = false := by rfl) :
    PmD X Wx (.Call (.Name x p) (e :: es) [] pos) (tCallSD (spP X.K fp) [] (fun σ cls d H => Wx cls d σ H) (tCons te ta)) (mCall fp ks wm wa) := ⟨pe_callSD F hr hg hm hk hb .nil (fun σ => passAtE tk σ) (pa_cons h1.pe ha.pa he) hdb he hpl, SndM.call h1.ok ha.ok⟩
theorem pm_meth {pl : Sem Bool} (c : Cls X.K C) (hm : Meth X.K C m f) (F : FnOk X.prog X.w X.K X.mg X.base (L2.CX X.prog X.w) k f fd ps (spIO X.K fs)) (hr : Room k X.A) (hb : Binds X.K fd ps []) (tk : Takes X Wx) (ks : List Kd) (ho : PdD X Wx o to wo) (ha : AdD X Wx (e :: es) ta wa)
    (hst : starEach (e :: es) X.env = (false, eval e X.env) :: starEach es X.env := by rfl) (hpl : (backTo pos (starEach es X.env)).any (·.1) = false := by rfl)
    (ht : eval (.Call (.Attribute o m apos) (e :: es) [] pos) X.env = (do
      let ov ← eval o X.env
      standAt apos.atName
      let (f, first) ← holding [ov] (getMethod ov m pl)
      callWith pos f first (backTo pos (starEach (e :: es) X.env)) (backToKw pos (keywordEach [] X.env))) := by rfl) :
    PmD X Wx (.Call (.Attribute o m apos) (e :: es) [] pos) (tMethSD C m (spIO X.K fs) (fun σ cls d H => Wx cls d σ H) to ta) (wMethIO C m fs ks wo wa) := ⟨pe_methSD (pl := pl) ho.pe c hm F hr hb (fun σ => passAtE tk σ) ha.pa hst hpl ht, SndM.methIO ho.ok ha.ok⟩
theorem pm_meth0 {pl : Sem Bool} (c : Cls X.K C) (hm : Meth X.K C m f) (F : FnOk X.prog X.w X.K X.mg X.base (L2.CX X.prog X.w) k f fd ps (spIO X.K fs)) (hr : Room k X.A) (hb : Binds X.K fd ps []) (tk : Takes X Wx) (ho : PdD X Wx o to wo)
    (ht : eval (.Call (.Attribute o m apos) [] [] pos) X.env = (do
      let ov ← eval o X.env
      standAt apos.atName
      let (f, first) ← holding [ov] (getMethod ov m pl)
      callWith pos f first (backTo pos (starEach [] X.env)) (backToKw pos (keywordEach [] X.env))) := by rfl) :
    PmD X Wx (.Call (.Attribute o m apos) [] [] pos) (tMethSD C m (spIO X.K fs) (fun σ cls d H => Wx cls d σ H) to tNil) (wMethIO C m fs [] wo wNil) := ⟨pe_methSD0 (pl := pl) ho.pe c hm F hr hb (fun σ => passAtE tk σ) ht, SndM.methIO ho.ok SndA.nil⟩
theorem sm_if {c : Expr} {sa sb : List Stmt} (hc : TmD X Wx c t mt) (ha : BkD X Wx sa t1 w1) (hb : BkD X Wx sb t2 w2) : PsD X Wx (.If c sa sb pos) (tIfS t t1 t2) (mIf mt w1 w2) := ⟨ps_if hc.pt ha.ps hb.ps, SndS.mifs hc.ok ha.ok hb.ok⟩
theorem sm_asg {tg : Expr} {g : TG} {wg : WG} (he : PmD X Wx e te wm) (hg : GdD X tg g wg) (hs : swapsWithSole [tg] e pos.line X.env = pure false := by rfl) (hw : swappedStores [tg] e X.env = pure none := by rfl) (h1 : (assignEach [tg] X.env).map (·.2) = [assign tg X.env] := by rfl) : PsD X Wx (.Assign [tg] e pos) (tAsg te g) (mAsg wm wg) := ⟨ps_asg he.pe hg.pg hs hw h1, SndS.masg he.ok hg.ok⟩
theorem sm_drop (he : PmD X Wx e te wm) (hs : swapsWith e none pos.line X.env = pure false := by rfl) : PsD X Wx (.Expr e pos) (tDrop te) (mDrop wm) := ⟨ps_expr he.pe hs, SndS.mdrop he.ok⟩
theorem sm_ret (he : PmD X Wx e te wm) : PsD X Wx (.Return (some e) pos) (tRet te) (mRet wm) := ⟨ps_ret he.pe, SndS.mret he.ok⟩
end
end DL

namespace DL
open PySem PySem.Spec PyProof.Rows L2

/-! ## exceptions made -/
/-- an exception class's __init__ that stores one thing -/
def spEI (K : PySem.W.Frag) (C : Addr) (f : Str) : Sp := fun vs H Q _ => ∃ (a : Addr) (y : V), vs = [.ref a, y] ∧ H a = some (exo a C none) ∧ ∀ dx, H dx = none → dx ≠ a → Q .non (upd (upd H dx (exd dx [(f, y)])) a (exo a C (some dx)))
section
variable {P : Program} {w : World} {K : PySem.W.Frag} {mg : Str → Option Value} {base : Heap} {x qual : Str} {params : Arguments} {body : List Stmt} {scope : Scope} {f : Addr} {fd : FuncData} {N : List Str} {k : Nat}
theorem fn_init1 {p1 p2 : Str} {C : Addr} {at_ : Str} (FD : FunD K x qual params body scope [] [] f fd) (S : FnScope N [p1, p2] scope) (T : OexC K C) (hno : PySem.W.findIn K (.ref C) at_ = some none)
    (hb : ∀ (cdv : Value) (A : Around) (outer : List Env) (s : Shared) (H : Hp) (E : XK), PSs (Cxx P w K mg base N qual scope f cdv A outer s H E) body (tOst K at_ (tVar 0) (tVar 1))) : FnOk P w K mg base (L2.CX P w) (k + 1) f fd [p1, p2] (spEI K C at_) := by
  refine FD.ok S (fun vs H Q E h => ?_) fun cdv A outer s H vs Q E hr h => ⟨_, hb cdv A outer s H E, ?_⟩
  · obtain ⟨a, y, rfl, _⟩ := h
    rfl
  · obtain ⟨a, y, rfl, ha, q⟩ := h
    exact ⟨y, start_get rfl, .ref a, start_get rfl, a, C, rfl, T, hno, .inl ⟨ha, fun dx n ne => q dx n ne⟩⟩
end
section
variable {K : PySem.W.Frag} {fx : Fx} {F G H F' G' H' : Hp} {σ : L2.St} {S : List Slot} {A : Nat → List Addr} {v : V} {B : List Addr} {x : W}
variable {Wx : WX} {te : TE} {we : WE}
/-- raise C(e) -/
@[simp ↓] def wRaise1 (C : Addr) (f : Str) (we : WE) : WS := fun xp P S => we xp S fun x => x.fz1 fun d => xp C [(f, d)] S
theorem SndS.raise1 {C : Addr} {f : Str} (he : Snd K Wx te we) : SndS K Wx (fun D σ H => tMkO C (spEI K C f) [] (tCons te tNil) σ H fun cls d H' => Wx cls d σ H') (wRaise1 C f we) := fun fx xp F G H σ S A P D xr c r hw => by
  refine he fx xp F G H σ S A _ _ xr c hw fun v x F1 G1 H1 B g1 c1 r1 n1 q1 => ?_
  obtain ⟨F2, G2, d, g2, c2, f2, gg2, rd, z⟩ := r1.fz1 c g1 c1 n1 q1
  refine ⟨by simp, fun a ha => ⟨a, v, rfl, upd_same, fun dx hdx ne => ⟨rfl, dx, [(f, v)], upd_same, ?_, ?_, ?_⟩⟩⟩
  · rw [upd_ne ne]; exact upd_same
  · rw [upd_ne ne] at hdx; exact hdx
  · have hdx' : H1 dx = none := by rw [upd_ne ne] at hdx; exact hdx
    have e : upd (del (upd (upd (upd H1 a (exo a C none)) dx (exd dx [(f, v)])) a (exo a C (some dx))) a) dx (.xd [(f, v)]) = upd H1 dx (.xd [(f, v)]) := by
      funext b
      by_cases h1 : b = dx
      · rw [h1, upd_same, upd_same]
      · rw [upd_ne h1, upd_ne h1]
        by_cases h2 : b = a
        · rw [h2, del_same, ha]
        · rw [del_ne h2, upd_ne h2, upd_ne h1, upd_ne h2]
    rw [e]
    obtain ⟨g3, c3⟩ := c2.laid (o := .xd [(f, v)]) hdx'
    exact (xr _ _ _ _ _ _ C _ c3 z).2 dx _ upd_same (.cons rd .nil)
/-! ## try -/
theorem Cons.into (c : Cons K fx F G H σ S A) : Cons K { fx with F0 := F, G0 := G } F G H σ S A := ⟨c.len, c.fg, c.gh, fun i s e => by have := c.sl i s e; cases s <;> exact this, c.nod, c.dis, c.nf, c.ah, c.am, c.sto, c.pres, c.hn, .refl F, .refl G, fun a o e z => by rw [show F a = none from z] at e; cases e⟩
theorem Cons.outof {σ' : L2.St} {S' : List Slot} {A' : Nat → List Addr} (c : Cons K fx F G H σ S A) (c' : Cons K { fx with F0 := F, G0 := G } F' G' H' σ' S' A') : Cons K fx F' G' H' σ' S' A' := ⟨c'.len, c'.fg, c'.gh, fun i s e => by have := c'.sl i s e; cases s <;> exact this, c'.nod, c'.dis, c'.nf, c'.ah, c'.am, c'.sto, c'.pres, c'.hn, c.f0.trans c'.f0, c.g0.trans c'.g0, fun a o e z => by
  cases q : F a with
  | none => exact c'.fnew a o e q
  | some u => exact c.fnew a u q z⟩
theorem RepW.fxs {fx fx' : Fx} (e : fx.st = fx'.st) (r : RepW K fx F G H S A v B x) : RepW K fx' F G H S A v B x := by
  cases x with
  | new o => exact ⟨r.1, r.2.1, fun b hb => ⟨(r.2.2 b hb).1, by rw [← e]; exact (r.2.2 b hb).2⟩⟩
  | dat d => exact r
  | rdo d => exact r
  | ref i p o => exact r
  | sto => obtain ⟨h1, p, h2, h3⟩ := r; exact ⟨h1, p, by rw [← e]; exact h2, h3⟩
theorem RelD.into {D : Ends} {P : Post} (c : Cons K fx F G H σ S A) (r : RelD K fx F G D P) : RelD K { fx with F0 := F, G0 := G } F G D P :=
  ⟨fun σ' F' G' H' S' A' f g c' q => r.nx σ' F' G' H' S' A' f g (c.outof c') q, fun σ' F' G' H' S' A' f g c' q => r.bk σ' F' G' H' S' A' f g (c.outof c') q, fun σ' F' G' H' S' A' f g c' q => r.ct σ' F' G' H' S' A' f g (c.outof c') q,
    fun v x B σ' F' G' H' S' A' f g c' rx n0 nA q => r.rt v x B σ' F' G' H' S' A' f g (c.outof c') (rx.fxs rfl) n0 nA q, r.np⟩
mutual
theorem RepO.noXd : ∀ {v : V} {o : O} {As : List Addr}, RepO K F H v o As → ∀ a ∈ As, ∀ vs, H a ≠ some (.xd vs)
  | _, _, _, .fz h, a, ha => by cases ha
  | _, _, _, .fl h r, a, ha => fun vs e => by
    rw [List.mem_singleton.mp ha, h] at e
    cases e
  | _, _, _, .dic h r, a, ha => fun vs e => by
    rw [List.mem_singleton.mp ha, h] at e
    cases e
  | _, _, _, .dit h r, a, ha => fun vs e => by
    rw [List.mem_singleton.mp ha, h] at e
    cases e
  | _, _, _, .lst h r, a, ha => fun vs e => by
    rcases List.mem_cons.mp ha with rfl | ha
    · rw [h] at e; cases e
    · exact RepOs.noXd r a ha vs e
  | _, _, _, .obj h h2 r, a, ha => fun vs e => by
    rcases List.mem_cons.mp ha with rfl | ha
    · rw [h] at e; cases e
    · rcases List.mem_cons.mp ha with rfl | ha
      · rw [h2] at e; cases e
      · exact RepOf.noXd r a ha vs e
theorem RepOs.noXd : ∀ {vs : List V} {os : List O} {As : List Addr}, RepOs K F H vs os As → ∀ a ∈ As, ∀ vs, H a ≠ some (.xd vs)
  | _, _, _, .nil, a, ha => by cases ha
  | _, _, _, .cons h r, a, ha => fun vs e => by
    rcases List.mem_append.mp ha with ha | ha
    · exact RepO.noXd h a ha vs e
    · exact RepOs.noXd r a ha vs e
theorem RepOf.noXd : ∀ {vs : List (Str × V)} {os : List (Str × O)} {As : List Addr}, RepOf K F H vs os As → ∀ a ∈ As, ∀ vs, H a ≠ some (.xd vs)
  | _, _, _, .nil, a, ha => by cases ha
  | _, _, _, .cons h r, a, ha => fun vs e => by
    rcases List.mem_append.mp ha with ha | ha
    · exact RepO.noXd h a ha vs e
    · exact RepOf.noXd r a ha vs e
end
/-- an exception's dict becomes part of what is read -/
theorem Cons.xdG (c : Cons K fx F G H σ S A) {d : Addr} {vs : List (Str × V)} (h : H d = some (.xd vs)) : ∃ G2 A2, Sub G G2 ∧ Cons K fx F G2 H σ S A2 ∧ G2 d = some (.xd vs) := by
  cases q : G d with
  | some u =>
    have := c.gh d u q
    rw [h] at this
    cases this
    exact ⟨G, A, .refl G, c, q⟩
  | none =>
    have sg := sub_frz (F := G) (H := H) (B := [d]) fun b hb => by rw [List.mem_singleton.mp hb]; exact q
    have nst : fx.st ≠ some d := fun e => by
      obtain ⟨ns, z, _⟩ := (c.sto d e).2.2.1
      rw [h] at z
      cases z
    have hA : ∀ {i : Nat} {b : Addr}, (b ∈ if d ∈ A i then [] else A i) → b ∈ A i ∧ d ∉ A i := fun {i b} hb => by
      by_cases z : d ∈ A i
      · rw [if_pos z] at hb; cases hb
      · rw [if_neg z] at hb; exact ⟨hb, z⟩
    refine ⟨DL.frz G H [d], fun i => if d ∈ A i then [] else A i, sg, ?_, by rw [frz_in (List.mem_singleton.mpr rfl)]; exact h⟩
    refine { c with fg := c.fg.trans sg, gh := frz_sub c.gh, sl := fun i s e => ?_, nod := fun i => ?_, dis := fun i j ne b hb hj => c.dis i j ne b (hA hb).1 (hA hj).1, nf := fun i b hb => ?_, ah := fun i b hb => c.ah i b (hA hb).1, am := fun i b hb => c.am i b (hA hb).1, sto := fun p ep => ⟨?_, fun i hb => (c.sto p ep).2.1 i (hA hb).1, (c.sto p ep).2.2⟩, g0 := c.g0.trans sg }
    · have qq := c.sl i s e
      cases s with
      | no => trivial
      | dat d => exact qq
      | rdo d => obtain ⟨v, h1, h2⟩ := qq; exact ⟨v, h1, h2.mono sg⟩
      | own a o =>
        refine ⟨qq.1, ?_⟩
        simp only [if_neg fun z => qq.2.noXd d z vs h]
        exact qq.2
      | sto => exact qq
      | seq ns => exact qq
      | exc a C dd fs => exact ⟨qq.1, qq.2.1, fun d' e' => by obtain ⟨vs, h2, h3⟩ := qq.2.2 d' e'; exact ⟨vs, sg _ _ h2, h3⟩⟩
    · by_cases z : d ∈ A i
      · simp only [if_pos z]; exact .nil
      · simp only [if_neg z]; exact c.nod i
    · rw [frz_out fun z => (hA hb).2 (by rw [← List.mem_singleton.mp z]; exact (hA hb).1)]
      exact c.nf i b (hA hb).1
    · rw [frz_out fun z => nst (by rw [← List.mem_singleton.mp z]; exact ep)]
      exact (c.sto p ep).1
/-- slot i becomes something without cells -/
theorem Cons.setNo (c : Cons K fx F G H σ S A) {i : Nat} {s : Slot} {o : Option V} (h : SlotOk K fx F G H (σ.set i o) A i s) (no : ∀ a q, s ≠ .own a q) : Cons K fx F G H (σ.set i o) (S.set i s) A := by
  refine { c with len := by simp [c.len], sl := fun j s' e => ?_ }
  rcases gset e with ⟨rfl, rfl⟩ | ⟨ne, e⟩
  · exact h
  · have q := c.sl j s' e
    have w : (σ.set i o)[j]? = σ[j]? := List.getElem?_set_ne (Ne.symm ne)
    cases s' with
    | no => trivial
    | dat d => obtain ⟨u, h1, h2⟩ := q; exact ⟨u, by rw [w]; exact h1, h2⟩
    | rdo d => obtain ⟨u, h1, h2⟩ := q; exact ⟨u, by rw [w]; exact h1, h2⟩
    | own a q' => exact ⟨by rw [w]; exact q.1, q.2⟩
    | sto => obtain ⟨u, h1, h2⟩ := q; exact ⟨u, h1, by rw [w]; exact h2⟩
    | seq ns => obtain ⟨u, h1, h2⟩ := q; exact ⟨u, by rw [w]; exact h1, h2⟩
    | exc a C d fs => exact ⟨by rw [w]; exact q.1, q.2⟩
@[simp ↓] def tryP (P : Post) (i : Nat) : Post := { P with nx := fun S => P.nx (S.set i .no), bk := fun S => P.bk (S.set i .no), ct := fun S => P.ct (S.set i .no) }
def wTry (K : PySem.W.Frag) (Cv : Value) (i : Nat) (wb : WS) (ws : Addr → Addr → Option Addr → WS) : WS := fun xp P S => wb (fun C fs S' => ∃ b, PySem.W.exmOne K (.ref C) Cv = some b ∧ (b = true → i < S'.length ∧ ∀ a d, (d = none → fs = []) → ws a C d (fun _ _ _ => False) (tryP P i) (S'.set i (.exc a C d fs))) ∧ (b = false → xp C fs S')) P S
theorem SndS.try {Cv : Value} {i : Nat} {tb : WX → TS} {ts : Addr → Value → Option Addr → TS} {wb : WS} {ws : Addr → Addr → Option Addr → WS} (hb : ∀ W, SndS K W (tb W) wb) (hs : ∀ a C d, SndS K W0 (ts a (.ref C) d) (ws a C d)) :
    SndS K Wx (fun D σ H => tb (wAs K Cv i ts Wx D) D σ H) (wTry K Cv i wb ws) := fun fx xp F G H σ S A P D xr c r hw => by
  refine hb (wAs K Cv i ts Wx D) { fx with F0 := F, G0 := G } _ F G H σ S A P D (fun F' G' H' σ' S' A' C fs c' hx => ?_) c.into (r.into c) hw
  obtain ⟨b, e, hy, hn⟩ := hx
  have c2 := c.outof c'
  have fF : Sub F F' := c'.f0
  have gG : Sub G G' := c'.g0
  have yes : b = true → ∀ d, (d = none → fs = []) → ∀ G2 A2, Sub G' G2 → Cons K fx F' G2 H' σ' S' A2 → (∀ dd, d = some dd → ∃ vs, G2 dd = some (.xd vs) ∧ Repf K F' vs fs) → ∀ a, H' a = none →
      ts a (.ref C) d { nx := fun σ' H' => D.nx (σ'.set i none) H', rt := D.rt, bk := fun σ' H' => D.bk (σ'.set i none) H', ct := fun σ' H' => D.ct (σ'.set i none) H' } (σ'.set i (some (.ref a))) H' := fun hb' d h0 G2 A2 sg c3 hd a ha => by
    obtain ⟨hi, hy⟩ := hy hb'
    have hl : i < σ'.length := by rw [c3.len]; exact hi
    have c4 : Cons K fx F' G2 H' (σ'.set i (some (.ref a))) (S'.set i (.exc a C d fs)) A2 := c3.setNo ⟨by rw [List.getElem?_set]; simp [hl], h0, hd⟩ fun _ _ z => by cases z
    have un : ∀ {σ5 F5 G5 H5 S5 A5}, Cons K fx F5 G5 H5 σ5 S5 A5 → Cons K fx F5 G5 H5 (σ5.set i none) (S5.set i .no) A5 := fun c5 => c5.setNo (s := .no) trivial fun _ _ z => by cases z
    refine hs a C d fx (fun _ _ _ => False) F' G2 H' _ _ A2 (tryP P i) _ XRel.none c4 ⟨fun σ5 F5 G5 H5 S5 A5 f g c5 q => ?_, fun σ5 F5 G5 H5 S5 A5 f g c5 q => ?_, fun σ5 F5 G5 H5 S5 A5 f g c5 q => ?_, fun v x B σ5 F5 G5 H5 S5 A5 f g c5 => r.rt v x B σ5 F5 G5 H5 S5 A5 (fF.trans f) (gG.trans (sg.trans g)) c5, r.np⟩ (hy a d h0)
    · exact r.nx _ F5 G5 H5 _ A5 (fF.trans f) (gG.trans (sg.trans g)) (un c5) q
    · exact r.bk _ F5 G5 H5 _ A5 (fF.trans f) (gG.trans (sg.trans g)) (un c5) q
    · exact r.ct _ F5 G5 H5 _ A5 (fF.trans f) (gG.trans (sg.trans g)) (un c5) q
  refine ⟨fun e0 => ⟨b, e, fun hb' a ha => yes hb' none (fun _ => e0) G' A' (.refl G') c2 (fun _ z => by cases z) a ha, fun hb' => (xr F' G' H' σ' S' A' C fs c2 (hn hb')).1 e0⟩, fun d vs hd hr => ⟨b, e, fun hb' a ha => ?_, fun hb' => (xr F' G' H' σ' S' A' C fs c2 (hn hb')).2 d vs hd hr⟩⟩
  obtain ⟨G2, A2, sg, c3, gd⟩ := c2.xdG hd
  exact yes hb' (some d) (fun z => by cases z) G2 A2 sg c3 (fun dd z => by cases z; exact ⟨vs, gd, hr⟩) a ha
end
end DL

namespace DL
open PySem PySem.Spec PyProof.Rows L2
/-! ## isinstance and fields of the caught exception -/
def rIsX (K : PySem.W.Frag) (cls : Value) (a : Addr) (d : Option Addr) : List V → Hp → VK → Prop := fun xs H Q => ∃ (D : Addr) (c : V) (cv : Value) (b : Bool), cls = .ref D ∧ xs = [.ref a, c] ∧ (∀ u, RelV c u → u = cv) ∧ (∀ dd, d = some dd → ∃ fs, H dd = some (.xd fs)) ∧ ExcC K D ∧ PySem.W.kitOne K (.ref D) cv = some b ∧ Q (.bl b) H
theorem call_isX {X : Cx} {a : Addr} {cls : Value} {d : Option Addr} {oe : Obj} {pn : List (Addr × Obj)} (hz : Zc cls d oe) (hf : ∃ vs, oe.data = .fields vs) : CallR (X.suite a ((a, oe) :: pn)) (.builtin "isinstance") (rIsX X.K cls a d) := by
  intro pins s σ H xs us Q I r h
  obtain ⟨D, c, cv, b, rfl, rfl, hcv, hx, C, e, q⟩ := h
  cases r with
  | cons rx rr =>
    cases rr with
    | cons rt rr =>
      cases rr
      cases rx
      have ec := hcv _ rt
      subst ec
      obtain ⟨hget, _⟩ := I.pin (a, oe) (List.mem_append.mpr (.inl List.mem_cons_self))
      obtain ⟨vs, hv⟩ := hf
      have hcl : (PySem.W.clsIn X.K D).isSome = true := by
        obtain ⟨cd, hc, _⟩ := PySem.W.any_some C.hd
        rw [hc]
        rfl
      have J : ∃ od, PySem.W.InstAt s.heap a oe D od := by
        cases d with
        | none =>
          obtain ⟨oc, od, oda, osl⟩ := oe
          obtain ⟨h1, h2⟩ := hz
          dsimp only at h1 h2 hv
          subst h1 h2 hv
          exact ⟨none, hget, rfl, rfl, trivial⟩
        | some dd =>
          obtain ⟨fs, ha⟩ := hx dd rfl
          have hx : ObjOk X.prog X.w H s.heap dd (.xd fs) := I.hok dd _ ha
          obtain ⟨mA, hns, hr⟩ := hx
          obtain ⟨od, ho, hl⟩ := lookIn_ns hns
          exact ⟨some od, hget, hz.1, by unfold PySem.W.notCls; rw [hv] <;> rfl, by rw [hz.2]; exact ho⟩
      obtain ⟨od, J⟩ := J
      exact PySem.W.kia_one (PySem.W.kitx_exc hcl C.hg C.hk C.hs C.ha C.hn C.ht C.hm) I.kIn J e (fun z => nomatch z) fun tk => ⟨.bl b, H, I.kept (t' := tk) fun _ _ z => z, rfl, q⟩
section
variable {K : PySem.W.Frag} {fx : Fx} {F G H F' G' H' : Hp} {σ : L2.St} {S : List Slot} {A : Nat → List Addr} {v : V} {B : List Addr} {x : W} {Wx : WX}
@[simp ↓] def wIsX (K : PySem.W.Frag) (a : Addr) (cls : Value) (d : Option Addr) (i : Nat) (cv : Value) : WE := fun _ S Q => match gt S i with
  | .exc a' C d' _ => a' = a ∧ cls = .ref C ∧ d' = d ∧ ExcC K C ∧ ∃ b, PySem.W.kitOne K (.ref C) cv = some b ∧ Q (.dat (.bl b))
  | _ => False
theorem Snd.isX {a : Addr} {cls : Value} {d : Option Addr} {i : Nat} {c : V} {cv : Value} (hc : ∀ u, RelV c u → u = cv) : Snd K Wx (tCB (rIsX K cls a d) (tCons (tVar i) (tCons (tC c) tNil))) (wIsX K a cls d i cv) := fun fx xp F G H σ S A Qd Q xr cc hw q => by
  unfold wIsX at hw
  cases e : gt S i with
  | exc a' C d' fs =>
    rw [e] at hw
    obtain ⟨rfl, rfl, rfl, ec, b, hb, z⟩ := hw
    obtain ⟨h1, h2, h3⟩ := cc.sl i _ (gt_some e (by simp))
    exact ⟨_, h1, C, c, cv, b, rfl, rfl, hc, fun dd e => by obtain ⟨vs, h, _⟩ := h3 dd e; exact ⟨vs, cc.gh _ _ h⟩, ec, hb, q _ (.dat (.bl b)) F G H [] .refl cc ⟨.bl b, rfl⟩ (fun _ z => by cases z) z⟩
  | _ => rw [e] at hw; exact hw.elim
@[simp ↓] def wXf (a : Addr) (cls : Value) (d : Option Addr) (i : Nat) (C : Addr) (f : Str) : WE := fun _ S Q => match gt S i with
  | .exc a' C' d' fs => a' = a ∧ cls = .ref C' ∧ d' = d ∧ C' = C ∧ ∃ dv, fs.lookup f = some dv ∧ Q (.dat dv)
  | _ => False
theorem Snd.xf {a : Addr} {cls : Value} {d : Option Addr} {i : Nat} {C : Addr} {f : Str} : Snd K Wx (tXf a cls d C f (tVar i)) (wXf a cls d i C f) := fun fx xp F G H σ S A Qd Q xr cc hw q => by
  unfold wXf at hw
  cases e : gt S i with
  | exc a' C' d' fs =>
    rw [e] at hw
    obtain ⟨rfl, rfl, rfl, rfl, dv, hb, z⟩ := hw
    obtain ⟨h1, h2, h3⟩ := cc.sl i _ (gt_some e (by simp))
    cases d' with
    | none => rw [h2 rfl] at hb; cases hb
    | some dd =>
      obtain ⟨vs, h4, h5⟩ := h3 dd rfl
      obtain ⟨w, h6, h7⟩ := h5.lookup hb
      exact ⟨_, h1, rfl, rfl, dd, vs, w, rfl, cc.gh _ _ h4, h6, q w (.dat dv) F G H [] .refl cc ⟨h7, rfl⟩ (fun _ z => by cases z) z⟩
  | _ => rw [e] at hw; exact hw.elim
end
/-! ## count of truth values -/
def rCntB (K : PySem.W.Frag) : V → List V → Hp → VK → Prop := fun x xs H Q => ∃ (p : Addr) (bs : List Bool) (k : Bool), x = .ref p ∧ xs = [.bl k] ∧ SqL K H p (bs.map V.bl) ∧ Q (.int (bs.count k : Nat)) H
theorem bools_vals : ∀ {bs : List Bool} {us : List Value}, Vals (bs.map V.bl) us → us = bs.map Value.bool
  | [], _, r => by cases r; rfl
  | b :: bs, _, r => by
    cases r with
    | cons r1 r2 =>
      cases r1
      rw [bools_vals r2]
      rfl
theorem countP_bools (k : Bool) : ∀ bs : List Bool, (bs.map Value.bool).countP (isBoolOf k) = bs.count k
  | [] => rfl
  | b :: bs => by
    rw [List.map_cons, List.countP_cons, List.count_cons, countP_bools k bs]
    rfl
theorem mt_countB {X : Cx} : MtR X "list.count" (rCntB X.K) := by
  intro pins s σ H x xs v us Q I rx rxs h
  obtain ⟨p, bs, k, rfl, rfl, hs, q⟩ := h
  cases rx
  obtain ⟨u, rfl, ru⟩ := rxs.one
  cases ru
  obtain ⟨its, rv, ⟨⟨cls, dd, data, sl⟩, n, ho, hc, hdn, hd⟩, hlen⟩ := I.list hs
  simp only at hc hd
  subst hc hd
  have hi := bools_vals rv
  subst hi
  refine call_meets PySem.F.slot_list_count ⟨_, ho, rfl⟩ PySem.F.entry_list_count (PySem.F.args_list_count_2 _ _)
    (SeqAt.list_countAt p (bs.map Value.bool).toArray n dd sl (.bool k) (isBoolOf k)) ⟨ho, fun y hy => ?_, ?_⟩
  · have hy' : y ∈ bs.map Value.bool := by simpa using hy
    obtain ⟨b, _, rfl⟩ := List.mem_map.mp hy'
    exact SeqAt.EqAt.bool_bool b k
  · refine ⟨.int (bs.count k : Nat), H, I.tok _, ⟨s.toks, ?_⟩, q⟩
    show Value.int (((bs.map Value.bool).toArray.toList.countP (isBoolOf k) : Nat) : Int) s.toks = Value.int ((bs.count k : Nat) : Int) s.toks
    rw [show (bs.map Value.bool).toArray.toList = bs.map Value.bool from rfl, countP_bools]
end DL

namespace L2
open PySem PySem.Spec PyProof.Rows
/-- an object without __bool__ and __len__ is true -/
theorem truthy_obj {X : Cx} {pins : List (Addr × Obj)} {σ : St} {H : Hp} {s : Shared} {A : Around} {E : Value → Shared → Prop} {Q : Bool → Shared → Prop} {a C dx : Addr} {fs : List (Str × V)} (I : Inv X pins σ H s) (ea : H a = some (.ins C dx fs)) (hs : NoAttr X.K C "__bool__") (hl : NoAttr X.K C "__len__")
    (h : Q true s) : wpAny (model X.prog X.w) A (truthy (.ref a)) Q E s := by
  obtain ⟨mA, O, _⟩ := ins_get I.hok ea
  obtain ⟨od, J, _⟩ := O.look
  unfold truthy
  refine wpAny_bind (m := callSpecial? (.ref a) (Str.ofString "__bool__")) (wpAny_bind (wpAny_bind (J.type.here ((PySem.W.looks_findIn I.kIn hs).here (wpAny_pure ?_)))))
  refine wpAny_bind (wpAny_bind (J.type.here ((PySem.W.looks_findIn I.kIn hl).here ?_)))
  exact wpAny_pure h
def tTruObj (C : Addr) (ta : TE) : TT := fun σ H Q => ta σ H fun x H' => ∃ a dx fs, x = .ref a ∧ H' a = some (.ins C dx fs) ∧ Q true H'
theorem pt_obj {X : Cx} {a : Expr} {ta : TE} {C : Addr} (hs : NoAttr X.K C "__bool__") (hl : NoAttr X.K C "__len__") (ha : PE X a ta) (he : ∀ whole, isTrue a X.env whole = (do let v ← whole; standAt a.pos; holding [v] (truthy v))) : PT X a (tTruObj C ta) := by
  refine ⟨fun pins s σ H Q I h => ?_⟩
  rw [he]
  refine wpAny_bind (thn (ha.run pins s σ H _ I h) fun u s1 ⟨x, H1, I1, rx, p, dx, fs, ex, ea, q⟩ => ?_)
  subst ex
  obtain rfl : u = Value.ref p := rx
  exact wpAny_bind (wpAny_standAt (wpAny_holding (truthy_obj I1 ea hs hl ⟨H1, I1, q⟩)))
end L2
namespace DL
open PySem PySem.Spec PyProof.Rows L2
section
variable {K : PySem.W.Frag} {fx : Fx} {F G H F' G' H' : Hp} {σ : L2.St} {S : List Slot} {A : Nat → List Addr} {v : V} {B : List Addr} {x : W} {Wx : WX} {te to : TE} {we wo : WE}
@[simp ↓] def wTruObj (C : Addr) (we : WE) : WT := fun xp S Q => we xp S fun x => (match x with
  | .sto => False
  | x => (match x.d with
    | .obj C' _ => C' = C
    | _ => False)) ∧ Q true
theorem Snd.truObj {C : Addr} (he : Snd K Wx te we) : SndT K Wx (tTruObj C te) (wTruObj C we) := fun fx xp F G H σ S A Qd Q xr c hw q => by
  refine he fx xp F G H σ S A _ _ xr c hw fun v x F1 G1 H1 B g1 c1 r1 n1 ⟨hx, q1⟩ => ?_
  have nx : ∀ (_ : x = .sto), False := fun e => by rw [e] at hx; exact hx
  have rd := r1.rd c1 nx
  have hx' : (match x.d with
    | .obj C' _ => C' = C
    | _ => False) := by cases x <;> first | exact hx | exact hx.elim
  cases e : x.d with
  | obj C' fs =>
    rw [e] at hx' rd
    cases hx'
    cases rd with
    | obj h1 h2 => exact ⟨_, _, _, rfl, h1, q true F1 G1 H1 g1 c1 q1⟩
  | _ => rw [e] at hx'; exact hx'.elim
@[simp ↓] def wCntB (wo : WE) (k : Bool) : WE := fun xp S Q => wo xp S fun x => x.its fun ds => ∃ bs : List Bool, ds = bs.map D.bl ∧ Q (.dat (.int (bs.count k : Nat)))
theorem Reps.bools : ∀ {vs : List V} {bs : List Bool}, Reps K F vs (bs.map DL.D.bl) → vs = bs.map V.bl
  | _, [], r => by cases r; rfl
  | _, b :: bs, r => by
    cases r with
    | cons r t => cases r; rw [Reps.bools t]; rfl
theorem Snd.cntB {k : Bool} (ho : Snd K Wx to wo) : Snd K Wx (tBM K "list" (rCntB K) to (tCons (tC (.bl k)) tNil)) (wCntB wo k) := fun fx xp F G H σ S A Qd Q xr c hw q => by
  refine ho fx xp F G H σ S A _ _ xr c hw fun v x F1 G1 H1 B g1 c1 r1 n1 q1 => ?_
  obtain ⟨a, vs, ds, rfl, h1, h2, bs, rfl, z⟩ := r1.its c1 q1
  rw [h2.bools] at h1
  exact ⟨.inl ⟨rfl, _, ql h1⟩, a, bs, k, rfl, rfl, ql h1, q _ (.dat (.int _)) F1 G1 H1 [] g1 c1 ⟨.int _, rfl⟩ (fun _ z => by cases z) z⟩
/-! xs.pop(), xs.insert(i, e) as statements, the items frozen -/
@[simp ↓] def wPopS (wo : WE) : WS := fun xp P S => wo xp S fun x => match x with
  | .ref j p (.fl ds) => ds ≠ [] ∧ P.nx (updS S j p (.fl ds.dropLast))
  | _ => False
theorem Reps.dropLast : ∀ {vs : List V} {ds : List DL.D}, Reps K F vs ds → Reps K F vs.dropLast ds.dropLast := fun {vs ds} r => by
  rw [List.dropLast_eq_take, List.dropLast_eq_take, r.length]
  exact r.take _
theorem SndS.popS (ho : Snd K Wx to wo) : SndS K Wx (tDrop (tBM0 K "list" rPop to)) (wPopS wo) := fun fx xp F G H σ S A P D xr c r hw => by
  refine ho fx xp F G H σ S A _ _ xr c hw fun v x F1 G1 H1 B g1 c1 r1 n1 q1 => ?_
  cases x with
  | ref j p o =>
    cases o with
    | fl ds =>
      obtain ⟨l, vs, rfl, rfl, hl, hr⟩ := r1.flat
      obtain ⟨hne, z⟩ := q1
      have hp : 0 < ds.length := List.length_pos_iff.mpr hne
      have e : vs[vs.length - 1]? = some (vs[vs.length - 1]'(by rw [hr.length]; omega)) := List.getElem?_eq_getElem _
      refine ⟨.inl ⟨rfl, _, .inl (.inl hl)⟩, l, vs, _, rfl, rfl, hl, e, ?_⟩
      obtain ⟨A', c4⟩ := c1.chgFl r1 hr.dropLast
      exact r.nx σ F1 G1 _ _ A' g1.f g1.g c4 z
    | _ => exact q1.elim
  | _ => exact q1.elim
abbrev rInsert : V → List V → Hp → VK → Prop := fun x vs H Q => ∃ (l : Addr) (xs : List V) (i : Int) (y : V), x = .ref l ∧ vs = [.int i, y] ∧ H l = some (.lst xs) ∧ xs.length < sizeLine ∧ 0 ≤ i ∧ i < 2 ^ 63 ∧ Q .non (upd H l (.lst (xs.take i.toNat ++ [y] ++ xs.drop i.toNat)))
@[simp ↓] def wInsS (wo wi we : WE) : WS := fun xp P S => wo xp S fun x => match x with
  | .ref j p (.fl ds) => wi xp S fun z => we xp S fun y => (match z with
    | .dat (.int i) => ds.length < 100000 ∧ 0 ≤ i ∧ i < 2 ^ 63 ∧ y.fz1 fun d => P.nx (updS S j p (.fl (ds.take i.toNat ++ [d] ++ ds.drop i.toNat)))
    | _ => False)
  | _ => False
theorem SndS.insS {ti : TE} {wi : WE} (ho : Snd K Wx to wo) (hi : Snd K Wx ti wi) (he : Snd K Wx te we) : SndS K Wx (tDrop (tBM K "list" rInsert to (tCons ti (tCons te tNil)))) (wInsS wo wi we) := fun fx xp F G H σ S A P D xr c r hw => by
  refine ho fx xp F G H σ S A _ _ xr c hw fun v x F1 G1 H1 B g1 c1 r1 n1 q1 => ?_
  cases x with
  | ref j p o =>
    cases o with
    | fl ds =>
      obtain ⟨l, vs, rfl, rfl, hl, hr⟩ := r1.flat
      refine ⟨.inl ⟨rfl, _, .inl (.inl hl)⟩, ?_⟩
      refine hi fx xp F1 G1 H1 σ S A _ _ xr c1 q1 fun u z F2 G2 H2 B2 g2 c2 r2 n2 q2 => ?_
      refine he fx xp F2 G2 H2 σ S A _ _ xr c2 q2 fun w y F3 G3 H3 B3 g3 c3 r3 n3 q3 => ?_
      cases z with
      | dat d =>
        cases d with
        | int i =>
          cases r2.1
          obtain ⟨hz, h0, h63, q3⟩ := q3
          have g23 := g2.trans g3
          obtain ⟨F4, G4, d, g4, c4, f4, gg4, rd, z⟩ := r3.fz1 c1 g23 c3 (fun b hb => g2.hn b (n3 b hb)) q3
          have rx := r1.grow c1 g4
          obtain ⟨l', vs', e, _, h1, h2⟩ := rx.flat
          cases e
          refine ⟨l, vs', i, w, rfl, rfl, h1, by rw [h2.length]; exact lt_line hz, h0, h63, ?_⟩
          obtain ⟨A', c5⟩ := c4.chgFl rx (((h2.take i.toNat).append (.cons rd .nil)).append (h2.drop i.toNat))
          exact r.nx σ F4 G4 _ _ A' (g1.f.trans g4.f) (g1.g.trans g4.g) c5 z
        | _ => exact q3.elim
      | _ => exact q3.elim
    | _ => exact q1.elim
  | _ => exact q1.elim
end
theorem passF {P : Program} {w : World} {X : Cx} : Passes (L2.CX P w) X (fun _ _ _ => False) := fun _ _ _ _ _ _ _ ⟨_, _, _, _, _, _, _, _, _, _, _, _, h⟩ => h.elim
section
variable {X : Cx} {Wx : WX} {a e o : Expr} {te to : TE} {we wo : WE} {C fI : Addr} {k : Nat} {fd : FuncData} {ps : List Str} {x f : Str} {p pos pos' apos epos np : Pos}
theorem sd_raise1 (hc : X.calm = true) (tk : Takes X Wx) (T : OexC X.K C) (iC : PySem.W.findIn X.K (.ref C) "__init__" = some (some (.ref fI))) (tI : PySem.W.typeIn X.K (.ref fI) = some (.type "function")) (F : FnOk X.prog X.w X.K X.mg X.base (L2.CX X.prog X.w) k fI fd ps (spEI X.K C f)) (hr : Room (k + 1) X.A) (hb : Binds X.K fd ps []) (hm : X.mg x = some (.ref C)) (he : PdD X Wx e te we)
    (hg : Gl X x := by rfl) (hdb : (x == ("__debug__" : Str)) = false := by decide) (hs : starEach [e] X.env = (false, eval e X.env) :: starEach [] X.env := by rfl) (hpl : (backTo pos (starEach [] X.env)).any (·.1) = false := by rfl) :
    PsD X Wx (.Raise (some (.Call (.Name x p) [e] [] pos)) none pos') (fun D σ H => tMkO C (spEI X.K C f) [] (tCons te tNil) σ H fun cls d H' => Wx cls d σ H') (wRaise1 C f we) :=
  ⟨L2.ps_raise hc tk (pmk_oex T iC tI F hr hb .nil passF hg hm (pa_cons he.pe pa_nil hs) hdb hs hpl), SndS.raise1 he.ok⟩
theorem td_obj (hs : NoAttr X.K C "__bool__") (hl : NoAttr X.K C "__len__") (ha : PdD X Wx a te we) (he : ∀ whole, isTrue a X.env whole = (do let v ← whole; standAt a.pos; holding [v] (truthy v)) := by intro _; rfl) : TdD X Wx a (tTruObj C te) (wTruObj C we) := ⟨pt_obj hs hl ha.pe he, Snd.truObj ha.ok⟩
theorem pd_cntB {j : Nat} {b : Bool} (ho : PdD X Wx o to wo) (m : BmSide X o "count" (.Constant (.bool b) j np) [] apos pos := by exact ⟨rfl, rfl, rfl, rfl, rfl⟩) : PdD X Wx (.Call (.Attribute o "count" apos) [.Constant (.bool b) j np] [] pos) (tBM X.K "list" (rCntB X.K) to (tCons (tC (.bl b)) tNil)) (wCntB wo b) :=
  ⟨pe_bm' PySem.F.plainAttrs_list PySem.F.slot_list_count PySem.F.type_list_count mt_countB ho.pe (pa_cons pe_bl pa_nil m.hs) m, Snd.cntB ho.ok⟩
theorem sd_popS (ho : PdD X Wx o to wo) (hbase : attributeBase o "pop" X.env (eval o X.env) = eval o X.env := by rfl) (hline : (apos.endLine == pos.line) = true := by rfl) (hs : swapsWith (.Call (.Attribute o "pop" apos) [] [] pos) none epos.line X.env = pure false := by rfl) : PsD X Wx (.Expr (.Call (.Attribute o "pop" apos) [] [] pos) epos) (tDrop (tBM0 X.K "list" rPop to)) (wPopS wo) :=
  ⟨ps_expr (pe_bm0 PySem.F.plainAttrs_list PySem.F.slot_list_pop PySem.F.type_list_pop mt_pop ho.pe hbase hline) hs, SndS.popS ho.ok⟩
theorem sd_insS {i : Expr} {ti : TE} {wi : WE} (ho : PdD X Wx o to wo) (hi : PdD X Wx i ti wi) (he : PdD X Wx e te we) (m : BmSide X o "insert" i [e] apos pos := by exact ⟨rfl, rfl, rfl, rfl, rfl⟩) (h1 : starEach [e] X.env = (false, eval e X.env) :: starEach [] X.env := by rfl) (hs : swapsWith (.Call (.Attribute o "insert" apos) [i, e] [] pos) none epos.line X.env = pure false := by rfl) :
    PsD X Wx (.Expr (.Call (.Attribute o "insert" apos) [i, e] [] pos) epos) (tDrop (tBM X.K "list" rInsert to (tCons ti (tCons te tNil)))) (wInsS wo wi we) :=
  ⟨ps_expr (pe_bm' PySem.F.plainAttrs_list PySem.F.slot_list_insert PySem.F.type_list_insert mt_insert ho.pe (pa_cons hi.pe (pa_cons he.pe pa_nil h1) m.hs) m) hs, SndS.insS ho.ok hi.ok he.ok⟩
end
end DL

namespace DL
open PySem PySem.Spec PyProof.Rows L2
section
variable {X : Cx} {Wx : WX} {x n cn : Str} {cv : Value} {i : Nat} {body suite : List Stmt} {b₀ : Stmt} {np p2 p3 pos pos' : Pos} {tb : WX → TS} {ts : Addr → Value → Option Addr → TS} {wb : WS} {ws : Addr → Value → Option Addr → WS}
theorem sd_try (hN : X.N.Nodup) (hc : Names X x cv) (tk : Takes X Wx)
    (hb : ∀ (W : WX) (pn : List (Addr × Obj)) (xe : Value → Shared → Prop), Takes (X.tr pn xe) W → BkD (X.tr pn xe) W body (tb W) wb)
    (hsu : ∀ (a : Addr) (oe : Obj) (cls : Value) (d : Option Addr) (pn : List (Addr × Obj)), Zc cls d oe → (∃ vs, oe.data = .fields vs) → BkD (X.suite a ((a, oe) :: pn)) W0 (b₀ :: suite) (ts a cls d) (ws a cls d))
    (hi : X.N[i]? = some n := by rfl) (hln : X.env.kindOf n = some .local := by rfl) (hs : X.stack = X.env :: X.outer := by rfl) (hf : X.env.frame = some X.env.locals := by rfl) :
    PsD X Wx (.Try body [.ExceptHandler (some (.Name x np)) (some n) (b₀ :: suite) pos'] [] [] pos) (fun D σ H => tb (wAs X.K cv i ts Wx D) D σ H) (wTry X.K cv i wb fun a C d => ws a (.ref C) d) :=
  ⟨L2.ps_try_as hs hf hN hi hln hc tk (fun W pn xe t _ => (hb W pn xe t).ps) (fun a oe cls d pn hz hv => (hsu a oe cls d pn hz hv).ps),
    SndS.try (fun W => (hb W [] (fun _ _ => True) fun _ _ _ => trivial).ok) fun a C d => (hsu a { cls := .ref C, dict := d, data := .fields #[] } (.ref C) d [] ⟨rfl, rfl⟩ ⟨_, rfl⟩).ok⟩
variable {a : Addr} {oe : Obj} {cls : Value} {d : Option Addr} {pn : List (Addr × Obj)}
/-- isinstance(e, C), C a class of the program -/
theorem pd_isX {D : Addr} (hz : Zc cls d oe) (hv : ∃ vs, oe.data = .fields vs) (hm : X.mg "isinstance" = none) (hC : X.mg cn = some (.ref D)) (hN : X.N[i]? = some n := by rfl) (hvi : Vis X.env.scope n := by first | exact Or.inl rfl | exact Or.inr (Or.inl rfl) | exact Or.inr (Or.inr rfl)) (hd : (n == ("__debug__" : Str)) = false := by decide) (hcd : (n == ("__classdict__" : Str)) = false := by decide)
    (hg : Gl X "isinstance" := by rfl) (hgC : Gl X cn := by rfl) (hdC : (cn == ("__debug__" : Str)) = false := by decide)
    (hs : starEach [.Name cn p2] X.env = (false, eval (.Name cn p2) X.env) :: starEach [] X.env := by rfl)
    (he : starEach [.Name n p3, .Name cn p2] X.env = (false, eval (.Name n p3) X.env) :: starEach [.Name cn p2] X.env := by rfl) (hpl : (backTo pos (starEach [.Name cn p2] X.env)).any (·.1) = false := by rfl) :
    PdD (X.suite a ((a, oe) :: pn)) W0 (.Call (.Name "isinstance" np) [.Name n p3, .Name cn p2] [] pos) (tCB (rIsX X.K cls a d) (tCons (tVar i) (tCons (tC (.ref D)) tNil))) (wIsX X.K a cls d i (.ref D)) :=
  ⟨pe_callB (X := X.suite a ((a, oe) :: pn)) (call_isX hz hv) hg hm (by decide +kernel) (pa_cons (pe_var hN hvi hd hcd) (pa_cons (pe_glob hgC hC rfl hdC) pa_nil hs) he) (by decide) (by decide) he hpl, Snd.isX fun u h => h⟩
/-- .. of a built-in class -/
theorem pd_isXT {T : String} (hz : Zc cls d oe) (hv : ∃ vs, oe.data = .fields vs) (hm : X.mg "isinstance" = none) (hC : X.mg cn = none) (hT : bootBuiltins cn = some (.type T)) (hN : X.N[i]? = some n := by rfl) (hvi : Vis X.env.scope n := by first | exact Or.inl rfl | exact Or.inr (Or.inl rfl) | exact Or.inr (Or.inr rfl)) (hd : (n == ("__debug__" : Str)) = false := by decide) (hcd : (n == ("__classdict__" : Str)) = false := by decide)
    (hg : Gl X "isinstance" := by rfl) (hgC : Gl X cn := by rfl) (hdC : (cn == ("__debug__" : Str)) = false := by decide) (hnC : cn ≠ "__name__" := by decide)
    (hs : starEach [.Name cn p2] X.env = (false, eval (.Name cn p2) X.env) :: starEach [] X.env := by rfl)
    (he : starEach [.Name n p3, .Name cn p2] X.env = (false, eval (.Name n p3) X.env) :: starEach [.Name cn p2] X.env := by rfl) (hpl : (backTo pos (starEach [.Name cn p2] X.env)).any (·.1) = false := by rfl) :
    PdD (X.suite a ((a, oe) :: pn)) W0 (.Call (.Name "isinstance" np) [.Name n p3, .Name cn p2] [] pos) (tCB (rIsX X.K cls a d) (tCons (tVar i) (tCons (tC (.ty T)) tNil))) (wIsX X.K a cls d i (.type T)) :=
  ⟨pe_callB (X := X.suite a ((a, oe) :: pn)) (call_isX hz hv) hg hm (by decide +kernel) (pa_cons (pe_var hN hvi hd hcd) (pa_cons (pe_bltn hgC hC hT rfl hnC hdC) pa_nil hs) he) (by decide) (by decide) he hpl, Snd.isX fun u h => h⟩
theorem pd_xf {C : Addr} {f : Str} (T : XfC X.K C) (hno : PySem.W.findIn X.K (.ref C) f = some none) (hz : Zc cls d oe) (hv : ∃ vs, oe.data = .fields vs) (hN : X.N[i]? = some n := by rfl) (hvi : Vis X.env.scope n := by first | exact Or.inl rfl | exact Or.inr (Or.inl rfl) | exact Or.inr (Or.inr rfl)) (hd : (n == ("__debug__" : Str)) = false := by decide) (hcd : (n == ("__classdict__" : Str)) = false := by decide)
    (hb : attributeBase (.Name n p3) f X.env (eval (.Name n p3) X.env) = eval (.Name n p3) X.env := by rfl) :
    PdD (X.suite a ((a, oe) :: pn)) W0 (.Attribute (.Name n p3) f pos) (tXf a cls d C f (tVar i)) (wXf a cls d i C f) := ⟨pe_xf T hno hz hv (pe_var hN hvi hd hcd) hb, Snd.xf⟩
end
end DL
namespace DL
open PySem PySem.Spec PyProof.Rows L2
theorem bt_ValueError : bootBuiltins "ValueError" = some (.type "ValueError") := by decide +kernel
end DL

namespace DL
open PySem PySem.Spec PyProof.Rows L2

/-! ## dicts -/
section
variable {κ : Type} [DecidableEq κ]
def dget (kvs : List (κ × D)) (k : κ) : Option D := (kvs.find? fun kv => decide (kv.1 = k)).map (·.2)
/-- in its place, or at the end -/
def dput (kvs : List (κ × D)) (k : κ) (v : D) : List (κ × D) :=
  if (kvs.any fun kv => decide (kv.1 = k)) = true then kvs.map (fun kv => if kv.1 = k then (kv.1, v) else kv) else kvs ++ [(k, v)]
theorem dget_nil {k : κ} : dget ([] : List (κ × D)) k = none := rfl
theorem dget_pos {p : κ × D} {r : List (κ × D)} {k : κ} (e : p.1 = k) : dget (p :: r) k = some p.2 := by simp [dget, List.find?_cons, e]
theorem dget_neg {p : κ × D} {r : List (κ × D)} {k : κ} (e : ¬ p.1 = k) : dget (p :: r) k = dget r k := by simp [dget, List.find?_cons, e]
theorem dget_any (k : κ) : ∀ kvs : List (κ × D), (kvs.any fun kv => decide (kv.1 = k)) = (dget kvs k).isSome
  | [] => rfl
  | p :: r => by
    rw [List.any_cons]
    by_cases e : p.1 = k
    · simp only [dget_pos e, decide_eq_true e, Bool.true_or, Option.isSome_some]
    · rw [dget_neg e, decide_eq_false e, Bool.false_or]; exact dget_any k r
theorem dget_map (k j : κ) (y : D) : ∀ kvs : List (κ × D), dget (kvs.map fun kv => if kv.1 = k then (kv.1, y) else kv) j = (dget kvs j).map fun x => if j = k then y else x
  | [] => rfl
  | p :: r => by
    have ih := dget_map k j y r
    rw [List.map_cons]
    by_cases h : p.1 = k
    · rw [if_pos h]
      by_cases e : p.1 = j
      · rw [dget_pos (p := (p.1, y)) e, dget_pos e, Option.map_some, if_pos (e.symm.trans h)]
      · rw [dget_neg (p := (p.1, y)) e, dget_neg e, ih]
    · rw [if_neg h]
      by_cases e : p.1 = j
      · rw [dget_pos (p := p) e, dget_pos e, Option.map_some, if_neg (fun z => h (e.trans z))]
      · rw [dget_neg (p := p) e, dget_neg e, ih]
theorem dget_snoc (k j : κ) (y : D) : ∀ kvs : List (κ × D), dget kvs k = none → dget (kvs ++ [(k, y)]) j = if j = k then some y else dget kvs j
  | [], _ => by
    by_cases e : k = j
    · rw [if_pos e.symm]; exact dget_pos (p := (k, y)) e
    · rw [if_neg (fun z => e z.symm)]; exact dget_neg (p := (k, y)) e
  | p :: r, hn => by
    rw [List.cons_append]
    have hk : ¬ p.1 = k := fun z => by rw [dget_pos z] at hn; cases hn
    rw [dget_neg hk] at hn
    have ih := dget_snoc k j y r hn
    by_cases e : p.1 = j
    · rw [dget_pos e, dget_pos e, if_neg (fun z => hk (e.trans z))]
    · rw [dget_neg e, dget_neg e, ih]
theorem dget_put (kvs : List (κ × D)) (k j : κ) (y : D) : dget (dput kvs k y) j = if j = k then some y else dget kvs j := by
  unfold dput
  rw [dget_any]
  cases q : dget kvs k with
  | none =>
    rw [if_neg (by simp)]
    exact dget_snoc k j y kvs q
  | some x =>
    rw [if_pos (show (some x).isSome = true from rfl), dget_map]
    by_cases e : j = k
    · subst e
      rw [q, if_pos rfl]
      simp
    · rw [if_neg e]
      cases dget kvs j <;> simp [e]
theorem dput_new {kvs : List (κ × D)} {k : κ} (v : D) (h : dget kvs k = none) : dput kvs k v = kvs ++ [(k, v)] := by
  unfold dput
  rw [dget_any, h]
  rfl
theorem dput_old {kvs : List (κ × D)} {k : κ} (v : D) {x : D} (h : dget kvs k = some x) : dput kvs k v = kvs.map fun kv => if kv.1 = k then (kv.1, v) else kv := by
  unfold dput
  rw [dget_any, h]
  rfl
theorem dput_len (kvs : List (κ × D)) (k : κ) (v : D) : (dput kvs k v).length ≤ kvs.length + 1 := by
  unfold dput
  split <;> simp
end
section
variable {K : PySem.W.Frag} {F F' : Hp} {κ : Type} [DecidableEq κ]
theorem Repk.get : ∀ {vs : List (κ × V)} {ds : List (κ × D)} (k : κ), Repk K F vs ds → (valV vs k = none ∧ dget ds k = none) ∨ ∃ v d, valV vs k = some v ∧ dget ds k = some d ∧ Rep K F v d
  | _, _, _, .nil => .inl ⟨rfl, rfl⟩
  | _, _, k, .cons (k := j) (v := v) (d := d) r t => by
    by_cases e : j = k
    · exact .inr ⟨v, d, valV_pos (p := (j, v)) e, dget_pos (p := (j, d)) e, r⟩
    · rw [valV_neg (p := (j, v)) e, dget_neg (p := (j, d)) e]
      exact Repk.get k t
theorem Repk.anyk {k : κ} : ∀ {vs : List (κ × V)} {ds : List (κ × D)}, Repk K F vs ds → (vs.any fun kv => decide (kv.1 = k)) = (ds.any fun kv => decide (kv.1 = k))
  | _, _, .nil => rfl
  | _, _, .cons r t => by rw [List.any_cons, List.any_cons, Repk.anyk t]
theorem Repk.mapk {k : κ} {v : V} {d : D} (h : Rep K F v d) : ∀ {vs : List (κ × V)} {ds : List (κ × D)}, Repk K F vs ds → Repk K F (vs.map fun kv => if kv.1 = k then (kv.1, v) else kv) (ds.map fun kv => if kv.1 = k then (kv.1, d) else kv)
  | _, _, .nil => .nil
  | _, _, .cons (k := j) r t => by
    rw [List.map_cons, List.map_cons]
    by_cases e : j = k
    · rw [if_pos e, if_pos e]; exact .cons h (Repk.mapk h t)
    · rw [if_neg e, if_neg e]; exact .cons r (Repk.mapk h t)
theorem Repk.snoc {k : κ} {v : V} {d : D} (h : Rep K F v d) : ∀ {vs : List (κ × V)} {ds : List (κ × D)}, Repk K F vs ds → Repk K F (vs ++ [(k, v)]) (ds ++ [(k, d)])
  | _, _, .nil => .cons h .nil
  | _, _, .cons r t => .cons r (Repk.snoc h t)
theorem Repk.put {k : κ} {v : V} {d : D} {vs : List (κ × V)} {ds : List (κ × D)} (h : Rep K F v d) (r : Repk K F vs ds) : Repk K F (putK vs k v) (dput ds k d) := by
  unfold putK dput
  rw [r.anyk]
  split
  · exact r.mapk h
  · exact r.snoc h
end
/-! keys -/
def D.key : D → Option Key
  | .int i => some (.inl i) | .str s => some (.inr s) | _ => none
def keysOf : List D → Option (List Key)
  | [] => some []
  | d :: ds => match d.key, keysOf ds with
    | some k, some ks => some (k :: ks)
    | _, _ => none
def D.tkey : D → Option (List Key)
  | .tup ds => keysOf ds | _ => none
@[simp] theorem eD_key_1 (i : Int) : (D.int i).key = some (.inl i) := rfl
@[simp] theorem eD_key_2 (s : Str) : (D.str s).key = some (.inr s) := rfl
@[simp] theorem eD_tkey_1 (ds : List D) : (D.tup ds).tkey = keysOf ds := rfl
@[simp] theorem ekeysOf_1 : keysOf [] = some [] := rfl
@[simp] theorem ekeysOf_2 (i : Int) (ds : List D) : keysOf (.int i :: ds) = (keysOf ds).map fun ks => .inl i :: ks := by
  show (match (some (Sum.inl i) : Option Key), keysOf ds with
    | some k, some ks => some (k :: ks)
    | _, _ => none) = _
  cases keysOf ds <;> rfl
@[simp] theorem ekeysOf_3 (s : Str) (ds : List D) : keysOf (.str s :: ds) = (keysOf ds).map fun ks => .inr s :: ks := by
  show (match (some (Sum.inr s) : Option Key), keysOf ds with
    | some k, some ks => some (k :: ks)
    | _, _ => none) = _
  cases keysOf ds <;> rfl
section
variable {K : PySem.W.Frag} {F : Hp}
theorem Rep.key {v : V} {d : D} {k : Key} (r : Rep K F v d) (h : d.key = some k) : v = kV k := by
  cases r with
  | int i => cases h; rfl
  | str s => cases h; rfl
  | _ => cases h
theorem Reps.keys : ∀ {vs : List V} {ds : List D} {ks : List Key}, Reps K F vs ds → keysOf ds = some ks → vs = ks.map kV
  | _, _, _, .nil, h => by cases h; rfl
  | _, _, ks, .cons (d := d) (ds := ds) r t, h => by
    have h' : (match d.key, keysOf ds with
      | some k, some ks => some (k :: ks)
      | _, _ => none) = some ks := h
    cases e1 : d.key with
    | none => rw [e1] at h'; cases h'
    | some k =>
      cases e2 : keysOf ds with
      | none => rw [e1, e2] at h'; cases h'
      | some l =>
        rw [e1, e2] at h'
        cases h'
        rw [r.key e1, Reps.keys t e2]
        rfl
theorem Rep.tkey {v : V} {d : D} {ks : List Key} (r : Rep K F v d) (h : d.tkey = some ks) : ∃ b, v = .ref b ∧ F b = some (.tup (ks.map kV)) := by
  cases r with
  | tup h1 h2 => exact ⟨_, rfl, by rw [h1, h2.keys h]⟩
  | _ => cases h
end
/-- what the dict x holds at y -/
def W.dgt (x : W) (y : D) (k : Option W → Prop) : Prop := match x with
  | .dat (.dic kvs) => ∃ j, y.key = some j ∧ k ((dget kvs j).map .dat)
  | .dat (.dit kvs) => ∃ j, y.tkey = some j ∧ k ((dget kvs j).map .dat)
  | .rdo (.dic kvs) => ∃ j, y.key = some j ∧ k ((dget kvs j).map rdW)
  | .rdo (.dit kvs) => ∃ j, y.tkey = some j ∧ k ((dget kvs j).map rdW)
  | .new (.dic kvs) => ∃ j, y.key = some j ∧ k ((dget kvs j).map .dat)
  | .ref _ _ (.dic kvs) => ∃ j, y.key = some j ∧ k ((dget kvs j).map .dat)
  | .ref _ _ (.dit kvs) => ∃ j, y.tkey = some j ∧ k ((dget kvs j).map .dat)
  | _ => False
@[simp ↓] theorem eW_dgt_1 (kvs : List (Key × D)) (y : D) (k : Option W → Prop) : (W.dat (.dic kvs)).dgt y k = ∃ j, y.key = some j ∧ k ((dget kvs j).map .dat) := rfl
@[simp ↓] theorem eW_dgt_2 (kvs : List (List Key × D)) (y : D) (k : Option W → Prop) : (W.dat (.dit kvs)).dgt y k = ∃ j, y.tkey = some j ∧ k ((dget kvs j).map .dat) := rfl
@[simp ↓] theorem eW_dgt_3 (kvs : List (Key × D)) (y : D) (k : Option W → Prop) : (W.rdo (.dic kvs)).dgt y k = ∃ j, y.key = some j ∧ k ((dget kvs j).map rdW) := rfl
@[simp ↓] theorem eW_dgt_4 (kvs : List (List Key × D)) (y : D) (k : Option W → Prop) : (W.rdo (.dit kvs)).dgt y k = ∃ j, y.tkey = some j ∧ k ((dget kvs j).map rdW) := rfl
@[simp ↓] theorem eW_dgt_5 (kvs : List (Key × D)) (y : D) (k : Option W → Prop) : (W.new (.dic kvs)).dgt y k = ∃ j, y.key = some j ∧ k ((dget kvs j).map .dat) := rfl
@[simp ↓] theorem eW_dgt_6 (i : Nat) (p : List Pk) (kvs : List (Key × D)) (y : D) (k : Option W → Prop) : (W.ref i p (.dic kvs)).dgt y k = ∃ j, y.key = some j ∧ k ((dget kvs j).map .dat) := rfl
@[simp ↓] theorem eW_dgt_7 (i : Nat) (p : List Pk) (kvs : List (List Key × D)) (y : D) (k : Option W → Prop) : (W.ref i p (.dit kvs)).dgt y k = ∃ j, y.tkey = some j ∧ k ((dget kvs j).map .dat) := rfl
section
variable {K : PySem.W.Frag} {fx : Fx} {F G H F' G' H' : Hp} {σ : L2.St} {S : List Slot} {A : Nat → List Addr} {v u : V} {B : List Addr} {x : W} {y : D}
theorem RepW.dgt {k : Option W → Prop} (c : Cons K fx F G H σ S A) (r : RepW K fx F G H S A v B x) (ry : Rep K H u y) (h : x.dgt y k) :
    ∃ a, v = .ref a ∧ IsD H a ∧ ((DGet H a u none ∧ k none) ∨ ∃ w z, DGet H a u (some w) ∧ k (some z) ∧ RepW K fx F G H S A w [] z) := by
  have one : ∀ {L : Hp} {a : Addr} {vs : List (Key × V)} {kvs : List (Key × D)} {f : D → W}, H a = some (.dK vs) → Repk K L vs kvs → (∀ {w d}, Rep K L w d → RepW K fx F G H S A w [] (f d)) → (∃ j, y.key = some j ∧ k ((dget kvs j).map f)) →
      IsD H a ∧ ((DGet H a u none ∧ k none) ∨ ∃ w z, DGet H a u (some w) ∧ k (some z) ∧ RepW K fx F G H S A w [] z) := fun {L a vs kvs f} h1 h2 h3 ⟨j, e, z⟩ => by
    refine ⟨.inl ⟨_, .inl h1⟩, ?_⟩
    rw [ry.key e]
    have g := DGet.k (k := j) h1
    rcases h2.get j with ⟨q1, q2⟩ | ⟨w, d, q1, q2, q3⟩
    · rw [q1] at g; rw [q2] at z; exact .inl ⟨g, z⟩
    · rw [q1] at g; rw [q2] at z; exact .inr ⟨w, _, g, z, h3 q3⟩
  have two : ∀ {L : Hp} {a : Addr} {vs : List (List Key × V)} {kvs : List (List Key × D)} {f : D → W}, H a = some (.dT vs) → Repk K L vs kvs → (∀ {w d}, Rep K L w d → RepW K fx F G H S A w [] (f d)) → (∃ j, y.tkey = some j ∧ k ((dget kvs j).map f)) →
      IsD H a ∧ ((DGet H a u none ∧ k none) ∨ ∃ w z, DGet H a u (some w) ∧ k (some z) ∧ RepW K fx F G H S A w [] z) := fun {L a vs kvs f} h1 h2 h3 ⟨j, e, z⟩ => by
    refine ⟨.inr ⟨_, .inl h1⟩, ?_⟩
    obtain ⟨b, rfl, hb⟩ := ry.tkey e
    have g := DGet.t (k := j) h1 hb
    rcases h2.get j with ⟨q1, q2⟩ | ⟨w, d, q1, q2, q3⟩
    · rw [q1] at g; rw [q2] at z; exact .inl ⟨g, z⟩
    · rw [q1] at g; rw [q2] at z; exact .inr ⟨w, _, g, z, h3 q3⟩
  cases x with
  | dat d =>
    obtain ⟨r, rfl⟩ := r
    cases r with
    | dic h1 h2 => exact ⟨_, rfl, one (c.gh _ _ (c.fg _ _ h1)) h2 (f := W.dat) (fun r => ⟨r, rfl⟩) h⟩
    | dit h1 h2 => exact ⟨_, rfl, two (c.gh _ _ (c.fg _ _ h1)) h2 (f := W.dat) (fun r => ⟨r, rfl⟩) h⟩
    | _ => exact h.elim
  | rdo d =>
    obtain ⟨r, rfl⟩ := r
    cases r with
    | dic h1 h2 => exact ⟨_, rfl, one (c.gh _ _ h1) h2 (f := rdW) (fun r => rdW_rep r) h⟩
    | dit h1 h2 => exact ⟨_, rfl, two (c.gh _ _ h1) h2 (f := rdW) (fun r => rdW_rep r) h⟩
    | _ => exact h.elim
  | new o =>
    obtain ⟨r, _, _⟩ := r
    cases o with
    | dic kvs => cases r with | dic h1 h2 => exact ⟨_, rfl, one h1 h2 (f := W.dat) (fun r => ⟨r, rfl⟩) h⟩
    | _ => exact h.elim
  | ref i p o =>
    obtain ⟨_, _, As, r, _⟩ := r
    cases o with
    | dic kvs => cases r with | dic h1 h2 => exact ⟨_, rfl, one h1 h2 (f := W.dat) (fun r => ⟨r, rfl⟩) h⟩
    | dit kvs => cases r with | dit h1 h2 => exact ⟨_, rfl, two h1 h2 (f := W.dat) (fun r => ⟨r, rfl⟩) h⟩
    | _ => exact h.elim
  | sto => exact h.elim
variable {Wx : WX} {td ty tv tx : TE} {wd wy wv wx : WE}
/-- d[y] -/
@[simp ↓] def wDGet (wd wy : WE) : WE := fun xp S Q => wd xp S fun x => wy xp S fun y => y.dd fun k => x.dgt k fun r => ∃ z, r = some z ∧ Q z
theorem Snd.dget (hd : Snd K Wx td wd) (hy : Snd K Wx ty wy) : Snd K Wx (tDGet td ty) (wDGet wd wy) := fun fx xp F G H σ S A Qd Q xr c hw q => by
  refine Snd.two (Q := fun v u H2 => ∃ a w, v = .ref a ∧ DGet H2 a u (some w) ∧ Q w H2) hd hy xr c hw fun v x u y F' G' H' B B' gr c' r1 r2 n1 n2 hq => ?_
  obtain ⟨nx, hq⟩ := W.dd_of hq
  obtain ⟨a, rfl, _, ⟨_, z, e, _⟩ | ⟨w, z, g, ⟨z', e, qz⟩, rz⟩⟩ := r1.dgt c' (r2.rd c' nx) hq
  · cases e
  · cases e
    exact ⟨a, w, rfl, g, q w z F' G' H' [] gr c' rz (fun b hb => by cases hb) qz⟩
/-- y in d, y not in d -/
@[simp ↓] def wDIn (neg : Bool) (wy wd : WE) : WE := fun xp S Q => wy xp S fun y => wd xp S fun x => y.dd fun k => x.dgt k fun r => Q (.dat (.bl (r.isSome != neg)))
theorem Snd.din (hy : Snd K Wx ty wy) (hd : Snd K Wx td wd) : Snd K Wx (tDIn ty td) (wDIn false wy wd) := fun fx xp F G H σ S A Qd Q xr c hw q => by
  refine Snd.two (Q := fun u v H2 => ∃ a o, v = .ref a ∧ DGet H2 a u o ∧ Q (.bl o.isSome) H2) hy hd xr c hw fun u y v x F' G' H' B B' gr c' r2 r1 n1 n2 hq => ?_
  obtain ⟨nx, hq⟩ := W.dd_of hq
  obtain ⟨a, rfl, _, ⟨g, z⟩ | ⟨w, z, g, qz, rz⟩⟩ := r1.dgt c' (r2.rd c' nx) hq
  · exact ⟨a, _, rfl, g, q _ (.dat (.bl false)) F' G' H' [] gr c' ⟨.bl _, rfl⟩ (fun b hb => by cases hb) z⟩
  · exact ⟨a, _, rfl, g, q _ (.dat (.bl true)) F' G' H' [] gr c' ⟨.bl _, rfl⟩ (fun b hb => by cases hb) qz⟩
theorem Snd.dnin (hy : Snd K Wx ty wy) (hd : Snd K Wx td wd) : Snd K Wx (tDNotIn ty td) (wDIn true wy wd) := fun fx xp F G H σ S A Qd Q xr c hw q => by
  refine Snd.two (Q := fun u v H2 => ∃ a o, v = .ref a ∧ DGet H2 a u o ∧ Q (.bl (!o.isSome)) H2) hy hd xr c hw fun u y v x F' G' H' B B' gr c' r2 r1 n1 n2 hq => ?_
  obtain ⟨nx, hq⟩ := W.dd_of hq
  obtain ⟨a, rfl, _, ⟨g, z⟩ | ⟨w, z, g, qz, rz⟩⟩ := r1.dgt c' (r2.rd c' nx) hq
  · exact ⟨a, _, rfl, g, q _ (.dat (.bl true)) F' G' H' [] gr c' ⟨.bl _, rfl⟩ (fun b hb => by cases hb) z⟩
  · exact ⟨a, _, rfl, g, q _ (.dat (.bl false)) F' G' H' [] gr c' ⟨.bl _, rfl⟩ (fun b hb => by cases hb) qz⟩
theorem SndT.ofB {t : TE} {w : WE} (h : Snd K Wx t w) : SndT K Wx (tB t) (wB w) := fun fx xp F G H σ S A Qd Q xr c hw q => by
  refine h fx xp F G H σ S A _ _ xr c hw fun v x F1 G1 H1 B g1 c1 r1 n1 q1 => ?_
  cases x with
  | dat d =>
    cases d with
    | bl b => cases r1.1; exact ⟨b, rfl, q b F1 G1 H1 g1 c1 q1⟩
    | _ => exact q1.elim
  | _ => exact q1.elim
/-- a dict -/
def W.isd : W → Prop
  | .dat (.dic _) => True | .dat (.dit _) => True | .rdo (.dic _) => True | .rdo (.dit _) => True | .new (.dic _) => True | .new (.dit _) => True | .ref _ _ (.dic _) => True | .ref _ _ (.dit _) => True
  | _ => False
@[simp ↓] theorem eW_isd_1 (kvs : List (Key × D)) : (W.dat (.dic kvs)).isd = True := rfl
@[simp ↓] theorem eW_isd_2 (kvs : List (List Key × D)) : (W.dat (.dit kvs)).isd = True := rfl
@[simp ↓] theorem eW_isd_3 (kvs : List (Key × D)) : (W.rdo (.dic kvs)).isd = True := rfl
@[simp ↓] theorem eW_isd_4 (kvs : List (List Key × D)) : (W.rdo (.dit kvs)).isd = True := rfl
@[simp ↓] theorem eW_isd_5 (i : Nat) (p : List Pk) (kvs : List (Key × D)) : (W.ref i p (.dic kvs)).isd = True := rfl
@[simp ↓] theorem eW_isd_6 (i : Nat) (p : List Pk) (kvs : List (List Key × D)) : (W.ref i p (.dit kvs)).isd = True := rfl
theorem RepW.isd (c : Cons K fx F G H σ S A) (r : RepW K fx F G H S A v B x) (h : x.isd) : ∃ a, v = .ref a ∧ IsD H a := by
  have two : ∀ {L : Hp} {w : V} {d : D}, Sub L H → Rep K L w d → (W.dat d).isd → ∃ a, w = .ref a ∧ IsD H a := fun {L w d} s r h => by
    cases r with
    | dic h1 _ => exact ⟨_, rfl, .inl ⟨_, .inl (s _ _ h1)⟩⟩
    | dit h1 _ => exact ⟨_, rfl, .inr ⟨_, .inl (s _ _ h1)⟩⟩
    | _ => exact h.elim
  have own : ∀ {w : V} {o : O} {As : List Addr}, RepO K F H w o As → (W.new o).isd → ∃ a, w = .ref a ∧ IsD H a := fun {w o As} r h => by
    cases r with
    | dic h1 _ => exact ⟨_, rfl, .inl ⟨_, .inl h1⟩⟩
    | dit h1 _ => exact ⟨_, rfl, .inr ⟨_, .inl h1⟩⟩
    | _ => exact h.elim
  cases x with
  | dat d => exact two (c.fg.trans c.gh) r.1 h
  | rdo d => exact two c.gh r.1 (by cases d <;> first | exact h | exact h.elim)
  | new o => exact own r.1 h
  | ref i p o =>
    obtain ⟨_, _, As, r, _⟩ := r
    exact own r (by cases o <;> first | exact h | exact h.elim)
  | sto => exact h.elim
/-- d.get(y, x); d.get(y) -/
def orW (r : Option W) (dz : D) (Q : W → Prop) : Prop := match r with
  | some w => Q w
  | none => Q (.dat dz)
@[simp ↓] theorem eorW_1 (w : W) (dz : D) (Q : W → Prop) : orW (some w) dz Q = Q w := rfl
@[simp ↓] theorem eorW_2 (dz : D) (Q : W → Prop) : orW none dz Q = Q (.dat dz) := rfl
@[simp ↓] def wDGet2 (wd wy wx : WE) : WE := fun xp S Q => wd xp S fun x => x.isd ∧ wy xp S fun y => wx xp S fun z => y.dd fun k => ∃ dz, z = .dat dz ∧ x.dgt k fun r => orW r dz Q
@[simp ↓] def wDGet1 (wd wy : WE) : WE := fun xp S Q => wd xp S fun x => x.isd ∧ wy xp S fun y => y.dd fun k => x.dgt k fun r => orW r .non Q
theorem Snd.dget2 (hd : Snd K Wx td wd) (hy : Snd K Wx ty wy) (hx : Snd K Wx tx wx) : Snd K Wx (tDGet2 td ty tx) (wDGet2 wd wy wx) := fun fx xp F G H σ S A Qd Q xr c hw q => by
  refine hd fx xp F G H σ S A _ _ xr c hw fun v x F1 G1 H1 B1 g1 c1 r1 n1 q1 => ?_
  obtain ⟨a, rfl, d⟩ := r1.isd c1 q1.1
  refine ⟨a, rfl, d, hy fx xp F1 G1 H1 σ S A _ _ xr c1 q1.2 fun u y F2 G2 H2 B2 g2 c2 r2 n2 q2 => hx fx xp F2 G2 H2 σ S A _ _ xr c2 q2 fun w z F3 G3 H3 B3 g3 c3 r3 n3 q3 => ?_⟩
  obtain ⟨nx, dz, rfl, hq⟩ := W.dd_of q3
  have gg := (g1.trans g2).trans g3
  obtain ⟨a', e, _, ⟨g, z⟩ | ⟨w', z, g, qz, rz⟩⟩ := ((r1.grow c1 g2).grow c2 g3).dgt c3 ((r2.grow c2 g3).rd c3 nx) hq
  · cases e
    exact ⟨none, g, q _ (.dat dz) F3 G3 H3 [] gg c3 ⟨r3.1, rfl⟩ (fun b hb => by cases hb) z⟩
  · cases e
    exact ⟨some w', g, q _ z F3 G3 H3 [] gg c3 rz (fun b hb => by cases hb) qz⟩
theorem Snd.dget1 (hd : Snd K Wx td wd) (hy : Snd K Wx ty wy) : Snd K Wx (tDGet1 td ty) (wDGet1 wd wy) := fun fx xp F G H σ S A Qd Q xr c hw q => by
  refine hd fx xp F G H σ S A _ _ xr c hw fun v x F1 G1 H1 B1 g1 c1 r1 n1 q1 => ?_
  obtain ⟨a, rfl, d⟩ := r1.isd c1 q1.1
  refine ⟨a, rfl, d, hy fx xp F1 G1 H1 σ S A _ _ xr c1 q1.2 fun u y F2 G2 H2 B2 g2 c2 r2 n2 q2 => ?_⟩
  obtain ⟨nx, hq⟩ := W.dd_of q2
  have gg := g1.trans g2
  obtain ⟨a', e, _, ⟨g, z⟩ | ⟨w', z, g, qz, rz⟩⟩ := (r1.grow c1 g2).dgt c2 (r2.rd c2 nx) hq
  · cases e
    exact ⟨none, g, q _ (.dat .non) F2 G2 H2 [] gg c2 ⟨.non, rfl⟩ (fun b hb => by cases hb) z⟩
  · cases e
    exact ⟨some w', g, q _ z F2 G2 H2 [] gg c2 rz (fun b hb => by cases hb) qz⟩
/-- {} -/
@[simp ↓] def wDNew : WE := fun _ _ Q => Q (.new (.dic []))
@[simp ↓] def wDNewT : WE := fun _ _ Q => Q (.new (.dit []))
theorem Snd.dnew : Snd K Wx tDNewK wDNew := fun fx xp F G H σ S A Qd Q xr c hw q p hp => by
  obtain ⟨g2, c2⟩ := c.laid (o := .dK []) hp
  obtain ⟨n1, n2, n3, n4⟩ := c.new hp
  exact q _ (.new (.dic [])) F G _ [p] g2 c2 ⟨.dic upd_same .nil, List.nodup_cons.mpr ⟨List.not_mem_nil, .nil⟩, fun b hb => by
    rw [List.mem_singleton.mp hb]
    exact ⟨n1, n3⟩⟩ (fun b hb => by rw [List.mem_singleton.mp hb]; exact hp) hw
theorem Snd.dnewT : Snd K Wx tDNewT wDNewT := fun fx xp F G H σ S A Qd Q xr c hw q p hp => by
  obtain ⟨g2, c2⟩ := c.laid (o := .dT []) hp
  obtain ⟨n1, n2, n3, n4⟩ := c.new hp
  exact q _ (.new (.dit [])) F G _ [p] g2 c2 ⟨.dit upd_same .nil, List.nodup_cons.mpr ⟨List.not_mem_nil, .nil⟩, fun b hb => by
    rw [List.mem_singleton.mp hb]
    exact ⟨n1, n3⟩⟩ (fun b hb => by rw [List.mem_singleton.mp hb]; exact hp) hw
/-- d[y] = v, the values frozen -/
def W.dpt (x : W) (y : D) (f : Nat → List Pk → (D → O) → Prop) : Prop := match x with
  | .ref j p (.dic kvs) => ∃ key, y.key = some key ∧ kvs.length < 100000 ∧ f j p fun d => .dic (dput kvs key d)
  | .ref j p (.dit kvs) => ∃ key, y.tkey = some key ∧ kvs.length < 100000 ∧ f j p fun d => .dit (dput kvs key d)
  | _ => False
@[simp ↓] theorem eW_dpt_1 (j : Nat) (p : List Pk) (kvs : List (Key × D)) (y : D) (f : Nat → List Pk → (D → O) → Prop) : (W.ref j p (.dic kvs)).dpt y f = ∃ key, y.key = some key ∧ kvs.length < 100000 ∧ f j p fun d => .dic (dput kvs key d) := rfl
@[simp ↓] theorem eW_dpt_2 (j : Nat) (p : List Pk) (kvs : List (List Key × D)) (y : D) (f : Nat → List Pk → (D → O) → Prop) : (W.ref j p (.dit kvs)).dpt y f = ∃ key, y.tkey = some key ∧ kvs.length < 100000 ∧ f j p fun d => .dit (dput kvs key d) := rfl
@[simp ↓] def wDPut (wd wy wv : WE) : WS := fun xp P S => wv xp S fun z => wd xp S fun x => wy xp S fun y => y.dd fun k => x.dpt k fun j p mk => z.fz1 fun d => P.nx (updS S j p (mk d))
theorem Cons.chgD {l : Addr} {j : Nat} {p : List Pk} {ds ds' : List (Key × D)} {vs' : List (Key × V)} (c : Cons K fx F G H σ S A) (r : RepW K fx F G H S A (.ref l) [] (.ref j p (.dic ds))) (h : Repk K F vs' ds') : ∃ A', Cons K fx F G (upd H l (.dK vs')) σ (updS S j p (.dic ds')) A' :=
  c.chg (Bn := []) r trivial (fun b hb => by cases hb) fun As ra nd hl nb => ⟨[l], .dic upd_same h, List.nodup_cons.mpr ⟨List.not_mem_nil, .nil⟩, fun a ha => by
    rw [List.mem_singleton.mp ha]
    exact .inl hl⟩
theorem Cons.chgDT {l : Addr} {j : Nat} {p : List Pk} {ds ds' : List (List Key × D)} {vs' : List (List Key × V)} (c : Cons K fx F G H σ S A) (r : RepW K fx F G H S A (.ref l) [] (.ref j p (.dit ds))) (h : Repk K F vs' ds') : ∃ A', Cons K fx F G (upd H l (.dT vs')) σ (updS S j p (.dit ds')) A' :=
  c.chg (Bn := []) r trivial (fun b hb => by cases hb) fun As ra nd hl nb => ⟨[l], .dit upd_same h, List.nodup_cons.mpr ⟨List.not_mem_nil, .nil⟩, fun a ha => by
    rw [List.mem_singleton.mp ha]
    exact .inl hl⟩
theorem SndS.dput (hd : Snd K Wx td wd) (hy : Snd K Wx ty wy) (hv : Snd K Wx tv wv) : SndS K Wx (sDPut td ty tv) (wDPut wd wy wv) := fun fx xp F G H σ S A P D xr c r hw => by
  refine hv fx xp F G H σ S A _ _ xr c hw fun w z F1 G1 H1 B1 g1 c1 r1 n1 q1 => ?_
  refine hd fx xp F1 G1 H1 σ S A _ _ xr c1 q1 fun v x F2 G2 H2 B2 g2 c2 r2 n2 q2 => ?_
  refine hy fx xp F2 G2 H2 σ S A _ _ xr c2 q2 fun u y F3 G3 H3 B3 g3 c3 r3 n3 q3 => ?_
  obtain ⟨nx, q3⟩ := W.dd_of q3
  have ry := r3.rd c3 nx
  have rz := (r1.grow c1 g2).grow c2 g3
  have rx := r2.grow c2 g3
  have gg := (g1.trans g2).trans g3
  cases x with
  | ref j p o =>
    cases o with
    | dic kvs =>
      obtain ⟨k, hk, hl, q⟩ := q3
      obtain ⟨F4, G4, d, g4, c4, f4, gg4, rd, z⟩ := rz.fz1 c gg c3 n1 q
      obtain ⟨e1, e2, As, h, s⟩ := rx
      cases h with
      | dic h1 h2 =>
        rename_i l vs
        rw [ry.key hk]
        refine ⟨l, _, rfl, DPut.k h1 (by rw [h2.length]; exact lt_line hl), ?_⟩
        have rx4 : RepW K fx F4 G4 H3 S A (.ref l) [] (.ref j p (.dic kvs)) := ⟨rfl, e2, _, .dic h1 (h2.mono f4), s⟩
        obtain ⟨A', c5⟩ := c4.chgD rx4 ((h2.mono f4).put rd)
        exact r.nx σ F4 G4 _ _ A' g4.f g4.g c5 z
    | dit kvs =>
      obtain ⟨k, hk, hl, q⟩ := q3
      obtain ⟨F4, G4, d, g4, c4, f4, gg4, rd, z⟩ := rz.fz1 c gg c3 n1 q
      obtain ⟨e1, e2, As, h, s⟩ := rx
      cases h with
      | dit h1 h2 =>
        rename_i l vs
        obtain ⟨b, rfl, hb⟩ := ry.tkey hk
        refine ⟨l, _, rfl, DPut.t h1 hb (by rw [h2.length]; exact lt_line hl), ?_⟩
        have rx4 : RepW K fx F4 G4 H3 S A (.ref l) [] (.ref j p (.dit kvs)) := ⟨rfl, e2, _, .dit h1 (h2.mono f4), s⟩
        obtain ⟨A', c5⟩ := c4.chgDT rx4 ((h2.mono f4).put rd)
        exact r.nx σ F4 G4 _ _ A' g4.f g4.g c5 z
    | _ => exact q3.elim
  | _ => exact q3.elim
end
section
variable {X : Cx} {Wx : WX} {o e f i : Expr} {td ty tv tx : TE} {wd wy wv wx : WE} {pos pos' apos cpos p1 : Pos}
theorem pd_dnew : PdD X Wx (.Dict [] [] pos) tDNewK wDNew := ⟨pe_dnewK, Snd.dnew⟩
theorem pd_dnewT : PdD X Wx (.Dict [] [] pos) tDNewT wDNewT := ⟨pe_dnewT, Snd.dnewT⟩
theorem u1 (hu : X.A.units + 64 < cLine) : X.A.units + 1 < cLine := by omega
theorem pd_dget (hu : X.A.units + 64 < cLine) (hd : PdD X Wx o td wd) (hy : PdD X Wx i ty wy) (hs : NoSl i := by exact fun _ _ => rfl) : PdD X Wx (.Subscript o i pos) (tDGet td ty) (wDGet wd wy) := ⟨pe_dget (u1 hu) hd.pe hy.pe hs, Snd.dget hd.ok hy.ok⟩
theorem pd_din (hu : X.A.units + 64 < cLine) (hy : PdD X Wx i ty wy) (hd : PdD X Wx o td wd) (h1 : behindInMarks .In o = false := by rfl) : PdD X Wx (.Compare i [.In] [o] pos) (tDIn ty td) (wDIn false wy wd) := ⟨pe_cmp (pc_din (u1 hu) hy.pe hd.pe) h1, Snd.din hy.ok hd.ok⟩
theorem pd_dnin (hu : X.A.units + 64 < cLine) (hy : PdD X Wx i ty wy) (hd : PdD X Wx o td wd) (h1 : behindInMarks .NotIn o = false := by rfl) : PdD X Wx (.Compare i [.NotIn] [o] pos) (tDNotIn ty td) (wDIn true wy wd) := ⟨pe_cmp (pc_dnotin (u1 hu) hy.pe hd.pe) h1, Snd.dnin hy.ok hd.ok⟩
theorem td_din (hu : X.A.units + 64 < cLine) (hy : PdD X Wx i ty wy) (hd : PdD X Wx o td wd) (h1 : behindInMarks .In o = false := by rfl) : TdD X Wx (.Compare i [.In] [o] pos) (tB (tDIn ty td)) (wB (wDIn false wy wd)) := ⟨pt_cmp (pc_din (u1 hu) hy.pe hd.pe) h1, SndT.ofB (Snd.din hy.ok hd.ok)⟩
theorem td_dnin (hu : X.A.units + 64 < cLine) (hy : PdD X Wx i ty wy) (hd : PdD X Wx o td wd) (h1 : behindInMarks .NotIn o = false := by rfl) : TdD X Wx (.Compare i [.NotIn] [o] pos) (tB (tDNotIn ty td)) (wB (wDIn true wy wd)) := ⟨pt_cmp (pc_dnotin (u1 hu) hy.pe hd.pe) h1, SndT.ofB (Snd.dnin hy.ok hd.ok)⟩
theorem pd_dget2 (hu : X.A.units + 64 < cLine) (hd : PdD X Wx o td wd) (hy : PdD X Wx e ty wy) (hx : PdD X Wx f tx wx) (m : M2 X o "get" apos e f cpos := by exact ⟨rfl, rfl, rfl, rfl⟩) : PdD X Wx (.Call (.Attribute o "get" apos) [e, f] [] cpos) (tDGet2 td ty tx) (wDGet2 wd wy wx) := ⟨pe_dget2 (u1 hu) hd.pe hy.pe hx.pe m, Snd.dget2 hd.ok hy.ok hx.ok⟩
theorem pd_dget1 (hu : X.A.units + 64 < cLine) (hd : PdD X Wx o td wd) (hy : PdD X Wx e ty wy) (m : M1 X o "get" apos e cpos := by exact ⟨rfl, rfl, rfl, rfl⟩) : PdD X Wx (.Call (.Attribute o "get" apos) [e] [] cpos) (tDGet1 td ty) (wDGet1 wd wy) := ⟨pe_dget1 (u1 hu) hd.pe hy.pe m, Snd.dget1 hd.ok hy.ok⟩
theorem sd_dput (hu : X.A.units + 64 < cLine) (hd : PdD X Wx o td wd) (hy : PdD X Wx i ty wy) (hv : PdD X Wx e tv wv) (hs : swapsWith e (some (.Subscript o i pos')) pos.line X.env = pure false := by rfl) : PsD X Wx (.Assign [.Subscript o i pos'] e pos) (sDPut td ty tv) (wDPut wd wy wv) := ⟨ps_dput (u1 hu) hd.pe hy.pe hv.pe hs, SndS.dput hd.ok hy.ok hv.ok⟩
end
end DL

namespace DL
open PySem PySem.Spec PyProof.Rows L2

/-! ## set(xs) of a list of ints -/
/-- the new empty set -/
abbrev eSet (w : World) : Obj := { cls := .type "set", dict := none, data := .set #[] 0 (.fresh 0 0 (!w.params.followText "set-order")) }
section
variable {P : Program} {w : World} {A : Around} {E : Value → Shared → Prop} {s : Shared}
theorem setL_call {l : Addr} {xs : Array Value} (ns : List Int) {Q : Value → Shared → Prop} (free : A.handled = none) (at_ : s.heap.IsList l xs) (are : IntsAre xs.toList ns) (few : ns.length + 1 < scanBound)
    (fin : ∀ (h' : Heap) (tk c : Nat), SetR w h' s.heap.objs.size (fun j => decide (j ∈ ns)) c → c ≤ ns.length → (∀ b o, s.heap.get? b = some o → h'.get? b = some o) → Q (.ref s.heap.objs.size) { s with heap := h', toks := tk }) :
    wpAny (model P w) A (call (.type "set") [.ref l]) Q E s := by
  have sz : xs.size = ns.length := by rw [← Array.length_toList]; exact IntsAre.length are
  obtain ⟨c0, t0, mro⟩ := F.called_set.mro
  have f1 := F.called_set.made
  have f2 := F.called_set.sub
  have f3 := F.called_set.notType
  have f4 := F.called_set.canCreate
  have f5 := F.typeCall_set_1 (.ref l)
  have f6 := F.called_set.init.lookup
  have f7 := F.called_set.init.bind (.ref s.heap.objs.size)
  have sub1 := F.sub_list_set
  have sub2 := F.sub_list_frozenset
  have got : (s.heap.push (eSet w)).get? s.heap.objs.size = some (eSet w) := Heap.get?_push_size _ rfl
  have ty : Shared.TypeIs { s with heap := s.heap.push (eSet w) } (.ref s.heap.objs.size) "set" := ⟨_, got, rfl⟩
  refine wpAny_call (codeAny_of_tree ?_)
  show wpAny _ _ (callAny (.type "set") _) _ _ _
  refine wpAny_pure ⟨Code.quiet_builtin _ (by decide +kernel), codeAny_builtin F.entry_type_call ?_⟩
  rw [Around.under_plain (weight_type_call_type "set" [.ref l] []) rfl]
  repeat (any_goals (first | assumption | wp_step))
  refine codeAny_mono (code_set_led1 (P := P) (w := w) (s := s) (.ref l) (E := E) (Q₁ := fun o s₁ => o = .ref s.heap.objs.size ∧ s₁ = { s with heap := s.heap.push (eSet w) }) ⟨rfl, rfl⟩) fun r s₁ hr => ?_
  cases r with
  | error e => exact hr
  | ok fl =>
    cases fl with
    | ret o =>
      obtain ⟨rfl, rfl⟩ := hr
      repeat (any_goals (first | assumption | wp_step))
      refine codeAny_mono (codeAny_call_builtin (R := wants (fun r s₂ => r = .none ∧ ∃ h' tk c, s₂ = { s with heap := h', toks := tk } ∧ SetR w h' s.heap.objs.size (fun j => decide (j ∈ ns)) c ∧ c ≤ ns.length ∧ (∀ b o, s.heap.get? b = some o → h'.get? b = some o)) E)
        F.called_set.init.plain F.entry_set_init (check_set_init_1 ty ?_)) fun r₂ s₂ hr₂ => ?_
      · obtain ⟨⟨c1, d1, t1, sl1⟩, ho, hc, n1, hd⟩ := at_
        simp only at hc hd
        subst hc hd
        have no : (Value.type "list" == Value.type "dict") = false := by decide
        have up : (s.heap.push (eSet w)).IsList l xs := ⟨_, Heap.get?_push_of_some _ ho, rfl, n1, rfl⟩
        have up' := Heap.get?_push_of_some (eSet w) ho
        unfold Builtin.«set.__init__» noKeywords Builtin.Frozenset.updateFrom
        generalize gen : pyIter = it
        wp_walk
        subst gen
        refine wpAny_pyIter_list up ?_
        refine wpAny_bind (wpAny_runValue ?_)
        have lt := Heap.lt_size ho
        have fr : A.in1.in1.in1.handled = none := by simp [free]
        have n2 : l ≠ (s.heap.push (eSet w)).objs.size := by rw [Heap.size_push]; exact Nat.ne_of_lt (Nat.lt_succ_of_lt lt)
        have n3 : s.heap.objs.size ∉ [(s.heap.push (eSet w)).objs.size, l] := by
          rw [Heap.size_push]
          simp only [List.mem_cons, List.not_mem_nil, or_false, not_or]
          exact ⟨Nat.ne_of_lt (Nat.lt_succ_self _), Nat.ne_of_gt lt⟩
        refine set_update_ints ((Walks.list fr _ l n2 xs).toS) s.heap.objs.size n3 ns sz few (fun i v hv => ?_) (xs.size - 0) 0 _ (by omega) (Nat.zero_le _) ⟨⟨_, Heap.get?_push_size _ rfl, rfl, rfl⟩, up.push _⟩
          ⟨0, Nat.le_refl 0, setR_new_at (Heap.get?_push_of_some _ got)⟩ fun s' c' hm hc' hS' => ?_
        · have hi : i < ns.length := by rw [← sz]; exact (Array.getElem?_eq_some_iff.mp hv).1
          obtain ⟨t, e⟩ := IntsAre.int_at are i v (by rw [Array.getElem?_toList]; exact hv)
          refine ⟨ns[i], t, List.getElem?_eq_getElem hi, ?_⟩
          rw [e, List.getD_eq_getElem?_getD, List.getElem?_eq_getElem hi]
          rfl
        · obtain ⟨h', g', d', tk', os'⟩ := s'
          have e1 : g' = s.gens := hm.gens
          have e2 : d' = s.drawn := hm.drawn
          have e3 : os' = s.os := hm.os
          subst e1 e2 e3
          show wpAny _ _ _ _ _ _
          refine wpAny_pure ?_
          show wpAny _ _ (ret Value.none) _ _ _
          refine wpAny_pure ⟨rfl, h', tk', c', rfl, hS', by rw [sz] at hc'; exact hc', fun b o e => ?_⟩
          have lb := Heap.lt_size e
          refine hm.heap b o ?_ (Heap.get?_push_of_some _ (Heap.get?_push_of_some _ e))
          rw [Heap.size_push]
          simp only [List.mem_cons, List.not_mem_nil, or_false, not_or]
          exact ⟨Nat.ne_of_lt lb, Nat.ne_of_lt (Nat.lt_succ_of_lt lb)⟩
      · cases r₂ with
        | error e => exact hr₂
        | ok fl₂ =>
          cases fl₂ with
          | ret r =>
            obtain ⟨rfl, h', tk, c', rfl, hS', hc', hk'⟩ := hr₂
            repeat (any_goals (first | assumption | wp_step))
            exact fin _ _ _ hS' hc' hk'
          | _ => exact hr₂.elim
    | _ => exact hr.elim
end
end DL

namespace DL
open PySem PySem.Spec PyProof.Rows L2
def rSetL (K : PySem.W.Frag) (w : World) : List V → Hp → VK → Prop := fun xs H Q => ∃ (l : Addr) (ns : List Int), xs = [.ref l] ∧ SqL K H l (ns.map V.int) ∧ ns.length < 1000 ∧
  ∀ a c, H a = none → c ≤ ns.length → Q (.ref a) (upd H a (SetO w a (fun j => decide (j ∈ ns)) c))
theorem cr_setL {X : Cx} (hc : X.calm = true) : CallR X (.type "set") (rSetL X.K X.w) := by
  intro pins s σ H xs us Q I r h
  obtain ⟨l, ns, rfl, hs, hl, q⟩ := h
  rw [Vals.ref1 r]
  obtain ⟨its, rv, ⟨o, n, ho, h1, h2, h3⟩, _⟩ := I.list hs
  refine setL_call ns (I.ok.hd hc) ⟨o, ho, h1, n, h3⟩ (by have := ints_of_vals rv; simpa using this) (Nat.lt_trans (Nat.add_lt_add_right hl 1) (by decide)) fun h' tk c R hcl k => ?_
  have hn : H s.heap.objs.size = none := I.hok.fresh (Nat.le_refl _)
  exact ⟨.ref _, _, I.laid (t' := tk) k (Nat.le_refl _) (setO_new R), rfl, q _ c hn hcl⟩
section
variable {K : PySem.W.Frag} {fx : Fx} {F G H F' G' H' : Hp} {σ : L2.St} {S : List Slot} {A : Nat → List Addr} {v u : V} {B : List Addr} {x : W} {y : D}
theorem Cons.newRaw (c : Cons K fx F G H σ S A) {p : Addr} {o : HO} (hp : H p = none) : ∃ F' G', Grow fx F G H F' G' (upd H p o) ∧ Cons K fx F' G' (upd H p o) σ S A ∧ Rep K F' (.ref p) (.raw p o) := by
  obtain ⟨g2, c2⟩ := c.laid (o := o) hp
  obtain ⟨n1, n2, n3, n4⟩ := c.new hp
  refine ⟨_, _, Grow.frz (B := [p]) c2 g2 (fun b hb => by rw [List.mem_singleton.mp hb]; exact n1) (fun b hb => by rw [List.mem_singleton.mp hb]; exact hp), c2.freeze fun b hb => ?_, .raw ?_⟩
  · rw [List.mem_singleton.mp hb]
    exact ⟨n1, n3, c.hn p hp, n4⟩
  · rw [frz_in (List.mem_singleton.mpr rfl)]
    exact upd_same
variable {Wx : WX} {ta te : TE} {wa we : WE}
/-- one value, a list of ints -/
def W.ints : List W → (List Int → Prop) → Prop
  | [x], k => x.its fun ds => ∃ ns, ds = DL.dInts ns ∧ k ns
  | _, _ => False
@[simp ↓] theorem eW_ints (x : W) (k : List Int → Prop) : W.ints [x] k = x.its fun ds => ∃ ns, ds = DL.dInts ns ∧ k ns := rfl
/-- a new set of ints -/
def aSet (w : World) (ns : List Int) (k : W → Prop) : Prop := ∀ a c, c ≤ ns.length → k (.dat (.raw a (SetO w a (fun j => decide (j ∈ ns)) c)))
/-- set(xs) -/
@[simp ↓] def wSetOf (w : World) (wa : WA) : WE := fun xp S Q => wa xp S fun xs => W.ints xs fun ns => ns.length < 1000 ∧ aSet w ns Q
theorem RepWs.ints {xs : List W} {vs : List V} {k : List Int → Prop} (c : Cons K fx F G H σ S A) (r : RepWs K fx F G H S A vs B xs) (h : W.ints xs k) : ∃ a ns, vs = [.ref a] ∧ H a = some (.lst (ns.map V.int)) ∧ k ns := by
  cases r with
  | nil => exact h.elim
  | cons r t nn =>
    cases t with
    | cons _ _ _ => exact h.elim
    | nil =>
      obtain ⟨a, vs, ds, rfl, hs, hr, ns, rfl, z⟩ := r.its c h
      rw [hr.dInts] at hs
      exact ⟨a, ns, rfl, hs, z⟩
theorem Snd.setOf {ta : TA} {wa : WA} (w : World) (ha : SndA K Wx ta wa) : Snd K Wx (tCB (rSetL K w) ta) (wSetOf w wa) := fun fx xp F G H σ S A Qd Q xr c hw q => by
  refine ha fx xp F G H σ S A _ _ xr c hw fun vs xs F1 G1 H1 B g1 c1 r1 n1 q1 => ?_
  obtain ⟨a, ns, rfl, hs, hl, z⟩ := r1.ints c1 q1
  refine ⟨a, ns, rfl, ql hs, hl, fun p cc hp hc => ?_⟩
  obtain ⟨F2, G2, g4, c4, r4⟩ := c1.newRaw (o := SetO w p (fun j => decide (j ∈ ns)) cc) hp
  exact q _ (.dat _) _ _ _ [] (g1.trans g4) c4 ⟨r4, rfl⟩ (fun b hb => by cases hb) (z p cc hc)
/-- sorted(s) of a set of ints -/
def W.aset (w : World) : List W → ((Int → Bool) → Nat → Prop) → Prop
  | [.dat (.raw a o)], k => ∃ S n, o = SetO w a S n ∧ k S n
  | [.rdo (.raw a o)], k => ∃ S n, o = SetO w a S n ∧ k S n
  | _, _ => False
@[simp ↓] theorem eW_aset_1 (w : World) (a : Addr) (o : HO) (k : (Int → Bool) → Nat → Prop) : W.aset w [.dat (.raw a o)] k = ∃ S n, o = SetO w a S n ∧ k S n := rfl
@[simp ↓] theorem eW_aset_2 (w : World) (a : Addr) (o : HO) (k : (Int → Bool) → Nat → Prop) : W.aset w [.rdo (.raw a o)] k = ∃ S n, o = SetO w a S n ∧ k S n := rfl
@[simp ↓] def wSortedSet (w : World) (wa : WA) : WE := fun xp S Q => wa xp S fun xs => W.aset w xs fun St n => n < 64 ∧ ∀ ns : List Int, ns.Pairwise (· < ·) → (∀ k, k ∈ ns ↔ St k = true) → ns.length = n → Q (.new (.fl (DL.dInts ns)))
theorem RepWs.aset {w : World} {xs : List W} {vs : List V} {k : (Int → Bool) → Nat → Prop} (c : Cons K fx F G H σ S A) (r : RepWs K fx F G H S A vs B xs) (h : W.aset w xs k) : ∃ a St n, vs = [.ref a] ∧ H a = some (SetO w a St n) ∧ k St n := by
  cases r with
  | nil => exact h.elim
  | cons r t nn =>
    rename_i x xs'
    cases t with
    | cons _ _ _ => cases x <;> first | exact h.elim | (rename_i d _; cases d <;> exact h.elim) | (rename_i d; cases d <;> exact h.elim)
    | nil =>
      cases x with
      | dat d =>
        cases d with
        | raw a o =>
          obtain ⟨St, n, rfl, z⟩ := h
          cases r.1 with
          | raw e => exact ⟨a, St, n, rfl, c.gh _ _ (c.fg _ _ e), z⟩
        | _ => exact h.elim
      | rdo d =>
        cases d with
        | raw a o =>
          obtain ⟨St, n, rfl, z⟩ := h
          cases r.1 with
          | raw e => exact ⟨a, St, n, rfl, c.gh _ _ e, z⟩
        | _ => exact h.elim
      | _ => exact h.elim
theorem Snd.sortedSet {ta : TA} {wa : WA} (w : World) (ha : SndA K Wx ta wa) : Snd K Wx (tCB (rSortedSet w) ta) (wSortedSet w wa) := fun fx xp F G H σ S A Qd Q xr c hw q => by
  refine ha fx xp F G H σ S A _ _ xr c hw fun vs xs F1 G1 H1 B g1 c1 r1 n1 q1 => ?_
  obtain ⟨a, St, n, rfl, hs, hl, z⟩ := r1.aset c1 q1
  refine ⟨a, St, n, rfl, hs, hl, fun ns p h1 h2 h3 hp => ?_⟩
  obtain ⟨g4, c4, r4⟩ := c1.newL hp (reps_ints (F := F1) ns)
  exact q _ _ _ _ _ _ (g1.trans g4) c4 r4 (fun b hb => by rw [List.mem_singleton.mp hb]; exact g1.hn p hp) (z ns h1 h2 h3)
/-- y in s, y not in s -/
@[simp ↓] def wInSet (neg : Bool) (w : World) (wy ws : WE) : WE := fun xp S Q => wy xp S fun y => ws xp S fun x => W.aset w [x] fun St _ => ∃ k, y = .dat (.int k) ∧ Q (.dat (.bl (St k != neg)))
theorem RepW.ws1 (r : RepW K fx F G H S A v B x) : RepWs K fx F G H S A [v] (B ++ []) [x] := .cons r .nil (fun b _ hb => by cases hb)
theorem Snd.inSet {ty ts : TE} {wy ws : WE} (w : World) (hy : Snd K Wx ty wy) (hs : Snd K Wx ts ws) : Snd K Wx (tOp (rSIn w) ty ts) (wInSet false w wy ws) := fun fx xp F G H σ S A Qd Q xr c hw q => by
  refine Snd.two (Q := fun u v H2 => rSIn w u v H2 Q) hy hs xr c hw fun u y v x F' G' H' B B' gr c' r2 r1 n1 n2 hq => ?_
  obtain ⟨a, St, n, e, hs, k, rfl, z⟩ := r1.ws1.aset c' hq
  cases e
  cases r2.1
  exact ⟨k, a, St, n, rfl, rfl, hs, q _ (.dat (.bl _)) F' G' H' [] gr c' ⟨.bl _, rfl⟩ (fun b hb => by cases hb) (by rw [Bool.bne_false] at z; exact z)⟩
theorem Snd.notinSet {ty ts : TE} {wy ws : WE} (w : World) (hy : Snd K Wx ty wy) (hs : Snd K Wx ts ws) : Snd K Wx (tOp (rSNotIn w) ty ts) (wInSet true w wy ws) := fun fx xp F G H σ S A Qd Q xr c hw q => by
  refine Snd.two (Q := fun u v H2 => rSNotIn w u v H2 Q) hy hs xr c hw fun u y v x F' G' H' B B' gr c' r2 r1 n1 n2 hq => ?_
  obtain ⟨a, St, n, e, hs, k, rfl, z⟩ := r1.ws1.aset c' hq
  cases e
  cases r2.1
  exact ⟨k, a, St, n, rfl, rfl, hs, q _ (.dat (.bl _)) F' G' H' [] gr c' ⟨.bl _, rfl⟩ (fun b hb => by cases hb) (by rw [Bool.bne_true] at z; exact z)⟩
end
section
variable {X : Cx} {Wx : WX} {a b e : Expr} {es : List Expr} {ta tb : TE} {t : TA} {wa wb : WE} {wt : WA} {p pos : Pos}
theorem pd_inSet (ha : PdD X Wx a ta wa) (hb : PdD X Wx b tb wb) (hm : behindInMarks .In b = false := by rfl) : PdD X Wx (.Compare a [.In] [b] pos) (tOp (rSIn X.w) ta tb) (wInSet false X.w wa wb) := ⟨pe_cmpR or_sin ha.pe hb.pe hm, Snd.inSet X.w ha.ok hb.ok⟩
theorem pd_notinSet (ha : PdD X Wx a ta wa) (hb : PdD X Wx b tb wb) (hm : behindInMarks .NotIn b = false := by rfl) : PdD X Wx (.Compare a [.NotIn] [b] pos) (tOp (rSNotIn X.w) ta tb) (wInSet true X.w wa wb) := ⟨pe_cmpR or_snotin ha.pe hb.pe hm, Snd.notinSet X.w ha.ok hb.ok⟩
theorem td_inSet (ha : PdD X Wx a ta wa) (hb : PdD X Wx b tb wb) (hm : behindInMarks .In b = false := by rfl) : TdD X Wx (.Compare a [.In] [b] pos) (tTest (tOp (rSIn X.w) ta tb)) (wB (wInSet false X.w wa wb)) := ⟨pt_cmpR or_sin ha.pe hb.pe hm, SndT.ofB (Snd.inSet X.w ha.ok hb.ok)⟩
theorem td_notinSet (ha : PdD X Wx a ta wa) (hb : PdD X Wx b tb wb) (hm : behindInMarks .NotIn b = false := by rfl) : TdD X Wx (.Compare a [.NotIn] [b] pos) (tTest (tOp (rSNotIn X.w) ta tb)) (wB (wInSet true X.w wa wb)) := ⟨pt_cmpR or_snotin ha.pe hb.pe hm, SndT.ofB (Snd.notinSet X.w ha.ok hb.ok)⟩
theorem pd_setOf (hc : X.calm = true) (hm : X.mg "set" = none) (ha : AdD X Wx (e :: es) t wt) (hg : Gl X "set" := by rfl) (he : starEach (e :: es) X.env = (false, eval e X.env) :: starEach es X.env := by rfl) (hpl : (backTo pos (starEach es X.env)).any (·.1) = false := by rfl) :
    PdD X Wx (.Call (.Name "set" p) (e :: es) [] pos) (tCB (rSetL X.K X.w) t) (wSetOf X.w wt) := ⟨pe_callTy (cr_setL hc) hg hm (by decide +kernel) ha.pa (by decide) (by decide) he hpl, Snd.setOf X.w ha.ok⟩
theorem pd_sortedSet (hc : X.calm = true) (hm : X.mg "sorted" = none) (ha : AdD X Wx (e :: es) t wt) (hg : Gl X "sorted" := by rfl) (he : starEach (e :: es) X.env = (false, eval e X.env) :: starEach es X.env := by rfl) (hpl : (backTo pos (starEach es X.env)).any (·.1) = false := by rfl) :
    PdD X Wx (.Call (.Name "sorted" p) (e :: es) [] pos) (tCB (rSortedSet X.w) t) (wSortedSet X.w wt) := ⟨pe_callB (cr_sortedSet hc) hg hm (by decide +kernel) ha.pa (by decide) (by decide) he hpl, Snd.sortedSet X.w ha.ok⟩
end
end DL

namespace DL
open PySem PySem.Spec PyProof.Rows L2 PpSet

/-! ## {e for t in xs if c}, the items ints -/
/-- one more int -/
abbrev insI (St : Int → Bool) (k : Int) : Int → Bool := fun j => St j || decide (j = k)
def tScI (w : World) (wi : TI) (g : TG) (tt : TT) (te : TE) (vs : List Nat) : TE := fun σ H Q => wi σ H fun J H1 => ∀ D, H1 D = none → ∃ W : Nat → Nat → Hp → Prop, (∃ m, W 0 m (upd H1 D (SetO w D (fun _ => false) 0))) ∧
  ∀ i m H, W i m H → (J.stop i H ∧ Q (.ref D) H) ∨ (J.go i H ∧ ∃ Nx : Hp → Prop, (∀ H', Nx H' → ∃ m', m' < m ∧ W (i + 1) m' H') ∧ ∀ x H', J.yld i H x H' → g x (wipe σ vs) H' fun σ2 H2 => wipe σ2 vs = wipe σ vs ∧
    tt σ2 H2 fun b H3 => if b = true then te σ2 H3 fun y H4 => ∃ (k : Int) (St : Int → Bool) (n : Nat), y = .int k ∧ H4 D = some (SetO w D St n) ∧ n + 1 < scanBound ∧ Nx (upd H4 D (SetO w D (insI St k) (if St k = true then n else n + 1))) else Nx H3)
section
variable {X : Cx}
theorem addI {pins : List (Addr × Obj)} {σ : L2.St} {H : Hp} {s : Shared} {E : Value → Shared → Prop} {D : Addr} {St : Int → Bool} {n : Nat} {k : Int} {tk : Tok} {Q : Value → Shared → Prop} (I : Inv X pins σ H s) (at_ : H D = some (SetO X.w D St n)) (room : n + 1 < scanBound)
    (fin : ∀ s', Inv X pins σ (upd H D (SetO X.w D (insI St k) (if St k = true then n else n + 1))) s' → Q .none s') : wpAny (model X.prog X.w) X.A (call (.builtin "set.add") [.ref D, .int k tk]) Q E s :=
  setR_add (setO_get I at_) room fun h' same new => fin _ (I.write (e := D) (t' := s.toks + 1) (by rw [at_]; trivial) (.inl rfl) (fun b u hb hu => (same.2 b hb).trans hu) (by
    have ⟨o, _, _, _, ho, _⟩ := new
    exact ⟨o, ho⟩) (setO_new new))
/-- the new set's object -/
theorem pe_scI {elt tg iter : Expr} {ifs : List Expr} {scope : Scope} {own : List (PySem.Str × Nat)} {pos : Pos} {wi : TI} {g : TG} {tt : TT} {te : TE} (calm : X.calm = true) (nod : X.N.Nodup) (hi : PI X tg iter wi) (ok : BlkOk X.N X.env.scope scope own)
    (hg : ∀ s H C cl fp, PG (X.blk s H scope (compEnvC scope cl C X.env) fp) tg g) (ht : ∀ s H C cl fp, PTs (X.blk s H scope (compEnvC scope cl C X.env) fp) ifs tt)
    (he : ∀ s H C cl fp, PE (X.blk s H scope (compEnvC scope cl C X.env) fp) elt te) (hs : ∀ x, foldedSetIterable iter X.env x = pure x := by intro _; rfl) :
    PE X (.SetComp elt [⟨tg, iter, ifs, 0⟩] scope pos) (tScI X.w wi g tt te (own.map (·.2))) := by
  refine ⟨fun pins s σ H Q I hyp => ?_⟩
  rw [eval_SetComp]
  have cells : ∀ y ∈ scope.names, y.2 = .free → ∃ c, X.env.cells.lookup y.1 = some c := fun y hy e => (ok.free y hy e).elim (fun k => I.ok.has _ (.inl k)) fun k => I.ok.has _ (.inr k)
  refine wpAny_comprehension_free rfl hs (closure_ok cells) ok.kind (fun y hy e => by rw [ok.uniq y hy, e]) (thn (hi.run pins s σ H _ I hyp) fun xv s1 hx => thn hx fun itv s2 ⟨it, fp, tn, J, H2, e, I2, T, st2, f2, q⟩ => ?_)
  subst e
  refine newSet_ok (newEnv_comp ?_)
  obtain ⟨D, hD⟩ : ∃ D, D = s2.heap.objs.size := ⟨_, rfl⟩
  have noD : H2 D = none := I2.hok.fresh (Nat.le_of_eq hD.symm)
  obtain ⟨W, ⟨m0, w0⟩, turn⟩ := q D noD
  obtain ⟨s3, hs3⟩ : ∃ s3 : Shared, s3 = { s2 with heap := s2.heap.push (eSet X.w) } := ⟨_, rfl⟩
  have h3 : s3.heap = s2.heap.push (eSet X.w) := by rw [hs3]
  obtain ⟨H3, hH3⟩ : ∃ H3 : Hp, H3 = upd H2 D (SetO X.w D (fun _ => false) 0) := ⟨_, rfl⟩
  rw [← hH3] at w0
  have I3 : Inv X pins σ H3 s3 := by
    rw [hs3, hH3]
    refine I2.laid (t' := s2.toks) (fun b o e => Heap.get?_push_of_some _ e) (Nat.le_of_eq hD.symm) ?_
    rw [hD]
    exact setO_new (setR_fresh X.w)
  have small : ∀ b ∈ fp, b < s2.heap.objs.size := fun b hb => by
    obtain ⟨o, e, _⟩ := T.obj _ _ st2 b hb
    exact Heap.lt_size e
  have f3 : ∀ b ∈ fp, FpOk X pins H3 b ∧ b < s3.heap.objs.size := fun b hb => by
    have lt := small b hb
    refine ⟨⟨?_, (f2 b hb).2⟩, by rw [h3, Heap.size_push]; exact Nat.lt_succ_of_lt lt⟩
    rw [hH3, upd_ne (by rw [hD]; exact Nat.ne_of_lt lt)]
    exact (f2 b hb).1
  have st3 : tn 0 s3.heap := T.keep _ _ _ st2 fun b _ o e => by rw [h3]; exact Heap.get?_push_of_some _ e
  have I4 := block_start I3 ok nod f3
  obtain ⟨ce, hce⟩ : ∃ ce, ce = compEnvC scope (cellsFrom (s3.heap.objs.size + 1) scope.names (cloFrom X.env.cells scope.names [])) s3.heap.objs.size X.env := ⟨_, rfl⟩
  have pg := hg s3 H3 s3.heap.objs.size (cellsFrom (s3.heap.objs.size + 1) scope.names (cloFrom X.env.cells scope.names [])) fp
  have pt := ht s3 H3 s3.heap.objs.size (cellsFrom (s3.heap.objs.size + 1) scope.names (cloFrom X.env.cells scope.names [])) fp
  have pe := he s3 H3 s3.heap.objs.size (cellsFrom (s3.heap.objs.size + 1) scope.names (cloFrom X.env.cells scope.names [])) fp
  rw [← hce] at I4 pg pt pe
  have cL : ce.locals = s3.heap.objs.size := by rw [hce]; rfl
  obtain ⟨s4, hs4⟩ : ∃ s4 : Shared, s4 = { s3 with heap := pushCells (s3.heap.push { cls := .type "dict", data := .dict #[] }) scope.names } := ⟨_, rfl⟩
  rw [← hs4] at I4
  have st4 : tn 0 s4.heap := T.keep _ _ _ st3 fun b _ o e => by rw [hs4]; exact pushCells_keeps _ _ _ _ (Heap.get?_push_of_some _ e)
  have none3 : ∀ b ∈ fp, H3 b = none := fun b hb => (f3 b hb).1.1
  have held : ∀ {σ' : L2.St} {H' : Hp} {s' : Shared}, Inv (X.blk s3 H3 scope ce fp) [] σ' H' s' → (∀ b ∈ fp, H' b = none) → ∀ b ∈ fp, FpOk (X.blk s3 H3 scope ce fp) [] H' b := fun I' hn b hb =>
    ⟨hn b hb, (I'.ok.exf b hb).1, I'.ok.exfs b hb, .inl hb, fun x c e => (I'.ok.exf b hb).2 x c e, fun p hp => absurd (show p ∈ ([] : List (Addr × Obj)) ++ [] from hp) (by simp)⟩
  have main : codeAny (model X.prog X.w) X.A (.compLoop (.SetComp elt [⟨tg, iter, ifs, 0⟩] scope pos) 0 (.ref it) (.ref D) ce) (compPost (model X.prog X.w) X.A X.xe none (fun v s' => ∃ y H', Inv X pins σ H' s' ∧ RelV y v ∧ Q y H') (.ref D) s3.heap.objs.size) s4 := by
    refine compLoopS_any (fun n s' => ∃ i H', Inv (X.blk s3 H3 scope ce fp) [] (wipe σ (own.map (·.2))) H' s' ∧ tn i s'.heap ∧ (∀ b ∈ fp, H' b = none) ∧ W i n H') ?_ m0 ⟨0, H3, I4, st4, none3, w0⟩
    rintro n s5 ⟨i, H5, I5, st5, n5, w5⟩
    rcases turn i n H5 w5 with ⟨stop, qq⟩ | ⟨go, Nx, hNx, step⟩
    · refine thnF (T.done (X.blk s3 H3 scope ce fp) rfl rfl rfl calm i [] s5 _ H5 (fun _ _ => False) I5 (held I5 n5) st5 stop) fun r s6 ⟨hr, I6⟩ => ?_
      subst hr
      have I7 : Inv X pins σ H5 s6 := I3.call' (ch := fp) I6.os I6.base I6.hok I6.bare fun b hb => ⟨(f3 b hb).1.2.2.2.1, (f3 b hb).1.2.1, (f3 b hb).1.2.2.2.2.1, (f3 b hb).1.2.2.2.2.2⟩
      have nC : H5 s3.heap.objs.size = none := by rw [← cL]; exact I6.free
      obtain ⟨m, hn, _⟩ := I6.loc
      have hn' : s6.heap.Ns s3.heap.objs.size m := by rw [← cL]; exact hn
      obtain ⟨a0, a1, a2, a3, a4, a5⟩ := I3.fpOk (Nat.le_refl _) nC
      exact ⟨m, hn', fun h'' sb => ⟨.ref D, H5, I7.turned (t' := s6.toks) (fun b o hb e => (sb.2 b hb).trans e) a0 a1 a3 a4 a5, rfl, qq⟩⟩
    · refine thnF (T.item (X.blk s3 H3 scope ce fp) rfl rfl rfl calm i [] s5 _ H5 (fun _ _ => False) I5 (held I5 n5) st5 go) fun r s6 ⟨u, hr, h6⟩ => ?_
      subst hr
      refine thnF h6 fun _ s7 ⟨x, H7, I7, r7, y7, st7, n7⟩ => ?_
      have I7' := I7.pinned (held I7 n7) (T.obj _ _ st7)
      refine thnF (pg.run _ s7 _ H7 x u _ I7' r7 (step x H7 y7)) fun _ s8 ⟨σ8, H8, I8, hw8, q8⟩ => thnF (pt.run _ s8 σ8 H8 _ I8 q8) fun b s9 ⟨H9, I9, q9⟩ => ?_
      have close : ∀ {s' : Shared} {H' : Hp}, Inv (X.blk s3 H3 scope ce fp) ([] ++ pinsAt fp s7.heap) σ8 H' s' → Nx H' → ∃ m, m < n ∧ ∃ i H', Inv (X.blk s3 H3 scope ce fp) [] (wipe σ (own.map (·.2))) H' s' ∧ tn i s'.heap ∧ (∀ b ∈ fp, H' b = none) ∧ W i m H' := fun {s' H'} I' nx => by
        obtain ⟨m', hm, w'⟩ := hNx H' nx
        have pin' : ∀ b ∈ fp, ∀ o, s7.heap.get? b = some o → s'.heap.get? b = some o ∧ H' b = none := fun b hb o e =>
          have z := I'.pin (b, o) (List.mem_append_right _ (List.mem_append_right _ (mem_pinsAt hb e)))
          ⟨z.1, z.2.1⟩
        refine ⟨m', hm, i + 1, H', (I'.unpinned (pins := [])).weak (by rw [← hw8, wipe_length]) (fun j v e => ?_), T.keep _ _ _ st7 fun b hb o e => (pin' b hb o e).1, fun b hb => ?_, w'⟩
        · rw [← hw8] at e
          exact (wipe_some e).1
        · obtain ⟨o, e, _⟩ := T.obj _ _ st7 b hb
          exact (pin' b hb o e).2
      cases b with
      | false =>
        simp only [Bool.false_eq_true, if_false] at q9 ⊢
        exact close I9 q9
      | true =>
        simp only [if_true] at q9 ⊢
        refine thnF (pe.run _ s9 σ8 H9 _ I9 q9) fun z s10 ⟨yv, H10, I10, r10, k, Sq, n0, ey, at10, few, nx⟩ => ?_
        subst ey
        obtain ⟨tk, rfl⟩ := r10
        exact addI (X := X.blk s3 H3 scope ce fp) I10 at10 few fun s11 I11 => close I11 nx
  have := codeAny_compStart_set main (T.self X.A 0 _ _ _ st4 main)
  rw [hs4, hce, hs3, hD] at this
  exact this
end
section
variable {K : PySem.W.Frag} {fx : Fx} {F G H F' G' H' : Hp} {σ : L2.St} {S : List Slot} {A : Nat → List Addr} {v u : V} {B : List Addr} {x : W} {y : D}
variable {Wx : WX} {ti : TI} {wi : WI} {g : TG} {wg : WG} {tt : TT} {wt : WT} {te : TE} {we : WE}
def wSc (w : World) (wi : WI) (wg : WG) (wt : WT) (we : WE) (vs : List Nat) : WE := fun xp S Q => wi xp S fun n item stab => n ≤ 1000 ∧ stab (wipeS S vs) ∧ ∃ I : Nat → List Int → Prop, I 0 [] ∧
  (∀ k ns, k < n → ns.length ≤ k → I k ns → wg (item k) (wipeS S vs) fun S2 => wt xp0 S2 fun b => if b = true then we xp0 S2 fun y => ∃ j, y = .dat (.int j) ∧ I (k + 1) (ns ++ [j]) else I (k + 1) ns) ∧ ∀ ns, ns.length ≤ n → I n ns → aSet w ns Q
theorem insI_snoc (ns : List Int) (k : Int) : insI (fun j => decide (j ∈ ns)) k = fun j => decide (j ∈ ns ++ [k]) := by
  funext j
  unfold insI
  rw [Bool.eq_iff_iff]
  simp
theorem Snd.sc {vs : List Nat} (w : World) (hi : SndI K Wx ti wi) (hg : SndG K g wg) (hst : Stores g vs) (ht : SndT K W0 tt wt) (he : Snd K W0 te we) : Snd K Wx (tScI w ti g tt te vs) (wSc w wi wg wt we vs) := fun fx xp F G H σ S A Qd Q xr c hw q => by
  refine hi fx xp F G H σ S A _ _ xr c hw fun J n item stab F1 G1 H1 g1 c1 st1 it ⟨hn, stw, I, i0, turn, fin⟩ => ?_
  intro Dl hD
  obtain ⟨nG, nF, nst, nA⟩ := c1.new hD
  have h0 : fx.H0 Dl = none := c1.hn Dl hD
  have hb : (1000 : Nat) + 1 < scanBound := by decide
  refine ⟨fun i m H => m + i = n ∧ ∃ ns cc F' G', Grow fx F1 G1 H1 F' G' H ∧ Cons K fx F' G' H (L2.wipe σ vs) (wipeS S vs) A ∧ G' Dl = none ∧ H Dl = some (SetO w Dl (fun j => decide (j ∈ ns)) cc) ∧ cc ≤ ns.length ∧ ns.length ≤ i ∧ I i ns, ⟨n, rfl, [], 0, F1, G1, ?_⟩, fun i m H2 ⟨em, ns, cc, F2, G2, g2, c2, nG2, hl, hcc, hlen, hI⟩ => ?_⟩
  · obtain ⟨g2, c2⟩ := c1.laid (o := SetO w Dl (fun _ => false) 0) hD
    exact ⟨g2, c2.wipe, nG, upd_same, Nat.le_refl _, Nat.le_refl _, i0⟩
  · obtain ⟨h1, h2⟩ := it i F2 G2 H2 (L2.wipe σ vs) (wipeS S vs) A g2.f g2.g c2 stw
    by_cases hi : i < n
    · obtain ⟨hgo, hy⟩ := h2 hi
      refine .inr ⟨hgo, fun H3 => ∃ ns cc F' G', Grow fx F1 G1 H1 F' G' H3 ∧ Cons K fx F' G' H3 (L2.wipe σ vs) (wipeS S vs) A ∧ G' Dl = none ∧ H3 Dl = some (SetO w Dl (fun j => decide (j ∈ ns)) cc) ∧ cc ≤ ns.length ∧ ns.length ≤ i + 1 ∧ I (i + 1) ns, fun H3 z => ⟨m - 1, by omega, by omega, z⟩, fun y H3 hyl => ?_⟩
      obtain ⟨F3, G3, g3, c3, rw3⟩ := hy y H3 hyl
      refine hst y σ (L2.wipe σ vs) H3 _ (wipe_wipe fun _ h => h) (hg fx F3 G3 H3 _ _ A y (item i) [] _ _ c3 rw3 (fun b hb => by cases hb) (fun j b hb => by cases hb) (turn i ns hi hlen hI) fun σ4 S4 A4 c4 q4 => ?_)
      refine ht fx xp0 F3 G3 H3 σ4 S4 A4 _ _ XRel.none c4 q4 fun b F5 G5 H5 g5 c5 q5 => ?_
      cases b with
      | true =>
        refine he fx xp0 F5 G5 H5 σ4 S4 A4 _ _ XRel.none c5 q5 fun w' z F6 G6 H6 B g6 c6 r6 n6 q6 => ?_
        obtain ⟨j, rfl, q7⟩ := q6
        cases r6.1
        have g56 := g5.trans g6
        have gall := g3.trans g56
        have hl7 := gall.h Dl _ hl nst
        have nG7 := gall.old nG2 hl
        refine ⟨j, _, cc, rfl, hl7, by omega, ns ++ [j], _, F6, G6, (g2.trans gall).poke hD, (c3.regrow g56 c6).poke nG7 nA nst h0, nG7, by rw [upd_same, insI_snoc], ?_, by rw [List.length_append]; exact Nat.succ_le_succ hlen, q7⟩
        rw [List.length_append, List.length_singleton]
        split <;> omega
      | false =>
        have gall := g3.trans g5
        exact ⟨ns, cc, F5, G5, g2.trans gall, c3.regrow g5 c5, gall.old nG2 hl, gall.h Dl _ hl nst, hcc, by omega, q5⟩
    · have e : i = n := by omega
      subst e
      have cE := c1.regrow g2 c2
      have gF : Grow fx F G H (frz F2 H2 [Dl]) (frz G2 H2 [Dl]) H2 := Grow.frz cE (g1.trans g2) (fun b hb => by rw [List.mem_singleton.mp hb]; exact nG2) (fun b hb => by rw [List.mem_singleton.mp hb]; exact g1.hn _ hD)
      have cF := cE.freeze (B := [Dl]) fun b hb => by rw [List.mem_singleton.mp hb]; exact ⟨nG2, nst, h0, nA⟩
      exact .inl ⟨h1 (Nat.le_refl _), q (.ref Dl) (.dat (.raw Dl _)) _ _ H2 [] gF cF ⟨.raw (by rw [frz_in (List.mem_singleton.mpr rfl)]; exact hl), rfl⟩ (fun b hb => by cases hb) (fin ns hlen hI Dl cc hcc)⟩
end
section
variable {X : Cx} {Wx : WX} {elt tg iter : Expr} {ifs : List Expr} {scope : Scope} {own : List (Str × Nat)} {pos : Pos} {ti : TI} {wi : WI} {g : TG} {wg : WG} {tt : TT} {wt : WT} {te : TE} {we : WE}
theorem pd_sc (hc : X.calm = true) (hN : X.N.Nodup) (hi : IdD X Wx tg iter ti wi) (ok : BlkOk X.N X.env.scope scope own) (hg : ∀ s H C cl fp, GdD (blkOf X scope s H C cl fp) tg g wg) (ht : ∀ s H C cl fp, LsD (blkOf X scope s H C cl fp) W0 ifs tt wt) (he : ∀ s H C cl fp, PdD (blkOf X scope s H C cl fp) W0 elt te we)
    (hst : Stores g (own.map (·.2))) (hs : ∀ x, foldedSetIterable iter X.env x = pure x := by intro _; rfl) : PdD X Wx (.SetComp elt [⟨tg, iter, ifs, 0⟩] scope pos) (tScI X.w ti g tt te (own.map (·.2))) (wSc X.w wi wg wt we (own.map (·.2))) :=
  ⟨pe_scI hc hN hi.pi ok (fun s H C cl fp => (hg s H C cl fp).pg) (fun s H C cl fp => (ht s H C cl fp).pt) (fun s H C cl fp => (he s H C cl fp).pe) hs, Snd.sc X.w hi.ok (hg X.s_0 X.H_0 0 [] []).ok hst (ht X.s_0 X.H_0 0 [] []).ok (he X.s_0 X.H_0 0 [] []).ok⟩
end
/-! ## xs.index(k) of a list of ints -/
section
variable {K : PySem.W.Frag} {Wx : WX} {to te : TE} {wo we : WE}
/-- the first place of y -/
def idxQ (ds : List D) (y : W) (q : Nat → Prop) : Prop := ∃ ns k j, ds = DL.dInts ns ∧ y = .dat (.int k) ∧ ns[j]? = some k ∧ (∀ m, m < j → ns[m]? ≠ some k) ∧ q j
@[simp ↓] def wIndexI (wo we : WE) : WE := fun xp S Q => wo xp S fun x => (x.its fun _ => True) ∧ we xp S fun y => x.its fun ds => idxQ ds y fun j => Q (.dat (.int (j : Nat)))
theorem flat_ints (ns : List Int) : (ns.map V.int).all flatV = true := List.all_eq_true.mpr fun x hx => by
  obtain ⟨n, _, rfl⟩ := List.mem_map.mp hx
  rfl
theorem Snd.indexI (ho : Snd K Wx to wo) (he : Snd K Wx te we) : Snd K Wx (tBM K "list" (rIndex K) to (tCons te tNil)) (wIndexI wo we) := fun fx xp F G H σ S A Qd Q xr c hw q => by
  refine ho fx xp F G H σ S A _ _ xr c hw fun v x F1 G1 H1 B g1 c1 r1 n1 q1 => ?_
  obtain ⟨a, vs, ds, rfl, h1, _, _⟩ := r1.its c1 q1.1
  refine ⟨.inl ⟨rfl, _, ql h1⟩, he fx xp F1 G1 H1 σ S A _ _ xr c1 q1.2 fun u y F2 G2 H2 B2 g2 c2 r2 n2 q2 => ?_⟩
  obtain ⟨a', vs', ds', e, h1', h2', ns, k, j, rfl, rfl, hj, hm, z⟩ := (r1.grow c1 g2).its c2 q2
  cases e
  cases r2.1
  rw [h2'.dInts] at h1'
  refine ⟨a, ns.map V.int, .int k, j, .int k, rfl, rfl, ql h1', rfl, flat_ints ns, by rw [List.getElem?_map, hj]; rfl, beq_self_eq_true k, fun m z' lt ez => ?_, q _ (.dat (.int _)) F2 G2 H2 [] (g1.trans g2) c2 ⟨.int _, rfl⟩ (fun _ z => by cases z) z⟩
  rw [List.getElem?_map] at ez
  cases em : ns[m]? with
  | none => rw [em] at ez; cases ez
  | some k' =>
    rw [em] at ez
    cases ez
    have := hm m lt
    rw [em] at this
    exact beq_eq_false_iff_ne.mpr fun z => this (by rw [z])
variable {X : Cx} {o e : Expr} {apos pos : Pos}
theorem pd_indexI {Wx : WX} (ho : PdD X Wx o to wo) (he : PdD X Wx e te we) (m : BmSide X o "index" e [] apos pos := by exact ⟨rfl, rfl, rfl, rfl, rfl⟩) : PdD X Wx (.Call (.Attribute o "index" apos) [e] [] pos) (tBM X.K "list" (rIndex X.K) to (tCons te tNil)) (wIndexI wo we) :=
  ⟨pe_bm' PySem.F.plainAttrs_list PySem.F.slot_list_index PySem.F.type_list_index mt_index ho.pe (pa_cons he.pe pa_nil m.hs) m, Snd.indexI ho.ok he.ok⟩
end
end DL

namespace DL
open PySem PySem.Spec PyProof.Rows L2

/-! ## list(text) -/
section
variable {prog : Program} {w : World} {A : Around} {E : Value → Shared → Prop} {s : Shared}
theorem hint_str {x : Str} {t : Tok} {Q : Bool → Shared → Prop} (h : Q false s) : wpAny (model prog w) A (Builtin.List.listLengthHint (.str x t)) Q E s := by
  have hT : s.TypeIs (.str x t) "str" := typeIs_str s x t
  unfold Builtin.List.listLengthHint
  refine wpAny_bind (wpAny_specialOf hT PySem.F.slot_str_len.lookup ?_)
  generalize hid : ("str.__len__" : String) = id0
  wp_delta
  rw [show splitId id0 = some ("str", "__len__") from by subst hid; decide +kernel]
  subst hid
  refine wpAny_bind (wpAny_isInstance (T := "str") (b := true) hT (by rw [isSubtype_type]; kernel_rfl) ?_)
  refine wpAny_ite_split (fun hab => absurd hab (by decide)) (fun _ => ?_)
  refine wpAny_ite_split (fun _ => ?_) (fun hab => absurd (by decide +kernel) hab)
  refine wpAny_bind (wpAny_typeOf hT ?_)
  exact wpAny_pure h
theorem extend_str {R : Result → Shared → Prop} (hh : A.handled = none) (x : Str) (t : Tok) (S : Addr) (res : Value) (c₀ : Nat) (hS : s.heap.get? S = some { cls := .type "list", data := .seq #[] c₀ })
    (hR : ∀ h' tk acc' c', (∀ b o, b ≠ S → s.heap.get? b = some o → h'.get? b = some o) → h'.get? S = some { cls := .type "list", dict := none, data := .seq acc' c', slots := #[] } →
      ItemsOf (SignAt x) acc' x.cps.size → R (.ok (.ret res)) { s with heap := h', toks := tk }) (hn : x.cps.size ≤ sizeLine) :
    wpAny (model prog w) A.in1 (Builtin.List.listExtendWith (.ref S) (.str x t) res)
      (fun fin s' => match fin with | .done f => R (.ok f) s' | .again c' => c'.quiet = true ∧ codeAny (model prog w) A c' R s') (fun e s' => R (.error e) s') s := by
  have hSI : S ≠ s.heap.objs.size := Nat.ne_of_lt (Heap.lt_size hS)
  have hSf : S ∉ [s.heap.objs.size] := fun hm => hSI (List.mem_singleton.mp hm)
  unfold Builtin.List.listExtendWith
  refine wpAny_bind (wpAny_typeOf (T := "str") (v := .str x t) (typeIs_str s x t) ?_)
  have h1 : Builtin.List.listSameRef (.ref S) (.str x t) = false := rfl
  have h2 : (Value.type "str" == Value.type "list") = false := by decide
  have h3 : (Value.type "str" == Value.type "tuple") = false := by decide
  simp only [h1, h2, h3, Bool.or_false, Bool.false_eq_true, if_false]
  refine wpAny_bind (wpAny_pyIter_str fun o St W st => ?_)
  refine wpAny_bind (wpAny_holding (hint_str ?_))
  rw [if_neg (by first | decide | decide +kernel)]
  refine wpAny_pure ⟨plainId_quiet PySem.F.plain_extend_loop _, codeAny_extend_loopS (W A.in1 hh).toS hn _ hSf _ x.cps.size 0 _ _ _ rfl (Nat.zero_le _) st (Heap.get?_push_of_some _ hS) (ItemsOf.nil _) fun s' acc' c' hm hS' hacc => ?_⟩
  rw [Moved.eq_with hm]
  refine hR s'.heap s'.toks acc' c' (fun b ob hb e => hm.heap b ob (fun hmem => ?_) (Heap.get?_push_of_some _ e)) hS' hacc
  rcases List.mem_cons.mp hmem with e' | hmem
  · exact hb e'
  · exact absurd (Heap.lt_size e) (by rw [List.mem_singleton.mp hmem]; exact Nat.lt_irrefl _)
theorem list_init_str {R : Result → Shared → Prop} (hh : A.handled = none) (x : Str) (t : Tok) (S : Addr) (hS : s.heap.get? S = some { cls := .type "list", data := .seq #[] })
    (hR : ∀ h' tk acc' c', (∀ b o, b ≠ S → s.heap.get? b = some o → h'.get? b = some o) → h'.get? S = some { cls := .type "list", dict := none, data := .seq acc' c', slots := #[] } →
      ItemsOf (SignAt x) acc' x.cps.size → R (.ok (.ret .none)) { s with heap := h', toks := tk }) (hn : x.cps.size ≤ sizeLine) :
    wpAny (model prog w) A.in1 (Builtin.«list.__init__» ⟨[.ref S, .str x t], []⟩)
      (fun fin s' => match fin with | .done f => R (.ok f) s' | .again c' => c'.quiet = true ∧ codeAny (model prog w) A c' R s') (fun e s' => R (.error e) s') s := by
  show wpAny _ _ (do let old ← Builtin.List.listItems (.ref S); Builtin.List.listUpdate (.ref S) (fun _ => #[]); letGo old.toList.reverse; Builtin.List.listExtendWith (.ref S) (.str x t) .none) _ _ s
  refine wpAny_bind ?_
  unfold Builtin.List.listItems
  refine wpAny_bind (wpAny_seqItems hS rfl (wpAny_pure ?_))
  show wpAny _ _ (updateSeq S (fun _ => #[]) >>= fun _ => letGo (#[] : Array Value).toList.reverse >>= fun _ => Builtin.List.listExtendWith (.ref S) (.str x t) .none) _ _ s
  refine wpAny_bind (wpAny_updateSeq hS rfl ?_)
  have hS₂ := Heap.get?_update_self (Obj.mapSeq (fun _ => (#[] : Array Value))) hS rfl
  have oth : ∀ b o, b ≠ S → s.heap.get? b = some o → (s.heap.update S (Obj.mapSeq (fun _ => (#[] : Array Value)))).get? b = some o :=
    fun b o hb e => (Heap.get?_update_other _ _ (Ne.symm hb)).trans e
  refine wpAny_bind (wpAny_letGo ?_)
  refine extend_str hh x t S .none _ hS₂ (fun h' tk acc' c' hk hS' hacc => ?_) hn
  exact hR h' tk acc' c' (fun b o hb e => hk b o hb (oth b o hb e)) hS' hacc
theorem call_list_str {x : Str} {t : Tok} {Q : Value → Shared → Prop} (hh : A.handled = none) (hn : x.cps.size ≤ sizeLine)
    (hQ : ∀ h' tk acc' c', (∀ b o, s.heap.get? b = some o → h'.get? b = some o) →
      h'.get? s.heap.objs.size = some { cls := .type "list", dict := none, data := .seq acc' c', slots := #[] } → ItemsOf (SignAt x) acc' x.cps.size → Q (.ref s.heap.objs.size) { s with heap := h', toks := tk }) :
    wpAny (model prog w) A (call (.type "list") [.str x t]) Q E s := by
  refine callType_codes (Q₁ := fun obj s₁ => obj = .ref s.heap.objs.size ∧ s₁ = { s with heap := s.heap.push { cls := .type "list", data := .seq #[] } }) PySem.F.called_list (PySem.F.typeCall_list_1 _) PySem.F.entry_list_init
    (code_list_new _ ⟨rfl, rfl⟩) fun obj s₁ h₁ => ?_
  obtain ⟨rfl, rfl⟩ := h₁
  have hS : (s.heap.push { cls := .type "list", data := .seq #[] }).get? s.heap.objs.size = some { cls := .type "list", data := .seq #[] } := Heap.get?_push_size _ rfl
  refine ⟨⟨_, hS, rfl⟩, PySem.F.args_list_init_2 _ _, list_init_str (A := A.in1) hh x t _ hS (fun h' tk acc' c' hk hS' hacc => ?_) hn⟩
  exact ⟨rfl, hQ h' tk acc' c' (fun b o e => hk b o (Nat.ne_of_lt (Heap.lt_size e)) (Heap.get?_push_of_some _ e)) hS' hacc⟩
end
/-- a text's signs -/
def signs (x : Str) : List Str := x.cps.toList.map fun c => ⟨#[c]⟩
abbrev rListS : List V → Hp → VK → Prop := fun xs H Q => ∃ x, xs = [.str x] ∧ x.length ≤ sizeLine ∧ ∀ q, H q = none → Q (.ref q) (upd H q (.lst ((signs x).map V.str)))
theorem cr_listS {X : Cx} (hc : X.calm = true) : CallR X (.type "list") rListS := by
  intro pins s σ H xs us Q I r h
  obtain ⟨x, rfl, hz, q⟩ := h
  obtain ⟨u, rfl, rx⟩ := vals1 r
  obtain ⟨t, rfl⟩ := rx
  have hz' : x.cps.size ≤ sizeLine := hz
  refine call_list_str (I.ok.hd hc) hz' fun h' tk acc c' hk e hi => ?_
  refine ⟨.ref s.heap.objs.size, upd H s.heap.objs.size (.lst ((signs x).map V.str)), I.laid hk (Nat.le_refl _) ⟨by unfold signs; rw [List.length_map, List.length_map, Array.length_toList]; exact hz', acc.toList, c', ?_, by rw [Array.toArray_toList]; exact e⟩, rfl, q _ (I.hok.fresh (Nat.le_refl _))⟩
  refine vals_of_idx _ _ (by unfold signs; rw [List.length_map, List.length_map, Array.length_toList, Array.length_toList]; exact hi.1) fun j u hj => ?_
  obtain ⟨c, t', hc, rfl⟩ := hi.2 j u (by rw [← Array.getElem?_toList]; exact hj)
  exact ⟨.str ⟨#[c]⟩, by simp [signs, hc], ⟨_, rfl⟩⟩
section
variable {K : PySem.W.Frag} {fx : Fx} {F G H F' G' H' : Hp} {σ : L2.St} {S : List Slot} {A : Nat → List Addr} {v : V} {B : List Addr} {x : W}
variable {Wx : WX} {ta tb te to : TE} {wa wb we wo : WE}
def W.strs : List W → (Str → Prop) → Prop
  | [.dat (.str s)], k => k s
  | _, _ => False
@[simp ↓] theorem eW_strs_1 (s : Str) (k : Str → Prop) : W.strs [.dat (.str s)] k = k s := rfl
theorem RepWs.strs {vs : List V} {xs : List W} {k : Str → Prop} (r : RepWs K fx F G H S A vs B xs) (h : W.strs xs k) : ∃ s, vs = [.str s] ∧ k s := by
  unfold W.strs at h
  split at h
  · rename_i s
    cases r with
    | cons r t n => cases t; cases r.1; exact ⟨s, rfl, h⟩
  · exact h.elim
@[simp ↓] def wListS (wa : WA) : WE := fun xp S Q => wa xp S fun xs => W.strs xs fun s => s.length ≤ sizeLine ∧ Q (.new (.fl (dStrs (signs s))))
theorem Snd.listS {ta : TA} {wa : WA} (ha : SndA K Wx ta wa) : Snd K Wx (tCB rListS ta) (wListS wa) := fun fx xp F G H σ S A Qd Q xr c hw q => by
  refine ha fx xp F G H σ S A _ _ xr c hw fun vs xs F1 G1 H1 B g1 c1 r1 n1 q1 => ?_
  obtain ⟨s, rfl, hz, z⟩ := r1.strs q1
  refine ⟨s, rfl, hz, fun l hl => ?_⟩
  obtain ⟨g4, c4, r4⟩ := c1.newL hl (reps_strs (F := F1) (K := K) (signs s))
  exact q _ _ _ _ _ _ (g1.trans g4) c4 r4 (fun b hb => by rw [List.mem_singleton.mp hb]; exact g1.hn l hl) z
/-! ## text * int -/
def gMulS : G2 := fun x y Q => match x, y with
  | .str z, .int n => MulOk z n ∧ Q (.str (Txt.mul z n))
  | _, _ => False
@[simp ↓] theorem egMulS_1 (z : Str) (n : Int) (Q : DL.D → Prop) : gMulS (.str z) (.int n) Q = (MulOk z n ∧ Q (.str (Txt.mul z n))) := rfl
abbrev rMulS : R2 := fun x y H Q => ∃ z n, x = .str z ∧ y = .int n ∧ MulOk z n ∧ Q (.str (Txt.mul z n)) H
theorem op_mulS {X : Cx} : OpR X (binaryOp .Mult) rMulS := by
  intro pins s σ H x y v u Q I rx ry h
  obtain ⟨z, n, rfl, rfl, ok, q⟩ := h
  obtain ⟨t, rfl⟩ := rx
  obtain ⟨t2, rfl⟩ := ry
  exact SB.mul ok fun t' k => ⟨.str _, H, I.tok k, ⟨t', rfl⟩, q⟩
theorem r2_mulS : R2Ok K rMulS gMulS := fun H v1 v2 d1 d2 Qd Q r1 r2 h q => by
  cases r1 <;> cases r2 <;> first | exact (show False from h).elim | skip
  exact ⟨_, _, rfl, rfl, h.1, q _ _ (fun F => .str _) h.2⟩
/-! ## sep.join(texts), text.split(sep) -/
def W.joins (x : W) (k : List Str → Prop) : Prop := x.its fun ds => ∃ ys, ds = dStrs ys ∧ k ys
@[simp ↓] def wJoin (wo we : WE) : WE := fun xp S Q => wo xp S fun x => W.strs [x] fun a => we xp S fun y => y.joins fun ys => (ys.map (·.length)).sum + ys.length * a.length ≤ 16777216 ∧ Q (.dat (.str (Txt.join a ys)))
abbrev rJoin (K : PySem.W.Frag) : V → List V → Hp → VK → Prop := fun x xs H Q => ∃ a p, ∃ ys : List Str, x = .str a ∧ xs = [.ref p] ∧ (SqL K H p (ys.map V.str) ∨ SqT K H p (ys.map V.str)) ∧
    (ys.map (·.length)).sum + ys.length * a.length ≤ 16777216 ∧ Q (.str (Txt.join a ys)) H
theorem Snd.join (ho : Snd K Wx to wo) (he : Snd K Wx te we) : Snd K Wx (tM1 (rJoin K) to te) (wJoin wo we) := fun fx xp F G H σ S A Qd Q xr c hw q => by
  refine ho fx xp F G H σ S A _ _ xr c hw fun v x F1 G1 H1 B g1 c1 r1 n1 q1 => ?_
  obtain ⟨a, e, q1⟩ := RepWs.strs (vs := [v]) (.cons r1 .nil (fun b hb z => by cases z)) q1
  cases e
  refine ⟨⟨a, rfl⟩, he fx xp F1 G1 H1 σ S A _ _ xr c1 q1 fun u y F2 G2 H2 B2 g2 c2 r2 n2 q2 => ?_⟩
  obtain ⟨p, vs, ds, rfl, h1, h2, ys, rfl, hz, z⟩ := r2.its c2 q2
  rw [h2.dStrs] at h1
  exact ⟨a, p, ys, rfl, rfl, .inl (ql h1), hz, q _ (.dat (.str _)) F2 G2 H2 [] (g1.trans g2) c2 ⟨.str _, rfl⟩ (fun _ z => by cases z) z⟩
@[simp ↓] def wSplit (wo we : WE) : WE := fun xp S Q => wo xp S fun x => W.strs [x] fun a => we xp S fun y => W.strs [y] fun b => b.length ≠ 0 ∧ a.length ≤ 1000000 ∧ Q (.new (.fl (dStrs (Txt.split a b))))
abbrev rSplit : V → List V → Hp → VK → Prop := fun x xs H Q => ∃ a b, x = .str a ∧ xs = [.str b] ∧ (b.length == 0) = false ∧ a.length + 2 ≤ sizeLine ∧ rNewStrs (Txt.split a b) H Q
theorem Snd.split (ho : Snd K Wx to wo) (he : Snd K Wx te we) : Snd K Wx (tM1 rSplit to te) (wSplit wo we) := fun fx xp F G H σ S A Qd Q xr c hw q => by
  refine ho fx xp F G H σ S A _ _ xr c hw fun v x F1 G1 H1 B g1 c1 r1 n1 q1 => ?_
  obtain ⟨a, e, q1⟩ := RepWs.strs (vs := [v]) (.cons r1 .nil (fun b hb z => by cases z)) q1
  cases e
  refine ⟨⟨a, rfl⟩, he fx xp F1 G1 H1 σ S A _ _ xr c1 q1 fun u y F2 G2 H2 B2 g2 c2 r2 n2 q2 => ?_⟩
  obtain ⟨b, e, hb, hl, z⟩ := RepWs.strs (vs := [u]) (.cons r2 .nil (fun b hb z => by cases z)) q2
  cases e
  refine ⟨a, b, rfl, rfl, beq_eq_false_iff_ne.mpr hb, Nat.le_trans (Nat.add_le_add_right hl 2) (by decide), fun l hl => ?_⟩
  obtain ⟨g4, c4, r4⟩ := c2.newL hl (reps_strs (F := F2) (K := K) (Txt.split a b))
  exact q _ _ _ _ _ _ ((g1.trans g2).trans g4) c4 r4 (fun b hb => by rw [List.mem_singleton.mp hb]; exact (g1.trans g2).hn l hl) z
@[simp ↓] def wUpper (wo : WE) : WE := fun xp S Q => wo xp S fun x => W.strs [x] fun a => a.length ≤ 1000000 ∧ Q (.dat (.str (Txt.upper a)))
abbrev rUpper : V → List V → Hp → VK → Prop := fun x xs H Q => ∃ a, x = .str a ∧ xs = [] ∧ a.length ≤ 5592405 ∧ Q (.str (Txt.upper a)) H
theorem Snd.upper (ho : Snd K Wx to wo) : Snd K Wx (tM0 rUpper to) (wUpper wo) := fun fx xp F G H σ S A Qd Q xr c hw q => by
  refine ho fx xp F G H σ S A _ _ xr c hw fun v x F1 G1 H1 B g1 c1 r1 n1 q1 => ?_
  obtain ⟨a, e, hl, z⟩ := RepWs.strs (vs := [v]) (.cons r1 .nil (fun b hb z => by cases z)) q1
  cases e
  exact ⟨⟨a, rfl⟩, a, rfl, rfl, Nat.le_trans hl (by decide), q _ (.dat (.str _)) F1 G1 H1 [] g1 c1 ⟨.str _, rfl⟩ (fun _ z => by cases z) z⟩
/-! ## any(truth values) -/
def dBls (bs : List Bool) : List D := bs.map D.bl
theorem Reps.dBls : ∀ {vs : List V} {ns : List Bool}, Reps K F vs (DL.dBls ns) → vs = ns.map V.bl
  | _, [], r => by cases r; rfl
  | _, n :: ns, r => by
    cases r with
    | cons r t => cases r; rw [Reps.dBls t]; rfl
def gAny : GN := fun ds Q => match ds with
  | [.lst xs] => ∃ bs, xs = dBls bs ∧ Q (.bl (bs.any id))
  | _ => False
@[simp ↓] theorem egAny_1 (xs : List D) (Q : D → Prop) : gAny [.lst xs] Q = ∃ bs, xs = dBls bs ∧ Q (.bl (bs.any id)) := rfl
theorem rc_any : RcOk K (rAny K) gAny := fun H vs ds Qd Q r h q => by
  unfold gAny at h
  split at h
  · cases r with
    | cons r t =>
      cases t
      cases r with
      | lst h1 h2 =>
        obtain ⟨bs, rfl, z⟩ := h
        rw [h2.dBls] at h1
        exact ⟨_, bs, rfl, ql h1, q _ _ (fun F => .bl _) z⟩
  · exact h.elim
/-! ## tuple + tuple, tuple slices -/
def W.tt (x : W) (k : List D → Prop) : Prop := match x with
  | .dat (.tup ds) => k ds
  | _ => False
@[simp ↓] theorem eW_tt_1 (ds : List D) (k : List D → Prop) : (W.dat (.tup ds)).tt k = k ds := rfl
theorem RepW.tt {k : List D → Prop} (r : RepW K fx F G H S A v B x) (h : x.tt k) : ∃ a vs ds, x = .dat (.tup ds) ∧ v = .ref a ∧ F a = some (.tup vs) ∧ Reps K F vs ds ∧ k ds := by
  unfold W.tt at h
  split at h
  · cases r.1 with
    | tup h1 h2 => exact ⟨_, _, _, rfl, rfl, h1, h2, h⟩
  · exact h.elim
@[simp ↓] def wCatT (wa wb : WE) : WE := fun xp S Q => wa xp S fun x => wb xp S fun y => x.tt fun ds => y.tt fun es => ds.length + es.length ≤ 100000 ∧ Q (.dat (.tup (ds ++ es)))
theorem Snd.catT (ha : Snd K Wx ta wa) (hb : Snd K Wx tb wb) : Snd K Wx (tOp (rCatA K) ta tb) (wCatT wa wb) := fun fx xp F G H σ S A Qd Q xr c hw q => by
  refine Snd.two (Q := fun v u H2 => rCatA K v u H2 Q) ha hb xr c hw fun v x u y F' G' H' B B' gr c' r1 r2 n1 n2 hq => ?_
  obtain ⟨a, vs, ds, rfl, rfl, h1, h2, hq⟩ := r1.tt hq
  obtain ⟨b, ws, es, rfl, rfl, h3, h4, hz, hq⟩ := r2.tt hq
  refine ⟨a, b, vs, ws, rfl, rfl, sub_t (c'.fg.trans c'.gh) (qt h1), sub_t (c'.fg.trans c'.gh) (qt h3), by rw [h2.length, h4.length]; exact line_of hz, fun e => ?_, fun e e2 => ?_, fun e e2 p hp => ?_⟩
  · subst e
    cases h2
    exact q _ (.dat (.tup _)) F' G' H' [] gr c' ⟨.tup h3 h4, rfl⟩ (fun b hb => by cases hb) hq
  · subst e2
    cases h4
    rw [List.append_nil] at hq
    exact q _ (.dat (.tup _)) F' G' H' [] gr c' ⟨.tup h1 h2, rfl⟩ (fun b hb => by cases hb) hq
  · obtain ⟨F2, G2, g4, c4, r4⟩ := c'.newT hp (h2.append h4)
    exact q _ (.dat _) _ _ _ [] (gr.trans g4) c4 ⟨r4, rfl⟩ (fun b hb => by cases hb) hq
@[simp ↓] def wSlT (wa : WE) (wl wh : WO) : WE := fun xp S Q => wa xp S fun x => x.tt fun _ => wl xp S fun lo => wh xp S fun hi => x.tt fun ds => Q (.dat (.tup (cutG ds lo hi)))
theorem Snd.slT {tl th : TO} {wl wh : WO} (ha : Snd K Wx ta wa) (hl : SndO K Wx tl wl) (hh : SndO K Wx th wh) : Snd K Wx (tSl (rSlA K) ta tl th) (wSlT wa wl wh) := fun fx xp F G H σ S A Qd Q xr c hw q => by
  refine ha fx xp F G H σ S A _ _ xr c hw fun v x F1 G1 H1 B g1 c1 r1 n1 q1 => ?_
  obtain ⟨_, _, ds, rfl, _, _, _, q1⟩ := r1.tt q1
  refine hl fx xp F1 G1 H1 σ S A _ _ xr c1 q1 fun lo F2 G2 H2 g2 c2 q2 => ?_
  refine hh fx xp F2 G2 H2 σ S A _ _ xr c2 q2 fun hi F3 G3 H3 g3 c3 q3 => ?_
  have r3 := (r1.grow c1 g2).grow c2 g3
  have gr := (g1.trans g2).trans g3
  obtain ⟨a, vs, ds', e, rfl, h1, h2, z⟩ := r3.tt q3
  cases e
  refine ⟨a, vs, rfl, sub_t (c3.fg.trans c3.gh) (qt h1), fun hw => ?_, fun _ p hp => ?_⟩
  · rw [h2.length] at hw
    have e : cutG ds lo hi = ds := by
      unfold cutG
      rw [hw.1, hw.2, List.drop_zero, Nat.sub_zero, List.take_length]
    rw [e] at z
    exact q _ (.dat (.tup _)) F3 G3 H3 [] gr c3 ⟨.tup h1 h2, rfl⟩ (fun b hb => by cases hb) z
  · obtain ⟨F4, G4, g4, c4, r4⟩ := c3.newT hp (h2.cut lo hi)
    exact q _ (.dat _) _ _ _ [] (gr.trans g4) c4 ⟨r4, rfl⟩ (fun b hb => by cases hb) z
/-! ## in a written tuple -/
/-- at a stands a written tuple of these scalars -/
def KTup (K : PySem.W.Frag) (a : Addr) (ds : List D) : Prop := ∃ vs, (∀ H, SqT K H a vs) ∧ (∀ F, Reps K F vs ds) ∧ ds.all D.scal = true
@[simp ↓] def wInK (neg : Bool) (ds : List D) (wa : WE) : WE := fun xp S Q => wa xp S fun x => x.dd fun d => d.scal = true ∧ Q (.dat (.bl (if neg then !inS d ds else inS d ds)))
@[simp ↓] def wInKT (neg : Bool) (ds : List D) (wa : WE) : WT := fun xp S Q => wa xp S fun x => x.dd fun d => d.scal = true ∧ Q (if neg then !inS d ds else inS d ds)
theorem rIn_kt {neg : Bool} {a : Addr} {ds : List D} {d : D} {Q : VK} (k : KTup K a ds) (r : Rep K H v d) (sc : d.scal = true) (q : Q (.bl (if neg then !inS d ds else inS d ds)) H) : rIn K neg v (.ref a) H Q := by
  obtain ⟨vs, h1, h2, h3⟩ := k
  exact ⟨_, vs, rfl, .inr (h1 H), r.flat sc, (h2 H).flat h3, by rw [(h2 H).inS r sc h3]; exact q⟩
theorem Snd.inK {neg : Bool} {a : Addr} {ds : List D} (k : KTup K a ds) (ha : Snd K Wx ta wa) : Snd K Wx (tOp (rIn K neg) ta (tC (.ref a))) (wInK neg ds wa) := fun fx xp F G H σ S A Qd Q xr c hw q => by
  refine ha fx xp F G H σ S A _ _ xr c hw fun v x F1 G1 H1 B g1 c1 r1 n1 q1 => ?_
  obtain ⟨nx, hq⟩ := W.dd_of q1
  exact rIn_kt k (r1.rd c1 nx) hq.1 (q _ (.dat (.bl _)) F1 G1 H1 [] g1 c1 ⟨.bl _, rfl⟩ (fun _ z => by cases z) hq.2)
theorem Snd.inKT {neg : Bool} {a : Addr} {ds : List D} (k : KTup K a ds) (ha : Snd K Wx ta wa) : SndT K Wx (tTest (tOp (rIn K neg) ta (tC (.ref a)))) (wInKT neg ds wa) := fun fx xp F G H σ S A Qd Q xr c hw q => by
  refine ha fx xp F G H σ S A _ _ xr c hw fun v x F1 G1 H1 B g1 c1 r1 n1 q1 => ?_
  obtain ⟨nx, hq⟩ := W.dd_of q1
  exact rIn_kt (Q := fun x H' => ∃ k, x = .bl k ∧ Q k H') k (r1.rd c1 nx) hq.1 ⟨_, rfl, q _ F1 G1 H1 g1 c1 hq.2⟩
/-! ## d.get(k, n) of a written dict of ints by texts -/
def KDI (K : PySem.W.Frag) (w : World) (a : Addr) (kvs : List (Str × Int)) : Prop := ∃ es n, KDict K w a es n ∧ ∀ z, ∃ r, PySem.W.nsIn K a z = some r ∧ match kvs.lookup z with
  | some i => ∃ u t, r = some u ∧ u = .int i t
  | none => r = none
def kgV (kvs : List (Str × Int)) (z : Str) (y : V) : V := match kvs.lookup z with | some i => .int i | none => y
def tKGet (kvs : List (Str × Int)) (te tc : TE) : TE := fun σ H Q => tCons te (tCons tc tNil) σ H fun xs H2 => ∃ z y, xs = [.str z, y] ∧ Q (kgV kvs z y) H2
@[simp ↓] def wKGet (kvs : List (Str × Int)) (we wc : WE) : WE := fun xp S Q => we xp S fun x => W.strs [x] fun z => wc xp S fun y => y.dd fun d => ∃ i, d = .int i ∧ Q (.dat (.int ((kvs.lookup z).getD i)))
theorem Snd.kget {kvs : List (Str × Int)} {tc : TE} {wc : WE} (he : Snd K Wx te we) (hc : Snd K Wx tc wc) : Snd K Wx (tKGet kvs te tc) (wKGet kvs we wc) := fun fx xp F G H σ S A Qd Q xr c hw q => by
  refine he fx xp F G H σ S A _ _ xr c hw fun v x F1 G1 H1 B g1 c1 r1 n1 q1 => ?_
  obtain ⟨z, e, q1⟩ := RepWs.strs (vs := [v]) (.cons r1 .nil (fun b hb z => by cases z)) q1
  cases e
  refine hc fx xp F1 G1 H1 σ S A _ _ xr c1 q1 fun u y F2 G2 H2 B2 g2 c2 r2 n2 q2 => ?_
  obtain ⟨nx, i, ed, q3⟩ := W.dd_of q2
  have rr := r2.rd c2 nx
  rw [ed] at rr
  cases rr
  refine ⟨z, _, rfl, ?_⟩
  unfold kgV
  cases e : kvs.lookup z with
  | none => rw [e] at q3; exact q _ (.dat (.int _)) F2 G2 H2 [] (g1.trans g2) c2 ⟨.int _, rfl⟩ (fun _ z => by cases z) q3
  | some j => rw [e] at q3; exact q _ (.dat (.int _)) F2 G2 H2 [] (g1.trans g2) c2 ⟨.int _, rfl⟩ (fun _ z => by cases z) q3
end
section
variable {X : Cx} {Wx : WX} {o e a b : Expr} {es : List Expr} {ta tb te to : TE} {wa wb we wo : WE} {apos pos p : Pos} {x : Str}
theorem pd_listS {ta : TA} {wa : WA} (hc : X.calm = true) (hm : X.mg "list" = none) (ha : AdD X Wx (e :: es) ta wa) (hg : Gl X "list" := by rfl) (he : starEach (e :: es) X.env = (false, eval e X.env) :: starEach es X.env := by rfl) (hpl : (backTo pos (starEach es X.env)).any (·.1) = false := by rfl) :
    PdD X Wx (.Call (.Name "list" p) (e :: es) [] pos) (tCB rListS ta) (wListS wa) := ⟨pe_callTy (cr_listS hc) hg hm (by decide +kernel) ha.pa (by decide) (by decide) he hpl, Snd.listS ha.ok⟩
theorem pd_join (ho : PdD X Wx o to wo) (he : PdD X Wx e te we) (hs : starEach [e] X.env = [(false, eval e X.env)] := by rfl) (hbase : attributeBase o "join" X.env (eval o X.env) = eval o X.env := by rfl) (hline : (apos.endLine == pos.line) = true := by rfl) :
    PdD X Wx (.Call (.Attribute o "join" apos) [e] [] pos) (tM1 (rJoin X.K) to te) (wJoin wo we) := ⟨pe_join ho.pe he.pe hs hbase hline, Snd.join ho.ok he.ok⟩
theorem pd_split (ho : PdD X Wx o to wo) (he : PdD X Wx e te we) (hs : starEach [e] X.env = [(false, eval e X.env)] := by rfl) (hbase : attributeBase o "split" X.env (eval o X.env) = eval o X.env := by rfl) (hline : (apos.endLine == pos.line) = true := by rfl) :
    PdD X Wx (.Call (.Attribute o "split" apos) [e] [] pos) (tM1 rSplit to te) (wSplit wo we) := ⟨pe_split ho.pe he.pe hs hbase hline, Snd.split ho.ok he.ok⟩
theorem pd_upper (ho : PdD X Wx o to wo) (hbase : attributeBase o "upper" X.env (eval o X.env) = eval o X.env := by rfl) (hline : (apos.endLine == pos.line) = true := by rfl) :
    PdD X Wx (.Call (.Attribute o "upper" apos) [] [] pos) (tM0 rUpper to) (wUpper wo) := ⟨pe_upper ho.pe hbase hline, Snd.upper ho.ok⟩
theorem pd_catT (ha : PdD X Wx a ta wa) (hb : PdD X Wx b tb wb) : PdD X Wx (.BinOp a .Add b pos) (tOp (rCatA X.K) ta tb) (wCatT wa wb) := ⟨pe_op op_catA ha.pe hb.pe, Snd.catT ha.ok hb.ok⟩
theorem pe_kname {v : Addr} (hg : Gl X x) (hm : X.mg x = some (.ref v)) (hd : (x == ("__debug__" : Str)) = false := by decide) : PE X (.Name x p) (tC (.ref v)) := pe_glob hg hm rfl hd
theorem pd_inK {v : Addr} {ds : List D} (hm : X.mg x = some (.ref v)) (k : KTup X.K v ds) (ha : PdD X Wx a ta wa) (hg : Gl X x := by rfl) (hd : (x == ("__debug__" : Str)) = false := by decide) : PdD X Wx (.Compare a [.In] [.Name x p] pos) (tOp (rIn X.K false) ta (tC (.ref v))) (wInK false ds wa) := ⟨pe_cmpR op_in_seq ha.pe (pe_kname hg hm hd) rfl, Snd.inK k ha.ok⟩
theorem pd_notInK {v : Addr} {ds : List D} (hm : X.mg x = some (.ref v)) (k : KTup X.K v ds) (ha : PdD X Wx a ta wa) (hg : Gl X x := by rfl) (hd : (x == ("__debug__" : Str)) = false := by decide) : PdD X Wx (.Compare a [.NotIn] [.Name x p] pos) (tOp (rIn X.K true) ta (tC (.ref v))) (wInK true ds wa) := ⟨pe_cmpR op_notIn_seq ha.pe (pe_kname hg hm hd) rfl, Snd.inK k ha.ok⟩
theorem td_inK {v : Addr} {ds : List D} (hm : X.mg x = some (.ref v)) (k : KTup X.K v ds) (ha : PdD X Wx a ta wa) (hg : Gl X x := by rfl) (hd : (x == ("__debug__" : Str)) = false := by decide) : TdD X Wx (.Compare a [.In] [.Name x p] pos) (tTest (tOp (rIn X.K false) ta (tC (.ref v)))) (wInKT false ds wa) := ⟨pt_cmpR op_in_seq ha.pe (pe_kname hg hm hd) rfl, Snd.inKT k ha.ok⟩
theorem td_notInK {v : Addr} {ds : List D} (hm : X.mg x = some (.ref v)) (k : KTup X.K v ds) (ha : PdD X Wx a ta wa) (hg : Gl X x := by rfl) (hd : (x == ("__debug__" : Str)) = false := by decide) : TdD X Wx (.Compare a [.NotIn] [.Name x p] pos) (tTest (tOp (rIn X.K true) ta (tC (.ref v)))) (wInKT true ds wa) := ⟨pt_cmpR op_notIn_seq ha.pe (pe_kname hg hm hd) rfl, Snd.inKT k ha.ok⟩
theorem pe_kget {v : Addr} {kvs : List (Str × Int)} (hm : X.mg x = some (.ref v)) (k : KDI X.K X.w v kvs) (ha : PE X a ta) (hb : PE X b tb) (hg : Gl X x := by rfl) (hd : (x == ("__debug__" : Str)) = false := by decide)
    (hbase : attributeBase (.Name x p) "get" X.env (eval (.Name x p) X.env) = eval (.Name x p) X.env := by rfl)
    (hfew : ((backTo pos (starEach [a, b] X.env)).all (fun x => !x.1) && (backToKw pos (keywordEach [] X.env)).all (fun x => x.1.isSome)
      && decide ([a, b].length + ([] : List Keyword).length + (if ([] : List Keyword).isEmpty then 0 else 1) < 30)) = true := by rfl)
    (hline : (apos.endLine == pos.line) = true := by rfl) (hs : starEach [a, b] X.env = (false, eval a X.env) :: starEach [b] X.env := by rfl) (hs2 : starEach [b] X.env = [(false, eval b X.env)] := by rfl) (hplain : (backTo pos (starEach [b] X.env)).any (·.1) = false := by rfl) :
    PE X (.Call (.Attribute (.Name x p) "get" apos) [a, b] [] pos) (tKGet kvs ta tb) := by
  refine ⟨fun pins s σ H Q I h => ?_⟩
  obtain ⟨es, n, D, hk⟩ := k
  refine wpAny_Call_method_late hbase hfew hline rfl (thn ((pe_kname (p := p) hg hm hd).run pins s σ H (fun x H1 => x = .ref v ∧ H1 = H) I ⟨rfl, rfl⟩) fun v1 s1 ⟨x1, H1, I1, r1, e1⟩ => ?_)
  obtain ⟨rfl, rfl⟩ := e1
  cases r1
  have hm2 := PySem.W.mapOf_K (prog := X.prog) (w := X.w) I1.kIn D.at_ D.lit
  refine ⟨"dict", _, PySem.F.plainAttrs_dict, PySem.F.slot_dict_get, PySem.F.type_dict_get, hm2.typeIs, fun a e => ?_, ?_⟩
  · cases e
    exact ⟨_, I1.kIn _ _ D.at_, rfl⟩
  · have hA := (pa_cons ha (pa_cons hb pa_nil hs2) hs).run pos pins s1 σ H1 _ I1 h
    rw [hs] at hA ⊢
    refine Calls.callWith_builtin (by show (false || (backTo pos (starEach [b] X.env)).any (·.1)) = false; rw [hplain] <;> rfl) (Calls.evalArgs_plain ?_)
    refine thn hA fun us s2 ⟨vs, H2, I2, r2, z, y, ev, q2⟩ => ?_
    subst ev
    obtain ⟨u1, u2, rfl, ⟨t1, rfl⟩, ry⟩ := r2.two
    obtain ⟨r, e1, e2⟩ := hk z
    have hm3 := PySem.W.mapOf_K (prog := X.prog) (w := X.w) I2.kIn D.at_ D.lit
    refine call_meetsIn PySem.F.slot_dict_get hm3.typeIs PySem.F.entry_dict_get (PySem.F.args_dict_get_3 _ _ _) (meets_dict_get_default (strKind X.prog X.w) v (strKind_is X.prog X.w z t1) D.low u2) ⟨_, hm3, ?_⟩
    rw [PySem.W.find_K D.at_ e1]
    unfold kgV at q2
    cases e : kvs.lookup z with
    | none =>
      rw [e] at e2 q2
      subst e2
      exact ⟨y, H2, I2.tok _, ry, q2⟩
    | some i =>
      rw [e] at e2 q2
      obtain ⟨u, t, rfl, rfl⟩ := e2
      exact ⟨.int i, H2, I2.tok _, ⟨t, rfl⟩, q2⟩
theorem pd_kget {v : Addr} {kvs : List (Str × Int)} (hm : X.mg x = some (.ref v)) (k : KDI X.K X.w v kvs) (ha : PdD X Wx a ta wa) (hb : PdD X Wx b tb wb) (hg : Gl X x := by rfl) (hd : (x == ("__debug__" : Str)) = false := by decide)
    (hbase : attributeBase (.Name x p) "get" X.env (eval (.Name x p) X.env) = eval (.Name x p) X.env := by rfl)
    (hfew : ((backTo pos (starEach [a, b] X.env)).all (fun x => !x.1) && (backToKw pos (keywordEach [] X.env)).all (fun x => x.1.isSome)
      && decide ([a, b].length + ([] : List Keyword).length + (if ([] : List Keyword).isEmpty then 0 else 1) < 30)) = true := by rfl)
    (hline : (apos.endLine == pos.line) = true := by rfl) (hs : starEach [a, b] X.env = (false, eval a X.env) :: starEach [b] X.env := by rfl) (hs2 : starEach [b] X.env = [(false, eval b X.env)] := by rfl) (hplain : (backTo pos (starEach [b] X.env)).any (·.1) = false := by rfl) :
    PdD X Wx (.Call (.Attribute (.Name x p) "get" apos) [a, b] [] pos) (tKGet kvs ta tb) (wKGet kvs wa wb) := ⟨pe_kget hm k ha.pe hb.pe hg hd hbase hfew hline hs hs2 hplain, Snd.kget ha.ok hb.ok⟩
theorem pd_slT {lo hi : Option Expr} {p2 : Pos} {tl th : TO} {wl wh : WO} (ha : PdD X Wx a ta wa) (hl : OdD X Wx lo tl wl) (hh : OdD X Wx hi th wh) : PdD X Wx (.Subscript a (.Slice lo hi none p2) pos) (tSl (rSlA X.K) ta tl th) (wSlT wa wl wh) := ⟨pe_slice sl_tupA ha.pe hl.po hh.po, Snd.slT ha.ok hl.ok hh.ok⟩
theorem bt_any : bootBuiltins "any" = some (.builtin "any") := by decide +kernel
end
/-! ## a call without arguments -/
section
variable {X : Cx} {Wx : WX} {CX : CXT} {k : Nat} {f : Addr} {fd : FuncData} {ps : List Str} {sp : Sp} {ds : List Value} {dvs : List V} {E : L2.St → XK} {x : Str} {p pos : Pos} {fs : Fs}
theorem pe_callSD0 (F : FnOk X.prog X.w X.K X.mg X.base CX k f fd ps sp) (hr : Room k X.A) (hg : Gl X x) (hm : X.mg x = some (.ref f)) (hk : PySem.W.keepIn X.K (.ref f) = true) (hb : Binds X.K fd ps ds) (hd : Vals dvs ds) (hx : ∀ σ, PassesAt CX X σ (E σ))
    (hdb : (x == ("__debug__" : Str)) = false := by decide) : PE X (.Call (.Name x p) [] [] pos) (tCallSD sp dvs E tNil) := by
  refine ⟨fun pins s σ H Q I h => ?_⟩
  refine wpAny_Call_Name_kw (ld_glob I hg hm ?_ hdb)
  exact PySem.W.callWith_K0 I.kIn hk (run_fnSD (us := []) F hr hb hd (hx σ) I .nil h)
theorem pd_call0 (F : FnOk X.prog X.w X.K X.mg X.base (L2.CX X.prog X.w) k f fd ps (spP X.K fs)) (hr : Room k X.A) (hm : X.mg x = some (.ref f)) (hk : PySem.W.keepIn X.K (.ref f) = true) (hb : Binds X.K fd ps []) (tk : Takes X Wx)
    (hg : Gl X x := by rfl) (hdb : (x == ("__debug__" : Str)) = false := by decide) :
    PdD X Wx (.Call (.Name x p) [] [] pos) (tCallSD (spP X.K fs) [] (fun σ cls d H => Wx cls d σ H) tNil) (wCall fs [] wNil) :=
  ⟨pe_callSD0 F hr hg hm hk hb .nil (fun σ => passAtE tk σ) hdb, Snd.call (ad_nil (X := X)).ok⟩
end
/-! ## written tuples and dicts, by a Bool -/
def okV : Value → D → Bool
  | .int i _, .int j => i == j
  | .str x _, .str y => x == y
  | .bool a, .bl b => a == b
  | .none, .non => true
  | _, _ => false
def okVs : List Value → List D → Bool
  | [], [] => true
  | v :: vs, d :: ds => okV v d && okVs vs ds
  | _, _ => false
theorem okV_ok : ∀ {u : Value} {d : D}, okV u d = true → ∃ v, RelV v u ∧ (∀ K F, Rep K F v d) ∧ d.scal = true := by
  intro u d h
  unfold okV at h
  split at h
  · rename_i i t j
    rw [beq_iff_eq.mp h]
    exact ⟨.int j, ⟨t, rfl⟩, fun _ _ => .int j, rfl⟩
  · rename_i i t j
    rw [beq_iff_eq.mp h]
    exact ⟨.str j, ⟨t, rfl⟩, fun _ _ => .str j, rfl⟩
  · rename_i i j
    rw [beq_iff_eq.mp h]
    exact ⟨.bl j, rfl, fun _ _ => .bl j, rfl⟩
  · exact ⟨.non, rfl, fun _ _ => .non, rfl⟩
  · cases h
theorem okVs_ok : ∀ {us : List Value} {ds : List D}, okVs us ds = true → ∃ vs, Vals vs us ∧ (∀ K F, Reps K F vs ds) ∧ ds.all D.scal = true
  | [], [], _ => ⟨[], .nil, fun _ _ => .nil, rfl⟩
  | u :: us, d :: ds, h => by
    obtain ⟨h1, h2⟩ := Bool.and_eq_true_iff.mp h
    obtain ⟨v, a1, a2, a3⟩ := okV_ok h1
    obtain ⟨vs, b1, b2, b3⟩ := okVs_ok h2
    exact ⟨v :: vs, .cons a1 b1, fun K F => .cons (a2 K F) (b2 K F), by rw [List.all_cons, a3, b3]; rfl⟩
def tupB (K : PySem.W.Frag) (a : Addr) (ds : List D) : Bool := match K.lookup a with
  | some ⟨.type c, _, .seq its _, _⟩ => decide (c = "tuple") && (decide (its.size ≤ sizeLine) && okVs its.toList ds)
  | _ => false
theorem tupB_ok {K : PySem.W.Frag} {a : Addr} {ds : List D} (h : tupB K a ds = true) : KTup K a ds := by
  unfold tupB at h
  split at h
  · rename_i c od its n sl e
    obtain ⟨h1, h2⟩ := Bool.and_eq_true_iff.mp h
    obtain ⟨h3, h4⟩ := Bool.and_eq_true_iff.mp h2
    obtain ⟨vs, b1, b2, b3⟩ := okVs_ok h4
    have := of_decide_eq_true h1
    subst this
    exact ⟨vs, fun H => .inr ⟨_, its, n, e, rfl, rfl, of_decide_eq_true h3, b1⟩, b2 K, b3⟩
  · cases h
def okE (e : DictEntry) (kv : Str × Int) : Bool := match e.key, e.val with
  | .str x _, .int i _ => x == kv.1 && i == kv.2
  | _, _ => false
def okEs : List DictEntry → List (Str × Int) → Bool
  | [], [] => true
  | e :: es, kv :: kvs => okE e kv && okEs es kvs
  | _, _ => false
theorem okE_ok {e : DictEntry} {kv : Str × Int} (h : okE e kv = true) : ∃ t i t2, e.key = .str kv.1 t ∧ e.val = .int i t2 ∧ i = kv.2 := by
  unfold okE at h
  split at h
  · rename_i x t i t2 e1 e2
    obtain ⟨h1, h2⟩ := Bool.and_eq_true_iff.mp h
    rw [beq_iff_eq.mp h1] at e1
    exact ⟨t, i, t2, e1, e2, beq_iff_eq.mp h2⟩
  · cases h
theorem okEs_ok (z : Str) : ∀ {es : List DictEntry} {kvs : List (Str × Int)}, okEs es kvs = true → (es.any (·.refKey) = false) ∧ match kvs.lookup z with
    | some i => ∃ e t, es.find? (·.key.isStr z) = some e ∧ e.val = .int i t
    | none => es.find? (·.key.isStr z) = none
  | [], [], _ => ⟨rfl, rfl⟩
  | e :: es, kv :: kvs, h => by
    obtain ⟨h1, h2⟩ := Bool.and_eq_true_iff.mp h
    obtain ⟨t, i, t2, e1, e2, e3⟩ := okE_ok h1
    obtain ⟨r1, r2⟩ := okEs_ok z h2
    obtain ⟨k, j⟩ := kv
    subst e3
    have hk : e.refKey = false := by unfold DictEntry.refKey; rw [e1]
    refine ⟨by rw [List.any_cons, hk, r1]; rfl, ?_⟩
    have q : e.key.isStr z = (k == z) := by rw [e1]; rfl
    rw [List.lookup_cons, List.find?_cons, q]
    cases hz : (k == z) with
    | true =>
      have : (z == k) = true := by rw [beq_iff_eq] at hz ⊢; exact hz.symm
      rw [this]
      exact ⟨e, t2, rfl, e2⟩
    | false =>
      have : (z == k) = false := by rw [beq_eq_false_iff_ne] at hz ⊢; exact fun c => hz c.symm
      rw [this]
      exact r2
def dctB (K : PySem.W.Frag) (a : Addr) (kvs : List (Str × Int)) : Bool := match K.lookup a with
  | some ⟨_, _, .dict es _, _⟩ => okEs es.toList kvs
  | _ => false
theorem dctB_ok {K : PySem.W.Frag} {w : World} {a : Addr} {kvs : List (Str × Int)} (h : dctB K a kvs = true) (k : ∃ es n, KDict K w a es n) : KDI K w a kvs := by
  obtain ⟨es, n, D⟩ := k
  unfold dctB at h
  rw [D.at_] at h
  have h' : okEs es.toList kvs = true := h
  refine ⟨es, n, D, fun z => ?_⟩
  obtain ⟨r1, r2⟩ := okEs_ok z h'
  unfold PySem.W.nsIn
  rw [D.at_]
  dsimp only
  cases e : kvs.lookup z with
  | none =>
    rw [e] at r2
    have r2' : es.toList.find? (·.key.isStr z) = none := r2
    rw [r2', r1]
    exact ⟨none, rfl, rfl⟩
  | some i =>
    rw [e] at r2
    obtain ⟨en, t, r3, r4⟩ := r2
    rw [r3]
    exact ⟨some en.val, rfl, en.val, t, rfl, r4⟩
end DL

namespace DL
open PySem PySem.Spec PyProof.Rows L2

/-! ## facts of exception classes, for hookX's Bool -/
inductive Fx2 where
  | kit (x y : Str) (b : Bool)
  | kitV (x : Str) (T : String) (b : Bool)
  | exm (x y : Str) (b : Bool)
  | exc (x : Str)
  | oex (x : Str)
  | ini (x : Str)
  | xf (x : Str)
  | tup (x : Str) (ds : List D)
  | dct (x : Str) (kvs : List (Str × Int))
def oexB (K : PySem.W.Frag) (C : Addr) : Bool := match K.lookup C with
  | some ⟨.type "type", _, .cls cd, sl⟩ => (match cd.mro, sl.toList with
    | .ref C' :: bm, [_, _, _, _, some (.builtin n), _] => C' == C && n == "ValueError.__new__" && !cd.hasDel && cd.hasDict && PySem.HandSPX.refsVE bm
    | _, _ => false)
  | _ => false
theorem oexB_ok {K : PySem.W.Frag} {C : Addr} (q : oexB K C = true) : ∃ nm q N bs bm sn sub ab col dd k0 k1 k2 k3 k5, K.lookup C = some (excClassObj nm q C N bs bm true sn sub ab col dd k0 k1 k2 k3 k5 "ValueError.__new__") ∧ PySem.HandSPX.refsVE bm = true := by
  unfold oexB at q
  split at q
  · rename_i dd cd sl ho
    split at q
    · rename_i C' bm k0 k1 k2 k3 n k5 hm hs
      simp only [Bool.and_eq_true, beq_iff_eq, Bool.not_eq_true'] at q
      obtain ⟨⟨⟨⟨rfl, rfl⟩, hdel⟩, hd⟩, ht⟩ := q
      obtain ⟨nm, bs, mro, ns, qn, hdc, sn, sub, ab, col, del⟩ := cd
      dsimp only at hm hdel hd
      subst hm hdel hd
      have hsl : sl = #[k0, k1, k2, k3, some (.builtin "ValueError.__new__"), k5] := by
        obtain ⟨l⟩ := sl
        simp only at hs
        rw [hs]
      subst hsl
      exact ⟨nm, qn, ns, bs, bm, sn, sub, ab, col, dd, k0, k1, k2, k3, k5, ho, ht⟩
    · cases q
  · cases q
def Fx2.ok (K : PySem.W.Frag) : Fx2 → Bool
  | .kit x y b => decide (PySem.W.kitOne K (.ref (He.ga K x)) (.ref (He.ga K y)) = some b)
  | .kitV x T b => decide (PySem.W.kitOne K (.ref (He.ga K x)) (.type T) = some b)
  | .exm x y b => decide (PySem.W.exmOne K (.ref (He.ga K x)) (.ref (He.ga K y)) = some b)
  | .exc x => He.eqO (PySem.W.findIn K (.ref (He.ga K x)) "__getattribute__") (some (some (.builtin "BaseException.__getattribute__"))) && (He.eqO (PySem.W.findIn K (.ref (He.ga K x)) "__getattr__") (some none) && (decide (PySem.W.subIn K (.ref (He.ga K x)) (.type "BaseException") = some true) && (PySem.W.hasDictIn K (He.ga K x) && (He.eqO (PySem.W.findIn K (.ref (He.ga K x)) "__class__") (some (some (.builtin "object.__class__"))) &&
    (He.eqO (PySem.W.specialIn K (.builtin "object.__class__") "__get__") (some (some (.builtin "getset_descriptor.__get__"))) && (decide (PySem.W.takesIn K (.builtin "object.__class__") = some true) && decide (PySem.W.mroIn K (He.ga K x) (.type "object") = some true)))))))
  | .oex x => oexB K (He.ga K x) && (He.eqO (PySem.W.findIn K (.ref (He.ga K x)) "__setattr__") (some (some (.builtin "object.__setattr__"))) && (decide (PySem.W.subIn K (.ref (He.ga K x)) (.type "BaseException") = some true) && (decide (PySem.W.typeIn K (.ref (He.ga K x)) = some (.type "type")) && PySem.W.keepIn K (.ref (He.ga K x)))))
  | .ini x => He.eqO (PySem.W.findIn K (.ref (He.ga K x)) "__init__") (some (some (.ref (He.ma K (He.ga K x) "__init__")))) && decide (PySem.W.typeIn K (.ref (He.ma K (He.ga K x) "__init__")) = some (.type "function"))
  | .xf x => xfB K (He.ga K x)
  | .tup x ds => tupB K (He.ga K x) ds
  | .dct x kvs => dctB K (He.ga K x) kvs
section
variable {K : PySem.W.Frag}
theorem fx_kit {x y : Str} {b : Bool} (c : (Fx2.kit x y b).ok K = true) : PySem.W.kitOne K (.ref (He.ga K x)) (.ref (He.ga K y)) = some b := of_decide_eq_true c
theorem fx_kitV {x : Str} {T : String} {b : Bool} (c : (Fx2.kitV x T b).ok K = true) : PySem.W.kitOne K (.ref (He.ga K x)) (.type T) = some b := of_decide_eq_true c
theorem fx_exm {x y : Str} {b : Bool} (c : (Fx2.exm x y b).ok K = true) : PySem.W.exmOne K (.ref (He.ga K x)) (.ref (He.ga K y)) = some b := of_decide_eq_true c
theorem fx_exc {x : Str} (c : (Fx2.exc x).ok K = true) : ExcC K (He.ga K x) := by
  obtain ⟨c1, c⟩ := He.ba c
  obtain ⟨c2, c⟩ := He.ba c
  obtain ⟨c3, c⟩ := He.ba c
  obtain ⟨c4, c⟩ := He.ba c
  obtain ⟨c5, c⟩ := He.ba c
  obtain ⟨c6, c⟩ := He.ba c
  obtain ⟨c7, c8⟩ := He.ba c
  exact ⟨He.eqO_ok c1, He.eqO_ok c2, of_decide_eq_true c3, c4, He.eqO_ok c5, He.eqO_ok c6, of_decide_eq_true c7, of_decide_eq_true c8⟩
theorem fx_oex {x : Str} (c : (Fx2.oex x).ok K = true) : OexC K (He.ga K x) := by
  obtain ⟨c1, c⟩ := He.ba c
  obtain ⟨c2, c⟩ := He.ba c
  obtain ⟨c3, c⟩ := He.ba c
  obtain ⟨c4, c5⟩ := He.ba c
  exact ⟨oexB_ok c1, He.eqO_ok c2, of_decide_eq_true c3, of_decide_eq_true c4, c5⟩
theorem fx_iC {x : Str} (c : (Fx2.ini x).ok K = true) : PySem.W.findIn K (.ref (He.ga K x)) "__init__" = some (some (.ref (He.ma K (He.ga K x) "__init__"))) := He.eqO_ok (He.ba c).1
theorem fx_tI {x : Str} (c : (Fx2.ini x).ok K = true) : PySem.W.typeIn K (.ref (He.ma K (He.ga K x) "__init__")) = some (.type "function") := of_decide_eq_true (He.ba c).2
theorem fx_xf {x : Str} (c : (Fx2.xf x).ok K = true) : XfC K (He.ga K x) := xfB_ok c
theorem fx_tup {x : Str} {ds : List D} (c : (Fx2.tup x ds).ok K = true) : KTup K (He.ga K x) ds := tupB_ok c
theorem fx_dct {w : World} {x : Str} {kvs : List (Str × Int)} (c : (Fx2.dct x kvs).ok K = true) (k : ∃ es n, KDict K w (He.ga K x) es n) : KDI K w (He.ga K x) kvs := dctB_ok c k
theorem fx_at {fx : List Fx2} (h : (fx.all (Fx2.ok K)) = true) (i : Nat) {f : Fx2} (e : fx[i]? = some f := by rfl) : f.ok K = true := List.all_eq_true.mp h f (List.mem_of_getElem? e)
end
/-- a promise that nobody asks for -/
theorem fn_never {P : Program} {w : World} {K : PySem.W.Frag} {mg : Str → Option Value} {base : Heap} {CX : CXT} {k : Nat} {f : Addr} {fd : FuncData} {ps : List Str} : FnOk P w K mg base CX k f fd ps (spP K fun _ _ _ => False) :=
  ⟨fun vs H Q E h => by obtain ⟨_, _, _, _, _, _, _, _, _, _, h, _⟩ := h; exact h.elim, fun A outer s H args us vs Q E _ _ _ _ h => by obtain ⟨_, _, _, _, _, _, _, _, _, _, h, _⟩ := h; exact h.elim⟩
/-- a law's end over a head by facts, CX of the world -/
theorem walk_ofEW {l : PySem.W.OpenLaw} {n k : Nat} {q : Program} {loose : List Str} {XP : (Str → Option Value) → Heap → Prop} {YP : World → Heap → Prop} {d : DefRec} {x : Str}
    (hn : l.most = some n) (hn2 : n ≤ sizeLine) (hdf : d.params.defaults = []) (hr : Room k callerA)
    (F : ∀ (w : World) (mg : Str → Option Value) (fa : Addr) (h : Heap), YP w h → h.Ns mainGlobals mg → mg d.name = some (.ref fa) →
      ∃ (K : PySem.W.Frag) (fd : FuncData) (sp : Sp), K.In h ∧ (∀ (s : Shared) (u : Value), BindsTo s fd ⟨[u], []⟩ [(x, u)]) ∧
        (∀ (H : Hp) (a : Addr) (ns : List Int), ns.length ≤ n → Only H → SqL K H a (ns.map V.int) → sp [.ref a] H (fun v _ => v = .bl true) fun _ _ _ => False) ∧
        ∀ base : Heap, K.In base → base.Ns mainGlobals mg → FnOk l.prog w K mg base (L2.CX l.prog w) k fa fd [x] sp) :
    PySem.W.WalkO q loose XP YP l.row.toRowW d [] (fun f vs => PySem.call f vs) := by
  refine Att.attach_call hn hdf fun w s₀ s₁ mg mb fa o pm cd doc a vs ns G Y ho hd hcd hmg hobj hints hlen hg => ?_
  obtain ⟨K, fd, sp, KX, hb, hsp, hF⟩ := F w mg fa _ Y G.T.g hmg
  exact law_call KX G.T.g G.T.b G.T.builtins G.T.nolimit hg hobj hints (Nat.le_trans hlen hn2) hr hF hb (fun H hO hS => hsp H a ns hlen hO hS) fun H e s' z => by
    obtain ⟨_, _, _, _, _, _, _, _, _, _, _, _, z⟩ := z
    exact z.elim
end DL

namespace DL
open PySem PySem.Spec PyProof.Rows L2
/-! ## the functions that all laws share: store, mix, take, edge, pick, same -/
def fs__law_mix : Fs := fun as Qd _ => ∃ v t : Int, as = [.dat (.int v), .dat (.int t)] ∧ ∀ r : Int, Qd (.dat (.int r))
abbrev fs__law_take : Fs := fsTake
def fs__law_edge : Fs := fun as Qd _ => ∃ lo hi : Int, as = [.sto, .dat (.int lo), .dat (.int hi)] ∧ hi - lo ≤ 10 ^ 50 ∧ ∀ r : Int, lo ≤ r → (r ≤ hi ∨ r = lo) → Qd (.dat (.int r))
def fs__law_pick : Fs := fun as Qd _ => ∃ ds : List D, as = [.sto, .dat (.lst ds)] ∧ ds ≠ [] ∧ ds.length ≤ 100000 ∧ ∀ d ∈ ds, Qd (.dat d)
mutual
def sameD : D → D → Bool
  | .non, t => (match t with | .non => true | _ => false)
  | .bl b, t => (match t with | .bl c => c == b | _ => false)
  | .int i, t => (match t with | .int j => decide (j = i) | _ => false)
  | .str i, t => (match t with | .str j => decide (j = i) | _ => false)
  | .lst ds, t => (match t with | .lst ts => sames ds ts | _ => false)
  | .tup ds, t => (match t with | .tup ts => sames ds ts | _ => false)
  | _, _ => false
def sames : List D → List D → Bool
  | [], ts => ts.isEmpty
  | d :: ds, ts => (match ts with
    | t :: ts => sameD d t && sames ds ts
    | [] => false)
end
mutual
def depD : D → Nat
  | .lst ds => depS ds + 1
  | .tup ds => depS ds + 1
  | _ => 0
def depS : List D → Nat
  | [] => 0
  | d :: ds => max (depD d) (depS ds)
end
theorem sames_len : ∀ {ds ts : List D}, sames ds ts = true → ts.length = ds.length
  | [], ts, h => by
    unfold sames at h
    rw [List.isEmpty_iff.mp h]
  | d :: ds, [], h => by unfold sames at h; cases h
  | d :: ds, t :: ts, h => by
    unfold sames at h
    rw [Bool.and_eq_true] at h
    rw [List.length_cons, List.length_cons, sames_len h.2]
theorem sames_snoc : ∀ {ds ts : List D} {d t : D}, ts.length = ds.length → sames (ds ++ [d]) (ts ++ [t]) = (sames ds ts && sameD d t)
  | [], [], d, t, _ => by simp [sames]
  | [], _ :: _, _, _, h => by simp at h
  | _ :: _, [], _, _, h => by simp at h
  | d :: ds, t :: ts, d', t', h => by
    have := sames_snoc (ds := ds) (ts := ts) (d := d') (t := t') (by simpa using h)
    simp [sames, this, Bool.and_assoc]
theorem sames_false : ∀ {ds ts : List D} {k : Nat} {d t : D}, ds[k]? = some d → ts[k]? = some t → sameD d t = false → sames ds ts = false
  | [], _, _, _, _, h, _, _ => by simp at h
  | _ :: _, [], _, _, _, _, h, _ => by simp at h
  | d :: ds, t :: ts, 0, _, _, h1, h2, h => by
    simp at h1 h2
    subst h1 h2
    simp [sames, h]
  | d :: ds, t :: ts, k + 1, _, _, h1, h2, h => by
    have := sames_false (ds := ds) (ts := ts) (k := k) (by simpa using h1) (by simpa using h2) h
    simp [sames, this]
theorem depS_mem : ∀ {ds : List D} {d : D}, d ∈ ds → depD d ≤ depS ds
  | [], _, h => by cases h
  | e :: ds, d, h => by
    unfold depS
    rcases List.mem_cons.mp h with rfl | h
    · omega
    · have := depS_mem h; omega
mutual
/-- no object within, no list too long -/
def okD : D → Bool
  | .lst ds => decide (ds.length ≤ 100000) && okS ds
  | .tup ds => decide (ds.length ≤ 100000) && okS ds
  | .obj _ _ => false
  | .dic _ => false
  | .dit _ => false
  | .raw _ _ => false
  | _ => true
def okS : List D → Bool
  | [] => true
  | d :: ds => okD d && okS ds
end
theorem okS_mem : ∀ {ds : List D} {d : D}, okS ds = true → d ∈ ds → okD d = true
  | [], _, _, h => by cases h
  | e :: ds, d, p, h => by
    unfold okS at p
    rw [Bool.and_eq_true] at p
    rcases List.mem_cons.mp h with rfl | h
    · exact p.1
    · exact okS_mem p.2 h
@[simp] theorem okS_ints : ∀ ns : List Int, okS (dInts ns) = true
  | [] => rfl
  | _ :: ns => okS_ints ns
@[simp] theorem depS_ints : ∀ ns : List Int, depS (dInts ns) = 0
  | [] => rfl
  | _ :: ns => by show max 0 (depS (dInts ns)) = 0; rw [depS_ints ns]; rfl
@[simp] theorem sames_ints : ∀ ns ms : List Int, sames (dInts ns) (dInts ms) = decide (ms = ns)
  | [], [] => rfl
  | [], _ :: _ => by simp [dInts, sames]
  | _ :: _, [] => by simp [dInts, sames]
  | n :: ns, m :: ms => by
    show (decide (m = n) && sames (dInts ns) (dInts ms)) = _
    rw [sames_ints ns ms, Bool.eq_iff_iff]
    simp
/-- _law_same, its second thing at most n deep -/
def fsSame (n : Nat) : Fs := fun as Qd _ => ∃ t d : D, as = [.rdo t, .rdo d] ∧ okD t = true ∧ okD d = true ∧ depD d ≤ n ∧ Qd (.dat (.bl (sameD d t)))

def w__law_store_b1 : WS := wAsg (wBin (gIC (fun _ j => 0 < j) fun i j => i % j) (wFn gInt (wCons (wBin gAdd (wBin gAdd (wBin (gIC CMul fun i j => i * j) (wVar 2) (wC (.int 48271))) (wBin (gIC (fun _ j => 0 < j) fun i j => i % j) (wFn gInt (wCons (wVar 3) (wNil))) (wC (.int 2305843009213693951)))) (wC (.int 1))) (wNil))) (wC (.int 2305843009213693921))) (wName 2)
def w__law_store_t1 : WS := wRet (wCat (wLst (wCons (wC (.int 0)) (wCons (wC (.int 0)) (wCons (wC (.int 0)) (wCons (wC (.int 0)) (wCons (wC (.int 0)) (wCons (wVar 2) (wNil)))))))) (wVar 1))
def w__law_store_t2 : WS := wSeq (wAsg (wBin gAdd (wC (.int 7)) (wFn gLen (wCons (wVar 1) (wNil)))) (wName 2))
  (wSeq (wFor (wIList (wVar 1)) (wName 3) (w__law_store_b1))
  (w__law_store_t1))
def w__law_store : WS := wSeq (wFz 1 (wAsg (wLc (wIList (wCutScr 0 (wNoP) (wPart (wC (.int 63))))) (wName 3) (fun _ _ Q => Q true) (wFn gInt (wCons (wVar 3) (wNil))) [3]) (wName 1)))
  (w__law_store_t2)
def w__law_mix : WS := wSeq (wAsg (wBin (gIC (fun _ j => 0 < j) fun i j => i % j) (wFn gInt (wCons (wBin gAdd (wBin gAdd (wBin (gIC CMul fun i j => i * j) (wVar 0) (wC (.int 1181783497276652981))) (wBin (gIC CMul fun i j => i * j) (wBin gAdd (wVar 1) (wC (.int 1))) (wC (.int 1865811235122147682)))) (wC (.int 12345))) (wNil))) (wC (.int 2305843009213693951))) (wName 2))
  (wSeq (wAsg (wBin (gIC (fun _ j => 0 < j) fun i j => i % j) (wFn gInt (wCons (wBin gAdd (wBin gAdd (wBin (gIC CMul fun i j => i * j) (wVar 2) (wVar 2)) (wBin (gIC CDivW fun i j => i / j) (wVar 2) (wC (.int 3037000493)))) (wVar 0)) (wNil))) (wC (.int 2305843009213693921))) (wName 3))
  (wRet (wBin (gIC CDivW fun i j => i / j) (wBin (gIC (fun _ j => 0 < j) fun i j => i % j) (wFn gInt (wCons (wBin gAdd (wBin (gIC CMul fun i j => i * j) (wVar 3) (wC (.int 2862933555777941757))) (wC (.int 3037000493))) (wNil))) (wC (.int 2305843009213693951))) (wC (.int 64)))))
def w__law_take_t1 : WS := wIf (wCmpT (gCmp fun i j => decide (j ≤ i)) (wVar 3) (wBin (gIC CPowW fun i j => i ^ j.toNat) (wC (.int 10)) (wC (.int 18)))) (wSetI (wBin (gIC (fun _ j => 0 < j) fun i j => i % j) (wFn gInt (wCons (wVar 3) (wNil))) (wBin (gIC CPowW fun i j => i ^ j.toNat) (wBin (gIC CPowW fun i j => i ^ j.toNat) (wC (.int 10)) (wC (.int 60))) (wC (.int 10)))) (wVar 0) (wC (.int 1))) (wSeq (wSetI (wC (.int 4)) (wVar 0) (wC (.int 2)))
  (wSetI (wBin gAdd (wBin (gIC CMul fun i j => i * j) (wC (.int 2)) (wVar 3)) (wVar 4)) (wVar 0) (wC (.int 3))))
def w__law_take_t2 : WS := wRet (wBin (gIC (fun _ j => 0 < j) fun i j => i % j) (wFn gInt (wCons (wCall fs__law_mix [.d, .d] (wCons (wIx (wVar 0) (wC (.int 5))) (wCons (wIx (wVar 0) (wC (.int 0))) (wNil)))) (wNil))) (wVar 1))
def w__law_take_t3 : WS := wSeq (wIf (wCmpT (gCmp fun i j => decide (j < i)) (wIx (wVar 0) (wC (.int 2))) (wC (.int 0))) (wSeq (wSetI (wBin (gI fun i j => i - j) (wIx (wVar 0) (wC (.int 2))) (wC (.int 1))) (wVar 0) (wC (.int 2)))
  (wRet (wBin (gIC (fun _ j => 0 < j) fun i j => i % j) (wFn gInt (wCons (wCall fs__law_mix [.d, .d] (wCons (wIx (wVar 0) (wC (.int 3))) (wCons (wIx (wVar 0) (wC (.int 0))) (wNil)))) (wNil))) (wVar 1)))) (wNext))
  (w__law_take_t2)
def w__law_take_t4 : WS := wSeq (wIf (wCmpT (gCmp fun i j => decide (j < i)) (wIx (wVar 0) (wC (.int 1))) (wC (.int 0))) (wSeq (wAsg (wBin (gIC (fun _ j => 0 < j) fun i j => i % j) (wFn gInt (wCons (wIx (wVar 0) (wC (.int 1))) (wNil))) (wVar 1)) (wName 5))
  (wSeq (wSetI (wBin (gIC CDivW fun i j => i / j) (wIx (wVar 0) (wC (.int 1))) (wVar 1)) (wVar 0) (wC (.int 1)))
  (wRet (wVar 5)))) (wNext))
  (w__law_take_t3)
def w__law_take_t5 : WS := wSeq (wIf (wCmpT (gCmp fun i j => decide (i < j)) (wVar 1) (wC (.int 2))) (wRet (wC (.int 0))) (wNext))
  (w__law_take_t4)
def w__law_take : WS := wSeq (wSetI (wBin gAdd (wIx (wVar 0) (wC (.int 0))) (wC (.int 1))) (wVar 0) (wC (.int 0)))
  (wSeq (wAsg (wBin gAdd (wC (.int 6)) (wIx (wVar 0) (wC (.int 4)))) (wName 2))
  (wSeq (wIf (wAnd (wCmpT gEq (wIx (wVar 0) (wC (.int 1))) (wC (.int 0))) (wAnd (wCmpT gEq (wIx (wVar 0) (wC (.int 2))) (wC (.int 0))) (wCmpT (gCmp fun i j => decide (i < j)) (wVar 2) (wFn gLen (wCons (wVar 0) (wNil)))))) (wSeq (wSetI (wBin gAdd (wIx (wVar 0) (wC (.int 4))) (wC (.int 1))) (wVar 0) (wC (.int 4)))
  (wSeq (wFz 3 (wAsg (wIx (wVar 0) (wVar 2)) (wName 3)))
  (wSeq (wAsg (wC (.int 0)) (wName 4))
  (wSeq (wIf (wCmpT (gCmp fun i j => decide (i < j)) (wVar 3) (wC (.int 0))) (wSeq (wAsg (wBin (gI fun i j => i - j) (wUn gNeg (wC (.int 1))) (wVar 3)) (wName 3))
  (wAsg (wC (.int 1)) (wName 4))) (wNext))
  (w__law_take_t1))))) (wNext))
  (w__law_take_t5)))
def w__law_edge_t1 : WS := wRet (wBin gAdd (wVar 1) (wCall fs__law_take [.s, .d] (wCons (wVar 0) (wCons (wBin gAdd (wBin (gI fun i j => i - j) (wVar 2) (wVar 1)) (wC (.int 1))) (wNil)))))
def w__law_edge_t2 : WS := wSeq (wIf (wCmpT gEq (wVar 3) (wC (.int 1))) (wRet (wFn (g2I fun i j => if j > i then j else i) (wCons (wVar 1) (wCons (wVar 2) (wNil))))) (wNext))
  (w__law_edge_t1)
def w__law_edge : WS := wSeq (wAsg (wCall fs__law_take [.s, .d] (wCons (wVar 0) (wCons (wC (.int 6)) (wNil)))) (wName 3))
  (wSeq (wIf (wCmpT gEq (wVar 3) (wC (.int 0))) (wRet (wVar 1)) (wNext))
  (w__law_edge_t2))
def w__law_pick : WS := wRet (wIx (wVar 1) (wCall fs__law_take [.s, .d] (wCons (wVar 0) (wCons (wFn gLen (wCons (wVar 1) (wNil))) (wNil)))))
def w__law_same_b1 (fs__law_same : Fs) : WS := wIf (wNot (wTru (wCall fs__law_same [.r, .r] (wCons (wIx (wVar 0) (wVar 2)) (wCons (wIx (wVar 1) (wVar 2)) (wNil)))))) (wRet (wC (.bl false))) (wNext)
def w__law_same_t1 (fs__law_same : Fs) : WS := wRet (wC (.bl true))
def w__law_same_t2 (fs__law_same : Fs) : WS := wSeq (wFor (wIR1 (wCons (wFn gLen (wCons (wVar 1) (wNil))) (wNil))) (wName 2) (w__law_same_b1 fs__law_same))
  (w__law_same_t1 fs__law_same)
def w__law_same_t3 (fs__law_same : Fs) : WS := wSeq (wIf (wCmpT gNe (wFn gLen (wCons (wVar 0) (wNil))) (wFn gLen (wCons (wVar 1) (wNil)))) (wRet (wC (.bl false))) (wNext))
  (w__law_same_t2 fs__law_same)
def w__law_same_t4 (fs__law_same : Fs) : WS := wSeq (wIf (wAnd (wTru (wUn (gIsi "tuple") (wVar 1))) (wNot (wTru (wUn (gIsi "tuple") (wVar 0))))) (wRet (wC (.bl false))) (wNext))
  (w__law_same_t3 fs__law_same)
def w__law_same_t5 (fs__law_same : Fs) : WS := wSeq (wIf (wAnd (wTru (wUn (gIsi "list") (wVar 1))) (wNot (wTru (wUn (gIsi "list") (wVar 0))))) (wRet (wC (.bl false))) (wNext))
  (w__law_same_t4 fs__law_same)
def w__law_same_t6 (fs__law_same : Fs) : WS := wSeq (wIf (wTru (wUn (gIsi "str") (wVar 1))) (wRet (wAndV (wUn (gIsi "str") (wVar 0)) (wBin gEq (wVar 0) (wVar 1)))) (wNext))
  (w__law_same_t5 fs__law_same)
def w__law_same_t7 (fs__law_same : Fs) : WS := wSeq (wIf (wTru (wUn (gIsi "int") (wVar 1))) (wRet (wAndV (wUn (gIsi "int") (wVar 0)) (wAndV (wNotV (wUn (gIsi "bool") (wVar 0))) (wBin gEq (wVar 0) (wVar 1))))) (wNext))
  (w__law_same_t6 fs__law_same)
def w__law_same_t8 (fs__law_same : Fs) : WS := wSeq (wIf (wCmpT (isD false) (wVar 1) (wC (.bl false))) (wRet (wBin (isD false) (wVar 0) (wC (.bl false)))) (wNext))
  (w__law_same_t7 fs__law_same)
def w__law_same_t9 (fs__law_same : Fs) : WS := wSeq (wIf (wCmpT (isD false) (wVar 1) (wC (.bl true))) (wRet (wBin (isD false) (wVar 0) (wC (.bl true)))) (wNext))
  (w__law_same_t8 fs__law_same)
def w__law_same (fs__law_same : Fs) : WS := wSeq (wIf (wCmpT (isD false) (wVar 1) (wC .non)) (wRet (wBin (isD false) (wVar 0) (wC .non))) (wNext))
  (w__law_same_t9 fs__law_same)
theorem wFor_cg (wi : WI) (wg : WG) (wb : WS) (xp : Xp) (P : Post) (S : List Slot) : wFor wi wg wb xp P S = wFor wi wg wb xp P S := rfl
theorem wWhile_cg (wi : WT) (wb : WS) (xp : Xp) (P : Post) (S : List Slot) : wWhile wi wb xp P S = wWhile wi wb xp P S := rfl
theorem wLc_cg (wi : WI) (wg : WG) (wt : WT) (we : WE) (vs : List Nat) (xp : Xp) (S : List Slot) (Q : W → Prop) : wLc wi wg wt we vs xp S Q = wLc wi wg wt we vs xp S Q := rfl
theorem wLcO_cg (wi : WI) (wg : WG) (wt : WT) (we : WE) (vs : List Nat) (xp : Xp) (S : List Slot) (Q : W → Prop) : wLcO wi wg wt we vs xp S Q = wLcO wi wg wt we vs xp S Q := rfl
theorem cutG_dInts (ns : List Int) (lo hi : Option Int) : cutG (dInts ns) lo hi = dInts (cutG ns lo hi) := by
  unfold cutG dInts
  rw [List.length_map, List.map_take, List.map_drop]
theorem cutG_length {α : Type} (xs : List α) (lo hi : Option Int) : (cutG xs lo hi).length ≤ xs.length := by
  unfold cutG
  rw [List.length_take, List.length_drop]
  omega
@[simp] theorem dInts_length (ns : List Int) : (dInts ns).length = ns.length := by unfold dInts; rw [List.length_map]
@[simp ↓] theorem dInts_scal (ns : List Int) : ((dInts ns).all D.scal = true) = True := by
  refine eq_true (List.all_eq_true.mpr fun x hx => ?_)
  obtain ⟨n, _, rfl⟩ := List.mem_map.mp hx
  rfl
theorem datAt_dInts {ns : List Int} {k : Nat} (h : k < ns.length) : datAt (dInts ns) k = .dat (.int ns[k]) := by
  unfold datAt dInts
  rw [List.getD_eq_getElem?_getD, List.getElem?_map, List.getElem?_eq_getElem h]
  rfl
theorem cmul_r {a c : Int} (h : (decide (-(2 ^ 64) < c) && decide (c < 2 ^ 64)) = true) : CMul a c := by
  rw [Bool.and_eq_true, decide_eq_true_iff, decide_eq_true_iff] at h
  exact Or.inr h
theorem cmul_mod {x m y : Int} (h : (decide (0 < m) && decide (m ≤ 2 ^ 64)) = true) : CMul (x % m) y := by
  rw [Bool.and_eq_true, decide_eq_true_iff, decide_eq_true_iff] at h
  have h1 := Int.emod_nonneg x (b := m) (by omega)
  have h2 := Int.emod_lt_of_pos x h.1
  exact Or.inl ⟨by omega, by omega⟩
theorem cdiv_c {x c : Int} (h : (decide (0 < c) && decide (c.natAbs.log2 < 9000)) = true) : CDivW x c := by
  rw [Bool.and_eq_true, decide_eq_true_iff, decide_eq_true_iff] at h
  exact h
theorem pl_mix (as Qd xd) (h : fs__law_mix as Qd xd) : w__law_mix (xpOf xd) (postOf Qd) (slots as 4) := by
  obtain ⟨v, t, rfl, h⟩ := h
  simp [w__law_mix]
  exact ⟨cmul_r (by decide +kernel), cmul_r (by decide +kernel), cmul_mod (by decide +kernel), cdiv_c (by decide +kernel), cmul_r (by decide +kernel), cdiv_c (by decide +kernel), h _⟩
theorem pl_edge (as Qd xd) (h : fs__law_edge as Qd xd) : w__law_edge (xpOf xd) (postOf Qd) (slots as 4) := by
  obtain ⟨lo, hi, rfl, hb, h⟩ := h
  simp [w__law_edge, w__law_edge_t1, w__law_edge_t2, fsTake]
  intro r h0 h1
  split
  · exact h _ (by omega) (by omega)
  · split
    · split
      · exact h _ (by omega) (by omega)
      · exact h _ (by omega) (by omega)
    · exact ⟨by omega, fun r h2 h3 => h _ (by omega) (by omega)⟩
theorem atI_mem {ds : List D} {r : Int} (h0 : 0 ≤ r) (h1 : r < ds.length) : ∃ d, atI ds r = some d ∧ d ∈ ds := by
  have hr : ds[r.toNat]? = some (ds[r.toNat]'(by omega)) := List.getElem?_eq_getElem _
  refine ⟨_, ?_, List.getElem_mem (l := ds) (n := r.toNat) (by omega)⟩
  unfold atI ixN
  rw [if_pos h0, if_pos (by omega)]
  exact hr
/-- the numbers that a list grows -/
def LI (p : Nat → Int → Prop) (k : Nat) (ds : List D) : Prop := ∃ ns : List Int, ds = dInts ns ∧ ns.length = k ∧ ∀ i n, ns[i]? = some n → p i n
theorem LI.nil {p : Nat → Int → Prop} : LI p 0 [] := ⟨[], rfl, rfl, by simp⟩
theorem LI.snoc {p : Nat → Int → Prop} {k : Nat} {ds : List D} {n : Int} (h : LI p k ds) (hn : p k n) : LI p (k + 1) (ds ++ [.int n]) := by
  obtain ⟨ns, rfl, rfl, hp⟩ := h
  refine ⟨ns ++ [n], by simp [dInts], by simp, fun i m e => ?_⟩
  by_cases hi : i < ns.length
  · rw [List.getElem?_append_left hi] at e
    exact hp i m e
  · rw [List.getElem?_append_right (by omega)] at e
    have : i = ns.length := by
      have := (List.getElem?_eq_some_iff.mp e).1
      simp at this
      omega
    subst this
    simp at e
    subst e
    exact hn
theorem pl_pick (as Qd xd) (h : fs__law_pick as Qd xd) : w__law_pick (xpOf xd) (postOf Qd) (slots as 2) := by
  obtain ⟨ds, rfl, hn, hl, h⟩ := h
  have hp : 0 < ds.length := List.length_pos_iff.mpr hn
  simp [w__law_pick, fsTake]
  refine ⟨by omega, fun r h0 h1 => ?_⟩
  obtain ⟨d, e, hd⟩ := atI_mem (ds := ds) h0 (by omega)
  exact ⟨d, e, h d hd⟩
theorem atI_ints {ns : List Int} {r : Int} (h0 : 0 ≤ r) (h1 : r < ns.length) : ∃ c, atI (dInts ns) r = some (.int c) := by
  obtain ⟨d, e, hd⟩ := atI_mem (ds := dInts ns) h0 (by rw [dInts_length]; exact h1)
  unfold dInts at hd
  obtain ⟨c, _, rfl⟩ := List.mem_map.mp hd
  exact ⟨c, e⟩
section
variable {α : Type} {x0 x1 x2 x3 x4 x5 : α} {xs : List α} {n : Nat}
theorem ixN_n {n k : Nat} (h : k < n) : ixN n (k : Int) = some k := by
  unfold ixN
  rw [if_pos (by omega), if_pos (by omega)]
  rfl
@[simp] theorem at0 : atI (x0 :: xs) 0 = some x0 := by unfold atI; rw [show (0 : Int) = ((0 : Nat) : Int) from rfl, ixN_n (by simp)]; rfl
@[simp] theorem at1 : atI (x0 :: x1 :: xs) 1 = some x1 := by unfold atI; rw [show (1 : Int) = ((1 : Nat) : Int) from rfl, ixN_n (by simp)]; rfl
@[simp] theorem at2 : atI (x0 :: x1 :: x2 :: xs) 2 = some x2 := by unfold atI; rw [show (2 : Int) = ((2 : Nat) : Int) from rfl, ixN_n (by simp)]; rfl
@[simp] theorem at3 : atI (x0 :: x1 :: x2 :: x3 :: xs) 3 = some x3 := by unfold atI; rw [show (3 : Int) = ((3 : Nat) : Int) from rfl, ixN_n (by simp)]; rfl
@[simp] theorem at4 : atI (x0 :: x1 :: x2 :: x3 :: x4 :: xs) 4 = some x4 := by unfold atI; rw [show (4 : Int) = ((4 : Nat) : Int) from rfl, ixN_n (by simp)]; rfl
@[simp] theorem at5 : atI (x0 :: x1 :: x2 :: x3 :: x4 :: x5 :: xs) 5 = some x5 := by unfold atI; rw [show (5 : Int) = ((5 : Nat) : Int) from rfl, ixN_n (by simp)]; rfl
@[simp] theorem ix0 : ixN (n + 1) 0 = some 0 := ixN_n (k := 0) (by omega)
@[simp] theorem ix1 : ixN (n + 1 + 1) 1 = some 1 := ixN_n (k := 1) (by omega)
@[simp] theorem ix2 : ixN (n + 1 + 1 + 1) 2 = some 2 := ixN_n (k := 2) (by omega)
@[simp] theorem ix3 : ixN (n + 1 + 1 + 1 + 1) 3 = some 3 := ixN_n (k := 3) (by omega)
@[simp] theorem ix4 : ixN (n + 1 + 1 + 1 + 1 + 1) 4 = some 4 := ixN_n (k := 4) (by omega)
end
theorem dInts_cons (a : Int) (l : List Int) : dInts (a :: l) = .int a :: dInts l := rfl
theorem dInts_nil : dInts [] = [] := rfl
theorem pl_store (ns : List Int) (h : ns.length ≤ 63) : w__law_store (fun _ _ _ => False) postStore (.seq ns :: List.replicate 3 .no) := by
  simp [w__law_store]
  unfold wLc
  simp [wIList, W.lsrc, cutG_dInts, dInts_length, wipeS]
  have hl := cutG_length ns none (some 63)
  generalize cutG ns none (some 63) = ms at hl
  refine ⟨by omega, LI fun _ _ => True, .nil, fun k ds hk hd hI => ?_, fun ds hd hI => ?_⟩
  · simp [datAt_dInts hk]
    exact hI.snoc trivial
  · obtain ⟨ms', rfl, hl', _⟩ := hI
    simp [w__law_store_t2, dInts_length]
    unfold wFor
    simp [wIList, W.lsrc, dInts_length]
    refine ⟨fun k S => ∃ (i : Int) (x : DL.Slot), S = [.seq ns, .dat (.lst (dInts ms')), .dat (.int i), x], ⟨_, _, rfl⟩, fun k S hk hS => ?_, fun S hS => ?_⟩
    · obtain ⟨i, x, rfl⟩ := hS
      simp [datAt_dInts hk, w__law_store_b1]
      exact cmul_r (by decide +kernel)
    · obtain ⟨i, x, rfl⟩ := hS
      simp [w__law_store_t1, dInts_length]
      refine ⟨by omega, 0 :: 0 :: 0 :: 0 :: 0 :: i :: ms', rfl, by simp, by simp; omega, fun k hk => ?_⟩
      simp at hk
      omega

theorem pl_take5 (a : Addr) (b0 b1 b2 b3 b4 b5 : Int) (rest : List Int) (many : Int) (x2 x3 x4 x5 : DL.Slot) (hl : rest.length ≤ 94) (h4 : 0 ≤ b4) (hm : many ≤ 10 ^ 60) :
    w__law_take_t5 (fun _ _ _ => False) (postTake a many) [.own a (.fl (.int b0 :: .int b1 :: .int b2 :: .int b3 :: .int b4 :: .int b5 :: dInts rest)), .dat (.int many), x2, x3, x4, x5] := by
  have fin : ∀ (c0 c1 c2 c3 c4 c5 : Int), 0 ≤ c4 → ∃ ns, D.int c0 :: D.int c1 :: D.int c2 :: D.int c3 :: D.int c4 :: D.int c5 :: dInts rest = dInts ns ∧ StoNs ns := fun c0 c1 c2 c3 c4 c5 h2 =>
    ⟨c0 :: c1 :: c2 :: c3 :: c4 :: c5 :: rest, rfl, by simp, by simp; omega, fun k hk => by simp at hk; omega⟩
  have md : ∀ x : Int, 2 ≤ many → 0 ≤ x % many ∧ x % many < many := fun x h => ⟨Int.emod_nonneg x (by omega), Int.emod_lt_of_pos x (by omega)⟩
  simp [w__law_take_t5, w__law_take_t4, w__law_take_t3, w__law_take_t2, fs__law_mix, at0, at1, at2, at3, at4, at5, ix0, ix1, ix2, ix3, ix4]
  split
  · exact fin b0 b1 b2 b3 b4 b5 h4
  · split
    · refine ⟨by omega, ⟨by omega, ?_⟩, (md _ (by omega)).1, Or.inl (md _ (by omega)).2, fin _ _ _ _ _ _ h4⟩
      have e : (10 : Int) ^ 60 = 1000000000000000000000000000000000000000000000000000000000000 := by decide +kernel
      have hn : many.natAbs < 2 ^ 201 := Nat.lt_of_le_of_lt (show many.natAbs ≤ 10 ^ 60 by omega) (by decide +kernel)
      exact Nat.lt_of_lt_of_le (PySem.Flt.log2_lt_of (by decide) hn) (by decide)
    · split
      · intro r
        exact ⟨by omega, (md _ (by omega)).1, Or.inl (md _ (by omega)).2, fin _ _ _ _ _ _ h4⟩
      · intro r
        exact ⟨by omega, (md _ (by omega)).1, Or.inl (md _ (by omega)).2, fin _ _ _ _ _ _ h4⟩
theorem pl_take (a : Addr) (ns : List Int) (many : Int) (h : StoNs ns) (hm : many ≤ 10 ^ 60) : w__law_take (fun _ _ _ => False) (postTake a many) (.own a (.fl (dInts ns)) :: .dat (.int many) :: List.replicate 4 .no) := by
  obtain ⟨h6, h100, h4⟩ := h
  obtain ⟨a0, a1, a2, a3, a4, a5, rest, rfl⟩ : ∃ a0 a1 a2 a3 a4 a5 rest, ns = a0 :: a1 :: a2 :: a3 :: a4 :: a5 :: rest := by
    match ns, h6 with
    | a0 :: a1 :: a2 :: a3 :: a4 :: a5 :: rest, _ => exact ⟨_, _, _, _, _, _, _, rfl⟩
  have h4 := h4 a4 rfl
  simp [-postTake, w__law_take, fs__law_mix, dInts_cons, at0, at1, at2, at3, at4, at5, ix0, ix1, ix2, ix3, ix4]
  simp at h100
  have t5 : ∀ c1 c2 c3 c4 x2 x3 x4 x5, 0 ≤ c4 → w__law_take_t5 (fun _ _ _ => False) (postTake a many) [.own a (.fl (.int (a0 + 1) :: .int c1 :: .int c2 :: .int c3 :: .int c4 :: .int a5 :: dInts rest)), .dat (.int many), x2, x3, x4, x5] :=
    fun c1 c2 c3 c4 x2 x3 x4 x5 h => pl_take5 a _ _ _ _ _ _ rest many x2 x3 x4 x5 (by omega) h hm
  have t1 : ∀ (c s : Int), w__law_take_t1 (fun _ _ _ => False) { nx := fun S' => w__law_take_t5 (fun _ _ _ => False) (postTake a many) S', rt := (postTake a many).rt, bk := (postTake a many).bk, ct := (postTake a many).ct, np := (postTake a many).np }
      [.own a (.fl (.int (a0 + 1) :: .int a1 :: .int a2 :: .int a3 :: .int (a4 + 1) :: .int a5 :: dInts rest)), .dat (.int many), .dat (.int (6 + a4)), .dat (.int c), .dat (.int s), .no] := fun c s => by
    simp [-postTake, w__law_take_t1, dInts_cons, at0, at1, at2, at3, at4, at5, ix0, ix1, ix2, ix3, ix4]
    refine ⟨by unfold CPowW; decide +kernel, ?_⟩
    split
    · exact ⟨by unfold CPowW; decide +kernel, by unfold CPowW; decide +kernel, t5 _ _ _ _ _ _ _ _ (by omega)⟩
    · exact ⟨Or.inl ⟨by decide, by decide⟩, t5 _ _ _ _ _ _ _ _ (by omega)⟩
  split
  · split
    · split
      · obtain ⟨c, e⟩ := atI_ints (ns := (a0 + 1) :: a1 :: a2 :: a3 :: (a4 + 1) :: a5 :: rest) (r := 6 + a4) (by omega) (by simp [dInts_length] at *; omega)
        simp only [dInts_cons] at e
        rw [e]
        simp [-postTake]
        split
        · exact ⟨show 1 ≤ 3 by decide, t1 _ _⟩
        · exact ⟨show 1 ≤ 3 by decide, t1 _ _⟩
      · exact t5 _ _ _ _ _ _ _ _ h4
    · exact t5 _ _ _ _ _ _ _ _ h4
  · exact t5 _ _ _ _ _ _ _ _ h4

@[simp ↓ 3000] theorem rdW_arg {d : D} {q : Ag → Prop} : (rdW d).arg .r q ↔ q (.rdo d) := by cases d <;> exact Iff.rfl
@[simp ↓ 3000] theorem rdW_dd {d : D} {q : D → Prop} : (rdW d).dd q ↔ q d := by cases d <;> exact Iff.rfl
theorem atI_at {ds : List D} {k : Nat} (h : k < ds.length) : atI ds (k : Int) = some ds[k] := by
  unfold atI
  rw [ixN_n h]
  exact List.getElem?_eq_getElem h
/-- the loop over two lists -/
theorem same_loop {n : Nat} {Qd : Rt → Prop} {xd : Addr → List (Str × D) → Prop} {c : List D → D} (hc : c = D.lst ∨ c = D.tup) {ts ds : List D} (hl : ts.length = ds.length) (pt : okS ts = true) (pd : okS ds = true) (hd : depS ds ≤ n) (hz : ds.length ≤ 100000) (h : Qd (.dat (.bl (sames ds ts)))) :
    wFor (wIR1 (wCons (wFn gLen (wCons (wVar 1) (wNil))) (wNil))) (wName 2) (w__law_same_b1 (fsSame n)) (xpOf xd) { postOf Qd with nx := fun S' => w__law_same_t1 (fsSame n) (xpOf xd) (postOf Qd) S' } [.rdo (c ts), .rdo (c ds), .no] := by
  unfold wFor
  have e : ∀ R : Nat → (Nat → W) → (List DL.Slot → Prop) → Prop, R ds.length (fun i => .dat (.int (i : Nat))) (fun _ => True) → wIR1 (wCons (wFn gLen (wCons (wVar 1) (wNil))) (wNil)) (xpOf xd) [.rdo (c ts), .rdo (c ds), .no] R := fun R hR => by
    rcases hc with rfl | rfl <;> · simp [wIR1]; first | exact hR | exact ⟨by omega, hR⟩ | exact ⟨by omega, by omega, hR⟩
  refine e _ ⟨fun k S => (∃ x, S = [.rdo (c ts), .rdo (c ds), x]) ∧ sames (ds.take k) (ts.take k) = true, ⟨⟨_, rfl⟩, rfl⟩, fun _ _ _ _ => trivial, fun k S hk hI => ?_, fun S hI => ?_⟩
  · obtain ⟨⟨x, rfl⟩, hs⟩ := hI
    have hk' : k < ts.length := by omega
    have turn : ∀ b, sameD ds[k] ts[k] = b → (if b = true then (∃ x, ([.rdo (c ts), .rdo (c ds), .dat (.int k)] : List DL.Slot) = [.rdo (c ts), .rdo (c ds), x]) ∧ sames (ds.take (k + 1)) (ts.take (k + 1)) = true else Qd (.dat (.bl false))) := fun b hb => by
      cases b with
      | true =>
        rw [if_pos rfl]
        refine ⟨⟨_, rfl⟩, ?_⟩
        rw [List.take_succ_eq_append_getElem hk, List.take_succ_eq_append_getElem hk', sames_snoc (by simp [hl]), hs, hb]
        rfl
      | false =>
        rw [if_neg (by simp)]
        rw [sames_false (List.getElem?_eq_getElem hk) (List.getElem?_eq_getElem hk') hb] at h
        exact h
    have key : fsSame n [.rdo ts[k], .rdo ds[k]] (fun r => wTru (fun _ _ Q => Q r.w) (xpOf xd) [] fun b => if (!b) = true then Qd (.dat (.bl false)) else ((∃ x, ([.rdo (c ts), .rdo (c ds), .dat (.int k)] : List DL.Slot) = [.rdo (c ts), .rdo (c ds), x]) ∧ sames (ds.take (k + 1)) (ts.take (k + 1)) = true)) fun C f => False := by
      refine ⟨_, _, rfl, okS_mem pt (List.getElem_mem _), okS_mem pd (List.getElem_mem _), Nat.le_trans (depS_mem (List.getElem_mem _)) hd, ?_⟩
      have := turn _ rfl
      simp
      cases q : sameD ds[k] ts[k] with
      | true => rw [q] at this; simpa using this
      | false => rw [q] at this; simpa using this
    obtain ⟨t, d, e1, e2, e3, e4, e5⟩ := key
    simp at e1
    obtain ⟨rfl, rfl⟩ := e1
    rcases hc with rfl | rfl
    all_goals
      simp [w__law_same_b1, atI_at hk, atI_at hk']
      refine ⟨_, _, rfl, e2, e3, e4, ?_⟩
      simp at e5 ⊢
      exact e5
  · obtain ⟨⟨x, rfl⟩, hs⟩ := hI
    rw [List.take_length, ← hl, List.take_length] at hs
    rw [hs] at h
    simp [w__law_same_t1]
    exact h
theorem pl_same (n : Nat) (as Qd xd) (h : fsSame (n + 1) as Qd xd) : w__law_same (fsSame n) (xpOf xd) (postOf Qd) (slots as 3) := by
  obtain ⟨t, d, rfl, pt, pd, hd, hq⟩ := h
  cases d with
  | non => cases t <;> simp [w__law_same, w__law_same_t9, w__law_same_t8, w__law_same_t7, w__law_same_t6, w__law_same_t5, w__law_same_t4, w__law_same_t3, w__law_same_t2, sameD] at hq pt ⊢ <;> first | exact hq | contradiction
  | bl b => cases b <;> cases t <;> simp [w__law_same, w__law_same_t9, w__law_same_t8, w__law_same_t7, w__law_same_t6, w__law_same_t5, w__law_same_t4, w__law_same_t3, w__law_same_t2, sameD] at hq pt ⊢ <;> first | exact hq | contradiction
  | int i => cases t <;> simp [w__law_same, w__law_same_t9, w__law_same_t8, w__law_same_t7, w__law_same_t6, w__law_same_t5, w__law_same_t4, w__law_same_t3, w__law_same_t2, sameD] at hq pt ⊢ <;> first | exact hq | contradiction
  | str i => cases t <;> simp [w__law_same, w__law_same_t9, w__law_same_t8, w__law_same_t7, w__law_same_t6, w__law_same_t5, w__law_same_t4, w__law_same_t3, w__law_same_t2, sameD] at hq pt ⊢ <;> first | exact hq | contradiction
  | lst ds =>
             cases t <;> simp [-postOf, w__law_same, w__law_same_t9, w__law_same_t8, w__law_same_t7, w__law_same_t6, w__law_same_t5, w__law_same_t4, w__law_same_t3, w__law_same_t2, sameD] at hq pt ⊢ <;> first | exact hq | contradiction | skip
             rename_i ts
             simp [okD] at pt pd
             simp [depD] at hd
             split
             · exact same_loop (c := .lst) (.inl rfl) (by omega) pt.2 pd.2 (by omega) (by omega) hq
             · rename_i hne
               have e : sames ds ts = false := by
                 cases q : sames ds ts with
                 | false => rfl
                 | true => exact absurd (by rw [sames_len q]) hne
               rw [e] at hq
               exact hq
  | tup ds =>
             cases t <;> simp [-postOf, w__law_same, w__law_same_t9, w__law_same_t8, w__law_same_t7, w__law_same_t6, w__law_same_t5, w__law_same_t4, w__law_same_t3, w__law_same_t2, sameD] at hq pt ⊢ <;> first | exact hq | contradiction | skip
             rename_i ts
             simp [okD] at pt pd
             simp [depD] at hd
             split
             · exact same_loop (c := .tup) (.inr rfl) (by omega) pt.2 pd.2 (by omega) (by omega) hq
             · rename_i hne
               have e : sames ds ts = false := by
                 cases q : sames ds ts with
                 | false => rfl
                 | true => exact absurd (by rw [sames_len q]) hne
               rw [e] at hq
               exact hq
  | obj C fs => cases pd
  | dic _ => cases pd
  | dit _ => cases pd
  | raw _ _ => cases pd
theorem pl_same0 (fs : Fs) (as Qd xd) (h : fsSame 0 as Qd xd) : w__law_same fs (xpOf xd) (postOf Qd) (slots as 3) := by
  obtain ⟨t, d, rfl, pt, pd, hd, hq⟩ := h
  cases d with
  | non => cases t <;> simp [w__law_same, w__law_same_t9, w__law_same_t8, w__law_same_t7, w__law_same_t6, w__law_same_t5, w__law_same_t4, w__law_same_t3, w__law_same_t2, sameD] at hq pt ⊢ <;> first | exact hq | contradiction
  | bl b => cases b <;> cases t <;> simp [w__law_same, w__law_same_t9, w__law_same_t8, w__law_same_t7, w__law_same_t6, w__law_same_t5, w__law_same_t4, w__law_same_t3, w__law_same_t2, sameD] at hq pt ⊢ <;> first | exact hq | contradiction
  | int i => cases t <;> simp [w__law_same, w__law_same_t9, w__law_same_t8, w__law_same_t7, w__law_same_t6, w__law_same_t5, w__law_same_t4, w__law_same_t3, w__law_same_t2, sameD] at hq pt ⊢ <;> first | exact hq | contradiction
  | str i => cases t <;> simp [w__law_same, w__law_same_t9, w__law_same_t8, w__law_same_t7, w__law_same_t6, w__law_same_t5, w__law_same_t4, w__law_same_t3, w__law_same_t2, sameD] at hq pt ⊢ <;> first | exact hq | contradiction
  | lst ds => simp [depD] at hd
  | tup ds => simp [depD] at hd
  | obj C fs => cases pd
  | dic _ => cases pd
  | dit _ => cases pd
  | raw _ _ => cases pd

mutual
theorem sameD_refl : ∀ d : D, okD d = true → sameD d d = true
  | .non, _ => rfl
  | .bl b, _ => by simp [sameD]
  | .int i, _ => by simp [sameD]
  | .str s, _ => by simp [sameD]
  | .lst ds, h => by
    simp [okD] at h
    simp [sameD]
    exact sames_refl ds h.2
  | .tup ds, h => by
    simp [okD] at h
    simp [sameD]
    exact sames_refl ds h.2
  | .obj _ _, h => by simp [okD] at h
  | .dic _, h => by simp [okD] at h
  | .dit _, h => by simp [okD] at h
  | .raw _ _, h => by simp [okD] at h
theorem sames_refl : ∀ ds : List D, okS ds = true → sames ds ds = true
  | [], _ => rfl
  | d :: ds, h => by
    simp [okS] at h
    simp [sames]
    exact ⟨sameD_refl d h.1, sames_refl ds h.2⟩
end
@[simp] theorem eO_ds_1 : O.ds [] = [] := rfl
@[simp] theorem eO_ds_2 (o : O) (os : List O) : O.ds (o :: os) = o.d :: O.ds os := rfl
@[simp] theorem eO_df_1 : O.df [] = [] := rfl
@[simp] theorem eO_df_2 (f : Str) (o : O) (os : List (Str × O)) : O.df ((f, o) :: os) = (f, o.d) :: O.df os := rfl
/-- _law_same asked of two alike things -/
theorem sameE {n : Nat} {t d : D} {Qd : Rt → Prop} {xd : Addr → List (Str × D) → Prop} (ht : okD t = true) (hd : okD d = true) (hn : depD d ≤ n) (h : Qd (.dat (.bl (sameD d t)))) : fsSame n [.rdo t, .rdo d] Qd xd := ⟨t, d, rfl, ht, hd, hn, h⟩
theorem sameR {n : Nat} {t d : D} {Qd : Rt → Prop} {xd : Addr → List (Str × D) → Prop} (e : t = d) (hd : okD d = true) (hn : depD d ≤ n) (h : Qd (.dat (.bl true))) : fsSame n [.rdo t, .rdo d] Qd xd := by
  subst e
  exact ⟨_, _, rfl, hd, hd, hn, by rw [sameD_refl _ hd]; exact h⟩
theorem takeE {many : Int} {Qd : Rt → Prop} {xd : Addr → List (Str × D) → Prop} (h : many ≤ 10 ^ 60) (q : ∀ r : Int, 0 ≤ r → (r < many ∨ r = 0) → Qd (.dat (.int r))) : fsTake [.sto, .dat (.int many)] Qd xd := ⟨many, rfl, h, q⟩
theorem edgeE {lo hi : Int} {Qd : Rt → Prop} {xd : Addr → List (Str × D) → Prop} (h : hi - lo ≤ 10 ^ 50) (q : ∀ r : Int, lo ≤ r → (r ≤ hi ∨ r = lo) → Qd (.dat (.int r))) : fs__law_edge [.sto, .dat (.int lo), .dat (.int hi)] Qd xd := ⟨lo, hi, rfl, h, q⟩
theorem pickE {ds : List D} {Qd : Rt → Prop} {xd : Addr → List (Str × D) → Prop} (h : ds ≠ []) (hl : ds.length ≤ 100000) (q : ∀ d ∈ ds, Qd (.dat d)) : fs__law_pick [.sto, .dat (.lst ds)] Qd xd := ⟨ds, rfl, h, hl, q⟩
theorem rdoAt_dInts {ns : List Int} {k : Nat} (h : k < ns.length) : rdoAt (dInts ns) k = .dat (.int ns[k]) := by
  unfold rdoAt dInts
  rw [List.getD_eq_getElem?_getD, List.getElem?_map, List.getElem?_eq_getElem h]
  rfl
theorem atI_int {ns : List Int} {k : Nat} (h : k < ns.length) : atI (dInts ns) (k : Int) = some (.int ns[k]) := by
  unfold atI
  rw [dInts_length, ixN_n h]
  show (dInts ns)[k]? = _
  unfold dInts
  rw [List.getElem?_map, List.getElem?_eq_getElem h]
  rfl
theorem dInts_snoc (ns : List Int) (n : Int) : dInts ns ++ [.int n] = dInts (ns ++ [n]) := by simp [dInts]
theorem dInts_one (n : Int) : [D.int n] = dInts [n] := rfl
theorem dInts_append (a b : List Int) : dInts a ++ dInts b = dInts (a ++ b) := by simp [dInts]
theorem dInts_set (a : List Int) (k : Nat) (b : Int) : (dInts a).set k (.int b) = dInts (a.set k b) := by simp [dInts]
theorem take_snoc {α : Type} {l : List α} {k : Nat} (h : k < l.length) : l.take (k + 1) = l.take k ++ [l[k]] := by
  rw [List.take_add_one, List.getElem?_eq_getElem h]
  rfl
theorem sorted_ext : ∀ {xs ys : List Int}, xs.Pairwise (· < ·) → ys.Pairwise (· < ·) → (∀ k, k ∈ xs ↔ k ∈ ys) → xs = ys
  | [], [], _, _, _ => rfl
  | [], y :: ys, _, _, h => absurd ((h y).mpr (List.mem_cons_self ..)) List.not_mem_nil
  | x :: xs, [], _, _, h => absurd ((h x).mp (List.mem_cons_self ..)) List.not_mem_nil
  | x :: xs, y :: ys, p, q, h => by
    obtain ⟨p1, p2⟩ := List.pairwise_cons.mp p
    obtain ⟨q1, q2⟩ := List.pairwise_cons.mp q
    have e : x = y := by
      rcases List.mem_cons.mp ((h x).mp (List.mem_cons_self ..)) with z | z
      · exact z
      · rcases List.mem_cons.mp ((h y).mpr (List.mem_cons_self ..)) with z' | z'
        · exact z'.symm
        · have a := p1 y z'
          have b := q1 x z
          omega
    subst e
    rw [sorted_ext p2 q2 fun k => ?_]
    constructor
    · intro hk
      rcases List.mem_cons.mp ((h k).mp (List.mem_cons_of_mem _ hk)) with z | z
      · have a := p1 k hk
        omega
      · exact z
    · intro hk
      rcases List.mem_cons.mp ((h k).mpr (List.mem_cons_of_mem _ hk)) with z | z
      · have a := q1 k hk
        omega
      · exact z
theorem snocRec {α : Type} {P : List α → Prop} (nil : P []) (snoc : ∀ l a, P l → P (l ++ [a])) (l : List α) : P l := by
  have : ∀ r : List α, P r.reverse := by
    intro r
    induction r with
    | nil => exact nil
    | cons a r ih =>
      rw [List.reverse_cons]
      exact snoc _ a ih
  have h := this l.reverse
  rw [List.reverse_reverse] at h
  exact h
/-! loops over ints -/
inductive IntsW : W → List Int → Prop
  | dat (ns : List Int) : IntsW (.dat (.lst (dInts ns))) ns
  | rdo (ns : List Int) : IntsW (.rdo (.lst (dInts ns))) ns
  | new (ns : List Int) : IntsW (.new (.fl (dInts ns))) ns
theorem IntsW.lsrc {x : W} {ns : List Int} (h : IntsW x ns) {S : List Slot} {k : Nat → (Nat → W) → (List Slot → Prop) → Prop} (q : ∀ item : Nat → W, (∀ i (hi : i < ns.length), item i = .dat (.int ns[i])) → k ns.length item fun _ => True) : x.lsrc S k := by
  cases h with
  | dat => show k (dInts ns).length _ _; rw [dInts_length]; exact q _ fun i hi => datAt_dInts hi
  | rdo => show k (dInts ns).length _ _; rw [dInts_length]; exact q _ fun i hi => rdoAt_dInts hi
  | new => show k (dInts ns).length _ _; rw [dInts_length]; exact q _ fun i hi => datAt_dInts hi
section
variable {xp : Xp} {S : List Slot} {we0 we : WE} {wg : WG} {wt : WT} {vs : List Nat} {Q : W → Prop} {P : Post} {wb : WS} {x : W} {ns : List Int}
theorem lc_ints (hx : IntsW x ns) (src : ∀ Qd : W → Prop, Qd x → we0 xp S Qd) (hl : ns.length ≤ 100000) (I : Nat → List D → Prop) (h0 : I 0 [])
    (turn : ∀ k ds (hk : k < ns.length), ds.length ≤ k → I k ds → wg (.dat (.int ns[k])) (wipeS S vs) fun S2 => wt xp0 S2 fun b => if b = true then we xp0 S2 fun y => y.fz1 fun d => I (k + 1) (ds ++ [d]) else I (k + 1) ds)
    (fin : ∀ ds, ds.length ≤ ns.length → I ns.length ds → Q (.new (.fl ds))) : wLc (wIList we0) wg wt we vs xp S Q :=
  src _ (hx.lsrc fun item hi => ⟨hl, trivial, I, h0, fun k ds hk h1 h2 => by rw [hi k hk]; exact turn k ds hk h1 h2, fin⟩)
theorem for_ints (hx : IntsW x ns) (src : ∀ Qd : W → Prop, Qd x → we0 xp S Qd) (I : Nat → List Slot → Prop) (h0 : I 0 S)
    (turn : ∀ k S' (hk : k < ns.length), I k S' → wg (.dat (.int ns[k])) S' fun S2 => wb xp { P with nx := I (k + 1), ct := I (k + 1), bk := P.nx } S2)
    (fin : ∀ S', I ns.length S' → P.nx S') : wFor (wIList we0) wg wb xp P S :=
  src _ (hx.lsrc fun item hi => ⟨I, h0, fun _ _ _ _ => trivial, fun k S' hk h => by rw [hi k hk]; exact turn k S' hk h, fin⟩)
theorem lc_range {n : Nat} (src : ∀ Qd : W → Prop, Qd (.dat (.int n)) → we0 xp S Qd) (hl : n ≤ 100000) (I : Nat → List D → Prop) (h0 : I 0 [])
    (turn : ∀ k ds, k < n → ds.length ≤ k → I k ds → wg (.dat (.int (k : Nat))) (wipeS S vs) fun S2 => wt xp0 S2 fun b => if b = true then we xp0 S2 fun y => y.fz1 fun d => I (k + 1) (ds ++ [d]) else I (k + 1) ds)
    (fin : ∀ ds, ds.length ≤ n → I n ds → Q (.new (.fl ds))) : wLc (wIR1 (wCons we0 wNil)) wg wt we vs xp S Q :=
  src _ (show _ from ⟨by omega, by omega, hl, trivial, I, h0, turn, fin⟩)
theorem for_range {n : Nat} (src : ∀ Qd : W → Prop, Qd (.dat (.int n)) → we0 xp S Qd) (hl : n ≤ 1000000) (I : Nat → List Slot → Prop) (h0 : I 0 S)
    (turn : ∀ k S', k < n → I k S' → wg (.dat (.int (k : Nat))) S' fun S2 => wb xp { P with nx := I (k + 1), ct := I (k + 1), bk := P.nx } S2)
    (fin : ∀ S', I n S' → P.nx S') : wFor (wIR1 (wCons we0 wNil)) wg wb xp P S :=
  src _ (show _ from ⟨by omega, by omega, I, h0, fun _ _ _ _ => trivial, turn, fin⟩)
theorem sc_ints {w : World} (hx : IntsW x ns) (src : ∀ Qd : W → Prop, Qd x → we0 xp S Qd) (hl : ns.length ≤ 1000) (I : Nat → List Int → Prop) (h0 : I 0 [])
    (turn : ∀ k ds (hk : k < ns.length), ds.length ≤ k → I k ds → wg (.dat (.int ns[k])) (wipeS S vs) fun S2 => wt xp0 S2 fun b => if b = true then we xp0 S2 fun y => ∃ j, y = .dat (.int j) ∧ I (k + 1) (ds ++ [j]) else I (k + 1) ds)
    (fin : ∀ ds, ds.length ≤ ns.length → I ns.length ds → aSet w ds Q) : wSc w (wIList we0) wg wt we vs xp S Q :=
  src _ (hx.lsrc fun item hi => ⟨hl, trivial, I, h0, fun k ds hk h1 h2 => by rw [hi k hk]; exact turn k ds hk h1 h2, fin⟩)
end
theorem idx_get : ∀ {ns : List Int} {q : Int}, q ∈ ns → ns[ns.idxOf q]? = some q
  | [], _, h => absurd h List.not_mem_nil
  | n :: ns, q, h => by
    rw [List.idxOf_cons]
    cases e : (n == q) with
    | true => rw [beq_iff_eq.mp e]; rfl
    | false =>
      have ne : n ≠ q := by simpa using e
      rcases List.mem_cons.mp h with z | z
      · exact absurd z.symm ne
      · show (n :: ns)[ns.idxOf q + 1]? = _
        rw [List.getElem?_cons_succ]
        exact idx_get z
theorem idx_before : ∀ {ns : List Int} {q : Int} {m : Nat}, m < ns.idxOf q → ns[m]? ≠ some q
  | [], _, m, h => by simp at h
  | n :: ns, q, m, h => by
    rw [List.idxOf_cons] at h
    cases e : (n == q) with
    | true => rw [e] at h; simp at h
    | false =>
      have ne : n ≠ q := by simpa using e
      rw [e] at h
      cases m with
      | zero => simpa using ne
      | succ m =>
        rw [List.getElem?_cons_succ]
        refine idx_before ?_
        have h' : m + 1 < ns.idxOf q + 1 := h
        omega
theorem idx_le {ns : List Int} {q : Int} {m : Nat} (h : ns[m]? = some q) : ns.idxOf q ≤ m := by
  rcases Nat.lt_or_ge m (ns.idxOf q) with z | z
  · exact absurd h (idx_before z)
  · exact z
theorem idx_lt {ns : List Int} {q : Int} (h : q ∈ ns) : ns.idxOf q < ns.length := List.idxOf_lt_length_of_mem h
theorem idx_inj {ns : List Int} {p q : Int} (hp : p ∈ ns) (hq : q ∈ ns) (h : ns.idxOf p = ns.idxOf q) : p = q := by
  have a := idx_get hp
  rw [h, idx_get hq] at a
  exact (Option.some.inj a).symm
theorem idx_take {ns : List Int} {k : Nat} (hk : k < ns.length) : ns.idxOf ns[k] = k ↔ ns[k] ∉ ns.take k := by
  constructor
  · intro h m
    obtain ⟨j, hj⟩ := List.getElem?_of_mem m
    have lj := (List.getElem?_eq_some_iff.mp hj).1
    rw [List.length_take] at lj
    rw [List.getElem?_take_of_lt (by omega)] at hj
    have := idx_le hj
    omega
  · intro h
    have le := idx_le (ns := ns) (List.getElem?_eq_getElem hk)
    rcases Nat.lt_or_ge (ns.idxOf ns[k]) k with z | z
    · refine absurd ?_ h
      have e := idx_get (ns := ns) (q := ns[k]) (List.getElem_mem hk)
      refine List.mem_of_getElem? (i := ns.idxOf ns[k]) ?_
      rw [List.getElem?_take_of_lt z]
      exact e
    · omega
theorem idxQ_of {ns : List Int} {k : Int} {q : Nat → Prop} (h : k ∈ ns) (hq : q (ns.idxOf k)) : idxQ (dInts ns) (.dat (.int k)) q := ⟨ns, k, _, rfl, rfl, idx_get h, fun m hm => idx_before hm, hq⟩
section
variable {xp : Xp} {S : List Slot} {we0 : WE} {wg : WG} {P : Post} {wb : WS} {x : W} {ns : List Int}
theorem for_enum_ints (hx : IntsW x ns) (src : ∀ Qd : W → Prop, Qd x → we0 xp S Qd) (I : Nat → List Slot → Prop) (h0 : I 0 S)
    (turn : ∀ k S' (hk : k < ns.length), I k S' → wg (.dat (.tup [.int (k : Nat), .int ns[k]])) S' fun S2 => wb xp { P with nx := I (k + 1), ct := I (k + 1), bk := P.nx } S2)
    (fin : ∀ S', I ns.length S' → P.nx S') : wFor (wIEnum (wCons we0 wNil)) wg wb xp P S := by
  refine src _ ?_
  unfold wNil
  dsimp only
  exact hx.lsrc fun item hi => ⟨I, h0, fun _ _ _ _ => trivial, fun k S' hk h => by rw [hi k hk]; exact turn k S' hk h, fin⟩
end
end DL

namespace DL
open PySem PySem.Spec PyProof.Rows L2
/-! ## texts, plain -/
abbrev sp : Str := " "
def digS (c : Nat) : Bool := decide (c ∈ ("0123456789" : Str).cps.toList)
/-! ## words of a line -/
theorem spl_sum : ∀ (l acc : List Nat), ((TL.spl [32] 0 acc l).map List.length).sum + (TL.spl [32] 0 acc l).length = acc.length + l.length + 1
  | [], acc => by rw [TL.spl_nil]; simp
  | c :: r, acc => by
    cases h : TL.pre [32] (c :: r) with
    | true =>
      rw [TL.spl_hit h]
      have := spl_sum r []
      simp at this ⊢
      omega
    | false =>
      rw [TL.spl_miss h]
      have := spl_sum r (acc ++ [c])
      simp at this ⊢
      omega
theorem spl_ne : ∀ (l acc : List Nat), TL.spl [32] 0 acc l ≠ []
  | [], acc => by rw [TL.spl_nil]; simp
  | c :: r, acc => by
    cases h : TL.pre [32] (c :: r) with
    | true => rw [TL.spl_hit h]; simp
    | false => rw [TL.spl_miss h]; exact spl_ne r _
theorem tl_sp : TL.tl sp = [32] := by decide +kernel
theorem split_tl (x : Str) : (Txt.split x sp).map TL.tl = TL.spl [32] 0 [] (TL.tl x) := by
  rw [← tl_sp]
  exact TL.split_spl x sp (by rw [tl_sp]; simp) (TL.kind_ok (by decide +kernel))
theorem split_sum (x : Str) : ((Txt.split x sp).map (·.length)).sum + (Txt.split x sp).length = x.length + 1 := by
  have h := spl_sum (TL.tl x) []
  rw [← split_tl, List.map_map] at h
  have e : (List.length ∘ TL.tl) = fun y : Str => y.length := funext fun y => (TL.len_tl y).symm
  rw [e, List.length_map] at h
  rw [TL.len_tl x]
  simpa using h
theorem split_ne (x : Str) : Txt.split x sp ≠ [] := fun h => by
  have := split_tl x
  rw [h] at this
  exact spl_ne _ _ this.symm
theorem sum_mem : ∀ {ws : List Str} {w : Str}, w ∈ ws → w.length ≤ (ws.map (·.length)).sum
  | [], _, h => by cases h
  | v :: ws, w, h => by
    rw [List.map_cons, List.sum_cons]
    rcases List.mem_cons.mp h with rfl | h
    · omega
    · have := sum_mem h
      omega
theorem split_mem {x w : Str} (h : w ∈ Txt.split x sp) : w.length ≤ x.length := by
  have a := sum_mem h
  have b := split_sum x
  have : 0 < (Txt.split x sp).length := List.length_pos_iff.mpr (split_ne x)
  omega
theorem split_len (x : Str) : (Txt.split x sp).length ≤ x.length + 1 := by
  have b := split_sum x
  omega
@[simp] theorem dStrs_length (ns : List Str) : (dStrs ns).length = ns.length := by unfold dStrs; rw [List.length_map]
@[simp ↓] theorem dStrs_scal (ns : List Str) : ((dStrs ns).all D.scal = true) = True := by
  rw [scal_strs]
  simp
theorem atI_str {ns : List Str} {k : Nat} (h : k < ns.length) : atI (dStrs ns) (k : Int) = some (.str ns[k]) := by
  unfold atI
  rw [dStrs_length, ixN_n h]
  show (dStrs ns)[k]? = _
  unfold dStrs
  rw [List.getElem?_map, List.getElem?_eq_getElem h]
  rfl
theorem datAt_dStrs {ns : List Str} {k : Nat} (h : k < ns.length) : datAt (dStrs ns) k = .dat (.str ns[k]) := by
  unfold datAt dStrs
  rw [List.getD_eq_getElem?_getD, List.getElem?_map, List.getElem?_eq_getElem h]
  rfl
theorem dStrs_append (a b : List Str) : dStrs a ++ dStrs b = dStrs (a ++ b) := by simp [dStrs]
theorem dStrs_snoc (a : List Str) (b : Str) : dStrs a ++ [.str b] = dStrs (a ++ [b]) := by simp [dStrs]
theorem dStrs_set (a : List Str) (k : Nat) (b : Str) : (dStrs a).set k (.str b) = dStrs (a.set k b) := by simp [dStrs]
theorem cutG_dStrs (ns : List Str) (lo hi : Option Int) : cutG (dStrs ns) lo hi = dStrs (cutG ns lo hi) := by
  unfold cutG dStrs
  rw [List.length_map, List.map_take, List.map_drop]
theorem atI_dStrs {ns : List Str} {r : Int} (h0 : 0 ≤ r) (h1 : r < ns.length) : ∃ k : Nat, ∃ h : k < ns.length, r = (k : Int) ∧ atI (dStrs ns) r = some (.str ns[k]) := by
  obtain ⟨k, rfl⟩ := Int.eq_ofNat_of_zero_le h0
  exact ⟨k, by omega, rfl, atI_str (by omega)⟩
/-! ## the digits -/
theorem str0 {w : Str} : (w = "") ↔ w.length = 0 := by
  constructor
  · rintro rfl
    rfl
  · intro h
    refine TL.ext_tl ?_
    have : (TL.tl w).length = 0 := by rw [← TL.len_tl]; exact h
    rw [List.length_eq_zero_iff.mp this]
    decide +kernel
theorem digS_iff (c : Nat) : digS c = (decide (48 ≤ c) && decide (c ≤ 57)) := by
  have e : ("0123456789" : Str).cps.toList = [48, 49, 50, 51, 52, 53, 54, 55, 56, 57] := by decide +kernel
  unfold digS
  rw [e, Bool.eq_iff_iff]
  simp
  omega
theorem at0_str {w : Str} (h : 1 ≤ w.length) : ∃ c, w.cps.toList.head? = some c ∧ atI w.cps.toList 0 = some c := by
  have hl : w.cps.toList.length = w.length := Array.length_toList
  cases e : w.cps.toList with
  | nil => rw [e] at hl; simp at hl; omega
  | cons c r => exact ⟨c, rfl, by
      show atI (c :: r) ((0 : Nat) : Int) = _
      unfold atI
      rw [ixN_n (by simp)]
      rfl⟩
theorem sign_eq {a b : Nat} : ((⟨#[a]⟩ : Str) = ⟨#[b]⟩) ↔ a = b := by
  constructor
  · intro h
    injection h with h
    simpa using h
  · rintro rfl
    rfl
theorem zero_sign : ("0" : Str) = ⟨#[48]⟩ := by decide +kernel
@[simp] theorem in_digs (c : Nat) : (c ∈ (Str.ofString "0123456789").cps) = (digS c = true) := by
  unfold digS
  rw [decide_eq_true_eq, Array.mem_toList_iff]
theorem all_take {l : List Nat} {k : Nat} {p : Nat → Bool} (hk : k < l.length) (h : (l.take k).all p = true) (hp : p l[k] = true) : (l.take (k + 1)).all p = true := by
  rw [DL.take_snoc hk, List.all_append, h]
  simp [hp]
theorem all_not {l : List Nat} {k : Nat} {p : Nat → Bool} (hk : k < l.length) (hp : ¬ p l[k] = true) : l.all p = false := by
  cases e : l.all p with
  | false => rfl
  | true => exact absurd (List.all_eq_true.mp e _ (List.getElem_mem hk)) hp
/-! ## loops over texts -/
inductive StrsW : W → List Str → Prop
  | dat (ns : List Str) : StrsW (.dat (.lst (dStrs ns))) ns
  | new (ns : List Str) : StrsW (.new (.fl (dStrs ns))) ns
theorem StrsW.lsrc {x : W} {ns : List Str} (h : StrsW x ns) {S : List Slot} {k : Nat → (Nat → W) → (List Slot → Prop) → Prop} (q : ∀ item : Nat → W, (∀ i (hi : i < ns.length), item i = .dat (.str ns[i])) → k ns.length item fun _ => True) : x.lsrc S k := by
  cases h with
  | dat => show k (dStrs ns).length _ _; rw [dStrs_length]; exact q _ fun i hi => datAt_dStrs hi
  | new => show k (dStrs ns).length _ _; rw [dStrs_length]; exact q _ fun i hi => datAt_dStrs hi
section
variable {xp : Xp} {S : List Slot} {we0 we : WE} {wg : WG} {wt : WT} {vs : List Nat} {Q : W → Prop} {P : Post} {wb : WS} {x : W} {ns : List Str} {s : Str}
theorem lc_strs (hx : StrsW x ns) (src : ∀ Qd : W → Prop, Qd x → we0 xp S Qd) (hl : ns.length ≤ 100000) (I : Nat → List D → Prop) (h0 : I 0 [])
    (turn : ∀ k ds (hk : k < ns.length), ds.length ≤ k → I k ds → wg (.dat (.str ns[k])) (wipeS S vs) fun S2 => wt xp0 S2 fun b => if b = true then we xp0 S2 fun y => y.fz1 fun d => I (k + 1) (ds ++ [d]) else I (k + 1) ds)
    (fin : ∀ ds, ds.length ≤ ns.length → I ns.length ds → Q (.new (.fl ds))) : wLc (wIList we0) wg wt we vs xp S Q :=
  src _ (hx.lsrc fun item hi => ⟨hl, trivial, I, h0, fun k ds hk h1 h2 => by rw [hi k hk]; exact turn k ds hk h1 h2, fin⟩)
theorem size_len : s.cps.size = s.cps.toList.length := by rw [Array.length_toList]
theorem sign_at {k : Nat} (h : k < s.cps.toList.length) : s.cps.getD k 0 = s.cps.toList[k] := by
  rw [Array.getD_eq_getD_getElem?, ← Array.getElem?_toList, List.getElem?_eq_getElem h]
  rfl
theorem for_str (src : ∀ Qd : W → Prop, Qd (.dat (.str s)) → we0 xp S Qd) (I : Nat → List Slot → Prop) (h0 : I 0 S)
    (turn : ∀ k S' (hk : k < s.cps.toList.length), I k S' → wg (.dat (.str ⟨#[s.cps.toList[k]]⟩)) S' fun S2 => wb xp { P with nx := I (k + 1), ct := I (k + 1), bk := P.nx } S2)
    (fin : ∀ S', I s.cps.toList.length S' → P.nx S') : wFor (wIStr we0) wg wb xp P S := by
  refine src _ ?_
  dsimp only
  rw [size_len]
  exact ⟨I, h0, fun _ _ _ _ => trivial, fun k S' hk h => by rw [sign_at hk]; exact turn k S' hk h, fin⟩
theorem lc_str (src : ∀ Qd : W → Prop, Qd (.dat (.str s)) → we0 xp S Qd) (hl : s.cps.toList.length ≤ 100000) (I : Nat → List D → Prop) (h0 : I 0 [])
    (turn : ∀ k ds (hk : k < s.cps.toList.length), ds.length ≤ k → I k ds → wg (.dat (.str ⟨#[s.cps.toList[k]]⟩)) (wipeS S vs) fun S2 => wt xp0 S2 fun b => if b = true then we xp0 S2 fun y => y.fz1 fun d => I (k + 1) (ds ++ [d]) else I (k + 1) ds)
    (fin : ∀ ds, ds.length ≤ s.cps.toList.length → I s.cps.toList.length ds → Q (.new (.fl ds))) : wLc (wIStr we0) wg wt we vs xp S Q := by
  refine src _ ?_
  dsimp only
  rw [size_len]
  exact ⟨hl, trivial, I, h0, fun k S' hk h1 h => by rw [sign_at hk]; exact turn k S' hk h1 h, fin⟩
theorem datAt_get {ds : List D} {k : Nat} (h : k < ds.length) : datAt ds k = .dat ds[k] := by
  unfold datAt
  rw [List.getD_eq_getElem?_getD, List.getElem?_eq_getElem h]
  rfl
theorem lc_tup {ds0 : List D} (src : ∀ Qd : W → Prop, Qd (.dat (.tup ds0)) → we0 xp S Qd) (hl : ds0.length ≤ 100000) (I : Nat → List D → Prop) (h0 : I 0 [])
    (turn : ∀ k ds (hk : k < ds0.length), ds.length ≤ k → I k ds → wg (.dat ds0[k]) (wipeS S vs) fun S2 => wt xp0 S2 fun b => if b = true then we xp0 S2 fun y => y.fz1 fun d => I (k + 1) (ds ++ [d]) else I (k + 1) ds)
    (fin : ∀ ds, ds.length ≤ ds0.length → I ds0.length ds → Q (.new (.fl ds))) : wLc (wITup we0) wg wt we vs xp S Q :=
  src _ (show _ from ⟨hl, trivial, I, h0, fun k ds hk h1 h2 => by rw [datAt_get hk]; exact turn k ds hk h1 h2, fin⟩)
theorem for_range2 {lo hi : Int} (src : ∀ Qd : W → Prop, Qd (.dat (.int lo)) → we0 xp S Qd) (src2 : ∀ Qd : W → Prop, Qd (.dat (.int hi)) → we xp S Qd) (h1 : -1000000 ≤ lo) (h2 : lo ≤ 1000000) (h3 : -1000000 ≤ hi) (h4 : hi ≤ 1000000) (I : Nat → List Slot → Prop) (h0 : I 0 S)
    (turn : ∀ k S', k < (hi - lo).toNat → I k S' → wg (.dat (.int (lo + (k : Nat)))) S' fun S2 => wb xp { P with nx := I (k + 1), ct := I (k + 1), bk := P.nx } S2)
    (fin : ∀ S', I (hi - lo).toNat S' → P.nx S') : wFor (wIR2 (wCons we0 (wCons we wNil))) wg wb xp P S :=
  src _ (src2 _ (show _ from ⟨⟨by omega, by omega, by omega, by omega⟩, I, h0, fun _ _ _ _ => trivial, turn, fin⟩))
end
theorem sum_le {B : Nat} : ∀ {l : List Str}, (∀ y ∈ l, y.length ≤ B) → (l.map (·.length)).sum ≤ l.length * B
  | [], _ => by simp
  | y :: l, h => by
    have a := h y (List.mem_cons_self ..)
    have b := sum_le (l := l) fun z hz => h z (List.mem_cons_of_mem _ hz)
    simp only [List.map_cons, List.sum_cons, List.length_cons, Nat.succ_mul]
    omega
theorem sp_len : (Str.ofString " ").length = 1 := by decide +kernel
theorem app_len (a b : Str) : (a ++ b).length = a.length + b.length := by rw [TL.len_tl, TL.tl_append, List.length_append, TL.len_tl a, TL.len_tl b]
def tot (ws : List Str) : Nat := (ws.map (·.length)).sum + ws.length
theorem tot_app (a b : List Str) : tot (a ++ b) = tot a + tot b := by simp [tot]; omega
theorem tot_split (x : Str) : tot (Txt.split x sp) = x.length + 1 := split_sum x
theorem tot_drop (a : List Str) (n : Nat) : tot (a.drop n) ≤ tot a := by
  have := tot_app (a.take n) (a.drop n)
  rw [List.take_append_drop] at this
  omega
theorem tot_take (a : List Str) (n : Nat) : tot (a.take n) ≤ tot a := by
  have := tot_app (a.take n) (a.drop n)
  rw [List.take_append_drop] at this
  omega
theorem tot_cut (a : List Str) (lo hi : Option Int) : tot (cutG a lo hi) ≤ tot a := Nat.le_trans (tot_take _ _) (tot_drop _ _)
theorem tot_set (a : List Str) (n : Nat) (w : Str) : tot (a.set n w) ≤ tot a + w.length := by
  induction a generalizing n with
  | nil => simp [tot]
  | cons x a ih =>
    cases n with
    | zero => simp [tot]; omega
    | succ n =>
      have := ih n
      simp [tot] at this ⊢
      omega
theorem tot_len (a : List Str) : a.length ≤ tot a := by unfold tot; omega
theorem tot_mem {a : List Str} {w : Str} (h : w ∈ a) : w.length ≤ tot a := Nat.le_trans (sum_mem h) (by unfold tot; omega)
theorem joinL_len : ∀ l : List (List Nat), (TL.joinL [32] l).length ≤ (l.map List.length).sum + l.length
  | [] => by simp [TL.joinL]
  | [x] => by simp [TL.joinL]
  | x :: y :: l => by
    have := joinL_len (y :: l)
    simp [TL.joinL] at this ⊢
    omega
theorem join_len (ys : List Str) : (Txt.join sp ys).length ≤ tot ys := by
  have e : ys = (ys.map TL.tl).map SX.S := by
    rw [List.map_map]
    have : (SX.S ∘ TL.tl) = id := funext fun y => SX.S_tl y
    rw [this, List.map_id]
  have es : sp = SX.S [32] := by rw [← tl_sp]
  have ej : Txt.join sp ys = SX.S (TL.joinL [32] (ys.map TL.tl)) := by
    have := SX.join_S [32] (ys.map TL.tl)
    rw [← e, ← es] at this
    exact this
  rw [ej, SX.S_len]
  have h := joinL_len (ys.map TL.tl)
  rw [List.map_map, List.length_map] at h
  have e : (List.length ∘ TL.tl) = fun y : Str => y.length := funext fun y => (TL.len_tl y).symm
  rw [e] at h
  exact h
theorem mul_size (x : Array Nat) : ∀ (n : Nat) (acc : Array Nat), ((List.replicate n x).foldl (· ++ ·) acc).size = acc.size + n * x.size
  | 0, acc => by simp
  | n + 1, acc => by
    rw [List.replicate_succ, List.foldl_cons, mul_size x n, Array.size_append, Nat.succ_mul]
    omega
theorem mul_len (x : Str) (n : Nat) : (Txt.mul x n).length ≤ x.length * n := by
  unfold Txt.mul
  split
  · exact Nat.zero_le _
  · rename_i z
    split
    · have : x.length * 1 ≤ x.length * n := Nat.mul_le_mul_left _ (by omega)
      omega
    · show ((List.replicate (n : Int).toNat x.cps).foldl (· ++ ·) #[]).size ≤ _
      rw [mul_size, Int.toNat_natCast]
      show 0 + n * x.length ≤ _
      rw [Nat.mul_comm]
      omega
theorem mul1 {x : Str} {n : Nat} (h : x.length ≤ 1) (hn : n ≤ 100000) : MulOk x n ∧ (Txt.mul x n).length ≤ n := by
  refine ⟨mulOk_of 1 100000 h (by omega) (by omega) (by decide) (by decide), Nat.le_trans (mul_len x n) ?_⟩
  have : x.length * n ≤ 1 * n := Nat.mul_le_mul_right _ h
  omega
theorem atI_get {ds : List D} {k : Nat} (h : k < ds.length) : atI ds (k : Int) = some ds[k] := by
  unfold atI
  rw [ixN_n h]
  exact List.getElem?_eq_getElem h
theorem atI_last (l : List Str) (m : Str) : atI (dStrs (l ++ [m])) (-1) = some (.str m) := by
  have e : ixN (dStrs (l ++ [m])).length (-1) = some l.length := by
    rw [dStrs_length, List.length_append]
    unfold ixN
    simp
    try omega
  unfold atI
  rw [e]
  show (dStrs (l ++ [m]))[l.length]? = _
  unfold dStrs
  simp
theorem cut1 (a : D) (l : List D) : cutG (a :: l) (some 1) none = l := by
  unfold cutG
  rw [show HT.sIx (a :: l).length 0 (some 1) = 1 from by rw [show (1 : Int) = ((1 : Nat) : Int) from rfl, HT.sIx_nat]; simp]
  show (l.take _) = l
  refine List.take_of_length_le ?_
  show l.length ≤ (a :: l).length - 1
  simp
theorem lc_own {i : Nat} {a : Addr} {ns : List Str} {xp : Xp} {S : List Slot} {we : WE} {wg : WG} {wt : WT} {vs : List Nat} {Q : W → Prop} (hS : gt S i = .own a (.fl (dStrs ns))) (hw : gt (wipeS S vs) i = .own a (.fl (dStrs ns))) (hl : ns.length ≤ 100000) (I : Nat → List D → Prop) (h0 : I 0 [])
    (turn : ∀ k ds (hk : k < ns.length), ds.length ≤ k → I k ds → wg (.dat (.str ns[k])) (wipeS S vs) fun S2 => wt xp0 S2 fun b => if b = true then we xp0 S2 fun y => y.fz1 fun d => I (k + 1) (ds ++ [d]) else I (k + 1) ds)
    (fin : ∀ ds, ds.length ≤ ns.length → I ns.length ds → Q (.new (.fl ds))) : wLc (wIList (wVar i)) wg wt we vs xp S Q := by
  unfold wLc wIList wVar
  rw [hS]
  show (match gt S i with
    | .own a _ => _
    | _ => False)
  rw [hS]
  dsimp only
  rw [dStrs_length]
  exact ⟨hl, hw, I, h0, fun k ds hk h1 h2 => by rw [datAt_dStrs hk]; exact turn k ds hk h1 h2, fin⟩
end DL

set_option maxHeartbeats 0
namespace My
open PySem PySem.Spec PyProof.Rows L2 DL
structure Ca where
  a_BadCall : Addr
  a_BadChain : Addr
  a_BadCount : Addr
  a_BadEdit : Addr
  a_BadForest : Addr
  a_BadGiving : Addr
  a_BadLeave : Addr
  a_BadLine : Addr
  a_BadName : Addr
  a_BadSpelling : Addr
  a_BadTape : Addr
  a_BadText : Addr
  a_CellsError : Addr
  a_NoSuch : Addr
  a_NotLive : Addr
  a_NotRight : Addr
  a_TooBig : Addr
  a_TooLong : Addr
  a_Twice : Addr
/-- what the written part says of the classes -/
structure Kf (K : PySem.W.Frag) (c : Ca) : Prop where
  e_TooBig : ExcC K c.a_TooBig
  m_TooBig_CellsError : PySem.W.exmOne K (.ref c.a_TooBig) (.ref c.a_CellsError) = some true
  k_TooBig_BadCall : PySem.W.kitOne K (.ref c.a_TooBig) (.ref c.a_BadCall) = some false
  k_TooBig_BadChain : PySem.W.kitOne K (.ref c.a_TooBig) (.ref c.a_BadChain) = some false
  k_TooBig_BadCount : PySem.W.kitOne K (.ref c.a_TooBig) (.ref c.a_BadCount) = some false
  k_TooBig_BadEdit : PySem.W.kitOne K (.ref c.a_TooBig) (.ref c.a_BadEdit) = some false
  k_TooBig_BadForest : PySem.W.kitOne K (.ref c.a_TooBig) (.ref c.a_BadForest) = some false
  k_TooBig_BadGiving : PySem.W.kitOne K (.ref c.a_TooBig) (.ref c.a_BadGiving) = some false
  k_TooBig_BadLeave : PySem.W.kitOne K (.ref c.a_TooBig) (.ref c.a_BadLeave) = some false
  k_TooBig_BadLine : PySem.W.kitOne K (.ref c.a_TooBig) (.ref c.a_BadLine) = some false
  k_TooBig_BadName : PySem.W.kitOne K (.ref c.a_TooBig) (.ref c.a_BadName) = some false
  k_TooBig_BadSpelling : PySem.W.kitOne K (.ref c.a_TooBig) (.ref c.a_BadSpelling) = some false
  k_TooBig_BadTape : PySem.W.kitOne K (.ref c.a_TooBig) (.ref c.a_BadTape) = some false
  k_TooBig_BadText : PySem.W.kitOne K (.ref c.a_TooBig) (.ref c.a_BadText) = some false
  k_TooBig_NoSuch : PySem.W.kitOne K (.ref c.a_TooBig) (.ref c.a_NoSuch) = some false
  k_TooBig_NotLive : PySem.W.kitOne K (.ref c.a_TooBig) (.ref c.a_NotLive) = some false
  k_TooBig_NotRight : PySem.W.kitOne K (.ref c.a_TooBig) (.ref c.a_NotRight) = some false
  k_TooBig_TooBig : PySem.W.kitOne K (.ref c.a_TooBig) (.ref c.a_TooBig) = some true
  k_TooBig_TooLong : PySem.W.kitOne K (.ref c.a_TooBig) (.ref c.a_TooLong) = some false
  k_TooBig_Twice : PySem.W.kitOne K (.ref c.a_TooBig) (.ref c.a_Twice) = some false
  k_TooBig__V : PySem.W.kitOne K (.ref c.a_TooBig) (.type "ValueError") = some true
  e_BadText : ExcC K c.a_BadText
  m_BadText_CellsError : PySem.W.exmOne K (.ref c.a_BadText) (.ref c.a_CellsError) = some true
  k_BadText_BadCall : PySem.W.kitOne K (.ref c.a_BadText) (.ref c.a_BadCall) = some false
  k_BadText_BadChain : PySem.W.kitOne K (.ref c.a_BadText) (.ref c.a_BadChain) = some false
  k_BadText_BadCount : PySem.W.kitOne K (.ref c.a_BadText) (.ref c.a_BadCount) = some false
  k_BadText_BadEdit : PySem.W.kitOne K (.ref c.a_BadText) (.ref c.a_BadEdit) = some false
  k_BadText_BadForest : PySem.W.kitOne K (.ref c.a_BadText) (.ref c.a_BadForest) = some false
  k_BadText_BadGiving : PySem.W.kitOne K (.ref c.a_BadText) (.ref c.a_BadGiving) = some false
  k_BadText_BadLeave : PySem.W.kitOne K (.ref c.a_BadText) (.ref c.a_BadLeave) = some false
  k_BadText_BadLine : PySem.W.kitOne K (.ref c.a_BadText) (.ref c.a_BadLine) = some false
  k_BadText_BadName : PySem.W.kitOne K (.ref c.a_BadText) (.ref c.a_BadName) = some false
  k_BadText_BadSpelling : PySem.W.kitOne K (.ref c.a_BadText) (.ref c.a_BadSpelling) = some false
  k_BadText_BadTape : PySem.W.kitOne K (.ref c.a_BadText) (.ref c.a_BadTape) = some false
  k_BadText_BadText : PySem.W.kitOne K (.ref c.a_BadText) (.ref c.a_BadText) = some true
  k_BadText_NoSuch : PySem.W.kitOne K (.ref c.a_BadText) (.ref c.a_NoSuch) = some false
  k_BadText_NotLive : PySem.W.kitOne K (.ref c.a_BadText) (.ref c.a_NotLive) = some false
  k_BadText_NotRight : PySem.W.kitOne K (.ref c.a_BadText) (.ref c.a_NotRight) = some false
  k_BadText_TooBig : PySem.W.kitOne K (.ref c.a_BadText) (.ref c.a_TooBig) = some false
  k_BadText_TooLong : PySem.W.kitOne K (.ref c.a_BadText) (.ref c.a_TooLong) = some false
  k_BadText_Twice : PySem.W.kitOne K (.ref c.a_BadText) (.ref c.a_Twice) = some false
  k_BadText__V : PySem.W.kitOne K (.ref c.a_BadText) (.type "ValueError") = some true

/-! ## words, plain -/
def letC (c : Nat) : Bool := decide (97 ≤ c) && decide (c ≤ 122)
def digC (c : Nat) : Bool := decide (48 ≤ c) && decide (c ≤ 57)
def blkC (c : Nat) : Bool := decide (c = 32) || decide (c = 10)
/-- what goes on in the word that begins with c -/
def clsOf (c : Nat) : Nat → Bool := if letC c = true then fun d => letC d || digC d else if (digC c || decide (c = 45)) = true then digC else fun _ => false
theorem dropW_len (p : Nat → Bool) : ∀ l : List Nat, (l.dropWhile p).length ≤ l.length
  | [] => Nat.le_refl _
  | a :: l => by
    rw [List.dropWhile_cons]
    split
    · exact Nat.le_succ_of_le (dropW_len p l)
    · exact Nat.le_refl _
/-- the words of a text -/
def toks : List Nat → List (List Nat)
  | [] => []
  | c :: r => if blkC c = true then toks r else (c :: r.takeWhile (clsOf c)) :: toks (r.dropWhile (clsOf c))
termination_by l => l.length
decreasing_by
  · simp
  · have := dropW_len (clsOf c) r
    simp
    omega
def numOk (w : List Nat) : Bool :=
  let ds := match w with
    | 45 :: r => r
    | w => w
  match ds with
  | [] => false
  | d :: r => if 9 < r.length + 1 then false else if d = 48 then decide (w = [48]) else true
def sound (w : List Nat) : Bool := match w with
  | [] => false
  | c :: r => if letC c = true then decide (r.length + 1 ≤ 8) else if (digC c || decide (c = 45)) = true then numOk (c :: r) else decide (c ∈ [40, 41, 123, 125, 59])
def firstBad : List (List Nat) → Option Nat
  | [] => none
  | w :: ws => if sound w = true then (firstBad ws).map (· + 1) else some 0
abbrev cs (t : Str) : List Nat := t.cps.toList
def wordsD (t : Str) : List D := dStrs ((toks (cs t)).map SX.S)
/-- what is due of a text -/
def dueL (t : Str) : List D := if 12000 < t.length then [.str "TooBig", .str "signs"] else match firstBad (toks (cs t)) with
  | none => [.str "words", .lst (wordsD t)]
  | some k => [.str "BadText", .int k]
def keptW : List Str := ["proc", "names", "say", "get", "set", "add", "call", "leave", "maybe", "often"]
def spell (t : Str) : Bool := match cs t with
  | [] => false
  | c :: r => decide (r.length + 1 ≤ 8) && (letC c && (!decide (t ∈ keptW) && r.all fun d => letC d || digC d))
/-- a word of its own: it begins as a word does and goes on so to its end -/
def tokW (w : List Nat) : Prop := ∃ c r, w = c :: r ∧ blkC c = false ∧ ∀ d ∈ r, clsOf c d = true
structure RightW (w : Str) : Prop where
  tok : tokW (cs w)
  snd : sound (cs w) = true
  len : w.length ≤ 10
structure BadW (w : Str) : Prop where
  tok : tokW (cs w)
  snd : sound (cs w) = false
  len : w.length ≤ 12
def apartB (l r : List Nat) : Bool := if digC (r.headD 0) = true then letC (l.headD 0) || digC (l.getLastD 0) else letC (r.headD 0) && letC (l.headD 0)
/-- a text that has just these words, also ahead of a blank -/
structure SpreadOk (ws : List Str) (t : Str) : Prop where
  tok : ∀ rest, (rest = [] ∨ ∃ b r, rest = b :: r ∧ blkC b = true) → toks (cs t ++ rest) = ws.map cs ++ toks rest
  len : t.length ≤ 12 * ws.length + 1
def fs_run_end : Fs := fun as Qd _ => ∃ t k sg, as = [.dat (.str t), .dat (.int (k : Nat)), .dat (.str sg)] ∧ k ≤ t.length ∧ t.length ≤ 1000000 ∧ Qd (.dat (.int (k + (((cs t).drop k).takeWhile fun c => decide (c ∈ cs sg)).length : Nat)))
def fs_word_end : Fs := fun as Qd _ => ∃ t k c, as = [.dat (.str t), .dat (.int (k : Nat))] ∧ (cs t)[k]? = some c ∧ t.length ≤ 1000000 ∧ Qd (.dat (.int (k + 1 + (((cs t).drop (k + 1)).takeWhile (clsOf c)).length : Nat)))
def fs_is_sound_number : Fs := fun as Qd _ => ∃ w, as = [.dat (.str w)] ∧ w.length ≤ 1000000 ∧ w.length ≠ 0 ∧ Qd (.dat (.bl (numOk (cs w))))
def fs_is_sound : Fs := fun as Qd _ => ∃ w, as = [.dat (.str w)] ∧ w.length ≤ 1000000 ∧ tokW (cs w) ∧ Qd (.dat (.bl (sound (cs w))))
def fs_split_words (c : Ca) : Fs := fun as Qd xd => ∃ t, as = [.dat (.str t)] ∧ t.length ≤ 1000000 ∧ (if 12000 < t.length then xd c.a_TooBig [("bad_what", .str "signs")] else match firstBad (toks (cs t)) with
  | none => Qd (.new (.fl (wordsD t)))
  | some k => xd c.a_BadText [("bad_word", .int k)])
def fs_is_spelling : Fs := fun as Qd _ => ∃ t, as = [.dat (.str t)] ∧ t.length ≤ 1000000 ∧ Qd (.dat (.bl (spell t)))
def fs__law_number : Fs := fun as Qd _ => as = [.sto] ∧ ∀ n : Int, -999999999 ≤ n → n ≤ 999999999 → Qd (.dat (.int n))
def fs__law_word : Fs := fun as Qd _ => ∃ way k : Int, as = [.dat (.int way), .dat (.int k)] ∧ 0 ≤ way ∧ 0 ≤ k ∧ k < 144 ∧ ∀ w, RightW w → w.length ≤ 8 → Qd (.dat (.str w))
def fs__law_apart : Fs := fun as Qd _ => ∃ l r, as = [.dat (.str l), .dat (.str r)] ∧ l.length ≠ 0 ∧ r.length ≠ 0 ∧ l.length ≤ 1000 ∧ r.length ≤ 1000 ∧ Qd (.dat (.bl (apartB (cs l) (cs r))))
def fs__law_spread : Fs := fun as Qd _ => ∃ ws, as = [.sto, .dat (.lst (dStrs ws))] ∧ ws.length ≤ 40 ∧ (∀ w ∈ ws, RightW w) ∧ ∀ t, SpreadOk ws t → Qd (.dat (.str t))
def fs__law_bad_sign : Fs := fun as Qd _ => as = [.sto] ∧ ∀ w, BadW w → Qd (.dat (.str w))
def fs__law_bad_word : Fs := fun as Qd _ => as = [.sto] ∧ ∀ w, BadW w → Qd (.dat (.str w))
def fs__law_bad_spelling : Fs := fun as Qd _ => as = [.sto] ∧ ∀ w : Str, w.length ≤ 20 → Qd (.dat (.str w))
def fs__law_signs : Fs := fun as Qd _ => as = [] ∧ ∀ w : Str, 0 < w.length → w.length ≤ 100 → Qd (.dat (.str w))
def fs__law_kept : Fs := fun as Qd _ => as = [] ∧ Qd (.new (.fl (dStrs keptW)))
def fs__law_right : Fs := fun as Qd _ => as = [.sto] ∧ ∀ w, RightW w → Qd (.dat (.str w))
def fs__law_cut : Fs := fun as Qd _ => ∃ t, as = [.dat (.str t)] ∧ t.length ≤ 50000 ∧ Qd (.new (.fl (wordsD t)))
def fs__law_good : Fs := fun as Qd _ => ∃ w, as = [.dat (.str w)] ∧ w.length ≤ 1000000 ∧ tokW (cs w) ∧ Qd (.dat (.bl (sound (cs w))))
def fs__law_due : Fs := fun as Qd _ => ∃ t, as = [.dat (.str t)] ∧ t.length ≤ 1000000 ∧ Qd (.new (.fl (dueL t)))
def fs__law_spelling : Fs := fun as Qd _ => ∃ t, as = [.dat (.str t)] ∧ t.length ≤ 1000000 ∧ Qd (.dat (.bl (spell t)))
def toldO (t : Str) : O := if t.length ≤ 12000 ∧ firstBad (toks (cs t)) = none then .lst [.fz (.str "words"), .fl (wordsD t)] else .fl (dueL t)
def fs__law_told (c : Ca) : Fs := fun as Qd _ => ∃ t, as = [.dat (.str t)] ∧ t.length ≤ 1000000 ∧ Qd (.new (toldO t))
def fs__law_made : Fs := fun as Qd _ => as = [.sto] ∧ ∀ t : Str, t.length ≤ 12000 → Qd (.new (.fl [.str t, .lst (dueL t)]))
def fs__law_loose : Fs := fun as Qd _ => as = [.sto] ∧ ∀ t : Str, t.length ≤ 1000 → Qd (.dat (.str t))
def fs__law_long : Fs := fun as Qd _ => as = [.sto] ∧ ∀ t : Str, t.length ≤ 30000 → Qd (.dat (.str t))
def fs__law_texts : Fs := fun as Qd _ => as = [.sto] ∧ ∀ ts : List Str, ts.length ≤ 40 → (∀ t ∈ ts, t.length ≤ 30000) → Qd (.new (.fl (dStrs ts)))
abbrev fs__law_same : Fs := fsSame 4

def w_run_end_b1 : WS := wAug 1 (gI fun i j => i + j) (wC (.int 1))
def w_run_end_t1 : WS := wRet (wVar 1)
def w_run_end : WS := wSeq (wWhile (wAnd (wCmpT (gCmp fun i j => decide (i < j)) (wVar 1) (wFn gLen (wCons (wVar 0) (wNil)))) (wCmpT (gIn false) (wIx (wVar 0) (wVar 1)) (wVar 2))) (w_run_end_b1))
  (w_run_end_t1)
def w_word_end_t1 : WS := wRet (wBin gAdd (wVar 1) (wC (.int 1)))
def w_word_end_t2 : WS := wSeq (wIf (wOr (wCmpT (gIn false) (wIx (wVar 0) (wVar 1)) (wC (.str "0123456789"))) (wCmpT gEq (wIx (wVar 0) (wVar 1)) (wC (.str "-")))) (wRet (wCall fs_run_end [.d, .d, .d] (wCons (wVar 0) (wCons (wBin gAdd (wVar 1) (wC (.int 1))) (wCons (wC (.str "0123456789")) (wNil)))))) (wNext))
  (w_word_end_t1)
def w_word_end : WS := wSeq (wIf (wCmpT (gIn false) (wIx (wVar 0) (wVar 1)) (wC (.str "abcdefghijklmnopqrstuvwxyz"))) (wRet (wCall fs_run_end [.d, .d, .d] (wCons (wVar 0) (wCons (wBin gAdd (wVar 1) (wC (.int 1))) (wCons (wBin gAdd (wC (.str "abcdefghijklmnopqrstuvwxyz")) (wC (.str "0123456789"))) (wNil)))))) (wNext))
  (w_word_end_t2)
def w_is_sound_number_t1 : WS := wRet (wC (.bl true))
def w_is_sound_number_t2 : WS := wSeq (wIf (wCmpT gEq (wIx (wVar 1) (wC (.int 0))) (wC (.str "0"))) (wRet (wBin gEq (wVar 0) (wC (.str "0")))) (wNext))
  (w_is_sound_number_t1)
def w_is_sound_number_t3 : WS := wSeq (wIf (wOr (wCmpT gEq (wFn gLen (wCons (wVar 1) (wNil))) (wC (.int 0))) (wCmpT (gCmp fun i j => decide (j < i)) (wFn gLen (wCons (wVar 1) (wNil))) (wC (.int 9)))) (wRet (wC (.bl false))) (wNext))
  (w_is_sound_number_t2)
def w_is_sound_number : WS := wSeq (wAsg (wVar 0) (wName 1))
  (wSeq (wIf (wCmpT gEq (wIx (wVar 0) (wC (.int 0))) (wC (.str "-"))) (wAsg (wSl (wVar 0) (wPart (wC (.int 1))) (wNoP)) (wName 1)) (wNext))
  (w_is_sound_number_t3))
def w_is_sound_t1 : WS := wRet (wBin (gIn false) (wVar 0) (wC (.str "(){};")))
def w_is_sound_t2 : WS := wSeq (wIf (wOr (wCmpT (gIn false) (wIx (wVar 0) (wC (.int 0))) (wC (.str "0123456789"))) (wCmpT gEq (wIx (wVar 0) (wC (.int 0))) (wC (.str "-")))) (wRet (wCall fs_is_sound_number [.d] (wCons (wVar 0) (wNil)))) (wNext))
  (w_is_sound_t1)
def w_is_sound : WS := wSeq (wIf (wCmpT (gIn false) (wIx (wVar 0) (wC (.int 0))) (wC (.str "abcdefghijklmnopqrstuvwxyz"))) (wRet (wBin (gCmp fun i j => decide (i ≤ j)) (wFn gLen (wCons (wVar 0) (wNil))) (wC (.int 8)))) (wNext))
  (w_is_sound_t2)
def w_split_words_t1 (K : PySem.W.Frag) (c : Ca) : WS := wSeq (wApp (wVar 1) (wVar 4))
  (wAsg (wVar 3) (wName 2))
def w_split_words_b1 (K : PySem.W.Frag) (c : Ca) : WS := wIf (wCmpT (gIn false) (wIx (wVar 0) (wVar 2)) (wC (.str " \n"))) (wAug 2 (gI fun i j => i + j) (wC (.int 1))) (wSeq (wAsg (wCall fs_word_end [.d, .d] (wCons (wVar 0) (wCons (wVar 2) (wNil)))) (wName 3))
  (wSeq (wAsg (wSl (wVar 0) (wPart (wVar 2)) (wPart (wVar 3))) (wName 4))
  (wSeq (wIf (wNot (wTru (wCall fs_is_sound [.d] (wCons (wVar 4) (wNil))))) (wRaise1 c.a_BadText "bad_word" (wFn gLen (wCons (wVar 1) (wNil)))) (wNext))
  (w_split_words_t1 K c))))
def w_split_words_t2 (K : PySem.W.Frag) (c : Ca) : WS := wRet (wVar 1)
def w_split_words_t3 (K : PySem.W.Frag) (c : Ca) : WS := wSeq (wAsg (wLst (wNil)) (wName 1))
  (wSeq (wAsg (wC (.int 0)) (wName 2))
  (wSeq (wWhile (wCmpT (gCmp fun i j => decide (i < j)) (wVar 2) (wFn gLen (wCons (wVar 0) (wNil)))) (w_split_words_b1 K c))
  (w_split_words_t2 K c)))
def w_split_words (K : PySem.W.Frag) (c : Ca) : WS := wSeq (wIf (wCmpT (gCmp fun i j => decide (j < i)) (wFn gLen (wCons (wVar 0) (wNil))) (wC (.int 12000))) (wRaise1 c.a_TooBig "bad_what" (wC (.str "signs"))) (wNext))
  (w_split_words_t3 K c)
def w_is_spelling_t1 : WS := wRet (wBin gEq (wCall fs_run_end [.d, .d, .d] (wCons (wVar 0) (wCons (wC (.int 1)) (wCons (wBin gAdd (wC (.str "abcdefghijklmnopqrstuvwxyz")) (wC (.str "0123456789"))) (wNil))))) (wFn gLen (wCons (wVar 0) (wNil))))
def w_is_spelling_t2 : WS := wSeq (wIf (wOr (wCmpT (gIn true) (wIx (wVar 0) (wC (.int 0))) (wC (.str "abcdefghijklmnopqrstuvwxyz"))) (wInKT false [.str "proc", .str "names", .str "say", .str "get", .str "set", .str "add", .str "call", .str "leave", .str "maybe", .str "often"] (wVar 0))) (wRet (wC (.bl false))) (wNext))
  (w_is_spelling_t1)
def w_is_spelling : WS := wSeq (wIf (wOr (wCmpT gEq (wVar 0) (wC (.str ""))) (wCmpT (gCmp fun i j => decide (j < i)) (wFn gLen (wCons (wVar 0) (wNil))) (wC (.int 8)))) (wRet (wC (.bl false))) (wNext))
  (w_is_spelling_t2)
def w__law_number_t1 : WS := wRet (wBin (gI fun i j => i - j) (wCall fs__law_take [.s, .d] (wCons (wVar 0) (wCons (wC (.int 1999999999)) (wNil)))) (wC (.int 999999999)))
def w__law_number_t2 : WS := wSeq (wIf (wCmpT gEq (wVar 1) (wC (.int 4))) (wRet (wBin (gI fun i j => i - j) (wCall fs__law_take [.s, .d] (wCons (wVar 0) (wCons (wC (.int 1999)) (wNil)))) (wC (.int 999)))) (wNext))
  (w__law_number_t1)
def w__law_number_t3 : WS := wSeq (wIf (wCmpT (gCmp fun i j => decide (i < j)) (wVar 1) (wC (.int 4))) (wRet (wBin (gI fun i j => i - j) (wCall fs__law_take [.s, .d] (wCons (wVar 0) (wCons (wC (.int 19)) (wNil)))) (wC (.int 9)))) (wNext))
  (w__law_number_t2)
def w__law_number : WS := wSeq (wAsg (wCall fs__law_take [.s, .d] (wCons (wVar 0) (wCons (wC (.int 6)) (wNil)))) (wName 1))
  (wSeq (wIf (wCmpT gEq (wVar 1) (wC (.int 0))) (wRet (wIx (wLst (wCons (wC (.int 0)) (wCons (wC (.int 1)) (wCons (wUn gNeg (wC (.int 1))) (wCons (wC (.int 2)) (wCons (wUn gNeg (wC (.int 2))) (wCons (wC (.int 10)) (wCons (wC (.int 999999999)) (wCons (wUn gNeg (wC (.int 999999999))) (wNil)))))))))) (wCall fs__law_take [.s, .d] (wCons (wVar 0) (wCons (wC (.int 8)) (wNil)))))) (wNext))
  (w__law_number_t3))
def w__law_word_t1 : WS := wRet (wBin gAdd (wC (.str "n")) (wFn gStr2 (wCons (wVar 1) (wNil))))
def w__law_word_t2 : WS := wSeq (wFz 4 (wAsg (wLst (wCons (wC (.str "main")) (wCons (wC (.str "proc1")) (wCons (wC (.str "procs")) (wCons (wC (.str "name")) (wCons (wC (.str "names1")) (wCons (wC (.str "sayx")) (wCons (wC (.str "says")) (wCons (wC (.str "get9")) (wCons (wC (.str "gets")) (wCons (wC (.str "sets")) (wCons (wC (.str "se")) (wCons (wC (.str "adds")) (wCons (wC (.str "add2")) (wNil))))))))))))))) (wName 4)))
  (wSeq (wFz 4 (wAsg (wCat (wVar 4) (wLst (wCons (wC (.str "calls")) (wCons (wC (.str "cal")) (wCons (wC (.str "leave1")) (wCons (wC (.str "leaves")) (wCons (wC (.str "leav")) (wCons (wC (.str "maybe1")) (wCons (wC (.str "mayb")) (wCons (wC (.str "often2")) (wCons (wC (.str "oftener")) (wCons (wC (.str "o")) (wCons (wC (.str "end")) (wNil)))))))))))))) (wName 4)))
  (wSeq (wFz 4 (wAsg (wCat (wVar 4) (wLst (wCons (wC (.str "ask")) (wCons (wC (.str "jump")) (wCons (wC (.str "m")) (wCons (wC (.str "mai")) (wCons (wC (.str "pr")) (wCons (wC (.str "mainmain")) (wNil))))))))) (wName 4)))
  (wSeq (wIf (wAnd (wCmpT gEq (wVar 0) (wC (.int 5))) (wCmpT (gCmp fun i j => decide (i < j)) (wVar 1) (wFn gLen (wCons (wVar 4) (wNil))))) (wRet (wIx (wVar 4) (wVar 1))) (wNext))
  (w__law_word_t1))))
def w__law_word_t3 : WS := wSeq (wIf (wCmpT gEq (wVar 0) (wC (.int 4))) (wRet (wBin gMulS (wIx (wVar 2) (wBin (gI fun i j => i - j) (wC (.int 25)) (wBin (gIC (fun _ j => 0 < j) fun i j => i % j) (wFn gInt (wCons (wVar 1) (wNil))) (wC (.int 26))))) (wBin gAdd (wC (.int 1)) (wBin (gIC CDivW fun i j => i / j) (wVar 1) (wC (.int 26)))))) (wNext))
  (w__law_word_t2)
def w__law_word_t4 : WS := wSeq (wIf (wCmpT gEq (wVar 0) (wC (.int 3))) (wRet (wBin gAdd (wBin gAdd (wBin gAdd (wC (.str "ab")) (wIx (wVar 3) (wBin (gIC CDivW fun i j => i / j) (wVar 1) (wC (.int 36))))) (wIx (wVar 3) (wBin (gIC (fun _ j => 0 < j) fun i j => i % j) (wFn gInt (wCons (wVar 1) (wNil))) (wC (.int 36))))) (wC (.str "cdef")))) (wNext))
  (w__law_word_t3)
def w__law_word_t5 : WS := wSeq (wIf (wCmpT gEq (wVar 0) (wC (.int 2))) (wRet (wBin gAdd (wBin gAdd (wC (.str "abcdef")) (wIx (wVar 3) (wBin (gIC CDivW fun i j => i / j) (wVar 1) (wC (.int 36))))) (wIx (wVar 3) (wBin (gIC (fun _ j => 0 < j) fun i j => i % j) (wFn gInt (wCons (wVar 1) (wNil))) (wC (.int 36)))))) (wNext))
  (w__law_word_t4)
def w__law_word : WS := wSeq (wAsg (wC (.str "abcdefghijklmnopqrstuvwxyz")) (wName 2))
  (wSeq (wAsg (wBin gAdd (wVar 2) (wC (.str "0123456789"))) (wName 3))
  (wSeq (wIf (wAnd (wCmpT gEq (wVar 0) (wC (.int 0))) (wCmpT (gCmp fun i j => decide (i < j)) (wVar 1) (wC (.int 26)))) (wRet (wIx (wVar 2) (wVar 1))) (wNext))
  (w__law_word_t5)))
def w__law_apart_t1 : WS := wRet (wAndV (wBin (gIn false) (wIx (wVar 1) (wC (.int 0))) (wVar 2)) (wBin (gIn false) (wIx (wVar 0) (wC (.int 0))) (wVar 2)))
def w__law_apart : WS := wSeq (wAsg (wC (.str "abcdefghijklmnopqrstuvwxyz")) (wName 2))
  (wSeq (wAsg (wC (.str "0123456789")) (wName 3))
  (wSeq (wIf (wCmpT (gIn false) (wIx (wVar 1) (wC (.int 0))) (wVar 3)) (wRet (wOrV (wBin (gIn false) (wIx (wVar 0) (wC (.int 0))) (wVar 2)) (wBin (gIn false) (wIx (wVar 0) (wUn gNeg (wC (.int 1)))) (wVar 3)))) (wNext))
  (w__law_apart_t1)))
def w__law_spread_t1 : WS := wApp (wVar 3) (wBin gAdd (wVar 5) (wIx (wVar 1) (wVar 4)))
def w__law_spread_t2 : WS := wSeq (wIf (wAnd (wCmpT gEq (wVar 5) (wC (.str ""))) (wAnd (wCmpT (gCmp fun i j => decide (j < i)) (wVar 4) (wC (.int 0))) (wTru (wCall fs__law_apart [.d, .d] (wCons (wIx (wVar 1) (wBin (gI fun i j => i - j) (wVar 4) (wC (.int 1)))) (wCons (wIx (wVar 1) (wVar 4)) (wNil))))))) (wAsg (wC (.str " ")) (wName 5)) (wNext))
  (w__law_spread_t1)
def w__law_spread_b1 : WS := wSeq (wAsg (wC (.str "")) (wName 5))
  (wSeq (wIf (wCmpT (gCmp fun i j => decide (j < i)) (wVar 2) (wC (.int 2))) (wAsg (wCall fs__law_pick [.s, .d] (wCons (wVar 0) (wCons (wLst (wCons (wC (.str "")) (wCons (wC (.str "")) (wCons (wC (.str " ")) (wCons (wC (.str "\n")) (wCons (wC (.str "  ")) (wCons (wC (.str " \n")) (wNil)))))))) (wNil)))) (wName 5)) (wNext))
  (w__law_spread_t2))
def w__law_spread_t3 : WS := wRet (wBin gAdd (wJoin (wC (.str "")) (wVar 3)) (wIx (wLst (wCons (wC (.str "")) (wCons (wC (.str "")) (wCons (wC (.str "")) (wCons (wC (.str "\n")) (wCons (wC (.str " ")) (wNil))))))) (wVar 2)))
def w__law_spread_t4 : WS := wSeq (wAsg (wLst (wNil)) (wName 3))
  (wSeq (wFor (wIR1 (wCons (wFn gLen (wCons (wVar 1) (wNil))) (wNil))) (wName 4) (w__law_spread_b1))
  (w__law_spread_t3))
def w__law_spread_t5 : WS := wSeq (wIf (wCmpT gEq (wVar 2) (wC (.int 1))) (wRet (wJoin (wC (.str "\n")) (wVar 1))) (wNext))
  (w__law_spread_t4)
def w__law_spread : WS := wSeq (wAsg (wCall fs__law_take [.s, .d] (wCons (wVar 0) (wCons (wC (.int 5)) (wNil)))) (wName 2))
  (wSeq (wIf (wCmpT gEq (wVar 2) (wC (.int 0))) (wRet (wJoin (wC (.str " ")) (wVar 1))) (wNext))
  (w__law_spread_t5))
def w__law_bad_sign : WS := wRet (wCall fs__law_pick [.s, .d] (wCons (wVar 0) (wCons (wListS (wCons (wC (.str "ABCDEFGHIJKLMNOPQRSTUVWXYZ\"#$&'*+,./:<=>?\x40[\\]^_`|~")) (wNil))) (wNil))))
def w__law_bad_word_t1 : WS := wRet (wCall fs__law_bad_sign [.s] (wCons (wVar 0) (wNil)))
def w__law_bad_word : WS := wSeq (wFz 1 (wAsg (wLst (wCons (wC (.str "-")) (wCons (wC (.str "-0")) (wCons (wC (.str "00")) (wCons (wC (.str "007")) (wCons (wC (.str "-01")) (wCons (wC (.str "-00")) (wCons (wC (.str "1234567890")) (wCons (wC (.str "-1234567890")) (wCons (wC (.str "1000000000")) (wCons (wC (.str "abcdefghi")) (wCons (wC (.str "a12345678")) (wNil))))))))))))) (wName 1)))
  (wSeq (wFz 1 (wAsg (wCat (wVar 1) (wLst (wCons (wC (.str "namesaybe")) (wCons (wC (.str "zzzzzzzzzzzz")) (wCons (wC (.str "0000000000")) (wNil)))))) (wName 1)))
  (wSeq (wIf (wCmpT gEq (wCall fs__law_take [.s, .d] (wCons (wVar 0) (wCons (wC (.int 2)) (wNil)))) (wC (.int 0))) (wRet (wCall fs__law_pick [.s, .d] (wCons (wVar 0) (wCons (wVar 1) (wNil))))) (wNext))
  (w__law_bad_word_t1)))
def w__law_bad_spelling : WS := wSeq (wFz 1 (wAsg (wLst (wCons (wC (.str "proc")) (wCons (wC (.str "names")) (wCons (wC (.str "say")) (wCons (wC (.str "get")) (wCons (wC (.str "set")) (wCons (wC (.str "add")) (wCons (wC (.str "call")) (wCons (wC (.str "leave")) (wCons (wC (.str "maybe")) (wCons (wC (.str "often")) (wNil)))))))))))) (wName 1)))
  (wSeq (wFz 1 (wAsg (wCat (wVar 1) (wLst (wCons (wC (.str "")) (wCons (wC (.str " ")) (wCons (wC (.str "\n")) (wCons (wC (.str "A")) (wCons (wC (.str "aB")) (wCons (wC (.str "1")) (wCons (wC (.str "1a")) (wCons (wC (.str "0")) (wCons (wC (.str "-1")) (wCons (wC (.str "a b")) (wCons (wC (.str " a")) (wCons (wC (.str "a ")) (wCons (wC (.str "a\n")) (wCons (wC (.str "\na")) (wCons (wC (.str "a-b")) (wCons (wC (.str "a_b")) (wNil))))))))))))))))))) (wName 1)))
  (wSeq (wFz 1 (wAsg (wCat (wVar 1) (wLst (wCons (wC (.str "_a")) (wCons (wC (.str "abcdefghi")) (wCons (wC (.str "aaaaaaaaaaaaaaaa")) (wCons (wC (.str "a;")) (wCons (wC (.str "(")) (wCons (wC (.str "a(b")) (wCons (wC (.str "~")) (wCons (wC (.str "a!")) (wCons (wC (.str "abcdefg ")) (wCons (wC (.str "abcdefgh\n")) (wNil))))))))))))) (wName 1)))
  (wRet (wCall fs__law_pick [.s, .d] (wCons (wVar 0) (wCons (wVar 1) (wNil)))))))
def w__law_signs : WS := wSeq (wAsg (wC (.str " !\"#$&'()*+,-./0123456789:;<=>?@ABCDEFGHIJKLMNOPQRSTUVWXYZ[\\]^_`")) (wName 0))
  (wRet (wBin gAdd (wVar 0) (wC (.str "abcdefghijklmnopqrstuvwxyz{|}~\n"))))
def w__law_kept : WS := wRet (wLst (wCons (wC (.str "proc")) (wCons (wC (.str "names")) (wCons (wC (.str "say")) (wCons (wC (.str "get")) (wCons (wC (.str "set")) (wCons (wC (.str "add")) (wCons (wC (.str "call")) (wCons (wC (.str "leave")) (wCons (wC (.str "maybe")) (wCons (wC (.str "often")) (wNil))))))))))))
def w__law_right_t1 : WS := wRet (wCall fs__law_pick [.s, .d] (wCons (wVar 0) (wCons (wLst (wCons (wC (.str "(")) (wCons (wC (.str ")")) (wCons (wC (.str "{")) (wCons (wC (.str "}")) (wCons (wC (.str ";")) (wNil))))))) (wNil))))
def w__law_right_t2 : WS := wSeq (wIf (wCmpT (gCmp fun i j => decide (i < j)) (wVar 1) (wC (.int 6))) (wRet (wFn gStr2 (wCons (wCall fs__law_number [.s] (wCons (wVar 0) (wNil))) (wNil)))) (wNext))
  (w__law_right_t1)
def w__law_right_t3 : WS := wSeq (wIf (wCmpT gEq (wVar 1) (wC (.int 3))) (wRet (wCall fs__law_pick [.s, .d] (wCons (wVar 0) (wCons (wCall fs__law_kept [] (wNil)) (wNil))))) (wNext))
  (w__law_right_t2)
def w__law_right : WS := wSeq (wAsg (wCall fs__law_take [.s, .d] (wCons (wVar 0) (wCons (wC (.int 8)) (wNil)))) (wName 1))
  (wSeq (wIf (wCmpT (gCmp fun i j => decide (i < j)) (wVar 1) (wC (.int 3))) (wRet (wCall fs__law_word [.d, .d] (wCons (wCall fs__law_take [.s, .d] (wCons (wVar 0) (wCons (wC (.int 6)) (wNil)))) (wCons (wCall fs__law_take [.s, .d] (wCons (wVar 0) (wCons (wC (.int 144)) (wNil)))) (wNil))))) (wNext))
  (w__law_right_t3))
def w__law_cut_b1 : WS := wSeq (wAsg (wBin (gIn false) (wVar 3) (wC (.str "abcdefghijklmnopqrstuvwxyz"))) (wName 4))
  (wSeq (wAsg (wBin (gIn false) (wVar 3) (wC (.str "0123456789"))) (wName 5))
  (wIf (wOr (wAnd (wCmpT gEq (wVar 2) (wC (.int 1))) (wOr (wTru (wVar 4)) (wTru (wVar 5)))) (wAnd (wCmpT gEq (wVar 2) (wC (.int 2))) (wTru (wVar 5)))) (wSetI (wBin gAdd (wIx (wVar 1) (wUn gNeg (wC (.int 1)))) (wVar 3)) (wVar 1) (wUn gNeg (wC (.int 1)))) (wSeq (wAsg (wC (.int 0)) (wName 2))
  (wIf (wAnd (wCmpT gNe (wVar 3) (wC (.str " "))) (wCmpT gNe (wVar 3) (wC (.str "\n")))) (wSeq (wApp (wVar 1) (wVar 3))
  (wAsg (wBin gAdd (wFn gInt (wCons (wVar 4) (wNil))) (wBin (gIC CMul fun i j => i * j) (wC (.int 2)) (wFn gInt (wCons (wOrV (wVar 5) (wBin gEq (wVar 3) (wC (.str "-")))) (wNil))))) (wName 2))) (wNext)))))
def w__law_cut_t1 : WS := wRet (wVar 1)
def w__law_cut : WS := wSeq (wAsg (wLst (wNil)) (wName 1))
  (wSeq (wAsg (wC (.int 0)) (wName 2))
  (wSeq (wFor (wIStr (wVar 0)) (wName 3) (w__law_cut_b1))
  (w__law_cut_t1)))
def w__law_good_t1 : WS := wRet (wAndV (wBin gNe (wVar 1) (wC (.str ""))) (wAndV (wBin (gIn false) (wIx (wVar 1) (wC (.int 0))) (wC (.str "123456789"))) (wBin (gCmp fun i j => decide (i < j)) (wFn gLen (wCons (wVar 1) (wNil))) (wC (.int 10)))))
def w__law_good_t2 : WS := wSeq (wAsg (wVar 0) (wName 1))
  (wSeq (wIf (wCmpT gEq (wIx (wVar 0) (wC (.int 0))) (wC (.str "-"))) (wAsg (wSl (wVar 0) (wPart (wC (.int 1))) (wNoP)) (wName 1)) (wNext))
  (w__law_good_t1))
def w__law_good_t3 : WS := wSeq (wIf (wCmpT (gIn false) (wVar 0) (wLst (wCons (wC (.str "(")) (wCons (wC (.str ")")) (wCons (wC (.str "{")) (wCons (wC (.str "}")) (wCons (wC (.str ";")) (wCons (wC (.str "0")) (wNil))))))))) (wRet (wC (.bl true))) (wNext))
  (w__law_good_t2)
def w__law_good : WS := wSeq (wIf (wCmpT (gIn false) (wIx (wVar 0) (wC (.int 0))) (wC (.str "abcdefghijklmnopqrstuvwxyz"))) (wRet (wBin (gCmp fun i j => decide (i < j)) (wFn gLen (wCons (wVar 0) (wNil))) (wC (.int 9)))) (wNext))
  (w__law_good_t3)
def w__law_due_b1 : WS := wIf (wNot (wTru (wCall fs__law_good [.d] (wCons (wIx (wVar 1) (wVar 2)) (wNil))))) (wRet (wLst (wCons (wC (.str "BadText")) (wCons (wVar 2) (wNil))))) (wNext)
def w__law_due_t1 : WS := wRet (wLst (wCons (wC (.str "words")) (wCons (wVar 1) (wNil))))
def w__law_due_t2 : WS := wSeq (wFz 1 (wAsg (wCall fs__law_cut [.d] (wCons (wVar 0) (wNil))) (wName 1)))
  (wSeq (wFor (wIR1 (wCons (wFn gLen (wCons (wVar 1) (wNil))) (wNil))) (wName 2) (w__law_due_b1))
  (w__law_due_t1))
def w__law_due : WS := wSeq (wIf (wCmpT (gCmp fun i j => decide (j < i)) (wFn gLen (wCons (wVar 0) (wNil))) (wC (.int 12000))) (wRet (wLst (wCons (wC (.str "TooBig")) (wCons (wC (.str "signs")) (wNil))))) (wNext))
  (w__law_due_t2)
def w__law_spelling_b1 : WS := wIf (wCmpT (gIn true) (wVar 1) (wC (.str "abcdefghijklmnopqrstuvwxyz0123456789"))) (wRet (wC (.bl false))) (wNext)
def w__law_spelling_t1 : WS := wRet (wC (.bl true))
def w__law_spelling_t2 : WS := wSeq (wFor (wIStr (wVar 0)) (wName 1) (w__law_spelling_b1))
  (w__law_spelling_t1)
def w__law_spelling : WS := wSeq (wIf (wOr (wCmpT gEq (wVar 0) (wC (.str ""))) (wOr (wCmpT (gCmp fun i j => decide (j < i)) (wFn gLen (wCons (wVar 0) (wNil))) (wC (.int 8))) (wOr (wCmpT (gIn false) (wVar 0) (wCall fs__law_kept [] (wNil))) (wCmpT (gIn false) (wIx (wVar 0) (wC (.int 0))) (wC (.str "0123456789")))))) (wRet (wC (.bl false))) (wNext))
  (w__law_spelling_t2)
def w__law_told_b1 (K : PySem.W.Frag) (c : Ca) : WS := wRet (wLstO (wCons (wC (.str "words")) (wCons (wCall (fs_split_words c) [.d] (wCons (wVar 0) (wNil))) (wNil))))
def w__law_told_t1 (K : PySem.W.Frag) (c : Ca) (a : Addr) (cls : Value) (d : Option Addr) : WS := wIf (wTru (wIsX K a cls d 1 (.ref c.a_TooBig))) (wRet (wLst (wCons (wC (.str "TooBig")) (wCons (wXf a cls d 1 c.a_TooBig "bad_what") (wNil))))) (wNext)
def w__law_told_t2 (K : PySem.W.Frag) (c : Ca) (a : Addr) (cls : Value) (d : Option Addr) : WS := wSeq (wIf (wTru (wIsX K a cls d 1 (.ref c.a_BadText))) (wRet (wLst (wCons (wC (.str "BadText")) (wCons (wXf a cls d 1 c.a_BadText "bad_word") (wNil))))) (wNext))
  (w__law_told_t1 K c a cls d)
def w__law_told_s1 (K : PySem.W.Frag) (c : Ca) (a : Addr) (cls : Value) (d : Option Addr) : WS := wSeq (wFz 2 (wAsg (wLst (wCons (wIsX K a cls d 1 (.ref c.a_BadCall)) (wCons (wIsX K a cls d 1 (.ref c.a_BadChain)) (wCons (wIsX K a cls d 1 (.ref c.a_BadCount)) (wCons (wIsX K a cls d 1 (.ref c.a_BadEdit)) (wNil)))))) (wName 2)))
  (wSeq (wFz 2 (wAsg (wCat (wVar 2) (wLst (wCons (wIsX K a cls d 1 (.ref c.a_BadForest)) (wCons (wIsX K a cls d 1 (.ref c.a_BadGiving)) (wCons (wIsX K a cls d 1 (.ref c.a_BadLeave)) (wNil)))))) (wName 2)))
  (wSeq (wFz 2 (wAsg (wCat (wVar 2) (wLst (wCons (wIsX K a cls d 1 (.ref c.a_BadLine)) (wCons (wIsX K a cls d 1 (.ref c.a_BadName)) (wCons (wIsX K a cls d 1 (.ref c.a_BadSpelling)) (wNil)))))) (wName 2)))
  (wSeq (wFz 2 (wAsg (wCat (wVar 2) (wLst (wCons (wIsX K a cls d 1 (.ref c.a_BadTape)) (wCons (wIsX K a cls d 1 (.ref c.a_BadText)) (wCons (wIsX K a cls d 1 (.ref c.a_NoSuch)) (wNil)))))) (wName 2)))
  (wSeq (wFz 2 (wAsg (wCat (wVar 2) (wLst (wCons (wIsX K a cls d 1 (.ref c.a_NotLive)) (wCons (wIsX K a cls d 1 (.ref c.a_NotRight)) (wCons (wIsX K a cls d 1 (.ref c.a_TooBig)) (wNil)))))) (wName 2)))
  (wSeq (wFz 2 (wAsg (wCat (wVar 2) (wLst (wCons (wIsX K a cls d 1 (.ref c.a_TooLong)) (wCons (wIsX K a cls d 1 (.ref c.a_Twice)) (wNil))))) (wName 2)))
  (wSeq (wIf (wOr (wCmpT gNe (wCntB (wVar 2) true) (wC (.int 1))) (wNot (wTru (wIsX K a cls d 1 (.type "ValueError"))))) (wRet (wLst (wCons (wC (.str "other")) (wNil)))) (wNext))
  (w__law_told_t2 K c a cls d)))))))
def w__law_told_t3 (K : PySem.W.Frag) (c : Ca) : WS := wRet (wLst (wCons (wC (.str "other")) (wNil)))
def w__law_told (K : PySem.W.Frag) (c : Ca) : WS := wSeq (wTry K (.ref c.a_CellsError) 1 (w__law_told_b1 K c) (fun a C d => (fun (cls : Value) => w__law_told_s1 K c a cls d) (.ref C)))
  (w__law_told_t3 K c)
def w__law_made_t1 : WS := wRet (wLst (wCons (wVar 3) (wCons (wLst (wCons (wC (.str "BadText")) (wCons (wVar 2) (wNil)))) (wNil))))
def w__law_made_t2 : WS := wSeq (wIf (wCmpT gEq (wCall fs__law_take [.s, .d] (wCons (wVar 0) (wCons (wC (.int 3)) (wNil)))) (wC (.int 0))) (wAsg (wBin gAdd (wBin gAdd (wVar 3) (wC (.str " "))) (wCall fs__law_bad_word [.s] (wCons (wVar 0) (wNil)))) (wName 3)) (wNext))
  (w__law_made_t1)
def w__law_made_t3 : WS := wSeq (wAsg (wBin gAdd (wBin gAdd (wBin gAdd (wBin gAdd (wCall fs__law_spread [.s, .d] (wCons (wVar 0) (wCons (wSl (wVar 1) (wNoP) (wPart (wVar 2))) (wNil)))) (wC (.str " "))) (wCall fs__law_bad_word [.s] (wCons (wVar 0) (wNil)))) (wC (.str "\n"))) (wCall fs__law_spread [.s, .d] (wCons (wVar 0) (wCons (wSl (wVar 1) (wPart (wVar 2)) (wNoP)) (wNil))))) (wName 3))
  (w__law_made_t2)
def w__law_made_t4 : WS := wSeq (wAsg (wCall fs__law_edge [.s, .d, .d] (wCons (wVar 0) (wCons (wC (.int 0)) (wCons (wFn gLen (wCons (wVar 1) (wNil))) (wNil))))) (wName 2))
  (w__law_made_t3)
def w__law_made_t5 : WS := wSeq (wIf (wCmpT gEq (wCall fs__law_take [.s, .d] (wCons (wVar 0) (wCons (wC (.int 2)) (wNil)))) (wC (.int 0))) (wRet (wLst (wCons (wCall fs__law_spread [.s, .d] (wCons (wVar 0) (wCons (wVar 1) (wNil)))) (wCons (wLst (wCons (wC (.str "words")) (wCons (wVar 1) (wNil)))) (wNil))))) (wNext))
  (w__law_made_t4)
def w__law_made : WS := wSeq (wFz 1 (wAsg (wLc (wIR1 (wCons (wCall fs__law_edge [.s, .d, .d] (wCons (wVar 0) (wCons (wC (.int 0)) (wCons (wC (.int 40)) (wNil))))) (wNil))) (wName 4) (fun _ _ Q => Q true) (wCall fs__law_right [.s] (wCons (wVar 0) (wNil))) [4]) (wName 1)))
  (w__law_made_t5)
def w__law_loose_t1 : WS := wAsg (wBin gAdd (wVar 2) (wBin gMulS (wVar 4) (wCall fs__law_pick [.s, .d] (wCons (wVar 0) (wCons (wLst (wCons (wC (.int 1)) (wCons (wC (.int 1)) (wCons (wC (.int 1)) (wCons (wC (.int 1)) (wCons (wC (.int 2)) (wCons (wC (.int 3)) (wCons (wC (.int 8)) (wCons (wC (.int 9)) (wCons (wC (.int 10)) (wNil))))))))))) (wNil)))))) (wName 2)
def w__law_loose_b1 : WS := wSeq (wAsg (wCall fs__law_pick [.s, .d] (wCons (wVar 0) (wCons (wListS (wCons (wVar 1) (wNil))) (wNil)))) (wName 4))
  (w__law_loose_t1)
def w__law_loose_t2 : WS := wRet (wVar 2)
def w__law_loose_t3 : WS := wSeq (wAsg (wC (.str "")) (wName 2))
  (wSeq (wFor (wIR1 (wCons (wCall fs__law_edge [.s, .d, .d] (wCons (wVar 0) (wCons (wC (.int 0)) (wCons (wC (.int 60)) (wNil))))) (wNil))) (wName 3) (w__law_loose_b1))
  (w__law_loose_t2))
def w__law_loose : WS := wSeq (wAsg (wCall fs__law_pick [.s, .d] (wCons (wVar 0) (wCons (wLst (wCons (wCall fs__law_signs [] (wNil)) (wCons (wCall fs__law_signs [] (wNil)) (wCons (wC (.str "a0-(; ")) (wCons (wC (.str "z9}\n1-")) (wCons (wC (.str "abc012 ")) (wCons (wC (.str "-01 ")) (wCons (wC (.str "sayget(){};5")) (wNil))))))))) (wNil)))) (wName 1))
  (w__law_loose_t3)
def w__law_long_t1 : WS := wSeq (wAsg (wBin gMulS (wVar 1) (wBin (gIC CDivW fun i j => i / j) (wVar 2) (wFn (g2I fun i j => if j > i then j else i) (wCons (wC (.int 1)) (wCons (wFn gLen (wCons (wVar 1) (wNil))) (wNil)))))) (wName 1))
  (wSeq (wAsg (wBin (gI fun i j => i - j) (wVar 2) (wFn gLen (wCons (wVar 1) (wNil)))) (wName 3))
  (wRet (wCall fs__law_pick [.s, .d] (wCons (wVar 0) (wCons (wLst (wCons (wBin gAdd (wBin gMulS (wC (.str " ")) (wVar 3)) (wVar 1)) (wCons (wBin gAdd (wVar 1) (wBin gMulS (wC (.str " ")) (wVar 3))) (wCons (wBin gAdd (wVar 1) (wBin gMulS (wC (.str "\n")) (wVar 3))) (wNil))))) (wNil))))))
def w__law_long_t2 : WS := wSeq (wAsg (wBin gAdd (wC (.int 11999)) (wCall fs__law_take [.s, .d] (wCons (wVar 0) (wCons (wC (.int 4)) (wNil))))) (wName 2))
  (w__law_long_t1)
def w__law_long : WS := wSeq (wAsg (wCall fs__law_pick [.s, .d] (wCons (wVar 0) (wCons (wLst (wCons (wC (.str "a ")) (wCons (wC (.str " ")) (wCons (wC (.str "5;")) (wCons (wC (.str "a1(")) (wCons (wC (.str "\n")) (wCons (wC (.str "abcdefgh ")) (wCons (wC (.str "-123456789")) (wCons (wC (.str "~")) (wCons (wC (.str "")) (wCons (wC (.str "a")) (wNil)))))))))))) (wNil)))) (wName 1))
  (w__law_long_t2)
def w__law_texts_t1 : WS := wRet (wVar 5)
def w__law_texts_t2 : WS := wSeq (wIf (wCmpT gEq (wCall fs__law_take [.s, .d] (wCons (wVar 0) (wCons (wC (.int 16)) (wNil)))) (wC (.int 0))) (wApp (wVar 5) (wBin gMulS (wC (.str "a")) (wBin gAdd (wC (.int 12001)) (wCall fs__law_take [.s, .d] (wCons (wVar 0) (wCons (wC (.int 2000)) (wNil))))))) (wNext))
  (w__law_texts_t1)
def w__law_texts_t3 : WS := wSeq (wAsg (wCat (wVar 5) (wLst (wCons (wJoin (wC (.str "")) (wVar 6)) (wCons (wBin gAdd (wC (.str "a")) (wJoin (wC (.str "")) (wVar 6))) (wCons (wC (.str "main")) (wCons (wCall fs__law_bad_spelling [.s] (wCons (wVar 0) (wNil))) (wCons (wUpper (wVar 2)) (wCons (wBin gAdd (wVar 1) (wVar 2)) (wNil))))))))) (wName 5))
  (w__law_texts_t2)
def w__law_texts_t4 : WS := wSeq (wFz 6 (wAsg (wLc (wIR1 (wCons (wCall fs__law_take [.s, .d] (wCons (wVar 0) (wCons (wC (.int 10)) (wNil)))) (wNil))) (wName 7) (fun _ _ Q => Q true) (wCall fs__law_pick [.s, .d] (wCons (wVar 0) (wCons (wListS (wCons (wC (.str "abcdefghijklmnopqrstuvwxyz0123456789")) (wNil))) (wNil)))) [7]) (wName 6)))
  (w__law_texts_t3)
def w__law_texts_t5 : WS := wSeq (wAsg (wLst (wCons (wVar 1) (wCons (wVar 2) (wCons (wC (.str "")) (wCons (wVar 3) (wCons (wBin gAdd (wBin gAdd (wSl (wVar 1) (wNoP) (wPart (wVar 4))) (wVar 3)) (wSl (wVar 1) (wPart (wVar 4)) (wNoP))) (wCons (wBin gAdd (wVar 2) (wVar 3)) (wCons (wBin gAdd (wVar 3) (wVar 2)) (wCons (wSl (wVar 2) (wNoP) (wPart (wUn gNeg (wC (.int 1))))) (wCons (wSl (wVar 2) (wPart (wC (.int 1))) (wNoP)) (wNil))))))))))) (wName 5))
  (wSeq (wAsg (wCat (wVar 5) (wLst (wCons (wBin gAdd (wVar 1) (wC (.str "\n"))) (wCons (wBin gAdd (wVar 1) (wC (.str " "))) (wCons (wBin gAdd (wC (.str " ")) (wVar 1)) (wCons (wSl (wBin gAdd (wVar 1) (wC (.str "abc4efgh"))) (wNoP) (wPart (wBin gAdd (wC (.int 7)) (wCall fs__law_take [.s, .d] (wCons (wVar 0) (wCons (wC (.int 3)) (wNil))))))) (wCons (wBin gAdd (wVar 2) (wVar 2)) (wNil)))))))) (wName 5))
  (w__law_texts_t4))
def w__law_texts_t6 : WS := wSeq (wAsg (wCall fs__law_take [.s, .d] (wCons (wVar 0) (wCons (wBin gAdd (wFn gLen (wCons (wVar 1) (wNil))) (wC (.int 1))) (wNil)))) (wName 4))
  (w__law_texts_t5)
def w__law_texts_t7 : WS := wSeq (wAsg (wCall fs__law_pick [.s, .d] (wCons (wVar 0) (wCons (wListS (wCons (wCall fs__law_signs [] (wNil)) (wNil))) (wNil)))) (wName 3))
  (w__law_texts_t6)
def w__law_texts_t8 : WS := wSeq (wAsg (wCall fs__law_pick [.s, .d] (wCons (wVar 0) (wCons (wCall fs__law_kept [] (wNil)) (wNil)))) (wName 2))
  (w__law_texts_t7)
def w__law_texts : WS := wSeq (wAsg (wCall fs__law_word [.d, .d] (wCons (wCall fs__law_take [.s, .d] (wCons (wVar 0) (wCons (wC (.int 6)) (wNil)))) (wCons (wCall fs__law_take [.s, .d] (wCons (wVar 0) (wCons (wC (.int 144)) (wNil)))) (wNil)))) (wName 1))
  (w__law_texts_t8)
def w_law_t1 (K : PySem.W.Frag) (c : Ca) : WS := wInsS (wIx (wVar 4) (wC (.int 1))) (wC (.int 0)) (wC (.str "y"))
def w_law_t2 (K : PySem.W.Frag) (c : Ca) : WS := wIf (wNot (wTru (wCall fs__law_same [.r, .r] (wCons (wCall (fs__law_told c) [.d] (wCons (wVar 5) (wNil))) (wCons (wCall fs__law_due [.d] (wCons (wVar 5) (wNil))) (wNil)))))) (wRet (wC (.bl false))) (wNext)
def w_law_b1 (K : PySem.W.Frag) (c : Ca) : WS := wIf (wNot (wTru (wCall fs__law_same [.r, .r] (wCons (wCall fs_is_spelling [.d] (wCons (wVar 5) (wNil))) (wCons (wCall fs__law_spelling [.d] (wCons (wVar 5) (wNil))) (wNil)))))) (wRet (wC (.bl false))) (wNext)
def w_law_t3 (K : PySem.W.Frag) (c : Ca) : WS := wRet (wCall fs__law_same [.r, .r] (wCons (wCall (fs__law_told c) [.d] (wCons (wVar 3) (wNil))) (wCons (wCall fs__law_due [.d] (wCons (wVar 3) (wNil))) (wNil))))
def w_law_t4 (K : PySem.W.Frag) (c : Ca) : WS := wSeq (wFor (wIList (wCall fs__law_texts [.s] (wCons (wVar 1) (wNil)))) (wName 5) (w_law_b1 K c))
  (w_law_t3 K c)
def w_law_t5 (K : PySem.W.Frag) (c : Ca) : WS := wSeq (wIf (wCmpT gEq (wCall fs__law_take [.s, .d] (wCons (wVar 1) (wCons (wC (.int 16)) (wNil)))) (wC (.int 0))) (wSeq (wAsg (wCall fs__law_long [.s] (wCons (wVar 1) (wNil))) (wName 5))
  (w_law_t2 K c)) (wNext))
  (w_law_t4 K c)
def w_law_t6 (K : PySem.W.Frag) (c : Ca) : WS := wSeq (wIf (wOr (wNot (wTru (wCall fs__law_same [.r, .r] (wCons (wCall (fs__law_told c) [.d] (wCons (wIx (wVar 2) (wC (.int 0))) (wNil))) (wCons (wIx (wVar 2) (wC (.int 1))) (wNil)))))) (wNot (wTru (wCall fs__law_same [.r, .r] (wCons (wCall (fs__law_told c) [.d] (wCons (wC (.str "")) (wNil))) (wCons (wLst (wCons (wC (.str "words")) (wCons (wLst (wNil)) (wNil)))) (wNil))))))) (wRet (wC (.bl false))) (wNext))
  (w_law_t5 K c)
def w_law_t7 (K : PySem.W.Frag) (c : Ca) : WS := wSeq (wIf (wCmpT gEq (wIx (wVar 4) (wC (.int 0))) (wC (.str "words"))) (wSeq (wApp (wIx (wVar 4) (wC (.int 1))) (wC (.str "x")))
  (w_law_t1 K c)) (wNext))
  (w_law_t6 K c)
def w_law_t8 (K : PySem.W.Frag) (c : Ca) : WS := wSeq (wIf (wOr (wNot (wTru (wCall fs__law_same [.r, .r] (wCons (wVar 4) (wCons (wIx (wVar 2) (wC (.int 1))) (wNil)))))) (wNot (wTru (wCall fs__law_same [.r, .r] (wCons (wCall (fs__law_told c) [.d] (wCons (wVar 3) (wNil))) (wCons (wCall fs__law_due [.d] (wCons (wVar 3) (wNil))) (wNil))))))) (wRet (wC (.bl false))) (wNext))
  (w_law_t7 K c)
def w_law_t9 (K : PySem.W.Frag) (c : Ca) : WS := wSeq (wAsg (wCall (fs__law_told c) [.d] (wCons (wIx (wVar 2) (wC (.int 0))) (wNil))) (wName 4))
  (w_law_t8 K c)
def w_law_t10 (K : PySem.W.Frag) (c : Ca) : WS := wSeq (wAsg (wCall fs__law_loose [.s] (wCons (wVar 1) (wNil))) (wName 3))
  (w_law_t9 K c)
def w_law (K : PySem.W.Frag) (c : Ca) : WS := wSeq (wFz 2 (wAsg (wCall fs__law_made [.s] (wCons (wVar 1) (wNil))) (wName 2)))
  (w_law_t10 K c)

/-! ## words of a text, plain -/
theorem toks_nil : toks [] = [] := by unfold toks; rfl
theorem toks_blk {c : Nat} {r : List Nat} (h : blkC c = true) : toks (c :: r) = toks r := by
  rw [toks.eq_def]
  simp only
  rw [if_pos h]
theorem toks_word {c : Nat} {r : List Nat} (h : blkC c = false) : toks (c :: r) = (c :: r.takeWhile (clsOf c)) :: toks (r.dropWhile (clsOf c)) := by
  rw [toks.eq_def]
  simp only
  rw [if_neg (by rw [h]; simp)]
theorem takeW_app {p : Nat → Bool} : ∀ {r rest : List Nat}, (∀ d ∈ r, p d = true) → (rest = [] ∨ ∃ b q, rest = b :: q ∧ p b = false) → (r ++ rest).takeWhile p = r ∧ (r ++ rest).dropWhile p = rest
  | [], rest, _, hr => by
    rcases hr with rfl | ⟨b, q, rfl, hb⟩
    · exact ⟨rfl, rfl⟩
    · simp [List.takeWhile_cons, List.dropWhile_cons, hb]
  | d :: r, rest, h, hr => by
    have hd := h d (List.mem_cons_self ..)
    obtain ⟨a, b⟩ := takeW_app (r := r) (fun x hx => h x (List.mem_cons_of_mem _ hx)) hr
    simp [List.takeWhile_cons, List.dropWhile_cons, hd, a, b]
/-- a word ends ahead of rest -/
def ends (w rest : List Nat) : Prop := rest = [] ∨ ∃ b q, rest = b :: q ∧ clsOf (w.headD 0) b = false
theorem toks_app {w rest : List Nat} (h : tokW w) (e : ends w rest) : toks (w ++ rest) = w :: toks rest := by
  obtain ⟨c, r, rfl, hb, hr⟩ := h
  obtain ⟨a, b⟩ := takeW_app hr e
  rw [List.cons_append, toks_word hb, a, b]
theorem takeW_all {p : Nat → Bool} : ∀ (l : List Nat), ∀ d ∈ l.takeWhile p, p d = true
  | [], d, h => by cases h
  | a :: l, d, h => by
    rw [List.takeWhile_cons] at h
    split at h
    · rcases List.mem_cons.mp h with rfl | h
      · assumption
      · exact takeW_all l d h
    · cases h
theorem toks_all : ∀ (n : Nat) (l : List Nat), l.length ≤ n → ∀ w ∈ toks l, tokW w
  | 0, l, hl, w, hw => by
    have : l = [] := List.length_eq_zero_iff.mp (by omega)
    subst this
    rw [toks_nil] at hw
    cases hw
  | n + 1, [], _, w, hw => by rw [toks_nil] at hw; cases hw
  | n + 1, c :: r, hl, w, hw => by
    simp at hl
    cases hb : blkC c with
    | true => rw [toks_blk hb] at hw; exact toks_all n r hl w hw
    | false =>
      rw [toks_word hb] at hw
      rcases List.mem_cons.mp hw with rfl | hw
      · exact ⟨c, _, rfl, hb, takeW_all r⟩
      · exact toks_all n _ (Nat.le_trans (dropW_len _ _) hl) w hw
theorem takeW_dropW (p : Nat → Bool) (l : List Nat) : (l.takeWhile p).length + (l.dropWhile p).length = l.length := by
  have := congrArg List.length (List.takeWhile_append_dropWhile (p := p) (l := l))
  rw [List.length_append] at this
  exact this
theorem toks_sum : ∀ (n : Nat) (l : List Nat), l.length ≤ n → ((toks l).map List.length).sum ≤ l.length
  | 0, l, hl => by
    have : l = [] := List.length_eq_zero_iff.mp (by omega)
    subst this
    rw [toks_nil]
    simp
  | n + 1, [], _ => by rw [toks_nil]; simp
  | n + 1, c :: r, hl => by
    simp at hl
    cases hb : blkC c with
    | true =>
      rw [toks_blk hb]
      have := toks_sum n r hl
      simp
      omega
    | false =>
      rw [toks_word hb]
      have a := toks_sum n (r.dropWhile (clsOf c)) (Nat.le_trans (dropW_len _ _) hl)
      have b := takeW_dropW (clsOf c) r
      simp
      omega
theorem tokW_len {w : List Nat} (h : tokW w) : 1 ≤ w.length := by
  obtain ⟨c, r, rfl, _⟩ := h
  simp
theorem len_le_sum : ∀ {ws : List (List Nat)}, (∀ w ∈ ws, 1 ≤ w.length) → ws.length ≤ (ws.map List.length).sum
  | [], _ => by simp
  | w :: ws, h => by
    have a := h w (List.mem_cons_self ..)
    have b := len_le_sum (ws := ws) fun x hx => h x (List.mem_cons_of_mem _ hx)
    simp
    omega
theorem toks_len (l : List Nat) : (toks l).length ≤ l.length :=
  Nat.le_trans (len_le_sum fun w hw => tokW_len (toks_all _ l (Nat.le_refl _) w hw)) (toks_sum _ l (Nat.le_refl _))
theorem firstBad_none : ∀ {ws : List (List Nat)}, firstBad ws = none ↔ ∀ w ∈ ws, sound w = true
  | [] => by simp [firstBad]
  | w :: ws => by
    unfold firstBad
    cases h : sound w with
    | true =>
      rw [if_pos rfl]
      simp [firstBad_none (ws := ws), h]
    | false => simp [h]
theorem firstBad_app : ∀ {ws vs : List (List Nat)}, (∀ w ∈ ws, sound w = true) → firstBad (ws ++ vs) = (firstBad vs).map (· + ws.length)
  | [], vs, _ => by simp
  | w :: ws, vs, h => by
    have a := h w (List.mem_cons_self ..)
    have b := firstBad_app (ws := ws) (vs := vs) fun x hx => h x (List.mem_cons_of_mem _ hx)
    show (if sound w = true then (firstBad (ws ++ vs)).map (· + 1) else some 0) = _
    rw [if_pos a, b, Option.map_map]
    rfl
/-! signs of the constants -/
@[simp] theorem digS_digC (c : Nat) : digS c = digC c := digS_iff c
@[simp] theorem in_dig (c : Nat) : (c ∈ (Str.ofString "0123456789").cps) = (digC c = true) := by rw [in_digs, digS_digC]
theorem letters_cs : (Str.ofString "abcdefghijklmnopqrstuvwxyz").cps.toList = [97, 98, 99, 100, 101, 102, 103, 104, 105, 106, 107, 108, 109, 110, 111, 112, 113, 114, 115, 116, 117, 118, 119, 120, 121, 122] := by decide +kernel
@[simp] theorem in_let (c : Nat) : (c ∈ (Str.ofString "abcdefghijklmnopqrstuvwxyz").cps) = (letC c = true) := by
  rw [← Array.mem_toList_iff, letters_cs]
  unfold letC
  rw [Bool.and_eq_true, decide_eq_true_eq, decide_eq_true_eq]
  refine propext ?_
  simp only [List.mem_cons, List.not_mem_nil, or_false]
  omega
@[simp] theorem in_blk (c : Nat) : (c ∈ (Str.ofString " \n").cps) = (blkC c = true) := by
  have e : (Str.ofString " \n").cps.toList = [32, 10] := by decide +kernel
  rw [← Array.mem_toList_iff, e]
  unfold blkC
  rw [Bool.or_eq_true, decide_eq_true_eq, decide_eq_true_eq]
  simp
@[simp] theorem in_mark (c : Nat) : (c ∈ (Str.ofString "(){};").cps) = (c ∈ [40, 41, 123, 125, 59]) := by
  have e : (Str.ofString "(){};").cps.toList = [40, 41, 123, 125, 59] := by decide +kernel
  rw [← Array.mem_toList_iff, e]
theorem cs_app (a b : Str) : cs (a ++ b) = cs a ++ cs b := TL.tl_append a b
theorem cs_len (a : Str) : (cs a).length = a.length := Array.length_toList
theorem cs_letdig : (fun c => decide (c ∈ cs (Str.ofString "abcdefghijklmnopqrstuvwxyz" ++ Str.ofString "0123456789"))) = fun c => letC c || digC c := by
  funext c
  rw [cs_app, Bool.eq_iff_iff, decide_eq_true_eq, List.mem_append, Bool.or_eq_true]
  have a := in_let c
  have b := in_dig c
  rw [← Array.mem_toList_iff] at a b
  rw [a, b]
theorem cs_dig : (fun c => decide (c ∈ cs (Str.ofString "0123456789"))) = digC := by
  funext c
  rw [Bool.eq_iff_iff, decide_eq_true_eq]
  have b := in_dig c
  rw [← Array.mem_toList_iff] at b
  rw [← b]
theorem sign_is {c : Nat} {s : String} {d : Nat} (h : Str.ofString s = ⟨#[d]⟩) : ((⟨#[c]⟩ : Str) = Str.ofString s) = (c = d) := by
  rw [h, sign_eq]

theorem atI_cs {t : Str} {j : Nat} (h : j < t.length) : atI t.cps.toList (j : Int) = some ((cs t)[j]'(by rw [cs_len]; exact h)) := by
  unfold atI
  have hl : j < t.cps.toList.length := by rw [cs_len t]; exact h
  rw [ixN_n hl]
  show t.cps.toList[j]? = _
  rw [List.getElem?_eq_getElem hl]
theorem drop_cs {l : List Nat} {j : Nat} (h : j < l.length) : l.drop j = l[j] :: l.drop (j + 1) := List.drop_eq_getElem_cons h
theorem pl_run_end (as Qd xd) (h : fs_run_end as Qd xd) : w_run_end (xpOf xd) (postOf Qd) (slots as 3) := by
  obtain ⟨t, k, sg, rfl, hk, hl, h⟩ := h
  have hs : t.length ≤ sizeLine := Nat.le_trans hl (by decide)
  simp [-postOf, w_run_end]
  obtain ⟨I, hI⟩ : ∃ I : Nat → List DL.Slot → Prop, ∀ m S, I m S ↔ ∃ j : Nat, S = [.dat (.str t), .dat (.int j), .dat (.str sg)] ∧ m = t.length - j ∧ j ≤ t.length ∧ j + (((cs t).drop j).takeWhile fun c => decide (c ∈ cs sg)).length = k + (((cs t).drop k).takeWhile fun c => decide (c ∈ cs sg)).length := ⟨_, fun _ _ => Iff.rfl⟩
  refine ⟨I, ⟨_, (hI _ _).mpr ⟨k, rfl, rfl, hk, rfl⟩⟩, fun m S hS => ?_⟩
  obtain ⟨j, rfl, hm, hj, e⟩ := (hI _ _).mp hS
  have fin : (((cs t).drop j).takeWhile fun c => decide (c ∈ cs sg)) = [] → w_run_end_t1 (xpOf xd) (postOf Qd) [Slot.dat (D.str t), Slot.dat (D.int ↑j), Slot.dat (D.str sg)] := fun z => by
    rw [z] at e
    rw [← e] at h
    simp [w_run_end_t1]
    simpa using h
  simp [-postOf]
  refine ⟨hs, ?_⟩
  split
  · rename_i z
    have hj' : j < (cs t).length := by rw [cs_len]; exact z
    refine ⟨hs, _, atI_cs z, ?_⟩
    rw [drop_cs hj'] at e fin
    split
    · rename_i y
      rw [← Array.mem_toList_iff] at y
      rw [List.takeWhile_cons_of_pos (by rw [decide_eq_true_eq]; exact y)] at e
      simp [-postOf, w_run_end_b1]
      refine ⟨t.length - (j + 1), by omega, (hI _ _).mpr ⟨j + 1, by simp, rfl, by omega, ?_⟩⟩
      simp at e ⊢
      omega
    · rename_i y
      rw [← Array.mem_toList_iff] at y
      exact fin (List.takeWhile_cons_of_neg (by rw [decide_eq_true_eq]; exact y))
  · rename_i z
    have hj' : (cs t).length ≤ j := by rw [cs_len]; omega
    exact fin (by rw [List.drop_eq_nil_of_le hj']; rfl)
theorem runE {t : Str} {k : Nat} {sg : Str} {Q : Rt → Prop} {xd : Addr → List (Str × D) → Prop} (hk : k ≤ t.length) (hl : t.length ≤ 1000000) (h : Q (.dat (.int (k + (((cs t).drop k).takeWhile fun c => decide (c ∈ cs sg)).length : Nat)))) : fs_run_end [.dat (.str t), .dat (.int (k : Nat)), .dat (.str sg)] Q xd := ⟨t, k, sg, rfl, hk, hl, h⟩
theorem pl_word_end (as Qd xd) (h : fs_word_end as Qd xd) : w_word_end (xpOf xd) (postOf Qd) (slots as 2) := by
  obtain ⟨t, k, c, rfl, hc, hl, h⟩ := h
  have hs : t.length ≤ sizeLine := Nat.le_trans hl (by decide)
  have hk : k < t.length := by rw [← cs_len]; exact (List.getElem?_eq_some_iff.mp hc).1
  have ha : atI t.cps.toList (k : Int) = some c := by
    rw [atI_cs hk]
    rw [List.getElem?_eq_getElem (by rw [cs_len]; exact hk)] at hc
    exact hc
  simp [-postOf, w_word_end]
  refine ⟨hs, c, ha, ?_⟩
  split
  · rename_i z
    have e : clsOf c = fun d => letC d || digC d := by unfold clsOf; rw [if_pos z]
    rw [e, ← cs_letdig] at h
    refine ⟨by decide +kernel, ?_⟩
    rw [show ((k : Int) + 1) = ((k + 1 : Nat) : Int) by omega]
    refine runE (by omega) hl ?_
    simp
    simpa using h
  · rename_i z
    have zf : letC c = false := by simpa using z
    simp [-postOf, w_word_end_t2]
    refine ⟨hs, c, ha, ?_⟩
    have dig : (digC c || decide (c = 45)) = true → fs_run_end [.dat (.str t), .dat (.int ((k : Int) + 1)), .dat (.str (Str.ofString "0123456789"))] (fun r => (postOf Qd).rt r.w [Slot.dat (D.str t), Slot.dat (D.int ↑k)]) (fun C f => xd C f) := fun y => by
      have e : clsOf c = digC := by unfold clsOf; rw [if_neg z, if_pos y]
      rw [e, ← cs_dig] at h
      rw [show ((k : Int) + 1) = ((k + 1 : Nat) : Int) by omega]
      refine runE (by omega) hl ?_
      simp
      simpa using h
    have t1 : (digC c || decide (c = 45)) = false → w_word_end_t1 (xpOf xd) (postOf Qd) [Slot.dat (D.str t), Slot.dat (D.int ↑k)] := fun y => by
      have e : clsOf c = fun _ => false := by unfold clsOf; rw [if_neg z, if_neg (by rw [y]; simp)]
      rw [e] at h
      have e2 : ((cs t).drop (k + 1)).takeWhile (fun _ => false) = [] := by
        cases (cs t).drop (k + 1) <;> rfl
      rw [e2] at h
      simp [w_word_end_t1]
      simpa using h
    have minus : Str.ofString "-" = ⟨#[45]⟩ := by decide +kernel
    split
    · rename_i y
      exact dig (by rw [y]; rfl)
    · rename_i y
      have yf : digC c = false := by simpa using y
      refine ⟨hs, c, ha, ?_⟩
      split
      · rename_i x
        rw [minus, sign_eq] at x
        exact dig (by rw [x]; decide)
      · rename_i x
        rw [minus, sign_eq] at x
        exact t1 (by rw [yf, decide_eq_false x]; rfl)
theorem wendE {t : Str} {k c : Nat} {Q : Rt → Prop} {xd : Addr → List (Str × D) → Prop} (hc : (cs t)[k]? = some c) (hl : t.length ≤ 1000000) (h : Q (.dat (.int (k + 1 + (((cs t).drop (k + 1)).takeWhile (clsOf c)).length : Nat)))) : fs_word_end [.dat (.str t), .dat (.int (k : Nat))] Q xd := ⟨t, k, c, rfl, hc, hl, h⟩
theorem cs_cut (t : Str) (lo hi : Option Int) : cs (cutS t lo hi) = cutG (cs t) lo hi := by
  have e : (cs t).length = t.length := cs_len t
  unfold cutG
  rw [e]
  rfl
theorem cut_from (l : List Nat) (k : Nat) : cutG l (some (k : Int)) none = l.drop k := by
  unfold cutG
  rw [HT.sIx_nat]
  show (l.drop (min k l.length)).take (l.length - min k l.length) = _
  rcases Nat.le_total k l.length with h | h
  · rw [Nat.min_eq_left h]
    exact List.take_of_length_le (by rw [List.length_drop]; omega)
  · rw [Nat.min_eq_right h, List.drop_eq_nil_of_le h]
    simp
theorem cut_mid (l : List Nat) {k e : Nat} (h : k ≤ e) (he : e ≤ l.length) : cutG l (some (k : Int)) (some (e : Int)) = (l.drop k).take (e - k) := by
  unfold cutG
  have a : min k l.length = k := Nat.min_eq_left (by omega)
  rw [HT.sIx_nat, HT.sIx_nat, a, Nat.min_eq_left he]
def numT (w ds : List Nat) : Bool := match ds with
  | [] => false
  | d :: r => if 9 < r.length + 1 then false else if d = 48 then decide (w = [48]) else true
theorem numOk_eq (c : Nat) (r : List Nat) : numOk (c :: r) = numT (c :: r) (if c = 45 then r else c :: r) := by
  unfold numOk numT
  by_cases h : c = 45
  · subst h
    rw [if_pos rfl]
    cases r <;> rfl
  · rw [if_neg h]
    split
    · rename_i e
      injection e with e1 _
      exact absurd e1 h
    · rfl
theorem str_cs {a b : Str} : a = b ↔ cs a = cs b := ⟨fun h => by rw [h], fun h => TL.ext_tl h⟩
theorem minus_eq : Str.ofString "-" = ⟨#[45]⟩ := by decide +kernel
theorem zero_eq : Str.ofString "0" = ⟨#[48]⟩ := by decide +kernel
theorem cs_zero : cs (Str.ofString "0") = [48] := by decide +kernel
theorem cs_head {w : Str} (h : w.length ≠ 0) : ∃ c r, cs w = c :: r := by
  cases e : cs w with
  | nil =>
    have := cs_len w
    rw [e] at this
    exact absurd this.symm h
  | cons c r => exact ⟨c, r, rfl⟩
theorem at_cs0 {w : Str} {c : Nat} {r : List Nat} (e : cs w = c :: r) : atI w.cps.toList 0 = some c := by
  show atI (cs w) ((0 : Nat) : Int) = _
  rw [e]
  unfold atI
  rw [ixN_n (by simp)]
  rfl
theorem pl_is_sound_number (as Qd xd) (h : fs_is_sound_number as Qd xd) : w_is_sound_number (xpOf xd) (postOf Qd) (slots as 2) := by
  obtain ⟨w, rfl, hl, hn, h⟩ := h
  have hs : w.length ≤ sizeLine := Nat.le_trans hl (by decide)
  obtain ⟨c, r, ew⟩ := cs_head hn
  rw [ew, numOk_eq] at h
  have t3 : ∀ ds : Str, ds.length ≤ w.length → Qd (Rt.dat (D.bl (numT (cs w) (cs ds)))) → w_is_sound_number_t3 (xpOf xd) (postOf Qd) [Slot.dat (D.str w), Slot.dat (D.str ds)] := fun ds hd hq => by
    have hs2 : ds.length ≤ sizeLine := by omega
    simp [-postOf, w_is_sound_number_t3, hs2]
    split
    · rename_i z
      have e : cs ds = [] := List.length_eq_zero_iff.mp (by rw [cs_len]; exact z)
      rw [e] at hq
      simp
      exact hq
    · rename_i z
      obtain ⟨d, q, ed⟩ := cs_head z
      have lq : q.length + 1 = ds.length := by rw [← cs_len, ed]; rfl
      rw [ed] at hq
      unfold numT at hq
      dsimp only at hq
      split
      · rename_i y
        rw [if_pos (by omega)] at hq
        simp
        exact hq
      · rename_i y
        rw [if_neg (by omega)] at hq
        simp [-postOf, w_is_sound_number_t2, hs2]
        refine ⟨d, at_cs0 ed, ?_⟩
        split
        · rename_i x
          rw [zero_eq, sign_eq] at x
          rw [if_pos x] at hq
          have e : (w = Str.ofString "0") = (cs w = [48]) := by rw [str_cs, cs_zero]
          simp [e]
          exact hq
        · rename_i x
          rw [zero_eq, sign_eq] at x
          rw [if_neg x] at hq
          simp [w_is_sound_number_t1]
          exact hq
  simp [-postOf, w_is_sound_number]
  refine ⟨hs, c, at_cs0 ew, ?_⟩
  split
  · rename_i z
    rw [minus_eq, sign_eq] at z
    rw [if_pos z] at h
    refine ⟨hs, t3 _ (cutS_length _ _ _) ?_⟩
    have := cut_from (cs w) 1
    rw [cs_cut, show (some (1 : Int)) = some ((1 : Nat) : Int) from rfl, this, ew]
    exact h
  · rename_i z
    rw [minus_eq, sign_eq] at z
    rw [if_neg z] at h
    refine t3 w (Nat.le_refl _) ?_
    rw [ew]
    exact h
theorem numE {w : Str} {Q : Rt → Prop} {xd : Addr → List (Str × D) → Prop} (hl : w.length ≤ 1000000) (hn : w.length ≠ 0) (h : Q (.dat (.bl (numOk (cs w))))) : fs_is_sound_number [.dat (.str w)] Q xd := ⟨w, rfl, hl, hn, h⟩
theorem pl_is_sound (as Qd xd) (h : fs_is_sound as Qd xd) : w_is_sound (xpOf xd) (postOf Qd) (slots as 1) := by
  obtain ⟨w, rfl, hl, tk, h⟩ := h
  have hs : w.length ≤ sizeLine := Nat.le_trans hl (by decide)
  obtain ⟨c, r, ew, hb, hr⟩ := tk
  have lw : r.length + 1 = w.length := by rw [← cs_len, ew]; rfl
  rw [ew] at h
  unfold sound at h
  dsimp only at h
  simp [-postOf, w_is_sound]
  refine ⟨hs, c, at_cs0 ew, ?_⟩
  split
  · rename_i z
    rw [if_pos z] at h
    simp
    refine ⟨hs, ?_⟩
    have e : ((w.length : Int) ≤ 8) = (r.length + 1 ≤ 8) := by rw [← lw]; exact propext ⟨fun _ => by omega, fun _ => by omega⟩
    simp [e]
    simpa using h
  · rename_i z
    rw [if_neg z] at h
    have nu : (digC c || decide (c = 45)) = true → fs_is_sound_number [.dat (.str w)] (fun r => (postOf Qd).rt r.w [Slot.dat (D.str w)]) (fun C f => xd C f) := fun y => by
      rw [if_pos y, ← ew] at h
      refine numE hl (by omega) ?_
      simp
      exact h
    simp [-postOf, w_is_sound_t2, hs]
    refine ⟨c, at_cs0 ew, ?_⟩
    split
    · rename_i y
      exact nu (by rw [y]; rfl)
    · rename_i y
      have yf : digC c = false := by simpa using y
      refine ⟨c, at_cs0 ew, ?_⟩
      split
      · rename_i x
        rw [minus_eq, sign_eq] at x
        exact nu (by rw [x]; decide)
      · rename_i x
        rw [minus_eq, sign_eq] at x
        have cf : (digC c || decide (c = 45)) = false := by rw [yf, decide_eq_false x]; rfl
        rw [if_neg (by rw [cf]; simp)] at h
        have er : r = [] := by
          cases r with
          | nil => rfl
          | cons d q =>
            have := hr d (List.mem_cons_self ..)
            unfold clsOf at this
            rw [if_neg z, if_neg (by rw [cf]; simp)] at this
            cases this
        subst er
        have w1 : w = ⟨#[c]⟩ := str_cs.mpr ew
        simp [w_is_sound_t1]
        exact ⟨c, w1, by simpa using h⟩
theorem soundE {w : Str} {Q : Rt → Prop} {xd : Addr → List (Str × D) → Prop} (hl : w.length ≤ 1000000) (hn : tokW (cs w)) (h : Q (.dat (.bl (sound (cs w))))) : fs_is_sound [.dat (.str w)] Q xd := ⟨w, rfl, hl, hn, h⟩
theorem takeW_len_all {p : Nat → Bool} : ∀ l : List Nat, decide ((l.takeWhile p).length = l.length) = l.all p
  | [] => rfl
  | a :: l => by
    rw [List.takeWhile_cons, List.all_cons]
    cases h : p a with
    | true =>
      rw [if_pos rfl, ← takeW_len_all l]
      simp
    | false =>
      rw [if_neg (by simp)]
      simp
theorem pl_is_spelling (as Qd xd) (h : fs_is_spelling as Qd xd) : w_is_spelling (xpOf xd) (postOf Qd) (slots as 1) := by
  obtain ⟨t, rfl, hl, h⟩ := h
  have hs : t.length ≤ sizeLine := Nat.le_trans hl (by decide)
  simp [-postOf, w_is_spelling, hs]
  split
  · rename_i z
    have e : cs t = [] := List.length_eq_zero_iff.mp (by rw [cs_len]; rw [str0] at z; exact z)
    unfold spell at h
    rw [e] at h
    simp
    exact h
  · rename_i z
    rw [str0] at z
    obtain ⟨c, r, et⟩ := cs_head z
    have lt : r.length + 1 = t.length := by rw [← cs_len, et]; rfl
    unfold spell at h
    rw [et] at h
    dsimp only at h
    split
    · rename_i y
      rw [decide_eq_false (p := r.length + 1 ≤ 8) (by omega)] at h
      simp
      exact h
    · rename_i y
      rw [decide_eq_true (p := r.length + 1 ≤ 8) (by omega)] at h
      have ek : inS (D.str t) [D.str (Str.ofString "proc"), D.str (Str.ofString "names"), D.str (Str.ofString "say"), D.str (Str.ofString "get"), D.str (Str.ofString "set"), D.str (Str.ofString "add"), D.str (Str.ofString "call"), D.str (Str.ofString "leave"), D.str (Str.ofString "maybe"), D.str (Str.ofString "often")] = decide (t ∈ keptW) := inS_strs t keptW
      simp [-postOf, w_is_spelling_t2, ek]
      refine ⟨hs, c, at_cs0 et, ?_⟩
      split
      · rename_i x
        rw [x] at h
        split
        · rename_i v
          rw [decide_eq_true v] at h
          simp
          exact h
        · rename_i v
          rw [decide_eq_false v] at h
          simp [-postOf, w_is_spelling_t1]
          refine ⟨by decide +kernel, ?_⟩
          rw [show (1 : Int) = ((1 : Nat) : Int) from rfl]
          refine runE (by omega) hl ?_
          rw [cs_letdig, et]
          simp [hs]
          have e : ((1 : Int) + ((r.takeWhile fun c => letC c || digC c).length : Int) = (t.length : Int)) = ((r.takeWhile fun c => letC c || digC c).length = r.length) := by rw [← lt]; exact propext ⟨fun _ => by omega, fun _ => by omega⟩
          simp only [e]
          rw [takeW_len_all]
          simpa using h
      · rename_i x
        have xf : letC c = false := by simpa using x
        rw [xf] at h
        simp
        exact h

theorem take_tw {p : Nat → Bool} : ∀ l : List Nat, l.take (l.takeWhile p).length = l.takeWhile p
  | [] => rfl
  | a :: l => by
    rw [List.takeWhile_cons]
    split
    · show a :: l.take _ = _
      rw [take_tw l]
    · rfl
theorem drop_tw {p : Nat → Bool} : ∀ l : List Nat, l.drop (l.takeWhile p).length = l.dropWhile p
  | [] => rfl
  | a :: l => by
    rw [List.takeWhile_cons, List.dropWhile_cons]
    split
    · exact drop_tw l
    · rfl
theorem wordsD_app (ws : List (List Nat)) (w : List Nat) : dStrs (ws.map SX.S) ++ [.str (SX.S w)] = dStrs ((ws ++ [w]).map SX.S) := by rw [dStrs_snoc]; simp
theorem pl_split_words (K : PySem.W.Frag) (c : Ca) (kf : Kf K c) (as Qd xd) (h : fs_split_words c as Qd xd) : w_split_words K c (xpOf xd) (postOf Qd) (slots as 5) := by
  obtain ⟨t, rfl, hl, h⟩ := h
  have hs : t.length ≤ sizeLine := Nat.le_trans hl (by decide)
  simp [-postOf, w_split_words]
  refine ⟨hs, ?_⟩
  split
  · rename_i z
    rw [if_pos (by omega)] at h
    exact h
  rename_i z
  rw [if_neg (by omega)] at h
  simp [-postOf, w_split_words_t3]
  intro a1
  obtain ⟨I, hI⟩ : ∃ I : Nat → List DL.Slot → Prop, ∀ m S, I m S ↔ ∃ (j : Nat) (ws : List (List Nat)) (x3 x4 : DL.Slot), S = [.dat (.str t), .own a1 (.fl (dStrs (ws.map SX.S))), .dat (.int j), x3, x4] ∧ m = t.length - j ∧ j ≤ t.length ∧ (∀ w ∈ ws, sound w = true) ∧ toks (cs t) = ws ++ toks ((cs t).drop j) := ⟨_, fun _ _ => Iff.rfl⟩
  refine ⟨I, ⟨_, (hI _ _).mpr ⟨0, [], _, _, rfl, rfl, Nat.zero_le _, by simp, rfl⟩⟩, fun m S hS => ?_⟩
  obtain ⟨j, ws, x3, x4, rfl, hm, hj, hw, et⟩ := (hI _ _).mp hS
  simp [-postOf]
  refine ⟨hs, ?_⟩
  split
  · rename_i y
    have hj' : j < (cs t).length := by rw [cs_len]; exact y
    have ec := drop_cs hj'
    have ha := atI_cs y
    have hc : (cs t)[j]? = some (cs t)[j] := List.getElem?_eq_getElem hj'
    generalize (cs t)[j] = c0 at ec ha hc
    simp [-postOf, w_split_words_b1]
    refine ⟨hs, c0, ha, ?_⟩
    split
    · rename_i b
      refine ⟨t.length - (j + 1), by omega, (hI _ _).mpr ⟨j + 1, ws, x3, x4, by simp, rfl, by omega, hw, ?_⟩⟩
      rw [et, ec, toks_blk b]
    · rename_i b
      have b : blkC c0 = false := by simpa using b
      refine wendE hc hl ?_
      simp [-postOf]
      have ln : ((cs t).drop (j + 1)).length = t.length - (j + 1) := by rw [List.length_drop, cs_len]
      have twl := takeW_dropW (clsOf c0) ((cs t).drop (j + 1))
      have tt := take_tw (p := clsOf c0) ((cs t).drop (j + 1))
      have dt := drop_tw (p := clsOf c0) ((cs t).drop (j + 1))
      have tw := toks_word (r := (cs t).drop (j + 1)) b
      have tk : tokW (c0 :: ((cs t).drop (j + 1)).takeWhile (clsOf c0)) := ⟨c0, _, rfl, b, takeW_all _⟩
      rw [show ((j : Int) + 1 + ((((cs t).drop (j + 1)).takeWhile (clsOf c0)).length : Int)) = ((j + 1 + (((cs t).drop (j + 1)).takeWhile (clsOf c0)).length : Nat) : Int) by omega]
      have ew : cs (cutS t (some (j : Int)) (some ((j + 1 + (((cs t).drop (j + 1)).takeWhile (clsOf c0)).length : Nat) : Int))) = c0 :: ((cs t).drop (j + 1)).takeWhile (clsOf c0) := by
        rw [cs_cut, cut_mid _ (by omega) (by rw [cs_len]; omega), ec, show j + 1 + (((cs t).drop (j + 1)).takeWhile (clsOf c0)).length - j = (((cs t).drop (j + 1)).takeWhile (clsOf c0)).length + 1 by omega, List.take_succ_cons, tt]
      have lw := cutS_length t (some (j : Int)) (some ((j + 1 + (((cs t).drop (j + 1)).takeWhile (clsOf c0)).length : Nat) : Int))
      have ed : (cs t).drop (j + 1 + (((cs t).drop (j + 1)).takeWhile (clsOf c0)).length) = ((cs t).drop (j + 1)).dropWhile (clsOf c0) := by
        rw [← dt, List.drop_drop]
      generalize cutS t (some (j : Int)) (some ((j + 1 + (((cs t).drop (j + 1)).takeWhile (clsOf c0)).length : Nat) : Int)) = word at ew lw
      have le : j + 1 + (((cs t).drop (j + 1)).takeWhile (clsOf c0)).length ≤ t.length := by omega
      rw [← ed] at tw
      generalize ((cs t).drop (j + 1)).takeWhile (clsOf c0) = r0 at *
      refine ⟨hs, soundE (by omega) (by rw [ew]; exact tk) ?_⟩
      rw [ew]
      simp [-postOf]
      rw [ec, tw] at et
      have lws : ws.length ≤ 12000 := by
        have := toks_len (cs t)
        rw [et, cs_len, List.length_append] at this
        omega
      split
      · rename_i x
        simp [-postOf, w_split_words_t1]
        refine ⟨by omega, t.length - (j + 1 + r0.length), by omega, (hI _ _).mpr ⟨j + 1 + r0.length, ws ++ [c0 :: r0], .dat (.int ((j : Int) + 1 + r0.length)), .dat (.str word), ?_, rfl, le, fun v hv => ?_, by rw [et]; simp⟩⟩
        · have e1 : SX.S (c0 :: r0) = word := by rw [← ew]
          rw [← wordsD_app, e1, show ((j + 1 + r0.length : Nat) : Int) = (j : Int) + 1 + r0.length by omega]
        · rcases List.mem_append.mp hv with hv | hv
          · exact hw v hv
          · rw [List.mem_singleton.mp hv]
            exact x
      · rename_i x
        have x : sound (c0 :: r0) = false := by simpa using x
        have fb : firstBad (toks (cs t)) = some ws.length := by
          rw [et, firstBad_app hw]
          unfold firstBad
          rw [x]
          simp
        rw [fb] at h
        exact h
  · rename_i y
    have e : (cs t).drop j = [] := List.drop_eq_nil_of_le (by rw [cs_len]; omega)
    rw [e, toks_nil, List.append_nil] at et
    have fb : firstBad (toks (cs t)) = none := by rw [et]; exact firstBad_none.mpr hw
    rw [fb] at h
    dsimp only at h
    unfold wordsD at h
    rw [et] at h
    simp [w_split_words_t2]
    exact h

/-! ## the law's own cutting -/
inductive Cur : List Nat → Int → Prop
  | nil : Cur [] 0
  | let1 {c : Nat} {r : List Nat} : letC c = true → (∀ d ∈ r, clsOf c d = true) → Cur (c :: r) 1
  | dig {c : Nat} {r : List Nat} : letC c = false → (digC c || decide (c = 45)) = true → (∀ d ∈ r, clsOf c d = true) → Cur (c :: r) 2
def curL : List Nat → List (List Nat)
  | [] => []
  | c :: r => [c :: r]
theorem let_blk {c : Nat} (h : letC c = true) : blkC c = false := by
  unfold letC at h
  unfold blkC
  simp at h ⊢
  omega
theorem dig_blk {c : Nat} (h : (digC c || decide (c = 45)) = true) : blkC c = false := by
  unfold digC at h
  unfold blkC
  simp at h ⊢
  omega
theorem cls_let {c : Nat} (h : letC c = true) : clsOf c = fun d => letC d || digC d := by unfold clsOf; rw [if_pos h]
theorem cls_dig {c : Nat} (h : letC c = false) (h2 : (digC c || decide (c = 45)) = true) : clsOf c = digC := by unfold clsOf; rw [if_neg (by rw [h]; simp), if_pos h2]
theorem Cur.tok {cur : List Nat} {m : Int} (h : Cur cur m) : cur = [] ∨ tokW cur := by
  cases h with
  | nil => exact .inl rfl
  | let1 h1 h2 => exact .inr ⟨_, _, rfl, let_blk h1, h2⟩
  | dig h1 h2 h3 => exact .inr ⟨_, _, rfl, dig_blk h2, h3⟩
/-- the current word does not go on -/
theorem Cur.stop {cur : List Nat} {m : Int} {s : Nat} {rest : List Nat} (h : Cur cur m) (hn : ¬ ((m = 1 ∧ (letC s = true ∨ digC s = true)) ∨ (m = 2 ∧ digC s = true))) : toks (cur ++ s :: rest) = curL cur ++ toks (s :: rest) := by
  cases h with
  | nil => rfl
  | let1 h1 h2 =>
    refine toks_app ⟨_, _, rfl, let_blk h1, h2⟩ (.inr ⟨s, rest, rfl, ?_⟩)
    simp only [List.headD_cons]
    rw [cls_let h1]
    cases a : letC s with
    | true => exact absurd (.inl ⟨rfl, .inl a⟩) hn
    | false =>
      cases b : digC s with
      | true => exact absurd (.inl ⟨rfl, .inr b⟩) hn
      | false => simp [a, b]
  | dig h1 h2 h3 =>
    refine toks_app ⟨_, _, rfl, dig_blk h2, h3⟩ (.inr ⟨s, rest, rfl, ?_⟩)
    simp only [List.headD_cons]
    rw [cls_dig h1 h2]
    cases b : digC s with
    | true => exact absurd (.inr ⟨rfl, b⟩) hn
    | false => rfl
theorem Cur.more {cur : List Nat} {m : Int} {s : Nat} (h : Cur cur m) (hy : (m = 1 ∧ (letC s = true ∨ digC s = true)) ∨ (m = 2 ∧ digC s = true)) : Cur (cur ++ [s]) m ∧ cur ≠ [] := by
  cases h with
  | nil => exfalso; rcases hy with h | h <;> omega
  | let1 h1 h2 =>
    refine ⟨.let1 h1 fun d hd => ?_, by simp⟩
    rcases List.mem_append.mp hd with hd | hd
    · exact h2 d hd
    · rw [List.mem_singleton.mp hd, cls_let h1]
      rcases hy with ⟨_, a | a⟩ | ⟨e, _⟩
      · simp [a]
      · simp [a]
      · omega
  | dig h1 h2 h3 =>
    refine ⟨.dig h1 h2 fun d hd => ?_, by simp⟩
    rcases List.mem_append.mp hd with hd | hd
    · exact h3 d hd
    · rw [List.mem_singleton.mp hd, cls_dig h1 h2]
      rcases hy with ⟨e, _⟩ | ⟨_, a⟩
      · omega
      · exact a
theorem cut_key {m : Int} {l d : Bool} {G F : Prop} (hG : ((m = 1 ∧ (l = true ∨ d = true)) ∨ (m = 2 ∧ d = true)) → G) (hF : ¬ ((m = 1 ∧ (l = true ∨ d = true)) ∨ (m = 2 ∧ d = true)) → F) :
    if m = 1 then (if l = true then G else if d = true then G else if m = 2 then (if d = true then G else F) else F) else if m = 2 then (if d = true then G else F) else F := by
  by_cases h1 : m = 1
  · rw [if_pos h1]
    have h2 : ¬ m = 2 := by omega
    split
    · rename_i a; exact hG (.inl ⟨h1, .inl a⟩)
    · rename_i a
      split
      · rename_i b; exact hG (.inl ⟨h1, .inr b⟩)
      · rename_i b
        have f : F := hF fun z => by
          rcases z with ⟨_, z | z⟩ | ⟨z, _⟩
          · exact a z
          · exact b z
          · exact h2 z
        first
          | exact f
          | (rw [if_neg h2]; exact f)
  · rw [if_neg h1]
    split
    · rename_i h2
      split
      · rename_i b; exact hG (.inr ⟨h2, b⟩)
      · rename_i b
        exact hF fun z => by
          rcases z with ⟨z, _⟩ | ⟨_, z⟩
          · exact h1 z
          · exact b z
    · rename_i h2
      exact hF fun z => by
        rcases z with ⟨z, _⟩ | ⟨z, _⟩
        · exact h1 z
        · exact h2 z
theorem ix_last (n : Nat) : ixN (n + 1) (-1) = some n := by
  unfold ixN
  simp
  omega
theorem set_last (l : List Str) (x y : Str) : (dStrs (l ++ [x])).set l.length (.str y) = dStrs (l ++ [y]) := by
  rw [dStrs_set]
  simp
theorem S_app (a b : List Nat) : SX.S a ++ SX.S b = SX.S (a ++ b) := SX.S_cat a b
theorem sp_sign : Str.ofString " " = ⟨#[32]⟩ := by decide +kernel
theorem nl_sign : Str.ofString "\n" = ⟨#[10]⟩ := by decide +kernel
theorem pl__law_cut (as Qd xd) (h : fs__law_cut as Qd xd) : w__law_cut (xpOf xd) (postOf Qd) (slots as 6) := by
  obtain ⟨t, rfl, hl, h⟩ := h
  have hs : t.length ≤ sizeLine := Nat.le_trans hl (by decide)
  simp [-postOf, w__law_cut]
  intro a1
  obtain ⟨I, hI⟩ : ∃ I : Nat → List DL.Slot → Prop, ∀ k S, I k S ↔ ∃ (dn : List (List Nat)) (cur : List Nat) (m : Int) (x3 x4 x5 : DL.Slot), S = [.dat (.str t), .own a1 (.fl (dStrs ((dn ++ curL cur).map SX.S))), .dat (.int m), x3, x4, x5] ∧ Cur cur m ∧ (dn ++ curL cur).length ≤ k ∧ toks (cs t) = dn ++ toks (cur ++ (cs t).drop k) := ⟨_, fun _ _ => Iff.rfl⟩
  refine for_str (s := t) (fun Q h => h) I ((hI _ _).mpr ⟨[], [], 0, _, _, _, rfl, .nil, Nat.le_refl _, rfl⟩) (fun k S hk hS => ?_) fun S hS => ?_
  · obtain ⟨dn, cur, m, x3, x4, x5, rfl, hc, hd, et⟩ := (hI _ _).mp hS
    have ed := drop_cs hk
    rw [ed] at et
    have hk2 : k < 50000 := by rw [cs_len] at hk; omega
    generalize t.cps.toList[k] = s at et ed
    simp [-postOf, w__law_cut_b1]
    have mk : ∀ (dn' : List (List Nat)) (cur' : List Nat) (m' : Int) (x3 x4 x5 : DL.Slot) (L : List D), L = dStrs ((dn' ++ curL cur').map SX.S) → Cur cur' m' → (dn' ++ curL cur').length ≤ k + 1 → toks (cs t) = dn' ++ toks (cur' ++ (cs t).drop (k + 1)) → I (k + 1) [.dat (.str t), .own a1 (.fl L), .dat (.int m'), x3, x4, x5] := fun dn' cur' m' x3 x4 x5 L e1 e2 e3 e4 => (hI _ _).mpr ⟨dn', cur', m', x3, x4, x5, by rw [e1], e2, e3, e4⟩
    refine cut_key (fun hy => ?_) fun hn => ?_
    · obtain ⟨hc2, hne⟩ := hc.more hy
      have ecur : curL cur = [cur] := by cases cur with
        | nil => exact absurd rfl hne
        | cons _ _ => rfl
      have ecur2 : curL (cur ++ [s]) = [cur ++ [s]] := by cases cur <;> rfl
      have lt : (SX.S cur).length ≤ 50000 := by
        have a := toks_sum _ (cs t) (Nat.le_refl _)
        have b := hc.tok.resolve_left hne
        obtain ⟨c, r, e, hb, hr⟩ := hc2.tok.resolve_left (by simp)
        rw [show cur ++ s :: t.cps.toList.drop (k + 1) = (cur ++ [s]) ++ t.cps.toList.drop (k + 1) by simp, e, List.cons_append, toks_word hb] at et
        obtain ⟨c1, r1, e1, _⟩ := b
        have lc : cur.length ≤ (c :: (r ++ t.cps.toList.drop (k + 1)).takeWhile (clsOf c)).length := by
          have : cur.length + 1 = r.length + 1 := by have := congrArg List.length e; simpa using this
          have hp : (r ++ t.cps.toList.drop (k + 1)).takeWhile (clsOf c) = r ++ (t.cps.toList.drop (k + 1)).takeWhile (clsOf c) := List.takeWhile_append_of_pos hr
          rw [hp]
          simp
          omega
        rw [et, cs_len] at a
        simp at a lc
        rw [SX.S_len]
        omega
      have sz : 60000 ≤ sizeLine := by decide
      rw [ecur]
      simp only [List.map_cons, List.map_nil, List.length_singleton]
      refine ⟨_, atI_last _ _, ?_⟩
      simp only [egAdd_2]
      refine ⟨by show _ + 1 ≤ _; omega, dn.length, ix_last _, ?_⟩
      rw [show (dn.length) = (dn.map SX.S).length by simp, set_last, S_app]
      refine mk dn (cur ++ [s]) m _ _ _ _ ?_ hc2 (by rw [ecur2]; rw [ecur] at hd; simp at hd ⊢; omega) ?_
      · rw [ecur2, List.map_append]
        rfl
      · rw [et]
        simp
    · rw [hc.stop hn, ← List.append_assoc] at et
      have ldn : (dn ++ curL cur).length ≤ k := hd
      have ll : dn.length + (curL cur).length = (dn ++ curL cur).length := by rw [List.length_append]
      rw [← List.map_append, ll]
      generalize dn ++ curL cur = dw at et ldn
      have blank : blkC s = true → ∀ x3 x4 x5, I (k + 1) [Slot.dat (D.str t), Slot.own a1 (O.fl (dStrs (dw.map SX.S))), Slot.dat (D.int 0), x3, x4, x5] := fun hb x3 x4 x5 => by
        rw [toks_blk hb] at et
        exact mk dw [] 0 _ _ _ _ (by simp [curL]) .nil (by simp [curL]; omega) et
      rw [sp_sign, nl_sign]
      have e1 : ((⟨#[s]⟩ : Str) = ⟨#[32]⟩) = (s = 32) := propext sign_eq
      have e2 : ((⟨#[s]⟩ : Str) = ⟨#[10]⟩) = (s = 10) := propext sign_eq
      have e3 : ((⟨#[s]⟩ : Str) = Str.ofString "-") = (s = 45) := by rw [minus_eq]; exact propext sign_eq
      simp only [e1, e2, e3]
      split
      · rename_i z
        exact blank (by rw [z]; rfl) _ _ _
      split
      · rename_i z
        exact blank (by rw [z]; rfl) _ _ _
      rename_i z1 z2
      have nb : blkC s = false := by unfold blkC; rw [decide_eq_false z1, decide_eq_false z2]; rfl
      have es : dStrs (dw.map SX.S) ++ [D.str ⟨#[s]⟩] = dStrs ((dw ++ [[s]]).map SX.S) := by
        rw [dStrs_snoc, List.map_append]
        rfl
      have cm : ∀ i : Int, (i = 0 ∨ i = 1) → CMul 2 i := fun i hi => by
        rcases hi with rfl | rfl
        · exact cmul_r (by decide)
        · exact cmul_r (by decide)
      refine ⟨by omega, ?_⟩
      split
      · rename_i z
        have nl : letC s = false := by
          unfold digC at z
          unfold letC
          simp at z ⊢
          omega
        refine ⟨cm 1 (.inr rfl), ?_⟩
        rw [nl]
        simp
        exact mk dw [s] 2 _ _ _ _ es (.dig nl (by rw [z]; rfl) (by simp)) (by simp [curL]; omega) et
      · rename_i z
        split
        · rename_i y
          have nl : letC s = false := by rw [y]; decide
          refine ⟨cm 1 (.inr rfl), ?_⟩
          rw [nl]
          simp
          exact mk dw [s] 2 _ _ _ _ es (.dig nl (by rw [y]; decide) (by simp)) (by simp [curL]; omega) et
        · rename_i y
          refine ⟨cm 0 (.inl rfl), ?_⟩
          cases hl : letC s with
          | true =>
            simp
            exact mk dw [s] 1 _ _ _ _ es (.let1 hl (by simp)) (by simp [curL]; omega) et
          | false =>
            simp
            have ec : clsOf s = fun _ => false := by unfold clsOf; rw [if_neg (by rw [hl]; simp), if_neg (by simp [y]; simpa using z)]
            refine mk (dw ++ [[s]]) [] 0 _ _ _ _ (by rw [es]; simp [curL]) .nil (by simp [curL]; omega) ?_
            rw [toks_word nb, ec] at et
            have a : ∀ l : List Nat, l.takeWhile (fun _ => false) = [] := fun l => by cases l <;> rfl
            have b : ∀ l : List Nat, l.dropWhile (fun _ => false) = l := fun l => by cases l <;> rfl
            rw [a, b] at et
            rw [et]
            simp
  · obtain ⟨dn, cur, m, x3, x4, x5, rfl, hc, hd, et⟩ := (hI _ _).mp hS
    rw [List.drop_eq_nil_of_le (Nat.le_refl _), List.append_nil] at et
    have : toks cur = curL cur := by
      rcases hc.tok with rfl | ht
      · exact toks_nil
      · have := toks_app (rest := []) ht (.inl rfl)
        rw [List.append_nil, toks_nil] at this
        rw [this]
        obtain ⟨c, r, rfl, _⟩ := ht
        rfl
    rw [this] at et
    unfold wordsD at h
    rw [et] at h
    simp only [w__law_cut_t1, wRet]
    simpa using h

@[simp] theorem in_19 (c : Nat) : (c ∈ (Str.ofString "123456789").cps) = (49 ≤ c ∧ c ≤ 57) := by
  have e : (Str.ofString "123456789").cps.toList = [49, 50, 51, 52, 53, 54, 55, 56, 57] := by decide +kernel
  rw [← Array.mem_toList_iff, e]
  refine propext ?_
  simp only [List.mem_cons, List.not_mem_nil, or_false]
  omega
@[simp] theorem in_ld (c : Nat) : (c ∈ (Str.ofString "abcdefghijklmnopqrstuvwxyz0123456789").cps) = (letC c = true ∨ digC c = true) := by
  have e : (Str.ofString "abcdefghijklmnopqrstuvwxyz0123456789").cps.toList = (Str.ofString "abcdefghijklmnopqrstuvwxyz").cps.toList ++ (Str.ofString "0123456789").cps.toList := by decide +kernel
  rw [← Array.mem_toList_iff, e, List.mem_append, Array.mem_toList_iff, Array.mem_toList_iff, in_let, in_dig]
theorem pl__law_good (as Qd xd) (h : fs__law_good as Qd xd) : w__law_good (xpOf xd) (postOf Qd) (slots as 2) := by
  obtain ⟨w, rfl, hl, tk, h⟩ := h
  have hs : w.length ≤ sizeLine := Nat.le_trans hl (by decide)
  obtain ⟨c, r, ew, hb, hr⟩ := tk
  have lw : r.length + 1 = w.length := by rw [← cs_len, ew]; rfl
  rw [ew] at h
  unfold sound at h
  dsimp only at h
  simp [-postOf, w__law_good]
  refine ⟨hs, c, at_cs0 ew, ?_⟩
  split
  · rename_i z
    rw [if_pos z] at h
    simp
    refine ⟨hs, ?_⟩
    have e : ((w.length : Int) < 9) = (r.length + 1 ≤ 8) := by rw [← lw]; exact propext ⟨fun _ => by omega, fun _ => by omega⟩
    simp [e]
    simpa using h
  · rename_i z
    rw [if_neg z] at h
    have em : inS (D.str w) [D.str (Str.ofString "("), D.str (Str.ofString ")"), D.str (Str.ofString "{"), D.str (Str.ofString "}"), D.str (Str.ofString ";"), D.str (Str.ofString "0")] = decide (w ∈ [Str.ofString "(", Str.ofString ")", Str.ofString "{", Str.ofString "}", Str.ofString ";", Str.ofString "0"]) := inS_strs w [Str.ofString "(", Str.ofString ")", Str.ofString "{", Str.ofString "}", Str.ofString ";", Str.ofString "0"]
    have ec : (w ∈ [Str.ofString "(", Str.ofString ")", Str.ofString "{", Str.ofString "}", Str.ofString ";", Str.ofString "0"]) = (c :: r ∈ [[40], [41], [123], [125], [59], [48]]) := by
      have q : ∀ s : String, ∀ d : Nat, cs (Str.ofString s) = [d] → (w = Str.ofString s) = (c :: r = [d]) := fun s d e => by rw [str_cs, e, ew]
      simp only [List.mem_cons, List.not_mem_nil, or_false]
      rw [q "(" 40 (by decide +kernel), q ")" 41 (by decide +kernel), q "{" 123 (by decide +kernel), q "}" 125 (by decide +kernel), q ";" 59 (by decide +kernel), q "0" 48 (by decide +kernel)]
    simp only [w__law_good_t3]
    simp [-postOf, em, ec]
    have t1 : ∀ (f : Str) (fc : List Nat), cs f = fc → f.length ≤ w.length → Qd (.dat (.bl (match fc with | [] => false | d :: q => decide (49 ≤ d ∧ d ≤ 57) && decide (q.length + 1 < 10)))) → w__law_good_t1 (xpOf xd) (postOf Qd) [Slot.dat (D.str w), Slot.dat (D.str f)] := fun f fc ef lf hq => by
      have hs2 : f.length ≤ sizeLine := by omega
      cases fc with
      | nil =>
        have e0 : f = Str.ofString "" := str_cs.mpr (by rw [ef]; decide +kernel)
        simp [w__law_good_t1, e0]
        exact hq
      | cons d q =>
        have lq : q.length + 1 = f.length := by rw [← cs_len, ef]; rfl
        have e0 : ¬ f = Str.ofString "" := fun e => by
          rw [str0] at e
          omega
        simp [-postOf, w__law_good_t1, e0, hs2]
        refine ⟨d, at_cs0 ef, ?_⟩
        dsimp only at hq
        split
        · rename_i x
          rw [decide_eq_true x] at hq
          have e9 : ((f.length : Int) < 10) = (q.length + 1 < 10) := by rw [← lq]; exact propext ⟨fun _ => by omega, fun _ => by omega⟩
          simp [e9]
          simpa using hq
        · rename_i x
          rw [decide_eq_false x] at hq
          simp
          exact hq
    split
    · rename_i y
      have hy : (if (digC c || decide (c = 45)) = true then numOk (c :: r) else decide (c ∈ [40, 41, 123, 125, 59])) = true := by
        rcases y with ⟨rfl, rfl⟩ | ⟨rfl, rfl⟩ | ⟨rfl, rfl⟩ | ⟨rfl, rfl⟩ | ⟨rfl, rfl⟩ | ⟨rfl, rfl⟩ <;> decide +kernel
      rw [hy] at h
      simp
      exact h
    · rename_i y
      simp [-postOf, w__law_good_t2]
      refine ⟨hs, c, at_cs0 ew, ?_⟩
      split
      · rename_i x
        rw [minus_eq, sign_eq] at x
        subst x
        rw [if_pos (by decide), numOk_eq, if_pos rfl] at h
        refine ⟨hs, t1 _ r ?_ (cutS_length _ _ _) ?_⟩
        · have := cut_from (cs w) 1
          rw [cs_cut, show (some (1 : Int)) = some ((1 : Nat) : Int) from rfl, this, ew]
          rfl
        · unfold numT at h
          cases r with
          | nil => exact h
          | cons d q =>
            have hd := hr d (List.mem_cons_self ..)
            rw [cls_dig (by decide) (by decide)] at hd
            unfold digC at hd
            simp at hd
            dsimp only at h ⊢
            have e : (decide (49 ≤ d ∧ d ≤ 57) && decide (q.length + 1 < 10)) = (if 9 < q.length + 1 then false else if d = 48 then decide (45 :: d :: q = [48]) else true) := by
              by_cases a : 9 < q.length + 1
              · rw [if_pos a, decide_eq_false (p := q.length + 1 < 10) (by omega)]
                simp
              · rw [if_neg a, decide_eq_true (p := q.length + 1 < 10) (by omega)]
                by_cases b : d = 48
                · rw [if_pos b, decide_eq_false (by omega)]
                  simp
                · rw [if_neg b, decide_eq_true (by omega)]
                  rfl
            rw [e]
            exact h
      · rename_i x
        rw [minus_eq, sign_eq] at x
        refine t1 w (c :: r) ew (Nat.le_refl _) ?_
        dsimp only
        cases dc : digC c with
        | true =>
          rw [dc] at h
          simp only [Bool.true_or, if_true] at h
          rw [numOk_eq, if_neg x] at h
          unfold numT at h
          dsimp only at h
          have dcc := dc
          unfold digC at dcc
          simp at dcc
          have e : (decide (49 ≤ c ∧ c ≤ 57) && decide (r.length + 1 < 10)) = (if 9 < r.length + 1 then false else if c = 48 then decide (c :: r = [48]) else true) := by
            by_cases a : 9 < r.length + 1
            · rw [if_pos a, decide_eq_false (p := r.length + 1 < 10) (by omega)]
              simp
            · rw [if_neg a, decide_eq_true (p := r.length + 1 < 10) (by omega)]
              by_cases b : c = 48
              · have nr : ¬ r = [] := fun q => y (.inr (.inr (.inr (.inr (.inr ⟨b, q⟩)))))
                rw [if_pos b, decide_eq_false (by omega), decide_eq_false (fun q => nr (by injection q))]
                rfl
              · rw [if_neg b, decide_eq_true (by omega)]
                rfl
          rw [e]
          exact h
        | false =>
          rw [dc] at h
          have cf : (digC c || decide (c = 45)) = false := by rw [dc, decide_eq_false x]; rfl
          rw [show (false || decide (c = 45)) = false by rw [decide_eq_false x]; rfl, if_neg (by simp)] at h
          have er : r = [] := by
            cases r with
            | nil => rfl
            | cons d q =>
              have := hr d (List.mem_cons_self ..)
              unfold clsOf at this
              rw [if_neg z, if_neg (by rw [cf]; simp)] at this
              cases this
          have n19 : ¬ (49 ≤ c ∧ c ≤ 57) := fun q => by
            unfold digC at dc
            simp at dc
            omega
          rw [decide_eq_false n19]
          have nm : ¬ c ∈ [40, 41, 123, 125, 59] := fun q => by
            simp only [List.mem_cons, List.not_mem_nil, or_false] at q
            refine y ?_
            rcases q with q | q | q | q | q
            · exact .inl ⟨q, er⟩
            · exact .inr (.inl ⟨q, er⟩)
            · exact .inr (.inr (.inl ⟨q, er⟩))
            · exact .inr (.inr (.inr (.inl ⟨q, er⟩)))
            · exact .inr (.inr (.inr (.inr (.inl ⟨q, er⟩))))
          rw [decide_eq_false nm] at h
          exact h
theorem goodE {w : Str} {Q : Rt → Prop} {xd : Addr → List (Str × D) → Prop} (hl : w.length ≤ 1000000) (hn : tokW (cs w)) (h : Q (.dat (.bl (sound (cs w))))) : fs__law_good [.dat (.str w)] Q xd := ⟨w, rfl, hl, hn, h⟩

theorem cutE {t : Str} {Q : Rt → Prop} {xd : Addr → List (Str × D) → Prop} (hl : t.length ≤ 50000) (h : Q (.new (.fl (wordsD t)))) : fs__law_cut [.dat (.str t)] Q xd := ⟨t, rfl, hl, h⟩
theorem firstBad_at : ∀ {ws : List (List Nat)} {k : Nat} (hk : k < ws.length), (∀ w ∈ ws.take k, sound w = true) → sound ws[k] = false → firstBad ws = some k
  | [], k, hk, _, _ => by simp at hk
  | w :: ws, 0, _, _, h => by
    unfold firstBad
    rw [if_neg (by simpa using h)]
  | w :: ws, k + 1, hk, ht, h => by
    unfold firstBad
    rw [if_pos (ht w (by simp)), firstBad_at (ws := ws) (k := k) (by simpa using hk) (fun x hx => ht x (by simp [hx])) (by simpa using h)]
    rfl
theorem len_mem_sum : ∀ {ws : List (List Nat)} {w : List Nat}, w ∈ ws → w.length ≤ (ws.map List.length).sum
  | [], _, h => by cases h
  | v :: ws, w, h => by
    rw [List.map_cons, List.sum_cons]
    rcases List.mem_cons.mp h with rfl | h
    · omega
    · have := len_mem_sum h
      omega
theorem pl__law_due (as Qd xd) (h : fs__law_due as Qd xd) : w__law_due (xpOf xd) (postOf Qd) (slots as 3) := by
  obtain ⟨t, rfl, hl, h⟩ := h
  have hs : t.length ≤ sizeLine := Nat.le_trans hl (by decide)
  unfold dueL at h
  simp [-postOf, w__law_due]
  refine ⟨hs, ?_⟩
  split
  · rename_i z
    rw [if_pos (by omega)] at h
    simp
    exact h
  rename_i z
  rw [if_neg (by omega)] at h
  simp [-postOf, w__law_due_t2]
  refine ⟨Nat.zero_le _, cutE (by omega) ?_⟩
  simp [-postOf]
  have hall := toks_all _ (cs t) (Nat.le_refl _)
  have hlen := toks_len (cs t)
  have hsum := toks_sum _ (cs t) (Nat.le_refl _)
  rw [cs_len] at hlen hsum
  unfold wordsD at h ⊢
  generalize toks (cs t) = ws at *
  obtain ⟨I, hI⟩ : ∃ I : Nat → List DL.Slot → Prop, ∀ k S, I k S ↔ ∃ x2 : DL.Slot, S = [.dat (.str t), .dat (.lst (dStrs (ws.map SX.S))), x2] ∧ ∀ w ∈ ws.take k, sound w = true := ⟨_, fun _ _ => Iff.rfl⟩
  refine for_range (n := ws.length) (fun Q h => by simp; exact h) (by omega) I ((hI _ _).mpr ⟨_, rfl, by simp⟩) (fun k S hk hS => ?_) fun S hS => ?_
  · obtain ⟨x2, rfl, ht⟩ := (hI _ _).mp hS
    have hk2 : k < (ws.map SX.S).length := by simpa using hk
    simp [-postOf, w__law_due_b1]
    have lk : ws[k].length ≤ t.length := by
      have := len_mem_sum (List.getElem_mem hk)
      omega
    have ek : (ws.map SX.S)[k] = SX.S ws[k] := by simp
    refine ⟨_, atI_str hk2, ?_⟩
    rw [ek]
    refine goodE (by rw [SX.S_len]; omega) (hall _ (List.getElem_mem hk)) ?_
    simp [-postOf]
    have ec : cs (SX.S ws[k]) = ws[k] := rfl
    rw [ec]
    split
    · rename_i y
      refine (hI _ _).mpr ⟨_, rfl, fun w hw => ?_⟩
      rw [DL.take_snoc hk] at hw
      rcases List.mem_append.mp hw with hw | hw
      · exact ht w hw
      · rw [List.mem_singleton.mp hw]
        exact y
    · rename_i y
      rw [firstBad_at hk ht (by simpa using y)] at h
      simp
      exact h
  · obtain ⟨x2, rfl, ht⟩ := (hI _ _).mp hS
    rw [List.take_of_length_le (Nat.le_refl _)] at ht
    rw [firstBad_none.mpr ht] at h
    simp [w__law_due_t1]
    exact h
theorem pl__law_kept (as Qd xd) (h : fs__law_kept as Qd xd) : w__law_kept (xpOf xd) (postOf Qd) (slots as 0) := by
  obtain ⟨rfl, h⟩ := h
  simp [w__law_kept]
  exact h
theorem pl__law_spelling (as Qd xd) (h : fs__law_spelling as Qd xd) : w__law_spelling (xpOf xd) (postOf Qd) (slots as 2) := by
  obtain ⟨t, rfl, hl, h⟩ := h
  have hs : t.length ≤ sizeLine := Nat.le_trans hl (by decide)
  have no : spell t = false → (postOf Qd).rt (W.dat (D.bl false)) [Slot.dat (D.str t), Slot.no] := fun e => by
    rw [e] at h
    simp
    exact h
  simp [-postOf, w__law_spelling, hs]
  split
  · rename_i z
    refine no ?_
    have e : cs t = [] := List.length_eq_zero_iff.mp (by rw [cs_len]; rw [str0] at z; exact z)
    unfold spell
    rw [e]
  rename_i z
  rw [str0] at z
  obtain ⟨c, r, et⟩ := cs_head z
  have lt : r.length + 1 = t.length := by rw [← cs_len, et]; rfl
  have es : spell t = (decide (r.length + 1 ≤ 8) && (letC c && (!decide (t ∈ keptW) && r.all fun d => letC d || digC d))) := by
    unfold spell
    rw [et]
  split
  · rename_i y
    exact no (by rw [es, decide_eq_false (p := r.length + 1 ≤ 8) (by omega)]; rfl)
  rename_i y
  refine ⟨rfl, ?_⟩
  simp [-postOf, inS_strs]
  split
  · rename_i x
    exact no (by rw [es, decide_eq_true x]; simp)
  rename_i x
  refine ⟨c, at_cs0 et, ?_⟩
  have e8 : decide (r.length + 1 ≤ 8) = true := decide_eq_true (by omega)
  have ex : decide (t ∈ keptW) = false := decide_eq_false x
  split
  · rename_i v
    have : letC c = false := by
      unfold digC at v
      unfold letC
      simp at v ⊢
      omega
    exact no (by rw [es, this]; simp)
  · rename_i v
    simp [-postOf, w__law_spelling_t2]
    obtain ⟨I, hI⟩ : ∃ I : Nat → List DL.Slot → Prop, ∀ k S, I k S ↔ (∃ x, S = [.dat (.str t), x]) ∧ ((cs t).take k).all (fun d => letC d || digC d) = true := ⟨_, fun _ _ => Iff.rfl⟩
    refine for_str (s := t) (fun Q h => h) I ((hI _ _).mpr ⟨⟨_, rfl⟩, rfl⟩) (fun k S hk hS => ?_) fun S hS => ?_
    · obtain ⟨⟨x, rfl⟩, ha⟩ := (hI _ _).mp hS
      have hk' : k < (cs t).length := hk
      simp [-postOf, -Array.getElem_toList, w__law_spelling_b1]
      split
      · rename_i u
        have un : ¬ (letC (cs t)[k] || digC (cs t)[k]) = true := by simpa using u
        have := all_not (p := fun d => letC d || digC d) hk' un
        rw [et, List.all_cons] at this
        simp
        have e : spell t = false := by
          rw [es]
          cases hc : letC c with
          | false => simp
          | true =>
            rw [hc] at this
            simp only [Bool.true_or, Bool.true_and] at this
            rw [this]
            simp
        rw [e] at h
        exact h
      · rename_i u
        exact (hI _ _).mpr ⟨⟨_, rfl⟩, all_take hk' ha (by simp; cases q : letC t.cps[k] with
          | true => exact .inl rfl
          | false => exact .inr (by simpa [q] using u))⟩
    · obtain ⟨⟨x, rfl⟩, ha⟩ := (hI _ _).mp hS
      have ha' : (cs t).all (fun d => letC d || digC d) = true := by
        have := List.take_of_length_le (Nat.le_refl (cs t).length)
        rw [this] at ha
        exact ha
      rw [et, List.all_cons, Bool.and_eq_true] at ha'
      have lc : letC c = true := by
        have := ha'.1
        simp at this
        rcases this with a | a
        · exact a
        · exact absurd a v
      have e : spell t = true := by rw [es, e8, ex, lc, ha'.2]; rfl
      rw [e] at h
      simp [w__law_spelling_t1]
      exact h
theorem splitE {c : Ca} {t : Str} {Q : Rt → Prop} {xd : Addr → List (Str × D) → Prop} (hl : t.length ≤ 1000000) (h : if 12000 < t.length then xd c.a_TooBig [("bad_what", .str "signs")] else match firstBad (toks (cs t)) with | none => Q (.new (.fl (wordsD t))) | some k => xd c.a_BadText [("bad_word", .int k)]) : fs_split_words c [.dat (.str t)] Q xd := ⟨t, rfl, hl, h⟩
theorem pl__law_told (K : PySem.W.Frag) (c : Ca) (kf : Kf K c) (as Qd xd) (h : fs__law_told c as Qd xd) : w__law_told K c (xpOf xd) (postOf Qd) (slots as 3) := by
  obtain ⟨t, rfl, hl, h⟩ := h
  unfold w__law_told
  simp only [wSeq]
  unfold wTry
  simp [-postOf, -tryP, w__law_told_b1]
  refine splitE hl ?_
  unfold toldO dueL at h
  split
  · rename_i z
    rw [if_neg (by omega), if_pos z] at h
    refine .inr ⟨kf.m_TooBig_CellsError, fun a d hd => ?_⟩
    simp [-tryP, -postOf, w__law_told_s1, kf.e_TooBig, kf.k_TooBig_BadCall, kf.k_TooBig_BadChain, kf.k_TooBig_BadCount, kf.k_TooBig_BadEdit, kf.k_TooBig_BadForest, kf.k_TooBig_BadGiving, kf.k_TooBig_BadLeave, kf.k_TooBig_BadLine, kf.k_TooBig_BadName, kf.k_TooBig_BadSpelling, kf.k_TooBig_BadTape, kf.k_TooBig_BadText, kf.k_TooBig_NoSuch, kf.k_TooBig_NotLive, kf.k_TooBig_NotRight, kf.k_TooBig_TooBig, kf.k_TooBig_TooLong, kf.k_TooBig_Twice]
    refine ⟨Nat.zero_le _, [false, false, false, false, false, false, false, false, false, false, false, false, false, false, false, true, false, false], rfl, ?_⟩
    rw [if_pos (by decide)]
    refine .inr ⟨kf.k_TooBig__V, ?_⟩
    simp [-postOf, w__law_told_t2, kf.e_TooBig, kf.k_TooBig_BadText, tryP]
    simp [w__law_told_t1, kf.e_TooBig, kf.k_TooBig_TooBig]
    exact h
  · rename_i z
    rw [if_neg z] at h
    cases e : firstBad (toks (cs t)) with
    | none =>
      rw [if_pos ⟨by omega, e⟩] at h
      simp [-tryP]
      exact h
    | some k =>
      rw [e, if_neg (by simp)] at h
      dsimp only
      refine .inr ⟨kf.m_BadText_CellsError, fun a d hd => ?_⟩
      simp [-tryP, -postOf, w__law_told_s1, kf.e_BadText, kf.k_BadText_BadCall, kf.k_BadText_BadChain, kf.k_BadText_BadCount, kf.k_BadText_BadEdit, kf.k_BadText_BadForest, kf.k_BadText_BadGiving, kf.k_BadText_BadLeave, kf.k_BadText_BadLine, kf.k_BadText_BadName, kf.k_BadText_BadSpelling, kf.k_BadText_BadTape, kf.k_BadText_BadText, kf.k_BadText_NoSuch, kf.k_BadText_NotLive, kf.k_BadText_NotRight, kf.k_BadText_TooBig, kf.k_BadText_TooLong, kf.k_BadText_Twice]
      refine ⟨Nat.zero_le _, [false, false, false, false, false, false, false, false, false, false, false, true, false, false, false, false, false, false], rfl, ?_⟩
      rw [if_pos (by decide)]
      refine .inr ⟨kf.k_BadText__V, ?_⟩
      simp [w__law_told_t2, kf.e_BadText, kf.k_BadText_BadText, tryP]
      exact h

/-! ## right and faulty words -/
def tokB (w : List Nat) : Bool := match w with
  | [] => false
  | c :: r => !blkC c && r.all (clsOf c)
theorem tokB_ok {w : List Nat} (h : tokB w = true) : tokW w := by
  unfold tokB at h
  split at h
  · cases h
  · rename_i c r
    simp only [Bool.and_eq_true, Bool.not_eq_true', List.all_eq_true] at h
    exact ⟨c, r, rfl, h.1, h.2⟩
def rightB (w : Str) : Bool := tokB (cs w) && (sound (cs w) && decide (w.length ≤ 10))
theorem rightB_ok {w : Str} (h : rightB w = true) : RightW w := by
  unfold rightB at h
  simp only [Bool.and_eq_true, decide_eq_true_eq] at h
  exact ⟨tokB_ok h.1, h.2.1, h.2.2⟩
def badB (w : Str) : Bool := tokB (cs w) && (!sound (cs w) && decide (w.length ≤ 12))
theorem badB_ok {w : Str} (h : badB w = true) : BadW w := by
  unfold badB at h
  simp only [Bool.and_eq_true, decide_eq_true_eq, Bool.not_eq_true'] at h
  exact ⟨tokB_ok h.1, h.2.1, h.2.2⟩
/-- a spelling's form -/
theorem rightL {w : Str} {c : Nat} {r : List Nat} (e : cs w = c :: r) (hc : letC c = true) (hr : ∀ d ∈ r, (letC d || digC d) = true) (hl : r.length + 1 ≤ 8) : RightW w ∧ w.length ≤ 8 := by
  have lw : w.length = r.length + 1 := by rw [← cs_len, e]; rfl
  refine ⟨⟨⟨c, r, e, let_blk hc, fun d hd => by rw [cls_let hc]; exact hr d hd⟩, ?_, by omega⟩, by omega⟩
  rw [e]
  unfold sound
  dsimp only
  rw [if_pos hc]
  exact decide_eq_true hl
theorem picked {ds : List D} {p : Str → Prop} (h : ∀ d ∈ ds, ∃ w, d = .str w ∧ p w) {Q : Rt → Prop} {xd : Addr → List (Str × D) → Prop} (hn : ds ≠ []) (hl : ds.length ≤ 100000) (q : ∀ w, p w → Q (.dat (.str w))) : fs__law_pick [.sto, .dat (.lst ds)] Q xd := pickE hn hl fun d hd => by
  obtain ⟨w, rfl, hw⟩ := h d hd
  exact q w hw
theorem allStrs {p : Str → Prop} {f : Str → Bool} (ok : ∀ w, f w = true → p w) {ns : List Str} (h : ns.all f = true) : ∀ d ∈ dStrs ns, ∃ w, d = .str w ∧ p w := fun d hd => by
  unfold dStrs at hd
  obtain ⟨w, hw, rfl⟩ := List.mem_map.mp hd
  exact ⟨w, rfl, ok w (List.all_eq_true.mp h w hw)⟩
theorem pl__law_number (as Qd xd) (h : fs__law_number as Qd xd) : w__law_number (xpOf xd) (postOf Qd) (slots as 2) := by
  obtain ⟨rfl, h⟩ := h
  simp [-postOf, w__law_number]
  refine takeE (by decide) fun r r0 r1 => ?_
  simp [-postOf]
  split
  · refine takeE (by decide) fun q q0 q1 => ?_
    have : ∃ n : Int, atI [D.int 0, D.int 1, D.int (-1), D.int 2, D.int (-2), D.int 10, D.int 999999999, D.int (-999999999)] q = some (.int n) ∧ -999999999 ≤ n ∧ n ≤ 999999999 := by
      have : q = 0 ∨ q = 1 ∨ q = 2 ∨ q = 3 ∨ q = 4 ∨ q = 5 ∨ q = 6 ∨ q = 7 := by omega
      rcases this with rfl | rfl | rfl | rfl | rfl | rfl | rfl | rfl <;> exact ⟨_, rfl, by decide, by decide⟩
    obtain ⟨n, hn, n0, n1⟩ := this
    simp
    exact ⟨_, hn, h n n0 n1⟩
  · simp [-postOf, w__law_number_t3]
    split
    · refine takeE (by decide) fun q q0 q1 => ?_
      simp
      exact h _ (by omega) (by omega)
    · simp [-postOf, w__law_number_t2]
      split
      · refine takeE (by decide) fun q q0 q1 => ?_
        simp
        exact h _ (by omega) (by omega)
      · simp [-postOf, w__law_number_t1]
        refine takeE (by decide) fun q q0 q1 => ?_
        simp
        exact h _ (by omega) (by omega)
theorem pl__law_signs (as Qd xd) (h : fs__law_signs as Qd xd) : w__law_signs (xpOf xd) (postOf Qd) (slots as 1) := by
  obtain ⟨rfl, h⟩ := h
  simp [w__law_signs]
  exact ⟨by decide +kernel, h _ (by decide +kernel) (by decide +kernel)⟩
theorem pl__law_bad_sign (as Qd xd) (h : fs__law_bad_sign as Qd xd) : w__law_bad_sign (xpOf xd) (postOf Qd) (slots as 1) := by
  obtain ⟨rfl, h⟩ := h
  simp [-postOf, w__law_bad_sign]
  refine ⟨by decide +kernel, picked (allStrs (f := badB) (fun w => badB_ok) (by decide +kernel)) (by decide +kernel) (by decide +kernel) fun w hw => ?_⟩
  simp
  exact h w hw
def badL : List Str := ["-", "-0", "00",
    "007", "-01", "-00",
    "1234567890", "-1234567890", "1000000000",
    "abcdefghi", "a12345678", "namesaybe",
    "zzzzzzzzzzzz", "0000000000"]
theorem pl__law_bad_word (as Qd xd) (h : fs__law_bad_word as Qd xd) : w__law_bad_word (xpOf xd) (postOf Qd) (slots as 2) := by
  obtain ⟨rfl, h⟩ := h
  simp [-postOf, w__law_bad_word]
  refine ⟨Nat.zero_le _, takeE (by decide) fun r r0 r1 => ?_⟩
  simp [-postOf]
  split
  · refine picked (allStrs (ns := badL) (f := badB) (fun w => badB_ok) (by decide +kernel)) (by decide +kernel) (by decide +kernel) fun w hw => ?_
    simp
    exact h w hw
  · simp [-postOf, w__law_bad_word_t1]
    refine ⟨rfl, fun w hw => ?_⟩
    simp
    exact h w hw
def badSp : List Str := (["proc", "names", "say",
    "get", "set", "add",
    "call", "leave", "maybe",
    "often"] : List Str) ++ (["", " ", "\n",
    "A", "aB", "1",
    "1a", "0", "-1",
    "a b", " a", "a ",
    "a\n", "\na", "a-b",
    "a_b", "_a", "abcdefghi",
    "aaaaaaaaaaaaaaaa", "a;", "(",
    "a(b", "~", "a!",
    "abcdefg ", "abcdefgh\n"] : List Str)
theorem pl__law_bad_spelling (as Qd xd) (h : fs__law_bad_spelling as Qd xd) : w__law_bad_spelling (xpOf xd) (postOf Qd) (slots as 2) := by
  obtain ⟨rfl, h⟩ := h
  simp [-postOf, w__law_bad_spelling]
  refine ⟨Nat.zero_le _, picked (p := fun w => w.length ≤ 20) (allStrs (ns := badSp) (f := fun w => decide (w.length ≤ 20)) (fun w hw => of_decide_eq_true hw) (by decide +kernel)) (by decide +kernel) (by decide +kernel) fun w hw => ?_⟩
  simp
  exact h w hw
theorem numL_head : ∀ (k n : Nat), n ≤ k → 0 < n → ∀ d r, TL.numL n = d :: r → d ≠ 48
  | 0, n, h, h0, _, _, _ => by omega
  | k + 1, n, h, h0, d, r, e => by
    rcases Nat.lt_or_ge n 10 with z | z
    · rw [TL.numL_lt z] at e
      injection e with e1 _
      omega
    · rw [TL.numL_step z] at e
      cases q : TL.numL (n / 10) with
      | nil => exact absurd q (TL.numL_ne _)
      | cons d' r' =>
        rw [q] at e
        injection e with e1 _
        have := numL_head k (n / 10) (by omega) (by omega) d' r' q
        omega
theorem numL_dig (n : Nat) : ∀ d ∈ TL.numL n, digC d = true := fun d hd => by
  have := TL.numL_digits n d hd
  unfold digC
  simp
  exact this
theorem neg_cs (m : Nat) : cs (Str.ofString (toString (Int.negSucc m))) = 45 :: TL.numL (m + 1) := by
  have e : toString (Int.negSucc m) = "-" ++ toString (m + 1) := rfl
  have e2 : TL.numL (m + 1) = (toString (m + 1)).toList.map Char.toNat := by
    rw [← TL.tl_num, TL.tl_ofString]
    rfl
  show TL.tl _ = _
  rw [TL.tl_ofString, e, e2, String.toList_append, List.map_append]
  rfl
theorem log2_small {m : Nat} (h : m < 10 ^ 9) : m.log2 < 1920 := by
  rcases Nat.eq_zero_or_pos m with rfl | hp
  · decide
  · have : m.log2 < 30 := (Nat.log2_lt (by omega)).mpr (by omega)
    omega
theorem num_right {n : Int} (h0 : -999999999 ≤ n) (h1 : n ≤ 999999999) : RightW (toString n : Str) ∧ n.natAbs.log2 < 1920 := by
  refine ⟨?_, log2_small (by omega)⟩
  cases n with
  | ofNat m =>
    have e : cs (Str.ofString (toString (Int.ofNat m))) = TL.numL m := TL.tl_num m
    have hl := TL.numL_len (n := m) (k := 9) (by omega) (by simp at h1; omega)
    have lw : (Str.ofString (toString (Int.ofNat m))).length = (TL.numL m).length := by rw [← cs_len, e]
    cases q : TL.numL m with
    | nil => exact absurd q (TL.numL_ne _)
    | cons d r =>
      have hd := numL_dig m
      rw [q] at hd e hl lw
      have dd := hd d (List.mem_cons_self ..)
      have dl : letC d = false := by
        unfold digC at dd
        unfold letC
        simp at dd ⊢
        omega
      have d45 : ¬ d = 45 := fun z => by rw [z] at dd; exact absurd dd (by decide)
      refine ⟨⟨d, r, e, dig_blk (by rw [dd]; rfl), fun x hx => ?_⟩, ?_, by omega⟩
      · rw [cls_dig dl (by rw [dd]; rfl)]
        exact hd x (List.mem_cons_of_mem _ hx)
      · rw [e]
        unfold sound
        dsimp only
        rw [if_neg (by rw [dl]; simp), if_pos (by rw [dd]; rfl), numOk_eq, if_neg d45]
        unfold numT
        dsimp only
        rw [if_neg (by simp at hl; omega)]
        split
        · rename_i z
          have m0 : m = 0 := by
            rcases Nat.eq_zero_or_pos m with y | y
            · exact y
            · exact absurd z (numL_head m m (Nat.le_refl _) y d r q)
          subst m0
          rw [TL.numL_lt (by omega)] at q
          rw [← q]
          decide
        · rfl
  | negSucc m =>
    have e := neg_cs m
    have hl := TL.numL_len (n := m + 1) (k := 9) (by omega) (by omega)
    have lw : (Str.ofString (toString (Int.negSucc m))).length = (TL.numL (m + 1)).length + 1 := by rw [← cs_len, e]; rfl
    refine ⟨⟨45, _, e, by decide, fun x hx => ?_⟩, ?_, by omega⟩
    · rw [cls_dig (by decide) (by decide)]
      exact numL_dig _ x hx
    · rw [e]
      unfold sound
      dsimp only
      rw [if_neg (by decide), if_pos (by decide), numOk_eq, if_pos rfl]
      cases q : TL.numL (m + 1) with
      | nil => exact absurd q (TL.numL_ne _)
      | cons d r =>
        rw [q] at hl
        unfold numT
        dsimp only
        rw [if_neg (by simp at hl; omega), if_neg (numL_head _ _ (Nat.le_refl _) (by omega) d r q)]
theorem pl__law_right (as Qd xd) (h : fs__law_right as Qd xd) : w__law_right (xpOf xd) (postOf Qd) (slots as 2) := by
  obtain ⟨rfl, h⟩ := h
  simp [-postOf, w__law_right]
  refine takeE (by decide) fun r r0 r1 => ?_
  simp [-postOf]
  split
  · refine takeE (by decide) fun q q0 q1 => ?_
    simp [-postOf]
    refine takeE (by decide) fun k k0 k1 => ?_
    simp [-postOf]
    refine ⟨q, k, rfl, q0, k0, by omega, fun w hw _ => ?_⟩
    simp
    exact h w hw
  · simp [-postOf, w__law_right_t3]
    split
    · refine ⟨rfl, ?_⟩
      simp [-postOf]
      refine picked (allStrs (ns := keptW) (f := rightB) (fun w => rightB_ok) (by decide +kernel)) (by decide +kernel) (by decide +kernel) fun w hw => ?_
      simp
      exact h w hw
    · simp [-postOf, w__law_right_t2]
      split
      · refine ⟨rfl, fun n n0 n1 => ?_⟩
        have ⟨a, b⟩ := num_right n0 n1
        simp
        exact ⟨b, h _ a⟩
      · simp [-postOf, w__law_right_t1]
        refine picked (allStrs (ns := ["(", ")", "{", "}", ";"]) (f := rightB) (fun w => rightB_ok) (by decide +kernel)) (by decide +kernel) (by decide +kernel) fun w hw => ?_
        simp
        exact h w hw

theorem atI_lastN {l : List Nat} (h : l ≠ []) : atI l (-1) = some (l.getLastD 0) := by
  unfold atI
  have e : ixN l.length (-1) = some (l.length - 1) := by
    obtain ⟨n, hn⟩ : ∃ n, l.length = n + 1 := ⟨l.length - 1, by have := List.length_pos_iff.mpr h; omega⟩
    rw [hn]
    exact ix_last n
  rw [e]
  show l[l.length - 1]? = _
  rw [← List.getLast?_eq_getElem?, List.getLast?_eq_some_getLast h, List.getLastD_eq_getLast?, List.getLast?_eq_some_getLast h]
  rfl
theorem headD_cs {w : Str} {c : Nat} {r : List Nat} (e : cs w = c :: r) : (cs w).headD 0 = c := by rw [e]; rfl
theorem pl__law_apart (as Qd xd) (h : fs__law_apart as Qd xd) : w__law_apart (xpOf xd) (postOf Qd) (slots as 4) := by
  obtain ⟨l, r, rfl, nl, nr, ll, lr, h⟩ := h
  have hl : l.length ≤ sizeLine := Nat.le_trans ll (by decide)
  have hr : r.length ≤ sizeLine := Nat.le_trans lr (by decide)
  obtain ⟨c, q, el⟩ := cs_head nl
  obtain ⟨d, p, er⟩ := cs_head nr
  have ne : cs l ≠ [] := by rw [el]; simp
  have last := atI_lastN ne
  unfold apartB at h
  rw [headD_cs er, headD_cs el] at h
  simp [-postOf, w__law_apart]
  refine ⟨hr, d, at_cs0 er, ?_⟩
  split
  · rename_i x
    rw [if_pos x] at h
    refine ⟨hl, c, at_cs0 el, ?_⟩
    split
    · rename_i y
      rw [y] at h
      simp
      exact h
    · rename_i y
      have y : letC c = false := by simpa using y
      rw [y] at h
      refine ⟨hl, _, last, ?_⟩
      generalize (cs l).getLastD 0 = z at h
      simp
      simpa using h
  · rename_i x
    rw [if_neg x] at h
    simp [-postOf, w__law_apart_t1]
    refine ⟨hr, d, at_cs0 er, ?_⟩
    split
    · rename_i y
      rw [y] at h
      refine ⟨hl, c, at_cs0 el, ?_⟩
      simp
      exact h
    · rename_i y
      have y : letC d = false := by simpa using y
      rw [y] at h
      simp
      exact h
theorem sig_at (j : Nat) (h : j < 36) : ∃ c, atI (cs (Str.ofString "abcdefghijklmnopqrstuvwxyz" ++ Str.ofString "0123456789")) (j : Int) = some c ∧ (letC c || digC c) = true := by
  have hl : (cs (Str.ofString "abcdefghijklmnopqrstuvwxyz" ++ Str.ofString "0123456789")).length = 36 := by decide +kernel
  have ha : (cs (Str.ofString "abcdefghijklmnopqrstuvwxyz" ++ Str.ofString "0123456789")).all (fun c => letC c || digC c) = true := by decide +kernel
  refine ⟨_, ?_, List.all_eq_true.mp ha _ (List.getElem_mem (n := j) (by rw [hl]; exact h))⟩
  unfold atI
  rw [ixN_n (by rw [hl]; exact h)]
  exact List.getElem?_eq_getElem _
theorem let_at (j : Nat) (h : j < 26) : ∃ c, atI (cs (Str.ofString "abcdefghijklmnopqrstuvwxyz")) (j : Int) = some c ∧ letC c = true := by
  have hl : (cs (Str.ofString "abcdefghijklmnopqrstuvwxyz")).length = 26 := by decide +kernel
  have ha : (cs (Str.ofString "abcdefghijklmnopqrstuvwxyz")).all (fun c => letC c) = true := by decide +kernel
  refine ⟨_, ?_, List.all_eq_true.mp ha _ (List.getElem_mem (n := j) (by rw [hl]; exact h))⟩
  unfold atI
  rw [ixN_n (by rw [hl]; exact h)]
  exact List.getElem?_eq_getElem _
def spW : List Str := (["main", "proc1", "procs",
    "name", "names1", "sayx",
    "says", "get9", "gets",
    "sets", "se", "adds",
    "add2"] : List Str) ++ (["calls", "cal", "leave1",
    "leaves", "leav", "maybe1",
    "mayb", "often2", "oftener",
    "o", "end"] : List Str) ++ (["ask", "jump",
    "m", "mai", "pr",
    "mainmain"] : List Str)
theorem pl__law_word (as Qd xd) (h : fs__law_word as Qd xd) : w__law_word (xpOf xd) (postOf Qd) (slots as 5) := by
  obtain ⟨way, k, rfl, w0, k0, k1, h⟩ := h
  obtain ⟨k, rfl⟩ := Int.eq_ofNat_of_zero_le k0
  have sz : 1000 ≤ sizeLine := by decide
  have ll : (Str.ofString "abcdefghijklmnopqrstuvwxyz").length = 26 := by decide +kernel
  have ls : (Str.ofString "abcdefghijklmnopqrstuvwxyz" ++ Str.ofString "0123456789").length = 36 := by decide +kernel
  simp [-postOf, w__law_word]
  have t5 : w__law_word_t5 (xpOf xd) (postOf Qd) [Slot.dat (D.int way), Slot.dat (D.int ↑k), Slot.dat (D.str (Str.ofString "abcdefghijklmnopqrstuvwxyz")), Slot.dat (D.str (Str.ofString "abcdefghijklmnopqrstuvwxyz" ++ Str.ofString "0123456789")), Slot.no] := by
    have s1 : ∀ c : Nat, (⟨#[c]⟩ : Str).length = 1 := fun _ => rfl
    have cc : ∀ c : Nat, cs ⟨#[c]⟩ = [c] := fun _ => rfl
    have dv : CDivW (k : Int) 36 := cdiv_c (by decide)
    have dv2 : CDivW (k : Int) 26 := cdiv_c (by decide)
    have la : (Str.ofString "abcdef").length = 6 := by decide +kernel
    have lb : (Str.ofString "ab").length = 2 := by decide +kernel
    have lc : (Str.ofString "cdef").length = 4 := by decide +kernel
    have ea : cs (Str.ofString "abcdef") = [97, 98, 99, 100, 101, 102] := by decide +kernel
    have eb : cs (Str.ofString "ab") = [97, 98] := by decide +kernel
    have ec : cs (Str.ofString "cdef") = [99, 100, 101, 102] := by decide +kernel
    obtain ⟨c1, h1, q1⟩ := sig_at (k / 36) (by omega)
    obtain ⟨c2, h2, q2⟩ := sig_at (k % 36) (by omega)
    have e1 : (k : Int) / 36 = ((k / 36 : Nat) : Int) := by omega
    have e2 : (k : Int) % 36 = ((k % 36 : Nat) : Int) := by omega
    simp [-postOf, w__law_word_t5]
    split
    · rw [e1, e2]
      refine ⟨dv, by omega, c1, h1, by rw [la, s1]; omega, by omega, c2, h2, by rw [app_len, la, s1, s1]; omega, ?_⟩
      have := rightL (w := Str.ofString "abcdef" ++ ⟨#[c1]⟩ ++ ⟨#[c2]⟩) (c := 97) (r := [98, 99, 100, 101, 102, c1, c2]) (by rw [cs_app, cs_app, ea, cc, cc]; rfl) (by decide) (fun d hd => by
        simp only [List.mem_cons, List.not_mem_nil, or_false] at hd
        rcases hd with rfl | rfl | rfl | rfl | rfl | rfl | rfl
        all_goals first | decide | exact q1 | exact q2) (by simp)
      simp
      exact h _ this.1 this.2
    simp [-postOf, w__law_word_t4]
    split
    · rw [e1, e2]
      refine ⟨dv, by omega, c1, h1, by rw [lb, s1]; omega, by omega, c2, h2, by rw [app_len, lb, s1, s1]; omega, by rw [app_len, app_len, lb, s1, s1, lc]; omega, ?_⟩
      have := rightL (w := Str.ofString "ab" ++ ⟨#[c1]⟩ ++ ⟨#[c2]⟩ ++ Str.ofString "cdef") (c := 97) (r := [98, c1, c2, 99, 100, 101, 102]) (by rw [cs_app, cs_app, cs_app, eb, ec, cc, cc]; rfl) (by decide) (fun d hd => by
        simp only [List.mem_cons, List.not_mem_nil, or_false] at hd
        rcases hd with rfl | rfl | rfl | rfl | rfl | rfl | rfl
        all_goals first | decide | exact q1 | exact q2) (by simp)
      simp
      exact h _ this.1 this.2
    simp [-postOf, w__law_word_t3]
    split
    · obtain ⟨c3, h3, q3⟩ := let_at (25 - k % 26) (by omega)
      have e3 : 25 - (k : Int) % 26 = ((25 - k % 26 : Nat) : Int) := by omega
      have e4 : 1 + (k : Int) / 26 = ((1 + k / 26 : Nat) : Int) := by omega
      rw [e3, e4]
      have m := mul1 (x := ⟨#[c3]⟩) (n := 1 + k / 26) (Nat.le_refl _) (by omega)
      refine ⟨by omega, c3, h3, dv2, m.1, ?_⟩
      have em : cs (Txt.mul ⟨#[c3]⟩ ((1 + k / 26 : Nat) : Int)) = c3 :: List.replicate (k / 26) c3 := by
        show (Txt.mul ⟨#[c3]⟩ ((1 + k / 26 : Nat) : Int)).cps.toList = _
        rw [PyProof.Rows.mul_one_list, Int.toNat_natCast, Nat.add_comm, List.replicate_succ]
      have := rightL em q3 (fun d hd => by rw [List.eq_of_mem_replicate hd, q3]; rfl) (by simp; omega)
      simp
      exact h _ this.1 this.2
    have t1 : ∀ L, w__law_word_t1 (xpOf xd) (postOf Qd) [Slot.dat (D.int way), Slot.dat (D.int ↑k), Slot.dat (D.str (Str.ofString "abcdefghijklmnopqrstuvwxyz")), Slot.dat (D.str (Str.ofString "abcdefghijklmnopqrstuvwxyz" ++ Str.ofString "0123456789")), Slot.dat (D.lst L)] := fun L => by
      have en : cs (Str.ofString "n") = [110] := by decide +kernel
      have ln : (Str.ofString "n").length = 1 := by decide +kernel
      have et : cs (Str.ofString (toString ((k : Nat) : Int))) = TL.numL k := TL.tl_num k
      have lt := TL.numL_len (n := k) (k := 3) (by omega) (by omega)
      have lt2 : (Str.ofString (toString ((k : Nat) : Int))).length = (TL.numL k).length := by rw [← cs_len, et]
      have l2 : ((k : Nat) : Int).natAbs.log2 < 1920 := by
        have : ((k : Nat) : Int).natAbs = k := Int.natAbs_natCast k
        rw [this]
        exact log2_small (by omega)
      have := rightL (w := Str.ofString "n" ++ Str.ofString (toString ((k : Nat) : Int))) (c := 110) (r := TL.numL k) (by rw [cs_app, en, et]; rfl) (by decide) (fun d hd => by rw [numL_dig k d hd]; simp) (by omega)
      simp only [w__law_word_t1, wRet, wBin, wC, wFn, wCons, wNil, wVar]
      simp [-Int.natAbs_natCast]
      have lt3 : (Str.ofString (((k : Nat) : Int)).repr).length = (TL.numL k).length := lt2
      refine ⟨by simpa using l2, by rw [ln, lt3]; omega, h _ this.1 this.2⟩
    simp [-postOf, w__law_word_t2]
    refine ⟨Nat.zero_le _, ?_⟩
    split
    · split
      · rename_i y
        have hk : k < spW.length := by
          have : spW.length = 30 := by decide +kernel
          omega
        have ok : spW.all (fun w => rightB w && decide (w.length ≤ 8)) = true := by decide +kernel
        have := List.all_eq_true.mp ok _ (List.getElem_mem hk)
        simp only [Bool.and_eq_true, decide_eq_true_eq] at this
        refine ⟨_, atI_str (ns := spW) hk, ?_⟩
        simp
        exact h _ (rightB_ok this.1) this.2
      · exact t1 _
    · exact t1 _
  refine ⟨by decide +kernel, ?_⟩
  split
  · split
    · rename_i y
      obtain ⟨c, hc, lc⟩ := let_at k (by omega)
      refine ⟨by omega, c, hc, ?_⟩
      have := rightL (w := ⟨#[c]⟩) (c := c) (r := []) rfl lc (by simp) (by simp)
      simp
      exact h _ this.1 this.2
    · exact t5
  · exact t5

/-! ## words spread over a text -/
theorem toks_blanks : ∀ {g : List Nat} (rest : List Nat), (∀ c ∈ g, blkC c = true) → toks (g ++ rest) = toks rest
  | [], _, _ => rfl
  | c :: g, rest, h => by
    rw [List.cons_append, toks_blk (h c (List.mem_cons_self ..)), toks_blanks rest fun x hx => h x (List.mem_cons_of_mem _ hx)]
theorem blk_stops {c d : Nat} (h : blkC c = true) : clsOf d c = false := by
  have hl : letC c = false := by
    unfold blkC at h
    unfold letC
    simp at h ⊢
    omega
  have hd : digC c = false := by
    unfold blkC at h
    unfold digC
    simp at h ⊢
    omega
  unfold clsOf
  split
  · simp [hl, hd]
  · split
    · exact hd
    · rfl
theorem ends_blk {w rest : List Nat} (h : rest = [] ∨ ∃ b r, rest = b :: r ∧ blkC b = true) : ends w rest := by
  rcases h with rfl | ⟨b, r, rfl, hb⟩
  · exact .inl rfl
  · exact .inr ⟨b, r, rfl, blk_stops hb⟩
theorem last_dig {c : Nat} {p : List Nat} (hl : letC c = false) (hd : (digC c || decide (c = 45)) = true) (cp : ∀ d ∈ p, clsOf c d = true) (hs : sound (c :: p) = true) : digC ((c :: p).getLastD 0) = true := by
  rw [cls_dig hl hd] at cp
  cases p with
  | nil =>
    show digC c = true
    cases q : digC c with
    | true => rfl
    | false =>
      rw [q] at hd
      have e : c = 45 := by simpa using hd
      subst e
      exact absurd hs (by decide)
  | cons e p =>
    have : (c :: e :: p).getLastD 0 ∈ e :: p := by
      show (e :: p).getLastD c ∈ e :: p
      rw [List.getLastD_eq_getLast?, List.getLast?_eq_some_getLast (by simp)]
      exact List.getLast_mem _
    exact cp _ this
/-- after a word the next begins at once, if they need not stand apart -/
theorem ends_word {l r rest : List Nat} (hl : tokW l) (sl : sound l = true) (hr : tokW r) (h : apartB l r = false) : ends l (r ++ rest) := by
  obtain ⟨c, p, rfl, cb, cp⟩ := hl
  obtain ⟨d, q, rfl, db, dq⟩ := hr
  refine .inr ⟨d, q ++ rest, rfl, ?_⟩
  have h' : (if digC d = true then letC c || digC ((c :: p).getLastD 0) else letC d && letC c) = false := h
  show clsOf c d = false
  cases lc : letC c with
  | true =>
    rw [cls_let lc]
    cases dd : digC d with
    | true =>
      rw [if_pos dd, lc] at h'
      cases h'
    | false =>
      rw [if_neg (by rw [dd]; simp), lc, Bool.and_true] at h'
      show (letC d || digC d) = false
      rw [h', dd]
      rfl
  | false =>
    cases dc : (digC c || decide (c = 45)) with
    | true =>
      rw [cls_dig lc dc]
      cases dd : digC d with
      | false => rfl
      | true =>
        have := last_dig lc dc cp sl
        rw [if_pos dd, lc, this] at h'
        cases h'
    | false =>
      unfold clsOf
      rw [if_neg (by rw [lc]; simp), if_neg (by rw [dc]; simp)]
theorem spread_sep {sep : Str} {b : Nat} (hsep : cs sep = [b]) (hb : blkC b = true) : ∀ (ws : List Str), (∀ w ∈ ws, RightW w) → ∀ rest, (rest = [] ∨ ∃ b r, rest = b :: r ∧ blkC b = true) → toks (TL.joinL (cs sep) (ws.map cs) ++ rest) = ws.map cs ++ toks rest
  | [], _, rest, _ => rfl
  | [w], hw, rest, hr => toks_app (hw w (by simp)).tok (ends_blk hr)
  | w :: v :: ws, hw, rest, hr => by
    have ih := spread_sep hsep hb (v :: ws) (fun x hx => hw x (List.mem_cons_of_mem _ hx)) rest hr
    show toks ((cs w ++ (cs sep ++ TL.joinL (cs sep) ((v :: ws).map cs))) ++ rest) = _
    rw [hsep] at ih ⊢
    rw [List.append_assoc, List.append_assoc, List.singleton_append, toks_app (hw w (by simp)).tok (ends_blk (.inr ⟨b, _, rfl, hb⟩)), toks_blk hb, ih]
    rfl
theorem cs_join (sep : Str) (ys : List Str) : cs (Txt.join sep ys) = TL.joinL (cs sep) (ys.map cs) := by
  have e : ys = (ys.map TL.tl).map SX.S := by
    rw [List.map_map]
    have : (SX.S ∘ TL.tl) = id := funext fun y => SX.S_tl y
    rw [this, List.map_id]
  have es : sep = SX.S (cs sep) := (SX.S_tl sep).symm
  have := SX.join_S (cs sep) (ys.map TL.tl)
  rw [← e, ← es] at this
  rw [this]
theorem joinL_nil : ∀ ys : List (List Nat), TL.joinL [] ys = ys.flatten
  | [] => rfl
  | [y] => by simp [TL.joinL]
  | y :: z :: ys => by
    show y ++ ([] ++ TL.joinL [] (z :: ys)) = _
    rw [joinL_nil (z :: ys)]
    rfl
/-- the parts of k words -/
structure PInv (ws : List Str) (k : Nat) (ps : List Str) : Prop where
  tok : ∀ rest, (k = 0 ∨ ∀ w, ws[k - 1]? = some w → ends (cs w) rest) → toks ((ps.map cs).flatten ++ rest) = (ws.take k).map cs ++ toks rest
  len : (ps.map (·.length)).sum ≤ 12 * k
  num : ps.length = k
theorem PInv.step {ws : List Str} {k : Nat} {ps : List Str} {g : Str} (h : PInv ws k ps) (hk : k < ws.length) (hw : ∀ w ∈ ws, RightW w) (hg : ∀ c ∈ cs g, blkC c = true) (lg : g.length ≤ 2) (ha : g.length = 0 → 0 < k → ∀ v, ws[k - 1]? = some v → apartB (cs v) (cs ws[k]) = false) : PInv ws (k + 1) (ps ++ [g ++ ws[k]]) := by
  have rw' := hw _ (List.getElem_mem hk)
  refine ⟨fun rest hr => ?_, ?_, by simp [h.num]⟩
  · have er : ends (cs ws[k]) rest := by
      rcases hr with z | z
      · omega
      · exact z _ (by rw [Nat.add_sub_cancel]; exact List.getElem?_eq_getElem hk)
    rw [List.map_append, List.flatten_append, List.append_assoc]
    have e1 : ([g ++ ws[k]].map cs).flatten ++ rest = cs g ++ (cs ws[k] ++ rest) := by simp [cs_app]
    rw [e1, h.tok, toks_blanks _ hg, toks_app rw'.tok er, DL.take_snoc hk]
    · rw [List.map_append, List.append_assoc]
      rfl
    · rcases Nat.eq_zero_or_pos k with z | z
      · exact .inl z
      · refine .inr fun v hv => ?_
        cases eg : cs g with
        | nil =>
          have g0 : g.length = 0 := by rw [← cs_len, eg]; rfl
          have rv := hw v (List.mem_of_getElem? hv)
          exact ends_word (rest := rest) rv.tok rv.snd rw'.tok (ha g0 z v hv)
        | cons b r =>
          exact ends_blk (.inr ⟨b, _, rfl, hg b (by rw [eg]; simp)⟩)
  · rw [List.map_append, List.sum_append]
    have := h.len
    have := rw'.len
    simp [app_len]
    omega
theorem SpreadOk.of {ws ps : List Str} {t : Str} (h : PInv ws ws.length ps) (ht : ∀ c ∈ cs t, blkC c = true) (lt : t.length ≤ 1) : SpreadOk ws (Txt.join "" ps ++ t) := by
  have ej : cs (Txt.join "" ps) = (ps.map cs).flatten := by
    rw [cs_join, show cs ("" : Str) = [] from rfl, joinL_nil]
  refine ⟨fun rest hr => ?_, ?_⟩
  · rw [cs_app, ej, List.append_assoc, h.tok, toks_blanks _ ht, List.take_of_length_le (Nat.le_refl _)]
    refine .inr fun w _ => ?_
    cases et : cs t with
    | nil => exact ends_blk hr
    | cons b r => exact ends_blk (.inr ⟨b, _, rfl, ht b (by rw [et]; simp)⟩)
  · have l1 : (Txt.join "" ps).length = (ps.map (·.length)).sum := by
      rw [← cs_len, ej, List.length_flatten, List.map_map]
      exact congrArg List.sum (List.map_congr_left fun y _ => cs_len y)
    rw [app_len, l1]
    have := h.len
    omega
theorem SpreadOk.sep {ws : List Str} {sep : Str} {b : Nat} (hsep : cs sep = [b]) (hb : blkC b = true) (hw : ∀ w ∈ ws, RightW w) : SpreadOk ws (Txt.join sep ws) := by
  refine ⟨fun rest hr => by rw [cs_join]; exact spread_sep hsep hb ws hw rest hr, ?_⟩
  rw [← cs_len, cs_join, hsep]
  have a : ∀ l : List Str, (∀ w ∈ l, RightW w) → (TL.joinL [b] (l.map cs)).length ≤ 12 * l.length := by
    intro l
    induction l with
    | nil => intro _; simp [TL.joinL]
    | cons x l ih =>
      intro h
      have lx := (h x (List.mem_cons_self ..)).len
      have il := ih fun w hw => h w (List.mem_cons_of_mem _ hw)
      cases l with
      | nil =>
        show (cs x).length ≤ _
        rw [cs_len]
        simp
        omega
      | cons y l =>
        show (cs x ++ ([b] ++ TL.joinL [b] ((y :: l).map cs))).length ≤ _
        rw [List.length_append, List.length_append, cs_len]
        simp at il ⊢
        omega
  have := a ws hw
  omega
theorem apartE {l r : Str} {Q : Rt → Prop} {xd : Addr → List (Str × D) → Prop} (h1 : RightW l) (h2 : RightW r) (h : Q (.dat (.bl (apartB (cs l) (cs r))))) : fs__law_apart [.dat (.str l), .dat (.str r)] Q xd := by
  have a := tokW_len h1.tok
  have b := tokW_len h2.tok
  rw [cs_len] at a b
  have c := h1.len
  have d := h2.len
  exact ⟨l, r, rfl, by omega, by omega, by omega, by omega, h⟩
theorem pl__law_spread (as Qd xd) (h : fs__law_spread as Qd xd) : w__law_spread (xpOf xd) (postOf Qd) (slots as 6) := by
  obtain ⟨ws, rfl, hl, hw, h⟩ := h
  have ls : (ws.map (·.length)).sum ≤ ws.length * 10 := sum_le fun w hx => (hw w hx).len
  simp [-postOf, w__law_spread]
  refine takeE (by decide) fun way w0 w1 => ?_
  simp [-postOf]
  split
  · refine ⟨ws, rfl, by rw [sp_len]; omega, ?_⟩
    simp
    exact h _ (SpreadOk.sep (b := 32) (by decide +kernel) rfl hw)
  simp [-postOf, w__law_spread_t5]
  split
  · refine ⟨ws, rfl, by rw [show (Str.ofString "\n").length = 1 by decide +kernel]; omega, ?_⟩
    simp
    exact h _ (SpreadOk.sep (b := 10) (by decide +kernel) rfl hw)
  simp [-postOf, w__law_spread_t4]
  intro a1
  obtain ⟨I, hI⟩ : ∃ I : Nat → List DL.Slot → Prop, ∀ k S, I k S ↔ ∃ (ps : List Str) (x4 x5 : DL.Slot), S = [.sto, .dat (.lst (dStrs ws)), .dat (.int way), .own a1 (.fl (dStrs ps)), x4, x5] ∧ PInv ws k ps := ⟨_, fun _ _ => Iff.rfl⟩
  refine for_range (n := ws.length) (fun Q h => by simp; exact h) (by omega) I ((hI _ _).mpr ⟨[], _, _, rfl, ⟨fun rest _ => rfl, by simp, rfl⟩⟩) (fun k S hk hS => ?_) fun S hS => ?_
  · obtain ⟨ps, x4, x5, rfl, hp⟩ := (hI _ _).mp hS
    have lw : ∀ w ∈ ws, w.length ≤ 10 := fun w hx => (hw w hx).len
    have sz : 1000 ≤ sizeLine := by decide
    have t1 : ∀ g : Str, (∀ c ∈ cs g, blkC c = true) → g.length ≤ 2 → (g.length = 0 → 0 < k → ∀ v, ws[k - 1]? = some v → apartB (cs v) (cs ws[k]) = false) → w__law_spread_t1 (xpOf xd)
        { nx := I (k + 1), rt := (postOf Qd).rt, bk := fun S' => w__law_spread_t3 (xpOf xd) (postOf Qd) S', ct := I (k + 1), np := (postOf Qd).np }
        [Slot.sto, Slot.dat (D.lst (dStrs ws)), Slot.dat (D.int way), Slot.own a1 (O.fl (dStrs ps)), Slot.dat (D.int ↑k), Slot.dat (D.str g)] := fun g hg lg ha => by
      have l1 := lw _ (List.getElem_mem hk)
      simp [-postOf, w__law_spread_t1]
      refine ⟨_, atI_str hk, ?_⟩
      simp [-postOf]
      refine ⟨by omega, by rw [hp.num]; omega, ?_⟩
      rw [dStrs_snoc]
      exact (hI _ _).mpr ⟨ps ++ [g ++ ws[k]], _, _, rfl, hp.step hk hw hg lg ha⟩
    have t2 : ∀ g : Str, (∀ c ∈ cs g, blkC c = true) → g.length ≤ 2 → w__law_spread_t2 (xpOf xd)
        { nx := I (k + 1), rt := (postOf Qd).rt, bk := fun S' => w__law_spread_t3 (xpOf xd) (postOf Qd) S', ct := I (k + 1), np := (postOf Qd).np }
        [Slot.sto, Slot.dat (D.lst (dStrs ws)), Slot.dat (D.int way), Slot.own a1 (O.fl (dStrs ps)), Slot.dat (D.int ↑k), Slot.dat (D.str g)] := fun g hg lg => by
      simp [-postOf, w__law_spread_t2]
      split
      · split
        · rename_i z0 z
          have hk1 : k - 1 < ws.length := by omega
          refine ⟨_, by rw [show ((k : Int) - 1) = ((k - 1 : Nat) : Int) by omega]; exact atI_str hk1, _, atI_str hk, apartE (hw _ (List.getElem_mem hk1)) (hw _ (List.getElem_mem hk)) ?_⟩
          simp [-postOf]
          split
          · exact t1 _ (by decide +kernel) (by decide +kernel) fun z => absurd z (by decide +kernel)
          · rename_i y
            refine t1 g hg lg fun _ _ v hv => ?_
            rw [List.getElem?_eq_getElem hk1] at hv
            rw [← Option.some.inj hv]
            simpa using y
        · rename_i z
          exact t1 g hg lg fun _ y => absurd y z
      · rename_i z
        exact t1 g hg lg fun y => absurd (str0.mpr y) z
    simp [-postOf, w__law_spread_b1]
    split
    · refine picked (p := fun g => (∀ c ∈ cs g, blkC c = true) ∧ g.length ≤ 2) (allStrs (ns := ["", "", " ", "\n", "  ", " \n"]) (f := fun g => (cs g).all blkC && decide (g.length ≤ 2)) (fun g hg => by
        simp only [Bool.and_eq_true, decide_eq_true_eq, List.all_eq_true] at hg
        exact hg) (by decide +kernel)) (by decide +kernel) (by decide +kernel) fun g hg => ?_
      simp [-postOf]
      exact t2 g hg.1 hg.2
    · exact t2 _ (by decide +kernel) (by decide +kernel)
  · obtain ⟨ps, x4, x5, rfl, hp⟩ := (hI _ _).mp hS
    simp [-postOf, w__law_spread_t3]
    have pl := hp.len
    refine ⟨ps, rfl, by rw [show (Str.ofString "").length = 0 by decide +kernel]; omega, ?_⟩
    have : ∃ t : Str, atI [D.str (Str.ofString ""), D.str (Str.ofString ""), D.str (Str.ofString ""), D.str (Str.ofString "\n"), D.str (Str.ofString " ")] way = some (.str t) ∧ (∀ c ∈ cs t, blkC c = true) ∧ t.length ≤ 1 := by
      have : way = 2 ∨ way = 3 ∨ way = 4 := by omega
      rcases this with rfl | rfl | rfl
      · exact ⟨_, rfl, by decide +kernel, by decide +kernel⟩
      · exact ⟨_, rfl, by decide +kernel, by decide +kernel⟩
      · exact ⟨_, rfl, by decide +kernel, by decide +kernel⟩
    obtain ⟨t, ht, tb, tl⟩ := this
    refine ⟨_, ht, ?_⟩
    have ok := SpreadOk.of hp tb tl
    have lo := ok.len
    have sz : 1000 ≤ sizeLine := by decide
    simp [-postOf]
    refine ⟨?_, ?_⟩
    · rw [app_len] at lo
      have : (Txt.join "" ps).length + t.length ≤ sizeLine := by omega
      exact this
    · simp
      exact h _ ok

section
variable {xp : Xp} {S : List Slot} {we0 we : WE} {wg : WG} {wt : WT} {vs : List Nat} {Q : W → Prop} {P : Post} {wb : WS}
/-- a range of drawn length -/
theorem lc_rangeQ {B : Nat} (src : ∀ Qd : W → Prop, (∀ n : Nat, n ≤ B → Qd (.dat (.int n))) → we0 xp S Qd) (hB : B ≤ 100000)
    (body : ∀ n : Nat, n ≤ B → ∃ I : Nat → List D → Prop, I 0 [] ∧ (∀ k ds, k < n → ds.length ≤ k → I k ds → wg (.dat (.int (k : Nat))) (wipeS S vs) fun S2 => wt xp0 S2 fun b => if b = true then we xp0 S2 fun y => y.fz1 fun d => I (k + 1) (ds ++ [d]) else I (k + 1) ds) ∧ ∀ ds, ds.length ≤ n → I n ds → Q (.new (.fl ds))) :
    wLc (wIR1 (wCons we0 wNil)) wg wt we vs xp S Q := src _ fun n hn => (show _ from ⟨by omega, by omega, Nat.le_trans hn hB, trivial, body n hn⟩)
theorem for_rangeQ {B : Nat} (src : ∀ Qd : W → Prop, (∀ n : Nat, n ≤ B → Qd (.dat (.int n))) → we0 xp S Qd) (hB : B ≤ 1000000)
    (body : ∀ n : Nat, n ≤ B → ∃ I : Nat → List Slot → Prop, I 0 S ∧ (∀ k S', k < n → I k S' → wg (.dat (.int (k : Nat))) S' fun S2 => wb xp { P with nx := I (k + 1), ct := I (k + 1), bk := P.nx } S2) ∧ ∀ S', I n S' → P.nx S') :
    wFor (wIR1 (wCons we0 wNil)) wg wb xp P S := src _ fun n hn => by
  obtain ⟨I, h0, h1, h2⟩ := body n hn
  exact (show _ from ⟨by omega, by omega, I, h0, fun _ _ _ _ => trivial, h1, h2⟩)
end
theorem spreadE {ws : List Str} {Q : Rt → Prop} {xd : Addr → List (Str × D) → Prop} (hl : ws.length ≤ 40) (hw : ∀ w ∈ ws, RightW w) (h : ∀ t, SpreadOk ws t → Q (.dat (.str t))) : fs__law_spread [.sto, .dat (.lst (dStrs ws))] Q xd := ⟨ws, rfl, hl, hw, h⟩
theorem due_words {ws : List Str} {t : Str} (h : SpreadOk ws t) (hl : t.length ≤ 12000) (hw : ∀ w ∈ ws, RightW w) : dueL t = [.str "words", .lst (dStrs ws)] := by
  have e := h.tok [] (.inl rfl)
  rw [List.append_nil, toks_nil, List.append_nil] at e
  have hs : ∀ w ∈ toks (cs t), sound w = true := fun w hx => by
    rw [e] at hx
    obtain ⟨v, hv, rfl⟩ := List.mem_map.mp hx
    exact (hw v hv).snd
  unfold dueL
  rw [if_neg (by omega), firstBad_none.mpr hs]
  unfold wordsD
  rw [e, List.map_map]
  have : (SX.S ∘ cs) = id := funext fun y => SX.S_tl y
  rw [this, List.map_id]
theorem due_bad {ws : List Str} {t b x : Str} {u : List Nat} (h : SpreadOk ws t) (hw : ∀ w ∈ ws, RightW w) (hb : BadW b) (hu : u = [] ∨ ∃ c r, u = c :: r ∧ blkC c = true) (e1 : cs x = cs t ++ (32 :: (cs b ++ u))) (hl : x.length ≤ 12000) : dueL x = [.str "BadText", .int ws.length] := by
  have e2 : toks (cs x) = ws.map cs ++ cs b :: toks u := by
    rw [e1, h.tok _ (.inr ⟨32, _, rfl, rfl⟩), toks_blk (by rfl), toks_app hb.tok (ends_blk hu)]
  unfold dueL
  rw [if_neg (by omega), e2, firstBad_app (fun w hx => by
    obtain ⟨v, hv, rfl⟩ := List.mem_map.mp hx
    exact (hw v hv).snd)]
  unfold firstBad
  rw [if_neg (by rw [hb.snd]; simp)]
  simp
theorem cutT {α : Type} (l : List α) {p : Nat} (h : p ≤ l.length) : cutG l none (some (p : Int)) = l.take p := by
  unfold cutG
  rw [HT.sIx_nat, Nat.min_eq_left h]
  rfl
theorem cutD {α : Type} (l : List α) {p : Nat} (h : p ≤ l.length) : cutG l (some (p : Int)) none = l.drop p := by
  unfold cutG
  rw [HT.sIx_nat, Nat.min_eq_left h]
  exact List.take_of_length_le (by rw [List.length_drop]; show _ ≤ l.length - p; omega)
theorem pl__law_made (as Qd xd) (h : fs__law_made as Qd xd) : w__law_made (xpOf xd) (postOf Qd) (slots as 5) := by
  obtain ⟨rfl, h⟩ := h
  simp [-postOf, w__law_made]
  refine ⟨Nat.zero_le _, lc_rangeQ (B := 40) (fun Qd hq => ?_) (by omega) fun n hn => ?_⟩
  · simp
    refine edgeE (by decide) fun r r0 r1 => ?_
    obtain ⟨r, rfl⟩ := Int.eq_ofNat_of_zero_le r0
    exact hq r (by omega)
  refine ⟨fun k ds => ∃ ws : List Str, ds = dStrs ws ∧ ws.length = k ∧ ∀ w ∈ ws, RightW w, ⟨[], rfl, rfl, by simp⟩, fun k ds hk _ hI => ?_, fun ds _ hI => ?_⟩
  · obtain ⟨ws, rfl, hl, hw⟩ := hI
    simp [wipeS]
    refine ⟨rfl, fun w hx => ?_⟩
    simp
    refine ⟨ws ++ [w], by rw [dStrs_snoc], by simp [hl], fun v hv => ?_⟩
    rcases List.mem_append.mp hv with hv | hv
    · exact hw v hv
    · rw [List.mem_singleton.mp hv]
      exact hx
  · obtain ⟨ws, rfl, hl, hw⟩ := hI
    simp [-postOf, w__law_made_t5]
    refine takeE (by decide) fun q q0 q1 => ?_
    simp [-postOf]
    split
    · refine spreadE (by omega) hw fun t ht => ?_
      simp [-postOf]
      simp
      have lt := ht.len
      have := h t (by omega)
      rw [due_words ht (by omega) hw] at this
      exact this
    · simp [-postOf, w__law_made_t4]
      refine edgeE (by omega) fun p p0 p1 => ?_
      obtain ⟨p, rfl⟩ := Int.eq_ofNat_of_zero_le p0
      simp [-postOf, w__law_made_t3, cutG_dStrs]
      rw [cutT ws (by omega), cutD ws (by omega)]
      have w1 : ∀ w ∈ ws.take p, RightW w := fun w hx => hw w (List.mem_of_mem_take hx)
      have w2 : ∀ w ∈ ws.drop p, RightW w := fun w hx => hw w (List.mem_of_mem_drop hx)
      have lp : (ws.take p).length = p := by rw [List.length_take]; omega
      have ld : (ws.drop p).length ≤ 40 := by rw [List.length_drop]; omega
      have sz : 20000 ≤ sizeLine := by decide
      have c1 : cs (Str.ofString " ") = [32] := by decide +kernel
      have c2 : cs (Str.ofString "\n") = [10] := by decide +kernel
      have n1 : (Str.ofString " ").length = 1 := by decide +kernel
      have n2 : (Str.ofString "\n").length = 1 := by decide +kernel
      refine spreadE (by omega) w1 fun t1 h1 => ?_
      have l1 := h1.len
      simp [-postOf]
      refine ⟨by omega, rfl, fun b hb => ?_⟩
      have lb := hb.len
      simp [-postOf]
      refine ⟨by rw [app_len]; omega, by rw [app_len, app_len]; omega, spreadE ld w2 fun t2 h2 => ?_⟩
      have l2 := h2.len
      simp [-postOf]
      have lx : (t1 ++ Str.ofString " " ++ b ++ Str.ofString "\n" ++ t2).length = t1.length + 1 + b.length + 1 + t2.length := by rw [app_len, app_len, app_len, app_len, n1, n2]
      refine ⟨by rw [app_len, app_len, app_len]; omega, ?_⟩
      have fin : ∀ (x : Str) (u : List Nat), cs x = cs t1 ++ (32 :: (cs b ++ u)) → (u = [] ∨ ∃ c r, u = c :: r ∧ blkC c = true) → x.length ≤ 12000 → w__law_made_t1 (xpOf xd) (postOf Qd) [Slot.sto, Slot.dat (D.lst (dStrs ws)), Slot.dat (D.int p), Slot.dat (D.str x), Slot.no] := fun x u e hu lx => by
        have := h x lx
        rw [due_bad h1 w1 hb hu e lx, lp] at this
        simp [w__law_made_t1]
        exact this
      simp [-postOf, w__law_made_t2]
      refine takeE (by decide) fun z z0 z1 => ?_
      simp [-postOf]
      split
      · refine ⟨by omega, rfl, fun b2 hb2 => ?_⟩
        have lb2 := hb2.len
        simp [-postOf]
        refine ⟨by rw [app_len]; omega, fin _ (10 :: (cs t2 ++ (32 :: cs b2))) ?_ (.inr ⟨10, _, rfl, rfl⟩) (by rw [app_len, app_len]; omega)⟩
        rw [cs_app, cs_app, cs_app, cs_app, cs_app, cs_app, c1, c2]
        simp
      · refine fin _ (10 :: cs t2) ?_ (.inr ⟨10, _, rfl, rfl⟩) (by omega)
        rw [cs_app, cs_app, cs_app, cs_app, c1, c2]
        simp

theorem signs_pick {s : Str} {Q : Rt → Prop} {xd : Addr → List (Str × D) → Prop} (h0 : 0 < s.length) (hl : s.length ≤ 1000) (q : ∀ c : Nat, Q (.dat (.str ⟨#[c]⟩))) : fs__law_pick [.sto, .dat (.lst (dStrs (DL.signs s)))] Q xd := by
  have ln : (dStrs (DL.signs s)).length = s.length := by
    rw [dStrs_length, DL.signs, List.length_map, Array.length_toList]
    rfl
  refine pickE (fun e => ?_) (by omega) fun d hd => ?_
  · rw [e] at ln
    simp at ln
    omega
  · unfold dStrs DL.signs at hd
    rw [List.map_map] at hd
    obtain ⟨c, _, rfl⟩ := List.mem_map.mp hd
    exact q c
theorem pl__law_loose (as Qd xd) (h : fs__law_loose as Qd xd) : w__law_loose (xpOf xd) (postOf Qd) (slots as 5) := by
  obtain ⟨rfl, h⟩ := h
  have sz : 100000 ≤ sizeLine := by decide
  simp [-postOf, w__law_loose]
  refine ⟨rfl, fun s1 a1 b1 => ?_⟩
  simp [-postOf]
  refine ⟨rfl, fun s2 a2 b2 => ?_⟩
  simp [-postOf]
  refine pickE (by simp) (by simp) fun d hd => ?_
  have : ∃ s : Str, d = .str s ∧ 0 < s.length ∧ s.length ≤ 1000 := by
    simp only [List.mem_cons, List.not_mem_nil, or_false] at hd
    rcases hd with rfl | rfl | rfl | rfl | rfl | rfl | rfl
    · exact ⟨_, rfl, a1, by omega⟩
    · exact ⟨_, rfl, a2, by omega⟩
    all_goals exact ⟨_, rfl, by decide +kernel, by decide +kernel⟩
  obtain ⟨s, rfl, p0, p1⟩ := this
  simp [-postOf, w__law_loose_t3]
  refine for_rangeQ (B := 60) (fun Qd hq => ?_) (by omega) fun n hn => ?_
  · simp
    refine edgeE (by decide) fun r r0 r1 => ?_
    obtain ⟨r, rfl⟩ := Int.eq_ofNat_of_zero_le r0
    exact hq r (by omega)
  obtain ⟨I, hI⟩ : ∃ I : Nat → List DL.Slot → Prop, ∀ k S, I k S ↔ ∃ (t : Str) (x3 x4 : DL.Slot), S = [.sto, .dat (.str s), .dat (.str t), x3, x4] ∧ t.length ≤ 10 * k := ⟨_, fun _ _ => Iff.rfl⟩
  refine ⟨I, (hI _ _).mpr ⟨_, _, _, rfl, by decide +kernel⟩, fun k S hk hS => ?_, fun S hS => ?_⟩
  · obtain ⟨t, x3, x4, rfl, lt⟩ := (hI _ _).mp hS
    simp [-postOf, w__law_loose_b1]
    refine ⟨by omega, signs_pick p0 p1 fun c => ?_⟩
    simp [-postOf, w__law_loose_t1]
    refine pickE (by simp) (by simp) fun d hd => ?_
    have : ∃ m : Nat, d = .int m ∧ m ≤ 10 := by
      simp only [List.mem_cons, List.not_mem_nil, or_false] at hd
      rcases hd with rfl | rfl | rfl | rfl | rfl | rfl | rfl | rfl | rfl
      · exact ⟨1, rfl, by decide⟩
      · exact ⟨1, rfl, by decide⟩
      · exact ⟨1, rfl, by decide⟩
      · exact ⟨1, rfl, by decide⟩
      · exact ⟨2, rfl, by decide⟩
      · exact ⟨3, rfl, by decide⟩
      · exact ⟨8, rfl, by decide⟩
      · exact ⟨9, rfl, by decide⟩
      · exact ⟨10, rfl, by decide⟩
    obtain ⟨m, rfl, m1⟩ := this
    have mm := mul1 (x := ⟨#[c]⟩) (n := m) (Nat.le_refl _) (by omega)
    simp [-postOf]
    refine ⟨mm.1, by have := mm.2; omega, (hI _ _).mpr ⟨_, _, _, rfl, ?_⟩⟩
    rw [app_len]
    have := mm.2
    omega
  · obtain ⟨t, x3, x4, rfl, lt⟩ := (hI _ _).mp hS
    simp [w__law_loose_t2]
    exact h t (by omega)
theorem pl__law_long (as Qd xd) (h : fs__law_long as Qd xd) : w__law_long (xpOf xd) (postOf Qd) (slots as 4) := by
  obtain ⟨rfl, h⟩ := h
  have sz : 100000 ≤ sizeLine := by decide
  simp [-postOf, w__law_long]
  refine picked (p := fun w => w.length ≤ 10) (allStrs (ns := ["a ", " ", "5;",
    "a1(", "\n", "abcdefgh ",
    "-123456789", "~", "", "a"]) (f := fun w => decide (w.length ≤ 10)) (fun w hw => of_decide_eq_true hw) (by decide +kernel)) (by decide +kernel) (by decide +kernel) fun t lt => ?_
  simp [-postOf, w__law_long_t2]
  refine takeE (by decide) fun r r0 r1 => ?_
  simp [-postOf, w__law_long_t1]
  have hD : ∃ m : Nat, (if (1 : Int) < (t.length : Int) then (t.length : Int) else 1) = (m : Int) ∧ 1 ≤ m ∧ t.length ≤ m ∧ m ≤ 10 := by
    split
    · exact ⟨t.length, rfl, by omega, by omega, lt⟩
    · exact ⟨1, rfl, by omega, by omega, by omega⟩
  obtain ⟨m, em, m1, m2, m3⟩ := hD
  rw [em]
  have hc : CDivW (11999 + r) (m : Int) := cdiv_c (by
    have : m = 1 ∨ m = 2 ∨ m = 3 ∨ m = 4 ∨ m = 5 ∨ m = 6 ∨ m = 7 ∨ m = 8 ∨ m = 9 ∨ m = 10 := by omega
    rcases this with rfl | rfl | rfl | rfl | rfl | rfl | rfl | rfl | rfl | rfl <;> decide)
  obtain ⟨z, rfl⟩ := Int.eq_ofNat_of_zero_le r0
  have ez : (11999 + (z : Int)) / (m : Int) = (((11999 + z) / m : Nat) : Int) := by
    rw [Int.natCast_ediv]
    congr 1
  rw [ez]
  have hq : m * ((11999 + z) / m) ≤ 11999 + z := Nat.mul_div_le _ _
  have hq2 : (11999 + z) / m ≤ 11999 + z := Nat.div_le_self _ _
  generalize (11999 + z) / m = q at hq hq2
  have hq3 : t.length * q ≤ m * q := Nat.mul_le_mul_right _ m2
  have ok : MulOk t (q : Int) := mulOk_of 10 12010 lt (by omega) (by omega) (by decide) (by decide)
  have lm := mul_len t q
  generalize Txt.mul t (q : Int) = y at lm
  have er : 11999 + (z : Int) - (y.length : Int) = ((11999 + z - y.length : Nat) : Int) := by omega
  rw [er]
  have lr : 11999 + z - y.length ≤ 12010 := by omega
  generalize 11999 + z - y.length = rest at lr
  have ms := mul1 (x := Str.ofString " ") (n := rest) (by decide +kernel) (by omega)
  have mn := mul1 (x := Str.ofString "\n") (n := rest) (by decide +kernel) (by omega)
  have ly : y.length ≤ 12010 := by omega
  refine ⟨by omega, hc, ok, by omega, ms.1, by have := ms.2; omega, ms.1, by have := ms.2; omega, mn.1, by have := mn.2; omega, pickE (by simp) (by simp) fun d hd => ?_⟩
  have : ∃ x : Str, d = .str x ∧ x.length ≤ 30000 := by
    have a := ms.2
    have b := mn.2
    simp only [List.mem_cons, List.not_mem_nil, or_false] at hd
    rcases hd with rfl | rfl | rfl
    · exact ⟨_, rfl, by rw [app_len]; omega⟩
    · exact ⟨_, rfl, by rw [app_len]; omega⟩
    · exact ⟨_, rfl, by rw [app_len]; omega⟩
  obtain ⟨x, rfl, lx⟩ := this
  simp
  exact h x lx
theorem len_up (x : Str) : (Txt.upper x).length ≤ 3 * x.length := PyProof.Rows.len_upper x
theorem pl__law_texts (as Qd xd) (h : fs__law_texts as Qd xd) : w__law_texts (xpOf xd) (postOf Qd) (slots as 8) := by
  obtain ⟨rfl, h⟩ := h
  have sz : 100000 ≤ sizeLine := by decide
  simp [-postOf, w__law_texts]
  refine takeE (by decide) fun way w0 w1 => ?_
  simp [-postOf]
  refine takeE (by decide) fun k k0 k1 => ?_
  simp [-postOf]
  refine ⟨way, k, rfl, w0, k0, by omega, fun base hb lb => ?_⟩
  simp [-postOf, w__law_texts_t8]
  refine ⟨rfl, ?_⟩
  simp [-postOf]
  refine picked (p := fun w => 1 ≤ w.length ∧ w.length ≤ 10) (allStrs (ns := keptW) (f := fun w => decide (1 ≤ w.length) && decide (w.length ≤ 10)) (fun w hw => by simpa using hw) (by decide +kernel)) (by decide +kernel) (by decide +kernel) fun word lw => ?_
  simp [-postOf, w__law_texts_t7]
  refine ⟨rfl, fun sg a1 b1 => ?_⟩
  simp [-postOf]
  refine ⟨by omega, signs_pick a1 (by omega) fun c => ?_⟩
  simp [-postOf, w__law_texts_t6]
  refine ⟨by omega, takeE (by omega) fun place p0 p1 => ?_⟩
  have n1 : (Str.ofString " ").length = 1 := by decide +kernel
  have n2 : (Str.ofString "\n").length = 1 := by decide +kernel
  have n3 : (Str.ofString "abc4efgh").length = 8 := by decide +kernel
  have n0 : (Str.ofString "").length = 0 := by decide +kernel
  have nc : (⟨#[c]⟩ : Str).length = 1 := rfl
  have na : (Str.ofString "a").length = 1 := by decide +kernel
  have nm : (Str.ofString "main").length = 4 := by decide +kernel
  have t4 : ∀ (a : Addr) (L : List Str), L.length ≤ 20 → (∀ t ∈ L, t.length ≤ 1000) → w__law_texts_t4 (xpOf xd) (postOf Qd) [Slot.sto, Slot.dat (D.str base), Slot.dat (D.str word), Slot.dat (D.str ⟨#[c]⟩), Slot.dat (D.int place), Slot.own a (O.fl (dStrs L)), Slot.no, Slot.no] := fun a L hL hb2 => by
    simp [-postOf, w__law_texts_t4]
    refine ⟨Nat.zero_le _, lc_rangeQ (B := 10) (fun Qd hq => ?_) (by omega) fun n hn => ?_⟩
    · simp
      refine takeE (by decide) fun r r0 r1 => ?_
      obtain ⟨r, rfl⟩ := Int.eq_ofNat_of_zero_le r0
      exact hq r (by omega)
    refine ⟨fun k ds => ∃ ms : List Str, ds = dStrs ms ∧ ms.length = k ∧ ∀ m ∈ ms, m.length ≤ 1, ⟨[], rfl, rfl, by simp⟩, fun k ds hk _ hI => ?_, fun ds _ hI => ?_⟩
    · obtain ⟨ms, rfl, hl, hw⟩ := hI
      simp [wipeS]
      refine ⟨by decide +kernel, signs_pick (by decide +kernel) (by decide +kernel) fun c => ?_⟩
      simp
      refine ⟨ms ++ [⟨#[c]⟩], by rw [dStrs_snoc], by simp [hl], fun v hv => ?_⟩
      rcases List.mem_append.mp hv with hv | hv
      · exact hw v hv
      · rw [List.mem_singleton.mp hv]
        exact Nat.le_refl 1
    · obtain ⟨ms, rfl, hl, hw⟩ := hI
      have sm := sum_le hw
      have lj : (Txt.join (Str.ofString "") ms).length ≤ 10 := by
        have : cs (Txt.join (Str.ofString "") ms) = (ms.map cs).flatten := by rw [cs_join, show cs (Str.ofString "") = [] from rfl, joinL_nil]
        rw [← cs_len, this, List.length_flatten, List.map_map]
        have e : (List.length ∘ cs) = fun y : Str => y.length := funext fun y => cs_len y
        rw [e]
        omega
      simp [-postOf, w__law_texts_t3]
      have lu := len_up word
      have jn : (ms.map (·.length)).sum + ms.length * (Str.ofString "").length ≤ 16777216 := by rw [n0]; omega
      generalize Txt.upper word = up at lu
      refine ⟨ms, rfl, jn, ms, rfl, jn, by rw [na]; omega, rfl, fun bs lbs => ?_⟩
      generalize Txt.join (Str.ofString "") ms = j at lj
      simp [-postOf]
      refine ⟨by omega, by omega, by omega, fun a2 => ?_⟩
      have ed : dStrs L ++ [D.str j, D.str (Str.ofString "a" ++ j), D.str (Str.ofString "main"), D.str bs, D.str up, D.str (base ++ word)] = dStrs (L ++ [j, Str.ofString "a" ++ j, Str.ofString "main", bs, up, base ++ word]) := by
        rw [← dStrs_append]
        rfl
      have hL2 : (L ++ [j, Str.ofString "a" ++ j, Str.ofString "main", bs, up, base ++ word]).length ≤ 26 := by simp; omega
      have hb3 : ∀ t ∈ L ++ [j, Str.ofString "a" ++ j, Str.ofString "main", bs, up, base ++ word], t.length ≤ 1000 := fun t ht => by
        rcases List.mem_append.mp ht with ht | ht
        · exact hb2 t ht
        · simp only [List.mem_cons, List.not_mem_nil, or_false] at ht
          rcases ht with rfl | rfl | rfl | rfl | rfl | rfl
          all_goals (first | omega | (simp only [app_len, na, nm]; omega))
      rw [ed]
      generalize L ++ [j, Str.ofString "a" ++ j, Str.ofString "main", bs, up, base ++ word] = M at hL2 hb3
      simp [-postOf, w__law_texts_t2]
      refine takeE (by decide) fun z z0 z1 => ?_
      simp [-postOf]
      split
      · refine takeE (by decide) fun y y0 y1 => ?_
        obtain ⟨y, rfl⟩ := Int.eq_ofNat_of_zero_le y0
        have mm := mul1 (x := Str.ofString "a") (n := 12001 + y) (by decide +kernel) (by omega)
        have e : ((12001 + y : Nat) : Int) = 12001 + (y : Int) := by omega
        rw [e] at mm
        simp [-postOf]
        have l2 := mm.2
        refine ⟨mm.1, by omega, ?_⟩
        rw [dStrs_snoc]
        simp [w__law_texts_t1]
        refine h _ (by simp; omega) fun t ht => ?_
        rcases List.mem_append.mp ht with ht | ht
        · have := hb3 t ht
          omega
        · rw [List.mem_singleton.mp ht]
          omega
      · simp [w__law_texts_t1]
        exact h M (by omega) fun t ht => by have := hb3 t ht; omega
  simp [-postOf, w__law_texts_t5]
  have e1 : (cutS base none (some place)).length ≤ base.length := cutS_length _ _ _
  have e2 : (cutS base (some place) none).length ≤ base.length := cutS_length _ _ _
  refine ⟨by omega, by rw [nc]; omega, by omega, by rw [app_len, nc]; omega, by rw [nc]; omega, by rw [nc]; omega, by omega, by rw [n2]; omega, by rw [n1]; omega, by rw [n1]; omega, by rw [n3]; omega, takeE (by decide) fun q q0 q1 => ?_⟩
  simp [-postOf]
  refine ⟨by rw [app_len, n3]; omega, by omega, fun a => ?_⟩
  refine t4 a [base, word, Str.ofString "", ⟨#[c]⟩, cutS base none (some place) ++ ⟨#[c]⟩ ++ cutS base (some place) none, word ++ ⟨#[c]⟩, ⟨#[c]⟩ ++ word, cutS word none (some (-1)), cutS word (some 1) none, base ++ Str.ofString "\n", base ++ Str.ofString " ", Str.ofString " " ++ base, cutS (base ++ Str.ofString "abc4efgh") none (some (7 + q)), word ++ word] (by simp) fun t ht => ?_
  have f1 := cutS_length word none (some (-1))
  have f2 := cutS_length word (some 1) none
  have f3 := cutS_length (base ++ Str.ofString "abc4efgh") none (some (7 + q))
  rw [app_len, n3] at f3
  simp only [List.mem_cons, List.not_mem_nil, or_false] at ht
  rcases ht with rfl | rfl | rfl | rfl | rfl | rfl | rfl | rfl | rfl | rfl | rfl | rfl | rfl | rfl
  all_goals (first | omega | (simp only [app_len, n0, n1, n2, n3, nc]; omega))

theorem toldE {c : Ca} {t : Str} {Q : Rt → Prop} {xd : Addr → List (Str × D) → Prop} (hl : t.length ≤ 1000000) (h : Q (.new (toldO t))) : fs__law_told c [.dat (.str t)] Q xd := ⟨t, rfl, hl, h⟩
theorem dueE {t : Str} {Q : Rt → Prop} {xd : Addr → List (Str × D) → Prop} (hl : t.length ≤ 1000000) (h : Q (.new (.fl (dueL t)))) : fs__law_due [.dat (.str t)] Q xd := ⟨t, rfl, hl, h⟩
theorem told_d (t : Str) : (toldO t).d = .lst (dueL t) := by
  unfold toldO
  split
  · rename_i h
    unfold dueL
    rw [if_neg (by omega), h.2]
    rfl
  · rfl
theorem okS_strs : ∀ ns : List Str, okS (dStrs ns) = true
  | [] => rfl
  | n :: ns => by
    show (okD (.str n) && okS (dStrs ns)) = true
    rw [okS_strs ns]
    rfl
theorem depS_strs : ∀ ns : List Str, depS (dStrs ns) = 0
  | [] => rfl
  | n :: ns => by
    show max (depD (.str n)) (depS (dStrs ns)) = 0
    rw [depS_strs ns]
    rfl
theorem due_ok (t : Str) : okD (.lst (dueL t)) = true ∧ depD (.lst (dueL t)) ≤ 4 := by
  unfold dueL
  split
  · exact ⟨rfl, by decide⟩
  · rename_i h
    split
    · have := toks_len (cs t)
      rw [cs_len] at this
      unfold wordsD
      refine ⟨?_, ?_⟩
      · simp [okD, okS, okS_strs]
        omega
      · simp [depD, depS, depS_strs]
    · exact ⟨rfl, by simp [depD, depS]⟩
theorem due_empty : dueL (Str.ofString "") = [.str "words", .lst []] := by
  have e : cs (Str.ofString "") = [] := rfl
  have n0 : (Str.ofString "").length = 0 := by decide +kernel
  unfold dueL wordsD
  rw [if_neg (by omega), e, toks_nil]
  rfl
theorem pl_law (K : PySem.W.Frag) (c : Ca) (kf : Kf K c) : w_law K c (fun _ _ _ => False) postLaw (.no :: .sto :: List.replicate 4 .no) := by
  simp [-postLaw, w_law]
  refine ⟨Nat.zero_le _, rfl, fun t lt => ?_⟩
  simp [-postLaw, w_law_t10]
  refine ⟨rfl, fun lo llo => ?_⟩
  have askR : ∀ {y : Str} {Q : Rt → Prop} {xd : Addr → List (Str × D) → Prop}, Q (.dat (.bl true)) → fs__law_same [.rdo (.lst (dueL y)), .rdo (.lst (dueL y))] Q xd := fun {y Q xd} hq => sameR rfl (due_ok y).1 (due_ok y).2 hq
  have t3 : ∀ (s4 s5 : Slot), w_law_t3 K c (fun x x_1 x_2 => False) postLaw [Slot.no, Slot.sto, Slot.dat (D.lst [D.str t, D.lst (dueL t)]), Slot.dat (D.str lo), s4, s5] := fun s4 s5 => by
    simp [-postLaw, w_law_t3]
    refine toldE (by omega) ?_
    simp [-postLaw, told_d]
    refine dueE (by omega) ?_
    simp [-postLaw]
    refine askR ?_
    simp
  have t4 : ∀ (s4 s5 : Slot), w_law_t4 K c (fun x x_1 x_2 => False) postLaw [Slot.no, Slot.sto, Slot.dat (D.lst [D.str t, D.lst (dueL t)]), Slot.dat (D.str lo), s4, s5] := fun s4 s5 => by
    simp [-postLaw, w_law_t4]
    unfold wFor wIList
    simp [-postLaw]
    refine ⟨rfl, fun ts hl hb => ?_⟩
    refine (StrsW.new ts).lsrc fun item hi => ?_
    obtain ⟨I, hI⟩ : ∃ I : Nat → List DL.Slot → Prop, ∀ k S, I k S ↔ ∃ x : Slot, S = [Slot.no, Slot.sto, Slot.dat (D.lst [D.str t, D.lst (dueL t)]), Slot.dat (D.str lo), s4, x] := ⟨_, fun _ _ => Iff.rfl⟩
    refine ⟨I, (hI _ _).mpr ⟨_, rfl⟩, fun _ _ _ _ => trivial, fun k S hk hS => ?_, fun S hS => ?_⟩
    · obtain ⟨x, rfl⟩ := (hI _ _).mp hS
      rw [hi k hk]
      have lk := hb _ (List.getElem_mem hk)
      generalize ts[k] = y at lk
      simp [-postLaw, w_law_b1]
      refine ⟨y, rfl, by omega, ?_⟩
      simp [-postLaw]
      refine ⟨y, rfl, by omega, ?_⟩
      simp [-postLaw]
      refine sameR rfl rfl (Nat.zero_le _) ?_
      simp [-postLaw]
      exact (hI _ _).mpr ⟨_, rfl⟩
    · obtain ⟨x, rfl⟩ := (hI _ _).mp hS
      exact t3 _ _
  have t5 : ∀ (s4 s5 : Slot), w_law_t5 K c (fun x x_1 x_2 => False) postLaw [Slot.no, Slot.sto, Slot.dat (D.lst [D.str t, D.lst (dueL t)]), Slot.dat (D.str lo), s4, s5] := fun s4 s5 => by
    simp [-postLaw, w_law_t5]
    refine takeE (by decide) fun r r0 r1 => ?_
    simp [-postLaw]
    split
    · refine ⟨rfl, fun x lx => ?_⟩
      simp [-postLaw, w_law_t2]
      refine toldE (by omega) ?_
      simp [-postLaw, told_d]
      refine dueE (by omega) ?_
      simp [-postLaw]
      refine askR ?_
      simp [-postLaw]
      exact t4 _ _
    · exact t4 _ _
  have t6 : ∀ (s4 s5 : Slot), w_law_t6 K c (fun x x_1 x_2 => False) postLaw [Slot.no, Slot.sto, Slot.dat (D.lst [D.str t, D.lst (dueL t)]), Slot.dat (D.str lo), s4, s5] := fun s4 s5 => by
    simp [-postLaw, w_law_t6]
    refine toldE (by omega) ?_
    simp [-postLaw, told_d]
    refine askR ?_
    simp [-postLaw]
    refine toldE (by decide +kernel) ?_
    simp [-postLaw, told_d]
    rw [← due_empty]
    refine askR ?_
    simp [-postLaw]
    exact t5 _ _
  simp [-postLaw, w_law_t9]
  refine toldE (by omega) ?_
  by_cases hh : firstBad (toks (cs t)) = none
  · have eO : toldO t = .lst [.fz (.str "words"), .fl (wordsD t)] := by unfold toldO; rw [if_pos ⟨lt, hh⟩]
    have eD : dueL t = [.str "words", .lst (wordsD t)] := by unfold dueL; rw [if_neg (by omega), hh]
    rw [eO]
    simp [-postLaw]
    intro a1
    have t7 : w_law_t7 K c (fun x x_1 x_2 => False) postLaw [Slot.no, Slot.sto, Slot.dat (D.lst [D.str t, D.lst (dueL t)]), Slot.dat (D.str lo), Slot.own a1 (O.lst [O.fz (D.str (Str.ofString "words")), O.fl (wordsD t)]), Slot.no] := by
      have lw : (wordsD t).length ≤ 12000 := by
        have := toks_len (cs t)
        rw [cs_len] at this
        unfold wordsD
        simp
        omega
      simp [-postLaw, w_law_t7]
      refine ⟨by omega, ?_⟩
      simp [-postLaw, w_law_t1]
      refine ⟨by omega, ?_⟩
      exact t6 _ _
    simp [-postLaw, w_law_t8]
    rw [← eD]
    refine askR ?_
    simp [-postLaw]
    refine toldE (by omega) ?_
    simp [-postLaw]
    refine dueE (by omega) ?_
    simp [-postLaw, told_d]
    refine askR ?_
    simp [-postLaw]
    exact t7
  · obtain ⟨k, hk⟩ := Option.ne_none_iff_exists'.mp hh
    have eD : dueL t = [.str "BadText", .int k] := by unfold dueL; rw [if_neg (by omega), hk]
    have eO : toldO t = .fl (dueL t) := by unfold toldO; rw [if_neg (fun z => hh z.2)]
    rw [eO, eD]
    simp [-postLaw]
    intro a1
    have t7 : w_law_t7 K c (fun x x_1 x_2 => False) postLaw [Slot.no, Slot.sto, Slot.dat (D.lst [D.str t, D.lst (dueL t)]), Slot.dat (D.str lo), Slot.own a1 (O.fl (dueL t)), Slot.no] := by
      rw [eD]
      simp [-postLaw, w_law_t7]
      rw [← eD]
      exact ⟨by decide +kernel, t6 _ _⟩
    simp [-postLaw, w_law_t8]
    rw [← eD]
    refine askR ?_
    simp [-postLaw]
    refine toldE (by omega) ?_
    simp [-postLaw]
    refine dueE (by omega) ?_
    simp [-postLaw, told_d]
    refine askR ?_
    simp [-postLaw]
    exact t7

def top (i : Nat) : Stmt := PySem.Challenge.pw_cellsfornames_k01_words_and_spellings.main.body.getD i (.Pass ⟨0, 0, 0, 0⟩)
abbrev s_run_end : Stmt := top 29
def d_run_end : He.DefD := ⟨("run_end", none), "run_end", "run_end", defArgs s_run_end, defBody s_run_end, defScope s_run_end, [], []⟩
abbrev s_word_end : Stmt := top 30
def d_word_end : He.DefD := ⟨("word_end", none), "word_end", "word_end", defArgs s_word_end, defBody s_word_end, defScope s_word_end, [], []⟩
abbrev s_is_sound_number : Stmt := top 31
def d_is_sound_number : He.DefD := ⟨("is_sound_number", none), "is_sound_number", "is_sound_number", defArgs s_is_sound_number, defBody s_is_sound_number, defScope s_is_sound_number, [], []⟩
abbrev s_is_sound : Stmt := top 32
def d_is_sound : He.DefD := ⟨("is_sound", none), "is_sound", "is_sound", defArgs s_is_sound, defBody s_is_sound, defScope s_is_sound, [], []⟩
abbrev s_split_words : Stmt := top 33
def d_split_words : He.DefD := ⟨("split_words", none), "split_words", "split_words", defArgs s_split_words, defBody s_split_words, defScope s_split_words, [], []⟩
abbrev s_is_spelling : Stmt := top 34
def d_is_spelling : He.DefD := ⟨("is_spelling", none), "is_spelling", "is_spelling", defArgs s_is_spelling, defBody s_is_spelling, defScope s_is_spelling, [], []⟩
abbrev s__law_store : Stmt := top 36
def d__law_store : He.DefD := ⟨("_law_store", none), "_law_store", "_law_store", defArgs s__law_store, defBody s__law_store, defScope s__law_store, [], []⟩
abbrev s__law_mix : Stmt := top 37
def d__law_mix : He.DefD := ⟨("_law_mix", none), "_law_mix", "_law_mix", defArgs s__law_mix, defBody s__law_mix, defScope s__law_mix, [], []⟩
abbrev s__law_take : Stmt := top 38
def d__law_take : He.DefD := ⟨("_law_take", none), "_law_take", "_law_take", defArgs s__law_take, defBody s__law_take, defScope s__law_take, [], []⟩
abbrev s__law_edge : Stmt := top 39
def d__law_edge : He.DefD := ⟨("_law_edge", none), "_law_edge", "_law_edge", defArgs s__law_edge, defBody s__law_edge, defScope s__law_edge, [], []⟩
abbrev s__law_pick : Stmt := top 40
def d__law_pick : He.DefD := ⟨("_law_pick", none), "_law_pick", "_law_pick", defArgs s__law_pick, defBody s__law_pick, defScope s__law_pick, [], []⟩
abbrev s__law_number : Stmt := top 41
def d__law_number : He.DefD := ⟨("_law_number", none), "_law_number", "_law_number", defArgs s__law_number, defBody s__law_number, defScope s__law_number, [], []⟩
abbrev s__law_word : Stmt := top 42
def d__law_word : He.DefD := ⟨("_law_word", none), "_law_word", "_law_word", defArgs s__law_word, defBody s__law_word, defScope s__law_word, [], []⟩
abbrev s__law_apart : Stmt := top 43
def d__law_apart : He.DefD := ⟨("_law_apart", none), "_law_apart", "_law_apart", defArgs s__law_apart, defBody s__law_apart, defScope s__law_apart, [], []⟩
abbrev s__law_spread : Stmt := top 44
def d__law_spread : He.DefD := ⟨("_law_spread", none), "_law_spread", "_law_spread", defArgs s__law_spread, defBody s__law_spread, defScope s__law_spread, [], []⟩
abbrev s__law_bad_sign : Stmt := top 45
def d__law_bad_sign : He.DefD := ⟨("_law_bad_sign", none), "_law_bad_sign", "_law_bad_sign", defArgs s__law_bad_sign, defBody s__law_bad_sign, defScope s__law_bad_sign, [], []⟩
abbrev s__law_bad_word : Stmt := top 46
def d__law_bad_word : He.DefD := ⟨("_law_bad_word", none), "_law_bad_word", "_law_bad_word", defArgs s__law_bad_word, defBody s__law_bad_word, defScope s__law_bad_word, [], []⟩
abbrev s__law_bad_spelling : Stmt := top 47
def d__law_bad_spelling : He.DefD := ⟨("_law_bad_spelling", none), "_law_bad_spelling", "_law_bad_spelling", defArgs s__law_bad_spelling, defBody s__law_bad_spelling, defScope s__law_bad_spelling, [], []⟩
abbrev s__law_same : Stmt := top 48
def d__law_same : He.DefD := ⟨("_law_same", none), "_law_same", "_law_same", defArgs s__law_same, defBody s__law_same, defScope s__law_same, [], []⟩
abbrev s__law_signs : Stmt := top 49
def d__law_signs : He.DefD := ⟨("_law_signs", none), "_law_signs", "_law_signs", defArgs s__law_signs, defBody s__law_signs, defScope s__law_signs, [], []⟩
abbrev s__law_kept : Stmt := top 50
def d__law_kept : He.DefD := ⟨("_law_kept", none), "_law_kept", "_law_kept", defArgs s__law_kept, defBody s__law_kept, defScope s__law_kept, [], []⟩
abbrev s__law_right : Stmt := top 51
def d__law_right : He.DefD := ⟨("_law_right", none), "_law_right", "_law_right", defArgs s__law_right, defBody s__law_right, defScope s__law_right, [], []⟩
abbrev s__law_cut : Stmt := top 52
def d__law_cut : He.DefD := ⟨("_law_cut", none), "_law_cut", "_law_cut", defArgs s__law_cut, defBody s__law_cut, defScope s__law_cut, [], []⟩
abbrev s__law_good : Stmt := top 53
def d__law_good : He.DefD := ⟨("_law_good", none), "_law_good", "_law_good", defArgs s__law_good, defBody s__law_good, defScope s__law_good, [], []⟩
abbrev s__law_due : Stmt := top 54
def d__law_due : He.DefD := ⟨("_law_due", none), "_law_due", "_law_due", defArgs s__law_due, defBody s__law_due, defScope s__law_due, [], []⟩
abbrev s__law_spelling : Stmt := top 55
def d__law_spelling : He.DefD := ⟨("_law_spelling", none), "_law_spelling", "_law_spelling", defArgs s__law_spelling, defBody s__law_spelling, defScope s__law_spelling, [], []⟩
abbrev s__law_told : Stmt := top 56
def d__law_told : He.DefD := ⟨("_law_told", none), "_law_told", "_law_told", defArgs s__law_told, defBody s__law_told, defScope s__law_told, [], []⟩
abbrev s__law_made : Stmt := top 57
def d__law_made : He.DefD := ⟨("_law_made", none), "_law_made", "_law_made", defArgs s__law_made, defBody s__law_made, defScope s__law_made, [], []⟩
abbrev s__law_loose : Stmt := top 58
def d__law_loose : He.DefD := ⟨("_law_loose", none), "_law_loose", "_law_loose", defArgs s__law_loose, defBody s__law_loose, defScope s__law_loose, [], []⟩
abbrev s__law_long : Stmt := top 59
def d__law_long : He.DefD := ⟨("_law_long", none), "_law_long", "_law_long", defArgs s__law_long, defBody s__law_long, defScope s__law_long, [], []⟩
abbrev s__law_texts : Stmt := top 60
def d__law_texts : He.DefD := ⟨("_law_texts", none), "_law_texts", "_law_texts", defArgs s__law_texts, defBody s__law_texts, defScope s__law_texts, [], []⟩
abbrev s_law : Stmt := top 61
def d_law : He.DefD := ⟨("law", none), "law", "law", defArgs s_law, defBody s_law, defScope s_law, [], []⟩
abbrev s_BadText___init__ : Stmt := inClass (top 2) 0
def d_BadText___init__ : He.DefD := ⟨("BadText", some "__init__"), "__init__", "BadText.__init__", defArgs s_BadText___init__, defBody s_BadText___init__, defScope s_BadText___init__, [], []⟩
abbrev s_TooBig___init__ : Stmt := inClass (top 8) 0
def d_TooBig___init__ : He.DefD := ⟨("TooBig", some "__init__"), "__init__", "TooBig.__init__", defArgs s_TooBig___init__, defBody s_TooBig___init__, defScope s_TooBig___init__, [], []⟩
def fn_0 : List He.DefD := [d_run_end, d_word_end, d_is_sound_number, d_is_sound, d_split_words, d_is_spelling, d__law_store, d__law_mix, d__law_take, d__law_edge, d__law_pick, d__law_number, d__law_word, d__law_apart, d__law_spread, d__law_bad_sign, d__law_bad_word, d__law_bad_spelling, d__law_same, d__law_signs]
def fn_1 : List He.DefD := [d__law_kept, d__law_right, d__law_cut, d__law_good, d__law_due, d__law_spelling, d__law_told, d__law_made, d__law_loose, d__law_long, d__law_texts, d_law, d_BadText___init__, d_TooBig___init__]
def fn : List He.DefD := fn_0 ++ fn_1
def fa_0 : List He.Fa := [.glo "run_end", .glo "word_end", .glo "is_sound_number", .glo "is_sound", .glo "split_words", .glo "is_spelling", .glo "_law_store", .glo "_law_mix", .glo "_law_take", .glo "_law_edge", .glo "_law_pick", .glo "_law_number", .glo "_law_word", .glo "_law_apart", .glo "_law_spread", .glo "_law_bad_sign", .glo "_law_bad_word", .glo "_law_bad_spelling", .glo "_law_same", .glo "_law_signs"]
def fa_1 : List He.Fa := [.glo "_law_kept", .glo "_law_right", .glo "_law_cut", .glo "_law_good", .glo "_law_due", .glo "_law_spelling", .glo "_law_told", .glo "_law_made", .glo "_law_loose", .glo "_law_long", .glo "_law_texts", .glo "law", .glo "BadCall", .glo "BadChain", .glo "BadCount", .glo "BadEdit", .glo "BadForest", .glo "BadGiving", .glo "BadLeave", .glo "BadLine"]
def fa_2 : List He.Fa := [.glo "BadName", .glo "BadSpelling", .glo "BadTape", .glo "BadText", .glo "CellsError", .glo "NoSuch", .glo "NotLive", .glo "NotRight", .glo "TooBig", .glo "TooLong", .glo "Twice", .glo "KEPT_WORDS", .noat "BadText" "bad_word", .noat "TooBig" "bad_what", .free "ValueError", .free "bool", .free "int", .free "isinstance", .free "len", .free "list"]
def fa_3 : List He.Fa := [.free "max", .free "range", .free "str", .free "tuple", .str "BLANKS" " \n", .str "DIGITS" "0123456789", .str "LETTERS" "abcdefghijklmnopqrstuvwxyz", .str "MARKS" "(){};", .int "MOST_DIGITS" 9, .int "MOST_SIGNS" 12000, .int "MOST_WORD_SIGNS" 8]
def fa : List He.Fa := fa_0 ++ fa_1 ++ fa_2 ++ fa_3
def fx_0 : List Fx2 := [.exc "TooBig", .exm "TooBig" "CellsError" true, .kit "TooBig" "BadCall" false, .kit "TooBig" "BadChain" false, .kit "TooBig" "BadCount" false, .kit "TooBig" "BadEdit" false, .kit "TooBig" "BadForest" false, .kit "TooBig" "BadGiving" false, .kit "TooBig" "BadLeave" false, .kit "TooBig" "BadLine" false, .kit "TooBig" "BadName" false, .kit "TooBig" "BadSpelling" false, .kit "TooBig" "BadTape" false, .kit "TooBig" "BadText" false, .kit "TooBig" "NoSuch" false, .kit "TooBig" "NotLive" false, .kit "TooBig" "NotRight" false, .kit "TooBig" "TooBig" true, .kit "TooBig" "TooLong" false, .kit "TooBig" "Twice" false]
def fx_1 : List Fx2 := [.kitV "TooBig" "ValueError" true, .exc "BadText", .exm "BadText" "CellsError" true, .kit "BadText" "BadCall" false, .kit "BadText" "BadChain" false, .kit "BadText" "BadCount" false, .kit "BadText" "BadEdit" false, .kit "BadText" "BadForest" false, .kit "BadText" "BadGiving" false, .kit "BadText" "BadLeave" false, .kit "BadText" "BadLine" false, .kit "BadText" "BadName" false, .kit "BadText" "BadSpelling" false, .kit "BadText" "BadTape" false, .kit "BadText" "BadText" true, .kit "BadText" "NoSuch" false, .kit "BadText" "NotLive" false, .kit "BadText" "NotRight" false, .kit "BadText" "TooBig" false, .kit "BadText" "TooLong" false]
def fx_2 : List Fx2 := [.kit "BadText" "Twice" false, .kitV "BadText" "ValueError" true, .oex "BadText", .ini "BadText", .xf "BadText", .oex "TooBig", .ini "TooBig", .xf "TooBig", .tup "KEPT_WORDS" [.str "proc", .str "names", .str "say", .str "get", .str "set", .str "add", .str "call", .str "leave", .str "maybe", .str "often"]]
def fx : List Fx2 := fx_0 ++ fx_1 ++ fx_2
def ts : List He.Tab := []
def loose_0 : List PySem.Str := ["CellsError", "BadText", "Twice", "BadName", "BadCall", "BadCount", "BadLeave", "TooBig", "BadEdit", "TooLong", "BadGiving", "BadTape", "BadChain", "BadSpelling", "NotRight", "BadForest", "NoSuch", "NotLive", "BadLine", "MOST_SIGNS"]
def loose_1 : List PySem.Str := ["MOST_WORD_SIGNS", "MOST_DIGITS", "LETTERS", "DIGITS", "MARKS", "BLANKS", "KEPT_WORDS", "run_end", "word_end", "is_sound_number", "is_sound", "split_words", "is_spelling", "_law_store", "_law_mix", "_law_take", "_law_edge", "_law_pick", "_law_number", "_law_word"]
def loose_2 : List PySem.Str := ["_law_apart", "_law_spread", "_law_bad_sign", "_law_bad_word", "_law_bad_spelling", "_law_same", "_law_signs", "_law_kept", "_law_right", "_law_cut", "_law_good", "_law_due", "_law_spelling", "_law_told", "_law_made", "_law_loose", "_law_long", "_law_texts"]
def loose : List PySem.Str := loose_0 ++ loose_1 ++ loose_2
abbrev R : PySem.W.OpenRow := PySem.W.OpenLaw.row PySem.Challenge.rw_cellsfornames_k01_words_and_spellings
def ex (K : PySem.W.Frag) : Bool := fx.all (Fx2.ok K)
abbrev hk : PySem.W.Hook := He.hookX 5 fa fn ts [] ex
def ob (s : PySem.W.SharedT) : He.AlX := He.obsX 5 fa fn ts [] ex (HandSHeadRun.getT s)
theorem ob_eq (s : PySem.W.SharedT) : ob s = hk.obs s.abs := He.obsX_eq (HandSHeadRun.getT_eq s)
theorem run (w : World) : HandSHeadRun.RunEq R (PySem.W.view R.prog [61]) hk ob 8000 loose w := by
  intro os
  kernel_rfl

structure Tx (w : World) (K : PySem.W.Frag) (mg : Str → Option Value) where
  c : Ca
  kf : Kf K c
  a_run_end : Addr
  fd_run_end : FuncData
  g_run_end : mg "run_end" = some (.ref a_run_end)
  F_run_end : FunD K "run_end" "run_end" (defArgs s_run_end) (defBody s_run_end) (defScope s_run_end) [] [] a_run_end fd_run_end
  a_word_end : Addr
  fd_word_end : FuncData
  g_word_end : mg "word_end" = some (.ref a_word_end)
  F_word_end : FunD K "word_end" "word_end" (defArgs s_word_end) (defBody s_word_end) (defScope s_word_end) [] [] a_word_end fd_word_end
  a_is_sound_number : Addr
  fd_is_sound_number : FuncData
  g_is_sound_number : mg "is_sound_number" = some (.ref a_is_sound_number)
  F_is_sound_number : FunD K "is_sound_number" "is_sound_number" (defArgs s_is_sound_number) (defBody s_is_sound_number) (defScope s_is_sound_number) [] [] a_is_sound_number fd_is_sound_number
  a_is_sound : Addr
  fd_is_sound : FuncData
  g_is_sound : mg "is_sound" = some (.ref a_is_sound)
  F_is_sound : FunD K "is_sound" "is_sound" (defArgs s_is_sound) (defBody s_is_sound) (defScope s_is_sound) [] [] a_is_sound fd_is_sound
  a_split_words : Addr
  fd_split_words : FuncData
  g_split_words : mg "split_words" = some (.ref a_split_words)
  F_split_words : FunD K "split_words" "split_words" (defArgs s_split_words) (defBody s_split_words) (defScope s_split_words) [] [] a_split_words fd_split_words
  a_is_spelling : Addr
  fd_is_spelling : FuncData
  g_is_spelling : mg "is_spelling" = some (.ref a_is_spelling)
  F_is_spelling : FunD K "is_spelling" "is_spelling" (defArgs s_is_spelling) (defBody s_is_spelling) (defScope s_is_spelling) [] [] a_is_spelling fd_is_spelling
  a__law_store : Addr
  fd__law_store : FuncData
  g__law_store : mg "_law_store" = some (.ref a__law_store)
  F__law_store : FunD K "_law_store" "_law_store" (defArgs s__law_store) (defBody s__law_store) (defScope s__law_store) [] [] a__law_store fd__law_store
  a__law_mix : Addr
  fd__law_mix : FuncData
  g__law_mix : mg "_law_mix" = some (.ref a__law_mix)
  F__law_mix : FunD K "_law_mix" "_law_mix" (defArgs s__law_mix) (defBody s__law_mix) (defScope s__law_mix) [] [] a__law_mix fd__law_mix
  a__law_take : Addr
  fd__law_take : FuncData
  g__law_take : mg "_law_take" = some (.ref a__law_take)
  F__law_take : FunD K "_law_take" "_law_take" (defArgs s__law_take) (defBody s__law_take) (defScope s__law_take) [] [] a__law_take fd__law_take
  a__law_edge : Addr
  fd__law_edge : FuncData
  g__law_edge : mg "_law_edge" = some (.ref a__law_edge)
  F__law_edge : FunD K "_law_edge" "_law_edge" (defArgs s__law_edge) (defBody s__law_edge) (defScope s__law_edge) [] [] a__law_edge fd__law_edge
  a__law_pick : Addr
  fd__law_pick : FuncData
  g__law_pick : mg "_law_pick" = some (.ref a__law_pick)
  F__law_pick : FunD K "_law_pick" "_law_pick" (defArgs s__law_pick) (defBody s__law_pick) (defScope s__law_pick) [] [] a__law_pick fd__law_pick
  a__law_number : Addr
  fd__law_number : FuncData
  g__law_number : mg "_law_number" = some (.ref a__law_number)
  F__law_number : FunD K "_law_number" "_law_number" (defArgs s__law_number) (defBody s__law_number) (defScope s__law_number) [] [] a__law_number fd__law_number
  a__law_word : Addr
  fd__law_word : FuncData
  g__law_word : mg "_law_word" = some (.ref a__law_word)
  F__law_word : FunD K "_law_word" "_law_word" (defArgs s__law_word) (defBody s__law_word) (defScope s__law_word) [] [] a__law_word fd__law_word
  a__law_apart : Addr
  fd__law_apart : FuncData
  g__law_apart : mg "_law_apart" = some (.ref a__law_apart)
  F__law_apart : FunD K "_law_apart" "_law_apart" (defArgs s__law_apart) (defBody s__law_apart) (defScope s__law_apart) [] [] a__law_apart fd__law_apart
  a__law_spread : Addr
  fd__law_spread : FuncData
  g__law_spread : mg "_law_spread" = some (.ref a__law_spread)
  F__law_spread : FunD K "_law_spread" "_law_spread" (defArgs s__law_spread) (defBody s__law_spread) (defScope s__law_spread) [] [] a__law_spread fd__law_spread
  a__law_bad_sign : Addr
  fd__law_bad_sign : FuncData
  g__law_bad_sign : mg "_law_bad_sign" = some (.ref a__law_bad_sign)
  F__law_bad_sign : FunD K "_law_bad_sign" "_law_bad_sign" (defArgs s__law_bad_sign) (defBody s__law_bad_sign) (defScope s__law_bad_sign) [] [] a__law_bad_sign fd__law_bad_sign
  a__law_bad_word : Addr
  fd__law_bad_word : FuncData
  g__law_bad_word : mg "_law_bad_word" = some (.ref a__law_bad_word)
  F__law_bad_word : FunD K "_law_bad_word" "_law_bad_word" (defArgs s__law_bad_word) (defBody s__law_bad_word) (defScope s__law_bad_word) [] [] a__law_bad_word fd__law_bad_word
  a__law_bad_spelling : Addr
  fd__law_bad_spelling : FuncData
  g__law_bad_spelling : mg "_law_bad_spelling" = some (.ref a__law_bad_spelling)
  F__law_bad_spelling : FunD K "_law_bad_spelling" "_law_bad_spelling" (defArgs s__law_bad_spelling) (defBody s__law_bad_spelling) (defScope s__law_bad_spelling) [] [] a__law_bad_spelling fd__law_bad_spelling
  a__law_same : Addr
  fd__law_same : FuncData
  g__law_same : mg "_law_same" = some (.ref a__law_same)
  F__law_same : FunD K "_law_same" "_law_same" (defArgs s__law_same) (defBody s__law_same) (defScope s__law_same) [] [] a__law_same fd__law_same
  a__law_signs : Addr
  fd__law_signs : FuncData
  g__law_signs : mg "_law_signs" = some (.ref a__law_signs)
  F__law_signs : FunD K "_law_signs" "_law_signs" (defArgs s__law_signs) (defBody s__law_signs) (defScope s__law_signs) [] [] a__law_signs fd__law_signs
  a__law_kept : Addr
  fd__law_kept : FuncData
  g__law_kept : mg "_law_kept" = some (.ref a__law_kept)
  F__law_kept : FunD K "_law_kept" "_law_kept" (defArgs s__law_kept) (defBody s__law_kept) (defScope s__law_kept) [] [] a__law_kept fd__law_kept
  a__law_right : Addr
  fd__law_right : FuncData
  g__law_right : mg "_law_right" = some (.ref a__law_right)
  F__law_right : FunD K "_law_right" "_law_right" (defArgs s__law_right) (defBody s__law_right) (defScope s__law_right) [] [] a__law_right fd__law_right
  a__law_cut : Addr
  fd__law_cut : FuncData
  g__law_cut : mg "_law_cut" = some (.ref a__law_cut)
  F__law_cut : FunD K "_law_cut" "_law_cut" (defArgs s__law_cut) (defBody s__law_cut) (defScope s__law_cut) [] [] a__law_cut fd__law_cut
  a__law_good : Addr
  fd__law_good : FuncData
  g__law_good : mg "_law_good" = some (.ref a__law_good)
  F__law_good : FunD K "_law_good" "_law_good" (defArgs s__law_good) (defBody s__law_good) (defScope s__law_good) [] [] a__law_good fd__law_good
  a__law_due : Addr
  fd__law_due : FuncData
  g__law_due : mg "_law_due" = some (.ref a__law_due)
  F__law_due : FunD K "_law_due" "_law_due" (defArgs s__law_due) (defBody s__law_due) (defScope s__law_due) [] [] a__law_due fd__law_due
  a__law_spelling : Addr
  fd__law_spelling : FuncData
  g__law_spelling : mg "_law_spelling" = some (.ref a__law_spelling)
  F__law_spelling : FunD K "_law_spelling" "_law_spelling" (defArgs s__law_spelling) (defBody s__law_spelling) (defScope s__law_spelling) [] [] a__law_spelling fd__law_spelling
  a__law_told : Addr
  fd__law_told : FuncData
  g__law_told : mg "_law_told" = some (.ref a__law_told)
  F__law_told : FunD K "_law_told" "_law_told" (defArgs s__law_told) (defBody s__law_told) (defScope s__law_told) [] [] a__law_told fd__law_told
  a__law_made : Addr
  fd__law_made : FuncData
  g__law_made : mg "_law_made" = some (.ref a__law_made)
  F__law_made : FunD K "_law_made" "_law_made" (defArgs s__law_made) (defBody s__law_made) (defScope s__law_made) [] [] a__law_made fd__law_made
  a__law_loose : Addr
  fd__law_loose : FuncData
  g__law_loose : mg "_law_loose" = some (.ref a__law_loose)
  F__law_loose : FunD K "_law_loose" "_law_loose" (defArgs s__law_loose) (defBody s__law_loose) (defScope s__law_loose) [] [] a__law_loose fd__law_loose
  a__law_long : Addr
  fd__law_long : FuncData
  g__law_long : mg "_law_long" = some (.ref a__law_long)
  F__law_long : FunD K "_law_long" "_law_long" (defArgs s__law_long) (defBody s__law_long) (defScope s__law_long) [] [] a__law_long fd__law_long
  a__law_texts : Addr
  fd__law_texts : FuncData
  g__law_texts : mg "_law_texts" = some (.ref a__law_texts)
  F__law_texts : FunD K "_law_texts" "_law_texts" (defArgs s__law_texts) (defBody s__law_texts) (defScope s__law_texts) [] [] a__law_texts fd__law_texts
  a_law : Addr
  fd_law : FuncData
  g_law : mg "law" = some (.ref a_law)
  F_law : FunD K "law" "law" (defArgs s_law) (defBody s_law) (defScope s_law) [] [] a_law fd_law
  g_BadCall : mg "BadCall" = some (.ref c.a_BadCall)
  g_BadChain : mg "BadChain" = some (.ref c.a_BadChain)
  g_BadCount : mg "BadCount" = some (.ref c.a_BadCount)
  g_BadEdit : mg "BadEdit" = some (.ref c.a_BadEdit)
  g_BadForest : mg "BadForest" = some (.ref c.a_BadForest)
  g_BadGiving : mg "BadGiving" = some (.ref c.a_BadGiving)
  g_BadLeave : mg "BadLeave" = some (.ref c.a_BadLeave)
  g_BadLine : mg "BadLine" = some (.ref c.a_BadLine)
  g_BadName : mg "BadName" = some (.ref c.a_BadName)
  g_BadSpelling : mg "BadSpelling" = some (.ref c.a_BadSpelling)
  g_BadTape : mg "BadTape" = some (.ref c.a_BadTape)
  g_BadText : mg "BadText" = some (.ref c.a_BadText)
  g_CellsError : mg "CellsError" = some (.ref c.a_CellsError)
  g_NoSuch : mg "NoSuch" = some (.ref c.a_NoSuch)
  g_NotLive : mg "NotLive" = some (.ref c.a_NotLive)
  g_NotRight : mg "NotRight" = some (.ref c.a_NotRight)
  g_TooBig : mg "TooBig" = some (.ref c.a_TooBig)
  g_TooLong : mg "TooLong" = some (.ref c.a_TooLong)
  g_Twice : mg "Twice" = some (.ref c.a_Twice)
  a_BadText___init__ : Addr
  fd_BadText___init__ : FuncData
  F_BadText___init__ : FunD K "__init__" "BadText.__init__" (defArgs s_BadText___init__) (defBody s_BadText___init__) (defScope s_BadText___init__) [] [] a_BadText___init__ fd_BadText___init__
  a_TooBig___init__ : Addr
  fd_TooBig___init__ : FuncData
  F_TooBig___init__ : FunD K "__init__" "TooBig.__init__" (defArgs s_TooBig___init__) (defBody s_TooBig___init__) (defScope s_TooBig___init__) [] [] a_TooBig___init__ fd_TooBig___init__
  O_BadText : OexC K c.a_BadText
  iC_BadText : PySem.W.findIn K (.ref c.a_BadText) "__init__" = some (some (.ref a_BadText___init__))
  tI_BadText : PySem.W.typeIn K (.ref a_BadText___init__) = some (.type "function")
  X_BadText : XfC K c.a_BadText
  O_TooBig : OexC K c.a_TooBig
  iC_TooBig : PySem.W.findIn K (.ref c.a_TooBig) "__init__" = some (some (.ref a_TooBig___init__))
  tI_TooBig : PySem.W.typeIn K (.ref a_TooBig___init__) = some (.type "function")
  X_TooBig : XfC K c.a_TooBig
  t_KEPT_WORDS : Addr
  g_KEPT_WORDS : mg "KEPT_WORDS" = some (.ref t_KEPT_WORDS)
  k_KEPT_WORDS : KTup K t_KEPT_WORDS [.str "proc", .str "names", .str "say", .str "get", .str "set", .str "add", .str "call", .str "leave", .str "maybe", .str "often"]
  n_BadText_bad_word : NoAttr K c.a_BadText "bad_word"
  n_TooBig_bad_what : NoAttr K c.a_TooBig "bad_what"
  z_ValueError : mg "ValueError" = none
  z_bool : mg "bool" = none
  z_int : mg "int" = none
  z_isinstance : mg "isinstance" = none
  z_len : mg "len" = none
  z_list : mg "list" = none
  z_max : mg "max" = none
  z_range : mg "range" = none
  z_str : mg "str" = none
  z_tuple : mg "tuple" = none
  c_BLANKS : ∃ t, mg "BLANKS" = some (.str " \n" t)
  c_DIGITS : ∃ t, mg "DIGITS" = some (.str "0123456789" t)
  c_LETTERS : ∃ t, mg "LETTERS" = some (.str "abcdefghijklmnopqrstuvwxyz" t)
  c_MARKS : ∃ t, mg "MARKS" = some (.str "(){};" t)
  c_MOST_DIGITS : ∃ t, mg "MOST_DIGITS" = some (.int 9 t)
  c_MOST_SIGNS : ∃ t, mg "MOST_SIGNS" = some (.int 12000 t)
  c_MOST_WORD_SIGNS : ∃ t, mg "MOST_WORD_SIGNS" = some (.int 8 t)
theorem Tx.b_run_end {w K mg} (T : Tx w K mg) : Binds K T.fd_run_end ["text", "at", "signs"] [] := T.F_run_end.bindsN fun _ _ _ _ _ _ us hl => match us, hl with | [_, _, _], _ => rfl
theorem Tx.b_word_end {w K mg} (T : Tx w K mg) : Binds K T.fd_word_end ["text", "at"] [] := T.F_word_end.bindsN fun _ _ _ _ _ _ us hl => match us, hl with | [_, _], _ => rfl
theorem Tx.b_is_sound_number {w K mg} (T : Tx w K mg) : Binds K T.fd_is_sound_number ["word"] [] := T.F_is_sound_number.bindsN fun _ _ _ _ _ _ us hl => match us, hl with | [_], _ => rfl
theorem Tx.b_is_sound {w K mg} (T : Tx w K mg) : Binds K T.fd_is_sound ["word"] [] := T.F_is_sound.bindsN fun _ _ _ _ _ _ us hl => match us, hl with | [_], _ => rfl
theorem Tx.b_split_words {w K mg} (T : Tx w K mg) : Binds K T.fd_split_words ["text"] [] := T.F_split_words.bindsN fun _ _ _ _ _ _ us hl => match us, hl with | [_], _ => rfl
theorem Tx.b_is_spelling {w K mg} (T : Tx w K mg) : Binds K T.fd_is_spelling ["text"] [] := T.F_is_spelling.bindsN fun _ _ _ _ _ _ us hl => match us, hl with | [_], _ => rfl
theorem Tx.b__law_store {w K mg} (T : Tx w K mg) : Binds K T.fd__law_store ["script"] [] := T.F__law_store.bindsN fun _ _ _ _ _ _ us hl => match us, hl with | [_], _ => rfl
theorem Tx.b__law_mix {w K mg} (T : Tx w K mg) : Binds K T.fd__law_mix ["value", "turn"] [] := T.F__law_mix.bindsN fun _ _ _ _ _ _ us hl => match us, hl with | [_, _], _ => rfl
theorem Tx.b__law_take {w K mg} (T : Tx w K mg) : Binds K T.fd__law_take ["store", "many"] [] := T.F__law_take.bindsN fun _ _ _ _ _ _ us hl => match us, hl with | [_, _], _ => rfl
theorem Tx.b__law_edge {w K mg} (T : Tx w K mg) : Binds K T.fd__law_edge ["store", "low", "high"] [] := T.F__law_edge.bindsN fun _ _ _ _ _ _ us hl => match us, hl with | [_, _, _], _ => rfl
theorem Tx.b__law_pick {w K mg} (T : Tx w K mg) : Binds K T.fd__law_pick ["store", "options"] [] := T.F__law_pick.bindsN fun _ _ _ _ _ _ us hl => match us, hl with | [_, _], _ => rfl
theorem Tx.b__law_number {w K mg} (T : Tx w K mg) : Binds K T.fd__law_number ["store"] [] := T.F__law_number.bindsN fun _ _ _ _ _ _ us hl => match us, hl with | [_], _ => rfl
theorem Tx.b__law_word {w K mg} (T : Tx w K mg) : Binds K T.fd__law_word ["way", "k"] [] := T.F__law_word.bindsN fun _ _ _ _ _ _ us hl => match us, hl with | [_, _], _ => rfl
theorem Tx.b__law_apart {w K mg} (T : Tx w K mg) : Binds K T.fd__law_apart ["left", "right"] [] := T.F__law_apart.bindsN fun _ _ _ _ _ _ us hl => match us, hl with | [_, _], _ => rfl
theorem Tx.b__law_spread {w K mg} (T : Tx w K mg) : Binds K T.fd__law_spread ["store", "words"] [] := T.F__law_spread.bindsN fun _ _ _ _ _ _ us hl => match us, hl with | [_, _], _ => rfl
theorem Tx.b__law_bad_sign {w K mg} (T : Tx w K mg) : Binds K T.fd__law_bad_sign ["store"] [] := T.F__law_bad_sign.bindsN fun _ _ _ _ _ _ us hl => match us, hl with | [_], _ => rfl
theorem Tx.b__law_bad_word {w K mg} (T : Tx w K mg) : Binds K T.fd__law_bad_word ["store"] [] := T.F__law_bad_word.bindsN fun _ _ _ _ _ _ us hl => match us, hl with | [_], _ => rfl
theorem Tx.b__law_bad_spelling {w K mg} (T : Tx w K mg) : Binds K T.fd__law_bad_spelling ["store"] [] := T.F__law_bad_spelling.bindsN fun _ _ _ _ _ _ us hl => match us, hl with | [_], _ => rfl
theorem Tx.b__law_same {w K mg} (T : Tx w K mg) : Binds K T.fd__law_same ["told", "due"] [] := T.F__law_same.bindsN fun _ _ _ _ _ _ us hl => match us, hl with | [_, _], _ => rfl
theorem Tx.b__law_signs {w K mg} (T : Tx w K mg) : Binds K T.fd__law_signs [] [] := T.F__law_signs.bindsN fun _ _ _ _ _ _ us hl => match us, hl with | [], _ => rfl
theorem Tx.b__law_kept {w K mg} (T : Tx w K mg) : Binds K T.fd__law_kept [] [] := T.F__law_kept.bindsN fun _ _ _ _ _ _ us hl => match us, hl with | [], _ => rfl
theorem Tx.b__law_right {w K mg} (T : Tx w K mg) : Binds K T.fd__law_right ["store"] [] := T.F__law_right.bindsN fun _ _ _ _ _ _ us hl => match us, hl with | [_], _ => rfl
theorem Tx.b__law_cut {w K mg} (T : Tx w K mg) : Binds K T.fd__law_cut ["text"] [] := T.F__law_cut.bindsN fun _ _ _ _ _ _ us hl => match us, hl with | [_], _ => rfl
theorem Tx.b__law_good {w K mg} (T : Tx w K mg) : Binds K T.fd__law_good ["word"] [] := T.F__law_good.bindsN fun _ _ _ _ _ _ us hl => match us, hl with | [_], _ => rfl
theorem Tx.b__law_due {w K mg} (T : Tx w K mg) : Binds K T.fd__law_due ["text"] [] := T.F__law_due.bindsN fun _ _ _ _ _ _ us hl => match us, hl with | [_], _ => rfl
theorem Tx.b__law_spelling {w K mg} (T : Tx w K mg) : Binds K T.fd__law_spelling ["text"] [] := T.F__law_spelling.bindsN fun _ _ _ _ _ _ us hl => match us, hl with | [_], _ => rfl
theorem Tx.b__law_told {w K mg} (T : Tx w K mg) : Binds K T.fd__law_told ["text"] [] := T.F__law_told.bindsN fun _ _ _ _ _ _ us hl => match us, hl with | [_], _ => rfl
theorem Tx.b__law_made {w K mg} (T : Tx w K mg) : Binds K T.fd__law_made ["store"] [] := T.F__law_made.bindsN fun _ _ _ _ _ _ us hl => match us, hl with | [_], _ => rfl
theorem Tx.b__law_loose {w K mg} (T : Tx w K mg) : Binds K T.fd__law_loose ["store"] [] := T.F__law_loose.bindsN fun _ _ _ _ _ _ us hl => match us, hl with | [_], _ => rfl
theorem Tx.b__law_long {w K mg} (T : Tx w K mg) : Binds K T.fd__law_long ["store"] [] := T.F__law_long.bindsN fun _ _ _ _ _ _ us hl => match us, hl with | [_], _ => rfl
theorem Tx.b__law_texts {w K mg} (T : Tx w K mg) : Binds K T.fd__law_texts ["store"] [] := T.F__law_texts.bindsN fun _ _ _ _ _ _ us hl => match us, hl with | [_], _ => rfl
theorem Tx.b_law {w K mg} (T : Tx w K mg) : Binds K T.fd_law ["script"] [] := T.F_law.bindsN fun _ _ _ _ _ _ us hl => match us, hl with | [_], _ => rfl
theorem Tx.b_BadText___init__ {w K mg} (T : Tx w K mg) : Binds K T.fd_BadText___init__ ["self", "bad_word"] [] := T.F_BadText___init__.bindsN fun _ _ _ _ _ _ us hl => match us, hl with | [_, _], _ => rfl
theorem Tx.b_TooBig___init__ {w K mg} (T : Tx w K mg) : Binds K T.fd_TooBig___init__ ["self", "bad_what"] [] := T.F_TooBig___init__.bindsN fun _ _ _ _ _ _ us hl => match us, hl with | [_, _], _ => rfl
section
variable {P : Program} {w : World} {K : PySem.W.Frag} {mg : Str → Option Value} {base : Heap}
theorem sc_BadText___init__ : FnScope ["self", "bad_word"] ["self", "bad_word"] (defScope s_BadText___init__) := ⟨rfl, rfl, rfl, by decide +kernel, rfl, by decide +kernel, by decide +kernel⟩
theorem ok_BadText___init__ (T : Tx w K mg) : FnOk P w K mg base (L2.CX P w) 1 T.a_BadText___init__ T.fd_BadText___init__ ["self", "bad_word"] (spEI K T.c.a_BadText "bad_word") := fn_init1 T.F_BadText___init__ sc_BadText___init__ T.O_BadText T.n_BadText_bad_word fun _ _ _ _ _ _ => pss_one (ps_ost (pe_var (i := 0) rfl (.inl rfl)) (pe_var (i := 1) rfl (.inl rfl)))
theorem sc_TooBig___init__ : FnScope ["self", "bad_what"] ["self", "bad_what"] (defScope s_TooBig___init__) := ⟨rfl, rfl, rfl, by decide +kernel, rfl, by decide +kernel, by decide +kernel⟩
theorem ok_TooBig___init__ (T : Tx w K mg) : FnOk P w K mg base (L2.CX P w) 1 T.a_TooBig___init__ T.fd_TooBig___init__ ["self", "bad_what"] (spEI K T.c.a_TooBig "bad_what") := fn_init1 T.F_TooBig___init__ sc_TooBig___init__ T.O_TooBig T.n_TooBig_bad_what fun _ _ _ _ _ _ => pss_one (ps_ost (pe_var (i := 0) rfl (.inl rfl)) (pe_var (i := 1) rfl (.inl rfl)))
theorem sc_run_end : FnScope ["text", "at", "signs"] ["text", "at", "signs"] (defScope s_run_end) := ⟨rfl, rfl, rfl, by decide +kernel, rfl, by decide +kernel, by decide +kernel⟩
theorem bk_run_end (T : Tx w K mg)  (cdv : Value) (A : Around) (outer : List Env) (s : Shared) (H : Hp) (E : XK) (hr : Room 0 (A.deeper (envOfC "run_end" (defScope s_run_end) s.heap.objs.size T.a_run_end cdv))) (tk : Takes (Cxx P w K mg base ["text", "at", "signs"] "run_end" (defScope s_run_end) T.a_run_end cdv A outer s H E) (WxOf E)) (hp : PassesOwn (model P w) (A.deeper (envOfC "run_end" (defScope s_run_end) s.heap.objs.size T.a_run_end cdv)) (envOfC "run_end" (defScope s_run_end) s.heap.objs.size T.a_run_end cdv) (Cxx P w K mg base ["text", "at", "signs"] "run_end" (defScope s_run_end) T.a_run_end cdv A outer s H E).xe) : ∃ t, BkD (Cxx P w K mg base ["text", "at", "signs"] "run_end" (defScope s_run_end) T.a_run_end cdv A outer s H E) (WxOf E) (defBody s_run_end) t (w_run_end) := by
  have sc := sc_run_end
  have hu := hr.units
  exact ⟨_, bk_cons (sd_while hp ((bd_and (td_cmp op_lt r2_cmp (pd_var (i := 1)) (pd_fn call_len2 rc_len bt_len T.z_len (ad_cons (pd_var (i := 0)) (ad_nil))) (nomark _)) (bd_and1 (td_cmp op_in2 r2_in (pd_ix (pd_var (i := 0)) (pd_var (i := 1))) (pd_var (i := 2)) rfl))).td) (bk_one (sd_aug (i := 1) sc.nd (pd_int) ip_add r2_I)))
  (bk_one (sd_ret (pd_var (i := 1))))⟩
theorem sc_word_end : FnScope ["text", "at"] ["text", "at"] (defScope s_word_end) := ⟨rfl, rfl, rfl, by decide +kernel, rfl, by decide +kernel, by decide +kernel⟩
theorem bk_word_end (T : Tx w K mg) (G_run_end : FnOk P w K mg base (L2.CX P w) 1 T.a_run_end T.fd_run_end ["text", "at", "signs"] (spP K fs_run_end)) (cdv : Value) (A : Around) (outer : List Env) (s : Shared) (H : Hp) (E : XK) (hr : Room 1 (A.deeper (envOfC "word_end" (defScope s_word_end) s.heap.objs.size T.a_word_end cdv))) (tk : Takes (Cxx P w K mg base ["text", "at"] "word_end" (defScope s_word_end) T.a_word_end cdv A outer s H E) (WxOf E)) (hp : PassesOwn (model P w) (A.deeper (envOfC "word_end" (defScope s_word_end) s.heap.objs.size T.a_word_end cdv)) (envOfC "word_end" (defScope s_word_end) s.heap.objs.size T.a_word_end cdv) (Cxx P w K mg base ["text", "at"] "word_end" (defScope s_word_end) T.a_word_end cdv A outer s H E).xe) : ∃ t, BkD (Cxx P w K mg base ["text", "at"] "word_end" (defScope s_word_end) T.a_word_end cdv A outer s H E) (WxOf E) (defBody s_word_end) t (w_word_end) := by
  have sc := sc_word_end
  have hu := hr.units
  exact ⟨_, bk_cons (sd_if (td_cmp op_in2 r2_in (pd_ix (pd_var (i := 0)) (pd_var (i := 1))) (pd_gstr T.c_LETTERS) rfl) (bk_one (sd_ret (pd_call G_run_end (hr.mono (by decide)) T.g_run_end T.F_run_end.kp T.b_run_end tk [.d, .d, .d] (ad_cons (pd_var (i := 0)) (ad_cons (pd_bin op_add2 r2_add (pd_var (i := 1)) (pd_int)) (ad_cons (pd_bin op_add2 r2_add (pd_gstr T.c_LETTERS) (pd_gstr T.c_DIGITS)) (ad_nil))))))) (bk_nil))
  (bk_cons (sd_if ((bd_or (td_cmp op_in2 r2_in (pd_ix (pd_var (i := 0)) (pd_var (i := 1))) (pd_gstr T.c_DIGITS) rfl) (bd_or1 (td_cmp (op_eq2 hu) r2_eq (pd_ix (pd_var (i := 0)) (pd_var (i := 1))) (pd_str) (nomark _)))).td) (bk_one (sd_ret (pd_call G_run_end (hr.mono (by decide)) T.g_run_end T.F_run_end.kp T.b_run_end tk [.d, .d, .d] (ad_cons (pd_var (i := 0)) (ad_cons (pd_bin op_add2 r2_add (pd_var (i := 1)) (pd_int)) (ad_cons (pd_gstr T.c_DIGITS) (ad_nil))))))) (bk_nil))
  (bk_one (sd_ret (pd_bin op_add2 r2_add (pd_var (i := 1)) (pd_int)))))⟩
theorem sc_is_sound_number : FnScope ["word", "digits"] ["word"] (defScope s_is_sound_number) := ⟨rfl, rfl, rfl, by decide +kernel, rfl, by decide +kernel, by decide +kernel⟩
theorem bk_is_sound_number (T : Tx w K mg)  (cdv : Value) (A : Around) (outer : List Env) (s : Shared) (H : Hp) (E : XK) (hr : Room 0 (A.deeper (envOfC "is_sound_number" (defScope s_is_sound_number) s.heap.objs.size T.a_is_sound_number cdv))) (tk : Takes (Cxx P w K mg base ["word", "digits"] "is_sound_number" (defScope s_is_sound_number) T.a_is_sound_number cdv A outer s H E) (WxOf E)) (hp : PassesOwn (model P w) (A.deeper (envOfC "is_sound_number" (defScope s_is_sound_number) s.heap.objs.size T.a_is_sound_number cdv)) (envOfC "is_sound_number" (defScope s_is_sound_number) s.heap.objs.size T.a_is_sound_number cdv) (Cxx P w K mg base ["word", "digits"] "is_sound_number" (defScope s_is_sound_number) T.a_is_sound_number cdv A outer s H E).xe) : ∃ t, BkD (Cxx P w K mg base ["word", "digits"] "is_sound_number" (defScope s_is_sound_number) T.a_is_sound_number cdv A outer s H E) (WxOf E) (defBody s_is_sound_number) t (w_is_sound_number) := by
  have sc := sc_is_sound_number
  have hu := hr.units
  exact ⟨_, bk_cons (sd_asg (pd_var (i := 0)) (gd_name (i := 1) sc.nd))
  (bk_cons (sd_if (td_cmp (op_eq2 hu) r2_eq (pd_ix (pd_var (i := 0)) (pd_int)) (pd_str) (nomark _)) (bk_one (sd_asg (pd_sl (pd_var (i := 0)) (od_some (pd_int)) (od_none)) (gd_name (i := 1) sc.nd))) (bk_nil))
  (bk_cons (sd_if ((bd_or (td_cmp (op_eq2 hu) r2_eq (pd_fn call_len2 rc_len bt_len T.z_len (ad_cons (pd_var (i := 1)) (ad_nil))) (pd_int) (nomark _)) (bd_or1 (td_cmp op_gt r2_cmp (pd_fn call_len2 rc_len bt_len T.z_len (ad_cons (pd_var (i := 1)) (ad_nil))) (pd_gint T.c_MOST_DIGITS) (nomark _)))).td) (bk_one (sd_ret (pd_bl))) (bk_nil))
  (bk_cons (sd_if (td_cmp (op_eq2 hu) r2_eq (pd_ix (pd_var (i := 1)) (pd_int)) (pd_str) (nomark _)) (bk_one (sd_ret (pd_cmp (op_eq2 hu) r2_eq (pd_var (i := 0)) (pd_str) (nomark _)))) (bk_nil))
  (bk_one (sd_ret (pd_bl))))))⟩
theorem sc_is_sound : FnScope ["word"] ["word"] (defScope s_is_sound) := ⟨rfl, rfl, rfl, by decide +kernel, rfl, by decide +kernel, by decide +kernel⟩
theorem bk_is_sound (T : Tx w K mg) (G_is_sound_number : FnOk P w K mg base (L2.CX P w) 1 T.a_is_sound_number T.fd_is_sound_number ["word"] (spP K fs_is_sound_number)) (cdv : Value) (A : Around) (outer : List Env) (s : Shared) (H : Hp) (E : XK) (hr : Room 1 (A.deeper (envOfC "is_sound" (defScope s_is_sound) s.heap.objs.size T.a_is_sound cdv))) (tk : Takes (Cxx P w K mg base ["word"] "is_sound" (defScope s_is_sound) T.a_is_sound cdv A outer s H E) (WxOf E)) (hp : PassesOwn (model P w) (A.deeper (envOfC "is_sound" (defScope s_is_sound) s.heap.objs.size T.a_is_sound cdv)) (envOfC "is_sound" (defScope s_is_sound) s.heap.objs.size T.a_is_sound cdv) (Cxx P w K mg base ["word"] "is_sound" (defScope s_is_sound) T.a_is_sound cdv A outer s H E).xe) : ∃ t, BkD (Cxx P w K mg base ["word"] "is_sound" (defScope s_is_sound) T.a_is_sound cdv A outer s H E) (WxOf E) (defBody s_is_sound) t (w_is_sound) := by
  have sc := sc_is_sound
  have hu := hr.units
  exact ⟨_, bk_cons (sd_if (td_cmp op_in2 r2_in (pd_ix (pd_var (i := 0)) (pd_int)) (pd_gstr T.c_LETTERS) rfl) (bk_one (sd_ret (pd_cmp op_le r2_cmp (pd_fn call_len2 rc_len bt_len T.z_len (ad_cons (pd_var (i := 0)) (ad_nil))) (pd_gint T.c_MOST_WORD_SIGNS) (nomark _)))) (bk_nil))
  (bk_cons (sd_if ((bd_or (td_cmp op_in2 r2_in (pd_ix (pd_var (i := 0)) (pd_int)) (pd_gstr T.c_DIGITS) rfl) (bd_or1 (td_cmp (op_eq2 hu) r2_eq (pd_ix (pd_var (i := 0)) (pd_int)) (pd_str) (nomark _)))).td) (bk_one (sd_ret (pd_call G_is_sound_number (hr.mono (by decide)) T.g_is_sound_number T.F_is_sound_number.kp T.b_is_sound_number tk [.d] (ad_cons (pd_var (i := 0)) (ad_nil))))) (bk_nil))
  (bk_one (sd_ret (pd_cmp op_in2 r2_in (pd_var (i := 0)) (pd_gstr T.c_MARKS) rfl))))⟩
theorem sc_split_words : FnScope ["text", "words", "at", "end", "word"] ["text"] (defScope s_split_words) := ⟨rfl, rfl, rfl, by decide +kernel, rfl, by decide +kernel, by decide +kernel⟩
theorem bk_split_words (T : Tx w K mg) (G_BadText___init__ : FnOk P w K mg base (L2.CX P w) 1 T.a_BadText___init__ T.fd_BadText___init__ ["self", "bad_word"] (spEI K T.c.a_BadText "bad_word")) (G_TooBig___init__ : FnOk P w K mg base (L2.CX P w) 1 T.a_TooBig___init__ T.fd_TooBig___init__ ["self", "bad_what"] (spEI K T.c.a_TooBig "bad_what")) (G_is_sound : FnOk P w K mg base (L2.CX P w) 2 T.a_is_sound T.fd_is_sound ["word"] (spP K fs_is_sound)) (G_word_end : FnOk P w K mg base (L2.CX P w) 2 T.a_word_end T.fd_word_end ["text", "at"] (spP K fs_word_end)) (cdv : Value) (A : Around) (outer : List Env) (s : Shared) (H : Hp) (E : XK) (hr : Room 2 (A.deeper (envOfC "split_words" (defScope s_split_words) s.heap.objs.size T.a_split_words cdv))) (tk : Takes (Cxx P w K mg base ["text", "words", "at", "end", "word"] "split_words" (defScope s_split_words) T.a_split_words cdv A outer s H E) (WxOf E)) (hp : PassesOwn (model P w) (A.deeper (envOfC "split_words" (defScope s_split_words) s.heap.objs.size T.a_split_words cdv)) (envOfC "split_words" (defScope s_split_words) s.heap.objs.size T.a_split_words cdv) (Cxx P w K mg base ["text", "words", "at", "end", "word"] "split_words" (defScope s_split_words) T.a_split_words cdv A outer s H E).xe) : ∃ t, BkD (Cxx P w K mg base ["text", "words", "at", "end", "word"] "split_words" (defScope s_split_words) T.a_split_words cdv A outer s H E) (WxOf E) (defBody s_split_words) t (w_split_words K T.c) := by
  have sc := sc_split_words
  have hu := hr.units
  exact ⟨_, bk_cons (sd_if (td_cmp op_gt r2_cmp (pd_fn call_len2 rc_len bt_len T.z_len (ad_cons (pd_var (i := 0)) (ad_nil))) (pd_gint T.c_MOST_SIGNS) (nomark _)) (bk_one (sd_raise1 rfl tk T.O_TooBig T.iC_TooBig T.tI_TooBig G_TooBig___init__ (hr.mono (by decide)) T.b_TooBig___init__ T.g_TooBig (pd_str))) (bk_nil))
  (bk_cons (sd_asg (pd_lst (ad_nil)) (gd_name (i := 1) sc.nd))
  (bk_cons (sd_asg (pd_int) (gd_name (i := 2) sc.nd))
  (bk_cons (sd_while hp (td_cmp op_lt r2_cmp (pd_var (i := 2)) (pd_fn call_len2 rc_len bt_len T.z_len (ad_cons (pd_var (i := 0)) (ad_nil))) (nomark _)) (bk_one (sd_if (td_cmp op_in2 r2_in (pd_ix (pd_var (i := 0)) (pd_var (i := 2))) (pd_gstr T.c_BLANKS) rfl) (bk_one (sd_aug (i := 2) sc.nd (pd_int) ip_add r2_I)) (bk_cons (sd_asg (pd_call G_word_end (hr.mono (by decide)) T.g_word_end T.F_word_end.kp T.b_word_end tk [.d, .d] (ad_cons (pd_var (i := 0)) (ad_cons (pd_var (i := 2)) (ad_nil)))) (gd_name (i := 3) sc.nd))
  (bk_cons (sd_asg (pd_sl (pd_var (i := 0)) (od_some (pd_var (i := 2))) (od_some (pd_var (i := 3)))) (gd_name (i := 4) sc.nd))
  (bk_cons (sd_if (td_not (td_tru (pd_call G_is_sound (hr.mono (by decide)) T.g_is_sound T.F_is_sound.kp T.b_is_sound tk [.d] (ad_cons (pd_var (i := 4)) (ad_nil))))) (bk_one (sd_raise1 rfl tk T.O_BadText T.iC_BadText T.tI_BadText G_BadText___init__ (hr.mono (by decide)) T.b_BadText___init__ T.g_BadText (pd_fn call_len2 rc_len bt_len T.z_len (ad_cons (pd_var (i := 1)) (ad_nil))))) (bk_nil))
  (bk_cons (sd_app (pd_var (i := 1)) (pd_var (i := 4)))
  (bk_one (sd_asg (pd_var (i := 3)) (gd_name (i := 2) sc.nd))))))))))
  (bk_one (sd_ret (pd_var (i := 1)))))))⟩
theorem sc_is_spelling : FnScope ["text"] ["text"] (defScope s_is_spelling) := ⟨rfl, rfl, rfl, by decide +kernel, rfl, by decide +kernel, by decide +kernel⟩
theorem bk_is_spelling (T : Tx w K mg) (G_run_end : FnOk P w K mg base (L2.CX P w) 1 T.a_run_end T.fd_run_end ["text", "at", "signs"] (spP K fs_run_end)) (cdv : Value) (A : Around) (outer : List Env) (s : Shared) (H : Hp) (E : XK) (hr : Room 1 (A.deeper (envOfC "is_spelling" (defScope s_is_spelling) s.heap.objs.size T.a_is_spelling cdv))) (tk : Takes (Cxx P w K mg base ["text"] "is_spelling" (defScope s_is_spelling) T.a_is_spelling cdv A outer s H E) (WxOf E)) (hp : PassesOwn (model P w) (A.deeper (envOfC "is_spelling" (defScope s_is_spelling) s.heap.objs.size T.a_is_spelling cdv)) (envOfC "is_spelling" (defScope s_is_spelling) s.heap.objs.size T.a_is_spelling cdv) (Cxx P w K mg base ["text"] "is_spelling" (defScope s_is_spelling) T.a_is_spelling cdv A outer s H E).xe) : ∃ t, BkD (Cxx P w K mg base ["text"] "is_spelling" (defScope s_is_spelling) T.a_is_spelling cdv A outer s H E) (WxOf E) (defBody s_is_spelling) t (w_is_spelling) := by
  have sc := sc_is_spelling
  have hu := hr.units
  exact ⟨_, bk_cons (sd_if ((bd_or (td_cmp (op_eq2 hu) r2_eq (pd_var (i := 0)) (pd_str) (nomark _)) (bd_or1 (td_cmp op_gt r2_cmp (pd_fn call_len2 rc_len bt_len T.z_len (ad_cons (pd_var (i := 0)) (ad_nil))) (pd_gint T.c_MOST_WORD_SIGNS) (nomark _)))).td) (bk_one (sd_ret (pd_bl))) (bk_nil))
  (bk_cons (sd_if ((bd_or (td_cmp op_notIn2 r2_notIn (pd_ix (pd_var (i := 0)) (pd_int)) (pd_gstr T.c_LETTERS) rfl) (bd_or1 (td_inK T.g_KEPT_WORDS T.k_KEPT_WORDS (pd_var (i := 0))))).td) (bk_one (sd_ret (pd_bl))) (bk_nil))
  (bk_one (sd_ret (pd_cmp (op_eq2 hu) r2_eq (pd_call G_run_end (hr.mono (by decide)) T.g_run_end T.F_run_end.kp T.b_run_end tk [.d, .d, .d] (ad_cons (pd_var (i := 0)) (ad_cons (pd_int) (ad_cons (pd_bin op_add2 r2_add (pd_gstr T.c_LETTERS) (pd_gstr T.c_DIGITS)) (ad_nil))))) (pd_fn call_len2 rc_len bt_len T.z_len (ad_cons (pd_var (i := 0)) (ad_nil))) (nomark _)))))⟩
theorem sc__law_store : FnScope ["script", "cells", "seed", "cell"] ["script"] (defScope s__law_store) := ⟨rfl, rfl, rfl, by decide +kernel, rfl, by decide +kernel, by decide +kernel⟩
theorem bk__law_store (T : Tx w K mg)  (cdv : Value) (A : Around) (outer : List Env) (s : Shared) (H : Hp) (E : XK) (hr : Room 0 (A.deeper (envOfC "_law_store" (defScope s__law_store) s.heap.objs.size T.a__law_store cdv))) (tk : Takes (Cxx P w K mg base ["script", "cells", "seed", "cell"] "_law_store" (defScope s__law_store) T.a__law_store cdv A outer s H E) (WxOf E)) (hp : PassesOwn (model P w) (A.deeper (envOfC "_law_store" (defScope s__law_store) s.heap.objs.size T.a__law_store cdv)) (envOfC "_law_store" (defScope s__law_store) s.heap.objs.size T.a__law_store cdv) (Cxx P w K mg base ["script", "cells", "seed", "cell"] "_law_store" (defScope s__law_store) T.a__law_store cdv A outer s H E).xe) : ∃ t, BkD (Cxx P w K mg base ["script", "cells", "seed", "cell"] "_law_store" (defScope s__law_store) T.a__law_store cdv A outer s H E) (WxOf E) (defBody s__law_store) t (w__law_store) := by
  have sc := sc__law_store
  have hu := hr.units
  exact ⟨_, bk_cons (sd_fz (i := 1) (sd_setLc (i := 1) rfl sc.nd rfl (id_list (pd_cutScr (i := 0) (od_none) (od_some (pd_int)))) (te := tCB rInt2 (tCons (tVar 3) (tNil))) (tt := tYes) (own := [("cell", 3)]) (by exact (show BlkOk ["script", "cells", "seed", "cell"] (defScope s__law_store) _ [("cell", 3)] from ⟨rfl, by decide +kernel, by decide +kernel, by decide +kernel, by decide +kernel⟩)) (fun _ _ _ _ _ => gd_name (i := 3) sc.nd) (fun _ _ _ _ _ => ls_nil) (fun _ _ _ _ _ => pd_ty call_int2 rc_int bt_int T.z_int (ad_cons (pd_var (i := 3)) (ad_nil))) (Stores.name (by decide))))
  (bk_cons (sd_asg (pd_bin op_add2 r2_add (pd_int) (pd_fn call_len2 rc_len bt_len T.z_len (ad_cons (pd_var (i := 1)) (ad_nil)))) (gd_name (i := 2) sc.nd))
  (bk_cons (sd_for hp rfl (id_list (pd_var (i := 1))) (gd_name (i := 3) sc.nd) (bk_one (sd_asg (pd_bin op_mod r2_IC (pd_ty call_int2 rc_int bt_int T.z_int (ad_cons (pd_bin op_add2 r2_add (pd_bin op_add2 r2_add (pd_bin op_mul r2_IC (pd_var (i := 2)) (pd_int)) (pd_bin op_mod r2_IC (pd_ty call_int2 rc_int bt_int T.z_int (ad_cons (pd_var (i := 3)) (ad_nil))) (pd_int))) (pd_int)) (ad_nil))) (pd_int)) (gd_name (i := 2) sc.nd))))
  (bk_one (sd_ret (pd_cat (pd_lst (ad_cons (pd_int) (ad_cons (pd_int) (ad_cons (pd_int) (ad_cons (pd_int) (ad_cons (pd_int) (ad_cons (pd_var (i := 2)) (ad_nil)))))))) (pd_var (i := 1)))))))⟩
theorem sc__law_mix : FnScope ["value", "turn", "low", "high"] ["value", "turn"] (defScope s__law_mix) := ⟨rfl, rfl, rfl, by decide +kernel, rfl, by decide +kernel, by decide +kernel⟩
theorem bk__law_mix (T : Tx w K mg)  (cdv : Value) (A : Around) (outer : List Env) (s : Shared) (H : Hp) (E : XK) (hr : Room 0 (A.deeper (envOfC "_law_mix" (defScope s__law_mix) s.heap.objs.size T.a__law_mix cdv))) (tk : Takes (Cxx P w K mg base ["value", "turn", "low", "high"] "_law_mix" (defScope s__law_mix) T.a__law_mix cdv A outer s H E) (WxOf E)) (hp : PassesOwn (model P w) (A.deeper (envOfC "_law_mix" (defScope s__law_mix) s.heap.objs.size T.a__law_mix cdv)) (envOfC "_law_mix" (defScope s__law_mix) s.heap.objs.size T.a__law_mix cdv) (Cxx P w K mg base ["value", "turn", "low", "high"] "_law_mix" (defScope s__law_mix) T.a__law_mix cdv A outer s H E).xe) : ∃ t, BkD (Cxx P w K mg base ["value", "turn", "low", "high"] "_law_mix" (defScope s__law_mix) T.a__law_mix cdv A outer s H E) (WxOf E) (defBody s__law_mix) t (w__law_mix) := by
  have sc := sc__law_mix
  have hu := hr.units
  exact ⟨_, bk_cons (sd_asg (pd_bin op_mod r2_IC (pd_ty call_int2 rc_int bt_int T.z_int (ad_cons (pd_bin op_add2 r2_add (pd_bin op_add2 r2_add (pd_bin op_mul r2_IC (pd_var (i := 0)) (pd_int)) (pd_bin op_mul r2_IC (pd_bin op_add2 r2_add (pd_var (i := 1)) (pd_int)) (pd_int))) (pd_int)) (ad_nil))) (pd_int)) (gd_name (i := 2) sc.nd))
  (bk_cons (sd_asg (pd_bin op_mod r2_IC (pd_ty call_int2 rc_int bt_int T.z_int (ad_cons (pd_bin op_add2 r2_add (pd_bin op_add2 r2_add (pd_bin op_mul r2_IC (pd_var (i := 2)) (pd_var (i := 2))) (pd_bin op_fdivW r2_IC (pd_var (i := 2)) (pd_int))) (pd_var (i := 0))) (ad_nil))) (pd_int)) (gd_name (i := 3) sc.nd))
  (bk_one (sd_ret (pd_bin op_fdivW r2_IC (pd_bin op_mod r2_IC (pd_ty call_int2 rc_int bt_int T.z_int (ad_cons (pd_bin op_add2 r2_add (pd_bin op_mul r2_IC (pd_var (i := 3)) (pd_int)) (pd_int)) (ad_nil))) (pd_int)) (pd_int)))))⟩
theorem sc__law_take : FnScope ["store", "many", "place", "cell", "sign", "digit"] ["store", "many"] (defScope s__law_take) := ⟨rfl, rfl, rfl, by decide +kernel, rfl, by decide +kernel, by decide +kernel⟩
theorem bk__law_take (T : Tx w K mg) (G__law_mix : FnOk P w K mg base (L2.CX P w) 1 T.a__law_mix T.fd__law_mix ["value", "turn"] (spP K fs__law_mix)) (cdv : Value) (A : Around) (outer : List Env) (s : Shared) (H : Hp) (E : XK) (hr : Room 1 (A.deeper (envOfC "_law_take" (defScope s__law_take) s.heap.objs.size T.a__law_take cdv))) (tk : Takes (Cxx P w K mg base ["store", "many", "place", "cell", "sign", "digit"] "_law_take" (defScope s__law_take) T.a__law_take cdv A outer s H E) (WxOf E)) (hp : PassesOwn (model P w) (A.deeper (envOfC "_law_take" (defScope s__law_take) s.heap.objs.size T.a__law_take cdv)) (envOfC "_law_take" (defScope s__law_take) s.heap.objs.size T.a__law_take cdv) (Cxx P w K mg base ["store", "many", "place", "cell", "sign", "digit"] "_law_take" (defScope s__law_take) T.a__law_take cdv A outer s H E).xe) : ∃ t, BkD (Cxx P w K mg base ["store", "many", "place", "cell", "sign", "digit"] "_law_take" (defScope s__law_take) T.a__law_take cdv A outer s H E) (WxOf E) (defBody s__law_take) t (w__law_take) := by
  have sc := sc__law_take
  have hu := hr.units
  exact ⟨_, bk_cons (sd_setI (pd_bin op_add2 r2_add (pd_ix (pd_var (i := 0)) (pd_int)) (pd_int)) (pd_var (i := 0)) (pd_int))
  (bk_cons (sd_asg (pd_bin op_add2 r2_add (pd_int) (pd_ix (pd_var (i := 0)) (pd_int))) (gd_name (i := 2) sc.nd))
  (bk_cons (sd_if ((bd_and (td_cmp (op_eq2 hu) r2_eq (pd_ix (pd_var (i := 0)) (pd_int)) (pd_int) (nomark _)) (bd_and (td_cmp (op_eq2 hu) r2_eq (pd_ix (pd_var (i := 0)) (pd_int)) (pd_int) (nomark _)) (bd_and1 (td_cmp op_lt r2_cmp (pd_var (i := 2)) (pd_fn call_len2 rc_len bt_len T.z_len (ad_cons (pd_var (i := 0)) (ad_nil))) (nomark _))))).td) (bk_cons (sd_setI (pd_bin op_add2 r2_add (pd_ix (pd_var (i := 0)) (pd_int)) (pd_int)) (pd_var (i := 0)) (pd_int))
  (bk_cons (sd_fz (i := 3) (sd_asg (pd_ix (pd_var (i := 0)) (pd_var (i := 2))) (gd_name (i := 3) sc.nd)))
  (bk_cons (sd_asg (pd_int) (gd_name (i := 4) sc.nd))
  (bk_cons (sd_if (td_cmp op_lt r2_cmp (pd_var (i := 3)) (pd_int) (nomark _)) (bk_cons (sd_asg (pd_bin op_sub r2_I (pd_neg (pd_int)) (pd_var (i := 3))) (gd_name (i := 3) sc.nd))
  (bk_one (sd_asg (pd_int) (gd_name (i := 4) sc.nd)))) (bk_nil))
  (bk_one (sd_if (td_cmp op_ge r2_cmp (pd_var (i := 3)) (pd_bin op_powW r2_IC (pd_int) (pd_int)) (nomark _)) (bk_one (sd_setI (pd_bin op_mod r2_IC (pd_ty call_int2 rc_int bt_int T.z_int (ad_cons (pd_var (i := 3)) (ad_nil))) (pd_bin op_powW r2_IC (pd_bin op_powW r2_IC (pd_int) (pd_int)) (pd_int))) (pd_var (i := 0)) (pd_int))) (bk_cons (sd_setI (pd_int) (pd_var (i := 0)) (pd_int))
  (bk_one (sd_setI (pd_bin op_add2 r2_add (pd_bin op_mul r2_IC (pd_int) (pd_var (i := 3))) (pd_var (i := 4))) (pd_var (i := 0)) (pd_int)))))))))) (bk_nil))
  (bk_cons (sd_if (td_cmp op_lt r2_cmp (pd_var (i := 1)) (pd_int) (nomark _)) (bk_one (sd_ret (pd_int))) (bk_nil))
  (bk_cons (sd_if (td_cmp op_gt r2_cmp (pd_ix (pd_var (i := 0)) (pd_int)) (pd_int) (nomark _)) (bk_cons (sd_asg (pd_bin op_mod r2_IC (pd_ty call_int2 rc_int bt_int T.z_int (ad_cons (pd_ix (pd_var (i := 0)) (pd_int)) (ad_nil))) (pd_var (i := 1))) (gd_name (i := 5) sc.nd))
  (bk_cons (sd_setI (pd_bin op_fdivW r2_IC (pd_ix (pd_var (i := 0)) (pd_int)) (pd_var (i := 1))) (pd_var (i := 0)) (pd_int))
  (bk_one (sd_ret (pd_var (i := 5)))))) (bk_nil))
  (bk_cons (sd_if (td_cmp op_gt r2_cmp (pd_ix (pd_var (i := 0)) (pd_int)) (pd_int) (nomark _)) (bk_cons (sd_setI (pd_bin op_sub r2_I (pd_ix (pd_var (i := 0)) (pd_int)) (pd_int)) (pd_var (i := 0)) (pd_int))
  (bk_one (sd_ret (pd_bin op_mod r2_IC (pd_ty call_int2 rc_int bt_int T.z_int (ad_cons (pd_call G__law_mix (hr.mono (by decide)) T.g__law_mix T.F__law_mix.kp T.b__law_mix tk [.d, .d] (ad_cons (pd_ix (pd_var (i := 0)) (pd_int)) (ad_cons (pd_ix (pd_var (i := 0)) (pd_int)) (ad_nil)))) (ad_nil))) (pd_var (i := 1)))))) (bk_nil))
  (bk_one (sd_ret (pd_bin op_mod r2_IC (pd_ty call_int2 rc_int bt_int T.z_int (ad_cons (pd_call G__law_mix (hr.mono (by decide)) T.g__law_mix T.F__law_mix.kp T.b__law_mix tk [.d, .d] (ad_cons (pd_ix (pd_var (i := 0)) (pd_int)) (ad_cons (pd_ix (pd_var (i := 0)) (pd_int)) (ad_nil)))) (ad_nil))) (pd_var (i := 1))))))))))⟩
theorem sc__law_edge : FnScope ["store", "low", "high", "way"] ["store", "low", "high"] (defScope s__law_edge) := ⟨rfl, rfl, rfl, by decide +kernel, rfl, by decide +kernel, by decide +kernel⟩
theorem bk__law_edge (T : Tx w K mg) (G__law_take : FnOk P w K mg base (L2.CX P w) 2 T.a__law_take T.fd__law_take ["store", "many"] (spP K fs__law_take)) (cdv : Value) (A : Around) (outer : List Env) (s : Shared) (H : Hp) (E : XK) (hr : Room 2 (A.deeper (envOfC "_law_edge" (defScope s__law_edge) s.heap.objs.size T.a__law_edge cdv))) (tk : Takes (Cxx P w K mg base ["store", "low", "high", "way"] "_law_edge" (defScope s__law_edge) T.a__law_edge cdv A outer s H E) (WxOf E)) (hp : PassesOwn (model P w) (A.deeper (envOfC "_law_edge" (defScope s__law_edge) s.heap.objs.size T.a__law_edge cdv)) (envOfC "_law_edge" (defScope s__law_edge) s.heap.objs.size T.a__law_edge cdv) (Cxx P w K mg base ["store", "low", "high", "way"] "_law_edge" (defScope s__law_edge) T.a__law_edge cdv A outer s H E).xe) : ∃ t, BkD (Cxx P w K mg base ["store", "low", "high", "way"] "_law_edge" (defScope s__law_edge) T.a__law_edge cdv A outer s H E) (WxOf E) (defBody s__law_edge) t (w__law_edge) := by
  have sc := sc__law_edge
  have hu := hr.units
  exact ⟨_, bk_cons (sd_asg (pd_call G__law_take (hr.mono (by decide)) T.g__law_take T.F__law_take.kp T.b__law_take tk [.s, .d] (ad_cons (pd_var (i := 0)) (ad_cons (pd_int) (ad_nil)))) (gd_name (i := 3) sc.nd))
  (bk_cons (sd_if (td_cmp (op_eq2 hu) r2_eq (pd_var (i := 3)) (pd_int) (nomark _)) (bk_one (sd_ret (pd_var (i := 1)))) (bk_nil))
  (bk_cons (sd_if (td_cmp (op_eq2 hu) r2_eq (pd_var (i := 3)) (pd_int) (nomark _)) (bk_one (sd_ret (pd_fn (call_max2 rfl) rc_2I bt_max T.z_max (ad_cons (pd_var (i := 1)) (ad_cons (pd_var (i := 2)) (ad_nil)))))) (bk_nil))
  (bk_one (sd_ret (pd_bin op_add2 r2_add (pd_var (i := 1)) (pd_call G__law_take (hr.mono (by decide)) T.g__law_take T.F__law_take.kp T.b__law_take tk [.s, .d] (ad_cons (pd_var (i := 0)) (ad_cons (pd_bin op_add2 r2_add (pd_bin op_sub r2_I (pd_var (i := 2)) (pd_var (i := 1))) (pd_int)) (ad_nil)))))))))⟩
theorem sc__law_pick : FnScope ["store", "options"] ["store", "options"] (defScope s__law_pick) := ⟨rfl, rfl, rfl, by decide +kernel, rfl, by decide +kernel, by decide +kernel⟩
theorem bk__law_pick (T : Tx w K mg) (G__law_take : FnOk P w K mg base (L2.CX P w) 2 T.a__law_take T.fd__law_take ["store", "many"] (spP K fs__law_take)) (cdv : Value) (A : Around) (outer : List Env) (s : Shared) (H : Hp) (E : XK) (hr : Room 2 (A.deeper (envOfC "_law_pick" (defScope s__law_pick) s.heap.objs.size T.a__law_pick cdv))) (tk : Takes (Cxx P w K mg base ["store", "options"] "_law_pick" (defScope s__law_pick) T.a__law_pick cdv A outer s H E) (WxOf E)) (hp : PassesOwn (model P w) (A.deeper (envOfC "_law_pick" (defScope s__law_pick) s.heap.objs.size T.a__law_pick cdv)) (envOfC "_law_pick" (defScope s__law_pick) s.heap.objs.size T.a__law_pick cdv) (Cxx P w K mg base ["store", "options"] "_law_pick" (defScope s__law_pick) T.a__law_pick cdv A outer s H E).xe) : ∃ t, BkD (Cxx P w K mg base ["store", "options"] "_law_pick" (defScope s__law_pick) T.a__law_pick cdv A outer s H E) (WxOf E) (defBody s__law_pick) t (w__law_pick) := by
  have sc := sc__law_pick
  have hu := hr.units
  exact ⟨_, bk_one (sd_ret (pd_ix (pd_var (i := 1)) (pd_call G__law_take (hr.mono (by decide)) T.g__law_take T.F__law_take.kp T.b__law_take tk [.s, .d] (ad_cons (pd_var (i := 0)) (ad_cons (pd_fn call_len2 rc_len bt_len T.z_len (ad_cons (pd_var (i := 1)) (ad_nil))) (ad_nil))))))⟩
theorem sc__law_number : FnScope ["store", "way"] ["store"] (defScope s__law_number) := ⟨rfl, rfl, rfl, by decide +kernel, rfl, by decide +kernel, by decide +kernel⟩
theorem bk__law_number (T : Tx w K mg) (G__law_take : FnOk P w K mg base (L2.CX P w) 2 T.a__law_take T.fd__law_take ["store", "many"] (spP K fs__law_take)) (cdv : Value) (A : Around) (outer : List Env) (s : Shared) (H : Hp) (E : XK) (hr : Room 2 (A.deeper (envOfC "_law_number" (defScope s__law_number) s.heap.objs.size T.a__law_number cdv))) (tk : Takes (Cxx P w K mg base ["store", "way"] "_law_number" (defScope s__law_number) T.a__law_number cdv A outer s H E) (WxOf E)) (hp : PassesOwn (model P w) (A.deeper (envOfC "_law_number" (defScope s__law_number) s.heap.objs.size T.a__law_number cdv)) (envOfC "_law_number" (defScope s__law_number) s.heap.objs.size T.a__law_number cdv) (Cxx P w K mg base ["store", "way"] "_law_number" (defScope s__law_number) T.a__law_number cdv A outer s H E).xe) : ∃ t, BkD (Cxx P w K mg base ["store", "way"] "_law_number" (defScope s__law_number) T.a__law_number cdv A outer s H E) (WxOf E) (defBody s__law_number) t (w__law_number) := by
  have sc := sc__law_number
  have hu := hr.units
  exact ⟨_, bk_cons (sd_asg (pd_call G__law_take (hr.mono (by decide)) T.g__law_take T.F__law_take.kp T.b__law_take tk [.s, .d] (ad_cons (pd_var (i := 0)) (ad_cons (pd_int) (ad_nil)))) (gd_name (i := 1) sc.nd))
  (bk_cons (sd_if (td_cmp (op_eq2 hu) r2_eq (pd_var (i := 1)) (pd_int) (nomark _)) (bk_one (sd_ret (pd_ix (pd_lst (ad_cons (pd_int) (ad_cons (pd_int) (ad_cons (pd_neg (pd_int)) (ad_cons (pd_int) (ad_cons (pd_neg (pd_int)) (ad_cons (pd_int) (ad_cons (pd_int) (ad_cons (pd_neg (pd_int)) (ad_nil)))))))))) (pd_call G__law_take (hr.mono (by decide)) T.g__law_take T.F__law_take.kp T.b__law_take tk [.s, .d] (ad_cons (pd_var (i := 0)) (ad_cons (pd_int) (ad_nil))))))) (bk_nil))
  (bk_cons (sd_if (td_cmp op_lt r2_cmp (pd_var (i := 1)) (pd_int) (nomark _)) (bk_one (sd_ret (pd_bin op_sub r2_I (pd_call G__law_take (hr.mono (by decide)) T.g__law_take T.F__law_take.kp T.b__law_take tk [.s, .d] (ad_cons (pd_var (i := 0)) (ad_cons (pd_int) (ad_nil)))) (pd_int)))) (bk_nil))
  (bk_cons (sd_if (td_cmp (op_eq2 hu) r2_eq (pd_var (i := 1)) (pd_int) (nomark _)) (bk_one (sd_ret (pd_bin op_sub r2_I (pd_call G__law_take (hr.mono (by decide)) T.g__law_take T.F__law_take.kp T.b__law_take tk [.s, .d] (ad_cons (pd_var (i := 0)) (ad_cons (pd_int) (ad_nil)))) (pd_int)))) (bk_nil))
  (bk_one (sd_ret (pd_bin op_sub r2_I (pd_call G__law_take (hr.mono (by decide)) T.g__law_take T.F__law_take.kp T.b__law_take tk [.s, .d] (ad_cons (pd_var (i := 0)) (ad_cons (pd_int) (ad_nil)))) (pd_int)))))))⟩
theorem sc__law_word : FnScope ["way", "k", "letters", "signs", "words"] ["way", "k"] (defScope s__law_word) := ⟨rfl, rfl, rfl, by decide +kernel, rfl, by decide +kernel, by decide +kernel⟩
theorem bk__law_word (T : Tx w K mg)  (cdv : Value) (A : Around) (outer : List Env) (s : Shared) (H : Hp) (E : XK) (hr : Room 0 (A.deeper (envOfC "_law_word" (defScope s__law_word) s.heap.objs.size T.a__law_word cdv))) (tk : Takes (Cxx P w K mg base ["way", "k", "letters", "signs", "words"] "_law_word" (defScope s__law_word) T.a__law_word cdv A outer s H E) (WxOf E)) (hp : PassesOwn (model P w) (A.deeper (envOfC "_law_word" (defScope s__law_word) s.heap.objs.size T.a__law_word cdv)) (envOfC "_law_word" (defScope s__law_word) s.heap.objs.size T.a__law_word cdv) (Cxx P w K mg base ["way", "k", "letters", "signs", "words"] "_law_word" (defScope s__law_word) T.a__law_word cdv A outer s H E).xe) : ∃ t, BkD (Cxx P w K mg base ["way", "k", "letters", "signs", "words"] "_law_word" (defScope s__law_word) T.a__law_word cdv A outer s H E) (WxOf E) (defBody s__law_word) t (w__law_word) := by
  have sc := sc__law_word
  have hu := hr.units
  exact ⟨_, bk_cons (sd_asg (pd_str) (gd_name (i := 2) sc.nd))
  (bk_cons (sd_asg (pd_bin op_add2 r2_add (pd_var (i := 2)) (pd_str)) (gd_name (i := 3) sc.nd))
  (bk_cons (sd_if ((bd_and (td_cmp (op_eq2 hu) r2_eq (pd_var (i := 0)) (pd_int) (nomark _)) (bd_and1 (td_cmp op_lt r2_cmp (pd_var (i := 1)) (pd_int) (nomark _)))).td) (bk_one (sd_ret (pd_ix (pd_var (i := 2)) (pd_var (i := 1))))) (bk_nil))
  (bk_cons (sd_if (td_cmp (op_eq2 hu) r2_eq (pd_var (i := 0)) (pd_int) (nomark _)) (bk_one (sd_ret (pd_bin op_add2 r2_add (pd_bin op_add2 r2_add (pd_str) (pd_ix (pd_var (i := 3)) (pd_bin op_fdivW r2_IC (pd_var (i := 1)) (pd_int)))) (pd_ix (pd_var (i := 3)) (pd_bin op_mod r2_IC (pd_ty call_int2 rc_int bt_int T.z_int (ad_cons (pd_var (i := 1)) (ad_nil))) (pd_int)))))) (bk_nil))
  (bk_cons (sd_if (td_cmp (op_eq2 hu) r2_eq (pd_var (i := 0)) (pd_int) (nomark _)) (bk_one (sd_ret (pd_bin op_add2 r2_add (pd_bin op_add2 r2_add (pd_bin op_add2 r2_add (pd_str) (pd_ix (pd_var (i := 3)) (pd_bin op_fdivW r2_IC (pd_var (i := 1)) (pd_int)))) (pd_ix (pd_var (i := 3)) (pd_bin op_mod r2_IC (pd_ty call_int2 rc_int bt_int T.z_int (ad_cons (pd_var (i := 1)) (ad_nil))) (pd_int)))) (pd_str)))) (bk_nil))
  (bk_cons (sd_if (td_cmp (op_eq2 hu) r2_eq (pd_var (i := 0)) (pd_int) (nomark _)) (bk_one (sd_ret (pd_bin op_mulS r2_mulS (pd_ix (pd_var (i := 2)) (pd_bin op_sub r2_I (pd_int) (pd_bin op_mod r2_IC (pd_ty call_int2 rc_int bt_int T.z_int (ad_cons (pd_var (i := 1)) (ad_nil))) (pd_int)))) (pd_bin op_add2 r2_add (pd_int) (pd_bin op_fdivW r2_IC (pd_var (i := 1)) (pd_int)))))) (bk_nil))
  (bk_cons (sd_fz (i := 4) (sd_asg (pd_lst (ad_cons (pd_str) (ad_cons (pd_str) (ad_cons (pd_str) (ad_cons (pd_str) (ad_cons (pd_str) (ad_cons (pd_str) (ad_cons (pd_str) (ad_cons (pd_str) (ad_cons (pd_str) (ad_cons (pd_str) (ad_cons (pd_str) (ad_cons (pd_str) (ad_cons (pd_str) (ad_nil))))))))))))))) (gd_name (i := 4) sc.nd)))
  (bk_cons (sd_fz (i := 4) (sd_asg (pd_cat (pd_var (i := 4)) (pd_lst (ad_cons (pd_str) (ad_cons (pd_str) (ad_cons (pd_str) (ad_cons (pd_str) (ad_cons (pd_str) (ad_cons (pd_str) (ad_cons (pd_str) (ad_cons (pd_str) (ad_cons (pd_str) (ad_cons (pd_str) (ad_cons (pd_str) (ad_nil)))))))))))))) (gd_name (i := 4) sc.nd)))
  (bk_cons (sd_fz (i := 4) (sd_asg (pd_cat (pd_var (i := 4)) (pd_lst (ad_cons (pd_str) (ad_cons (pd_str) (ad_cons (pd_str) (ad_cons (pd_str) (ad_cons (pd_str) (ad_cons (pd_str) (ad_nil))))))))) (gd_name (i := 4) sc.nd)))
  (bk_cons (sd_if ((bd_and (td_cmp (op_eq2 hu) r2_eq (pd_var (i := 0)) (pd_int) (nomark _)) (bd_and1 (td_cmp op_lt r2_cmp (pd_var (i := 1)) (pd_fn call_len2 rc_len bt_len T.z_len (ad_cons (pd_var (i := 4)) (ad_nil))) (nomark _)))).td) (bk_one (sd_ret (pd_ix (pd_var (i := 4)) (pd_var (i := 1))))) (bk_nil))
  (bk_one (sd_ret (pd_bin op_add2 r2_add (pd_str) (pd_ty call_str2 rc_str2 bt_str T.z_str (ad_cons (pd_var (i := 1)) (ad_nil)))))))))))))))⟩
theorem sc__law_apart : FnScope ["left", "right", "letters", "digits"] ["left", "right"] (defScope s__law_apart) := ⟨rfl, rfl, rfl, by decide +kernel, rfl, by decide +kernel, by decide +kernel⟩
theorem bk__law_apart (T : Tx w K mg)  (cdv : Value) (A : Around) (outer : List Env) (s : Shared) (H : Hp) (E : XK) (hr : Room 0 (A.deeper (envOfC "_law_apart" (defScope s__law_apart) s.heap.objs.size T.a__law_apart cdv))) (tk : Takes (Cxx P w K mg base ["left", "right", "letters", "digits"] "_law_apart" (defScope s__law_apart) T.a__law_apart cdv A outer s H E) (WxOf E)) (hp : PassesOwn (model P w) (A.deeper (envOfC "_law_apart" (defScope s__law_apart) s.heap.objs.size T.a__law_apart cdv)) (envOfC "_law_apart" (defScope s__law_apart) s.heap.objs.size T.a__law_apart cdv) (Cxx P w K mg base ["left", "right", "letters", "digits"] "_law_apart" (defScope s__law_apart) T.a__law_apart cdv A outer s H E).xe) : ∃ t, BkD (Cxx P w K mg base ["left", "right", "letters", "digits"] "_law_apart" (defScope s__law_apart) T.a__law_apart cdv A outer s H E) (WxOf E) (defBody s__law_apart) t (w__law_apart) := by
  have sc := sc__law_apart
  have hu := hr.units
  exact ⟨_, bk_cons (sd_asg (pd_str) (gd_name (i := 2) sc.nd))
  (bk_cons (sd_asg (pd_str) (gd_name (i := 3) sc.nd))
  (bk_cons (sd_if (td_cmp op_in2 r2_in (pd_ix (pd_var (i := 1)) (pd_int)) (pd_var (i := 3)) rfl) (bk_one (sd_ret (pd_or (pd_cmp op_in2 r2_in (pd_ix (pd_var (i := 0)) (pd_int)) (pd_var (i := 2)) rfl) (pd_one (pd_cmp op_in2 r2_in (pd_ix (pd_var (i := 0)) (pd_neg (pd_int))) (pd_var (i := 3)) rfl))))) (bk_nil))
  (bk_one (sd_ret (pd_and (pd_cmp op_in2 r2_in (pd_ix (pd_var (i := 1)) (pd_int)) (pd_var (i := 2)) rfl) (pd_one (pd_cmp op_in2 r2_in (pd_ix (pd_var (i := 0)) (pd_int)) (pd_var (i := 2)) rfl)))))))⟩
theorem sc__law_spread : FnScope ["store", "words", "way", "parts", "k", "gap"] ["store", "words"] (defScope s__law_spread) := ⟨rfl, rfl, rfl, by decide +kernel, rfl, by decide +kernel, by decide +kernel⟩
theorem bk__law_spread (T : Tx w K mg) (G__law_apart : FnOk P w K mg base (L2.CX P w) 1 T.a__law_apart T.fd__law_apart ["left", "right"] (spP K fs__law_apart)) (G__law_pick : FnOk P w K mg base (L2.CX P w) 3 T.a__law_pick T.fd__law_pick ["store", "options"] (spP K fs__law_pick)) (G__law_take : FnOk P w K mg base (L2.CX P w) 2 T.a__law_take T.fd__law_take ["store", "many"] (spP K fs__law_take)) (cdv : Value) (A : Around) (outer : List Env) (s : Shared) (H : Hp) (E : XK) (hr : Room 3 (A.deeper (envOfC "_law_spread" (defScope s__law_spread) s.heap.objs.size T.a__law_spread cdv))) (tk : Takes (Cxx P w K mg base ["store", "words", "way", "parts", "k", "gap"] "_law_spread" (defScope s__law_spread) T.a__law_spread cdv A outer s H E) (WxOf E)) (hp : PassesOwn (model P w) (A.deeper (envOfC "_law_spread" (defScope s__law_spread) s.heap.objs.size T.a__law_spread cdv)) (envOfC "_law_spread" (defScope s__law_spread) s.heap.objs.size T.a__law_spread cdv) (Cxx P w K mg base ["store", "words", "way", "parts", "k", "gap"] "_law_spread" (defScope s__law_spread) T.a__law_spread cdv A outer s H E).xe) : ∃ t, BkD (Cxx P w K mg base ["store", "words", "way", "parts", "k", "gap"] "_law_spread" (defScope s__law_spread) T.a__law_spread cdv A outer s H E) (WxOf E) (defBody s__law_spread) t (w__law_spread) := by
  have sc := sc__law_spread
  have hu := hr.units
  exact ⟨_, bk_cons (sd_asg (pd_call G__law_take (hr.mono (by decide)) T.g__law_take T.F__law_take.kp T.b__law_take tk [.s, .d] (ad_cons (pd_var (i := 0)) (ad_cons (pd_int) (ad_nil)))) (gd_name (i := 2) sc.nd))
  (bk_cons (sd_if (td_cmp (op_eq2 hu) r2_eq (pd_var (i := 2)) (pd_int) (nomark _)) (bk_one (sd_ret (pd_join (pd_str) (pd_var (i := 1))))) (bk_nil))
  (bk_cons (sd_if (td_cmp (op_eq2 hu) r2_eq (pd_var (i := 2)) (pd_int) (nomark _)) (bk_one (sd_ret (pd_join (pd_str) (pd_var (i := 1))))) (bk_nil))
  (bk_cons (sd_asg (pd_lst (ad_nil)) (gd_name (i := 3) sc.nd))
  (bk_cons (sd_for hp rfl (id_r1 T.z_range (ad_cons (pd_fn call_len2 rc_len bt_len T.z_len (ad_cons (pd_var (i := 1)) (ad_nil))) (ad_nil))) (gd_name (i := 4) sc.nd) (bk_cons (sd_asg (pd_str) (gd_name (i := 5) sc.nd))
  (bk_cons (sd_if (td_cmp op_gt r2_cmp (pd_var (i := 2)) (pd_int) (nomark _)) (bk_one (sd_asg (pd_call G__law_pick (hr.mono (by decide)) T.g__law_pick T.F__law_pick.kp T.b__law_pick tk [.s, .d] (ad_cons (pd_var (i := 0)) (ad_cons (pd_lst (ad_cons (pd_str) (ad_cons (pd_str) (ad_cons (pd_str) (ad_cons (pd_str) (ad_cons (pd_str) (ad_cons (pd_str) (ad_nil)))))))) (ad_nil)))) (gd_name (i := 5) sc.nd))) (bk_nil))
  (bk_cons (sd_if ((bd_and (td_cmp (op_eq2 hu) r2_eq (pd_var (i := 5)) (pd_str) (nomark _)) (bd_and (td_cmp op_gt r2_cmp (pd_var (i := 4)) (pd_int) (nomark _)) (bd_and1 (td_tru (pd_call G__law_apart (hr.mono (by decide)) T.g__law_apart T.F__law_apart.kp T.b__law_apart tk [.d, .d] (ad_cons (pd_ix (pd_var (i := 1)) (pd_bin op_sub r2_I (pd_var (i := 4)) (pd_int))) (ad_cons (pd_ix (pd_var (i := 1)) (pd_var (i := 4))) (ad_nil)))))))).td) (bk_one (sd_asg (pd_str) (gd_name (i := 5) sc.nd))) (bk_nil))
  (bk_one (sd_app (pd_var (i := 3)) (pd_bin op_add2 r2_add (pd_var (i := 5)) (pd_ix (pd_var (i := 1)) (pd_var (i := 4))))))))))
  (bk_one (sd_ret (pd_bin op_add2 r2_add (pd_join (pd_str) (pd_var (i := 3))) (pd_ix (pd_lst (ad_cons (pd_str) (ad_cons (pd_str) (ad_cons (pd_str) (ad_cons (pd_str) (ad_cons (pd_str) (ad_nil))))))) (pd_var (i := 2))))))))))⟩
theorem sc__law_bad_sign : FnScope ["store"] ["store"] (defScope s__law_bad_sign) := ⟨rfl, rfl, rfl, by decide +kernel, rfl, by decide +kernel, by decide +kernel⟩
theorem bk__law_bad_sign (T : Tx w K mg) (G__law_pick : FnOk P w K mg base (L2.CX P w) 3 T.a__law_pick T.fd__law_pick ["store", "options"] (spP K fs__law_pick)) (cdv : Value) (A : Around) (outer : List Env) (s : Shared) (H : Hp) (E : XK) (hr : Room 3 (A.deeper (envOfC "_law_bad_sign" (defScope s__law_bad_sign) s.heap.objs.size T.a__law_bad_sign cdv))) (tk : Takes (Cxx P w K mg base ["store"] "_law_bad_sign" (defScope s__law_bad_sign) T.a__law_bad_sign cdv A outer s H E) (WxOf E)) (hp : PassesOwn (model P w) (A.deeper (envOfC "_law_bad_sign" (defScope s__law_bad_sign) s.heap.objs.size T.a__law_bad_sign cdv)) (envOfC "_law_bad_sign" (defScope s__law_bad_sign) s.heap.objs.size T.a__law_bad_sign cdv) (Cxx P w K mg base ["store"] "_law_bad_sign" (defScope s__law_bad_sign) T.a__law_bad_sign cdv A outer s H E).xe) : ∃ t, BkD (Cxx P w K mg base ["store"] "_law_bad_sign" (defScope s__law_bad_sign) T.a__law_bad_sign cdv A outer s H E) (WxOf E) (defBody s__law_bad_sign) t (w__law_bad_sign) := by
  have sc := sc__law_bad_sign
  have hu := hr.units
  exact ⟨_, bk_one (sd_ret (pd_call G__law_pick (hr.mono (by decide)) T.g__law_pick T.F__law_pick.kp T.b__law_pick tk [.s, .d] (ad_cons (pd_var (i := 0)) (ad_cons (pd_listS rfl T.z_list (ad_cons (pd_str) (ad_nil))) (ad_nil)))))⟩
theorem sc__law_bad_word : FnScope ["store", "words"] ["store"] (defScope s__law_bad_word) := ⟨rfl, rfl, rfl, by decide +kernel, rfl, by decide +kernel, by decide +kernel⟩
theorem bk__law_bad_word (T : Tx w K mg) (G__law_bad_sign : FnOk P w K mg base (L2.CX P w) 4 T.a__law_bad_sign T.fd__law_bad_sign ["store"] (spP K fs__law_bad_sign)) (G__law_pick : FnOk P w K mg base (L2.CX P w) 3 T.a__law_pick T.fd__law_pick ["store", "options"] (spP K fs__law_pick)) (G__law_take : FnOk P w K mg base (L2.CX P w) 2 T.a__law_take T.fd__law_take ["store", "many"] (spP K fs__law_take)) (cdv : Value) (A : Around) (outer : List Env) (s : Shared) (H : Hp) (E : XK) (hr : Room 4 (A.deeper (envOfC "_law_bad_word" (defScope s__law_bad_word) s.heap.objs.size T.a__law_bad_word cdv))) (tk : Takes (Cxx P w K mg base ["store", "words"] "_law_bad_word" (defScope s__law_bad_word) T.a__law_bad_word cdv A outer s H E) (WxOf E)) (hp : PassesOwn (model P w) (A.deeper (envOfC "_law_bad_word" (defScope s__law_bad_word) s.heap.objs.size T.a__law_bad_word cdv)) (envOfC "_law_bad_word" (defScope s__law_bad_word) s.heap.objs.size T.a__law_bad_word cdv) (Cxx P w K mg base ["store", "words"] "_law_bad_word" (defScope s__law_bad_word) T.a__law_bad_word cdv A outer s H E).xe) : ∃ t, BkD (Cxx P w K mg base ["store", "words"] "_law_bad_word" (defScope s__law_bad_word) T.a__law_bad_word cdv A outer s H E) (WxOf E) (defBody s__law_bad_word) t (w__law_bad_word) := by
  have sc := sc__law_bad_word
  have hu := hr.units
  exact ⟨_, bk_cons (sd_fz (i := 1) (sd_asg (pd_lst (ad_cons (pd_str) (ad_cons (pd_str) (ad_cons (pd_str) (ad_cons (pd_str) (ad_cons (pd_str) (ad_cons (pd_str) (ad_cons (pd_str) (ad_cons (pd_str) (ad_cons (pd_str) (ad_cons (pd_str) (ad_cons (pd_str) (ad_nil))))))))))))) (gd_name (i := 1) sc.nd)))
  (bk_cons (sd_fz (i := 1) (sd_asg (pd_cat (pd_var (i := 1)) (pd_lst (ad_cons (pd_str) (ad_cons (pd_str) (ad_cons (pd_str) (ad_nil)))))) (gd_name (i := 1) sc.nd)))
  (bk_cons (sd_if (td_cmp (op_eq2 hu) r2_eq (pd_call G__law_take (hr.mono (by decide)) T.g__law_take T.F__law_take.kp T.b__law_take tk [.s, .d] (ad_cons (pd_var (i := 0)) (ad_cons (pd_int) (ad_nil)))) (pd_int) (nomark _)) (bk_one (sd_ret (pd_call G__law_pick (hr.mono (by decide)) T.g__law_pick T.F__law_pick.kp T.b__law_pick tk [.s, .d] (ad_cons (pd_var (i := 0)) (ad_cons (pd_var (i := 1)) (ad_nil)))))) (bk_nil))
  (bk_one (sd_ret (pd_call G__law_bad_sign (hr.mono (by decide)) T.g__law_bad_sign T.F__law_bad_sign.kp T.b__law_bad_sign tk [.s] (ad_cons (pd_var (i := 0)) (ad_nil)))))))⟩
theorem sc__law_bad_spelling : FnScope ["store", "words"] ["store"] (defScope s__law_bad_spelling) := ⟨rfl, rfl, rfl, by decide +kernel, rfl, by decide +kernel, by decide +kernel⟩
theorem bk__law_bad_spelling (T : Tx w K mg) (G__law_pick : FnOk P w K mg base (L2.CX P w) 3 T.a__law_pick T.fd__law_pick ["store", "options"] (spP K fs__law_pick)) (cdv : Value) (A : Around) (outer : List Env) (s : Shared) (H : Hp) (E : XK) (hr : Room 3 (A.deeper (envOfC "_law_bad_spelling" (defScope s__law_bad_spelling) s.heap.objs.size T.a__law_bad_spelling cdv))) (tk : Takes (Cxx P w K mg base ["store", "words"] "_law_bad_spelling" (defScope s__law_bad_spelling) T.a__law_bad_spelling cdv A outer s H E) (WxOf E)) (hp : PassesOwn (model P w) (A.deeper (envOfC "_law_bad_spelling" (defScope s__law_bad_spelling) s.heap.objs.size T.a__law_bad_spelling cdv)) (envOfC "_law_bad_spelling" (defScope s__law_bad_spelling) s.heap.objs.size T.a__law_bad_spelling cdv) (Cxx P w K mg base ["store", "words"] "_law_bad_spelling" (defScope s__law_bad_spelling) T.a__law_bad_spelling cdv A outer s H E).xe) : ∃ t, BkD (Cxx P w K mg base ["store", "words"] "_law_bad_spelling" (defScope s__law_bad_spelling) T.a__law_bad_spelling cdv A outer s H E) (WxOf E) (defBody s__law_bad_spelling) t (w__law_bad_spelling) := by
  have sc := sc__law_bad_spelling
  have hu := hr.units
  exact ⟨_, bk_cons (sd_fz (i := 1) (sd_asg (pd_lst (ad_cons (pd_str) (ad_cons (pd_str) (ad_cons (pd_str) (ad_cons (pd_str) (ad_cons (pd_str) (ad_cons (pd_str) (ad_cons (pd_str) (ad_cons (pd_str) (ad_cons (pd_str) (ad_cons (pd_str) (ad_nil)))))))))))) (gd_name (i := 1) sc.nd)))
  (bk_cons (sd_fz (i := 1) (sd_asg (pd_cat (pd_var (i := 1)) (pd_lst (ad_cons (pd_str) (ad_cons (pd_str) (ad_cons (pd_str) (ad_cons (pd_str) (ad_cons (pd_str) (ad_cons (pd_str) (ad_cons (pd_str) (ad_cons (pd_str) (ad_cons (pd_str) (ad_cons (pd_str) (ad_cons (pd_str) (ad_cons (pd_str) (ad_cons (pd_str) (ad_cons (pd_str) (ad_cons (pd_str) (ad_cons (pd_str) (ad_nil))))))))))))))))))) (gd_name (i := 1) sc.nd)))
  (bk_cons (sd_fz (i := 1) (sd_asg (pd_cat (pd_var (i := 1)) (pd_lst (ad_cons (pd_str) (ad_cons (pd_str) (ad_cons (pd_str) (ad_cons (pd_str) (ad_cons (pd_str) (ad_cons (pd_str) (ad_cons (pd_str) (ad_cons (pd_str) (ad_cons (pd_str) (ad_cons (pd_str) (ad_nil))))))))))))) (gd_name (i := 1) sc.nd)))
  (bk_one (sd_ret (pd_call G__law_pick (hr.mono (by decide)) T.g__law_pick T.F__law_pick.kp T.b__law_pick tk [.s, .d] (ad_cons (pd_var (i := 0)) (ad_cons (pd_var (i := 1)) (ad_nil))))))))⟩
theorem sc__law_same : FnScope ["told", "due", "k"] ["told", "due"] (defScope s__law_same) := ⟨rfl, rfl, rfl, by decide +kernel, rfl, by decide +kernel, by decide +kernel⟩
theorem bk__law_same (T : Tx w K mg) (kr : Nat) (fs__law_same : Fs) (G__law_same : FnOk P w K mg base (L2.CX P w) kr T.a__law_same T.fd__law_same ["told", "due"] (spP K fs__law_same)) (cdv : Value) (A : Around) (outer : List Env) (s : Shared) (H : Hp) (E : XK) (hr : Room kr (A.deeper (envOfC "_law_same" (defScope s__law_same) s.heap.objs.size T.a__law_same cdv))) (tk : Takes (Cxx P w K mg base ["told", "due", "k"] "_law_same" (defScope s__law_same) T.a__law_same cdv A outer s H E) (WxOf E)) (hp : PassesOwn (model P w) (A.deeper (envOfC "_law_same" (defScope s__law_same) s.heap.objs.size T.a__law_same cdv)) (envOfC "_law_same" (defScope s__law_same) s.heap.objs.size T.a__law_same cdv) (Cxx P w K mg base ["told", "due", "k"] "_law_same" (defScope s__law_same) T.a__law_same cdv A outer s H E).xe) : ∃ t, BkD (Cxx P w K mg base ["told", "due", "k"] "_law_same" (defScope s__law_same) T.a__law_same cdv A outer s H E) (WxOf E) (defBody s__law_same) t (w__law_same fs__law_same) := by
  have sc := sc__law_same
  have hu := hr.units
  exact ⟨_, bk_cons (sd_if (td_cmp op_isB r2_isB (pd_var (i := 1)) (pd_non) (nomark _)) (bk_one (sd_ret (pd_cmp op_isB r2_isB (pd_var (i := 0)) (pd_non) (nomark _)))) (bk_nil))
  (bk_cons (sd_if (td_cmp op_isB r2_isB (pd_var (i := 1)) (pd_bl) (nomark _)) (bk_one (sd_ret (pd_cmp op_isB r2_isB (pd_var (i := 0)) (pd_bl) (nomark _)))) (bk_nil))
  (bk_cons (sd_if (td_cmp op_isB r2_isB (pd_var (i := 1)) (pd_bl) (nomark _)) (bk_one (sd_ret (pd_cmp op_isB r2_isB (pd_var (i := 0)) (pd_bl) (nomark _)))) (bk_nil))
  (bk_cons (sd_if (td_tru (pd_isi tf_int bt_int T.z_int T.z_isinstance (pd_var (i := 1)))) (bk_one (sd_ret (pd_and (pd_isi tf_int bt_int T.z_int T.z_isinstance (pd_var (i := 0))) (pd_and (pd_not (pd_isi tf_bool bt_bool T.z_bool T.z_isinstance (pd_var (i := 0)))) (pd_one (pd_cmp (op_eq2 hu) r2_eq (pd_var (i := 0)) (pd_var (i := 1)) (nomark _))))))) (bk_nil))
  (bk_cons (sd_if (td_tru (pd_isi tf_str bt_str T.z_str T.z_isinstance (pd_var (i := 1)))) (bk_one (sd_ret (pd_and (pd_isi tf_str bt_str T.z_str T.z_isinstance (pd_var (i := 0))) (pd_one (pd_cmp (op_eq2 hu) r2_eq (pd_var (i := 0)) (pd_var (i := 1)) (nomark _)))))) (bk_nil))
  (bk_cons (sd_if ((bd_and (td_tru (pd_isi tf_list bt_list T.z_list T.z_isinstance (pd_var (i := 1)))) (bd_and1 (td_not (td_tru (pd_isi tf_list bt_list T.z_list T.z_isinstance (pd_var (i := 0))))))).td) (bk_one (sd_ret (pd_bl))) (bk_nil))
  (bk_cons (sd_if ((bd_and (td_tru (pd_isi tf_tuple bt_tuple T.z_tuple T.z_isinstance (pd_var (i := 1)))) (bd_and1 (td_not (td_tru (pd_isi tf_tuple bt_tuple T.z_tuple T.z_isinstance (pd_var (i := 0))))))).td) (bk_one (sd_ret (pd_bl))) (bk_nil))
  (bk_cons (sd_if (td_cmp (op_ne2 hu) r2_ne (pd_fn call_len2 rc_len bt_len T.z_len (ad_cons (pd_var (i := 0)) (ad_nil))) (pd_fn call_len2 rc_len bt_len T.z_len (ad_cons (pd_var (i := 1)) (ad_nil))) (nomark _)) (bk_one (sd_ret (pd_bl))) (bk_nil))
  (bk_cons (sd_for hp rfl (id_r1 T.z_range (ad_cons (pd_fn call_len2 rc_len bt_len T.z_len (ad_cons (pd_var (i := 1)) (ad_nil))) (ad_nil))) (gd_name (i := 2) sc.nd) (bk_one (sd_if (td_not (td_tru (pd_call G__law_same (hr.mono (Nat.le_refl _)) T.g__law_same T.F__law_same.kp T.b__law_same tk [.r, .r] (ad_cons (pd_ix (pd_var (i := 0)) (pd_var (i := 2))) (ad_cons (pd_ix (pd_var (i := 1)) (pd_var (i := 2))) (ad_nil)))))) (bk_one (sd_ret (pd_bl))) (bk_nil))))
  (bk_one (sd_ret (pd_bl)))))))))))⟩
theorem sc__law_signs : FnScope ["signs"] [] (defScope s__law_signs) := ⟨rfl, rfl, rfl, by decide +kernel, rfl, by decide +kernel, by decide +kernel⟩
theorem bk__law_signs (T : Tx w K mg)  (cdv : Value) (A : Around) (outer : List Env) (s : Shared) (H : Hp) (E : XK) (hr : Room 0 (A.deeper (envOfC "_law_signs" (defScope s__law_signs) s.heap.objs.size T.a__law_signs cdv))) (tk : Takes (Cxx P w K mg base ["signs"] "_law_signs" (defScope s__law_signs) T.a__law_signs cdv A outer s H E) (WxOf E)) (hp : PassesOwn (model P w) (A.deeper (envOfC "_law_signs" (defScope s__law_signs) s.heap.objs.size T.a__law_signs cdv)) (envOfC "_law_signs" (defScope s__law_signs) s.heap.objs.size T.a__law_signs cdv) (Cxx P w K mg base ["signs"] "_law_signs" (defScope s__law_signs) T.a__law_signs cdv A outer s H E).xe) : ∃ t, BkD (Cxx P w K mg base ["signs"] "_law_signs" (defScope s__law_signs) T.a__law_signs cdv A outer s H E) (WxOf E) (defBody s__law_signs) t (w__law_signs) := by
  have sc := sc__law_signs
  have hu := hr.units
  exact ⟨_, bk_cons (sd_asg (pd_str) (gd_name (i := 0) sc.nd))
  (bk_one (sd_ret (pd_bin op_add2 r2_add (pd_var (i := 0)) (pd_str))))⟩
theorem sc__law_kept : FnScope [] [] (defScope s__law_kept) := ⟨rfl, rfl, rfl, by decide +kernel, rfl, by decide +kernel, by decide +kernel⟩
theorem bk__law_kept (T : Tx w K mg)  (cdv : Value) (A : Around) (outer : List Env) (s : Shared) (H : Hp) (E : XK) (hr : Room 0 (A.deeper (envOfC "_law_kept" (defScope s__law_kept) s.heap.objs.size T.a__law_kept cdv))) (tk : Takes (Cxx P w K mg base [] "_law_kept" (defScope s__law_kept) T.a__law_kept cdv A outer s H E) (WxOf E)) (hp : PassesOwn (model P w) (A.deeper (envOfC "_law_kept" (defScope s__law_kept) s.heap.objs.size T.a__law_kept cdv)) (envOfC "_law_kept" (defScope s__law_kept) s.heap.objs.size T.a__law_kept cdv) (Cxx P w K mg base [] "_law_kept" (defScope s__law_kept) T.a__law_kept cdv A outer s H E).xe) : ∃ t, BkD (Cxx P w K mg base [] "_law_kept" (defScope s__law_kept) T.a__law_kept cdv A outer s H E) (WxOf E) (defBody s__law_kept) t (w__law_kept) := by
  have sc := sc__law_kept
  have hu := hr.units
  exact ⟨_, bk_one (sd_ret (pd_lst (ad_cons (pd_str) (ad_cons (pd_str) (ad_cons (pd_str) (ad_cons (pd_str) (ad_cons (pd_str) (ad_cons (pd_str) (ad_cons (pd_str) (ad_cons (pd_str) (ad_cons (pd_str) (ad_cons (pd_str) (ad_nil)))))))))))))⟩
theorem sc__law_right : FnScope ["store", "way"] ["store"] (defScope s__law_right) := ⟨rfl, rfl, rfl, by decide +kernel, rfl, by decide +kernel, by decide +kernel⟩
theorem bk__law_right (T : Tx w K mg) (G__law_kept : FnOk P w K mg base (L2.CX P w) 1 T.a__law_kept T.fd__law_kept [] (spP K fs__law_kept)) (G__law_number : FnOk P w K mg base (L2.CX P w) 3 T.a__law_number T.fd__law_number ["store"] (spP K fs__law_number)) (G__law_pick : FnOk P w K mg base (L2.CX P w) 3 T.a__law_pick T.fd__law_pick ["store", "options"] (spP K fs__law_pick)) (G__law_take : FnOk P w K mg base (L2.CX P w) 2 T.a__law_take T.fd__law_take ["store", "many"] (spP K fs__law_take)) (G__law_word : FnOk P w K mg base (L2.CX P w) 1 T.a__law_word T.fd__law_word ["way", "k"] (spP K fs__law_word)) (cdv : Value) (A : Around) (outer : List Env) (s : Shared) (H : Hp) (E : XK) (hr : Room 3 (A.deeper (envOfC "_law_right" (defScope s__law_right) s.heap.objs.size T.a__law_right cdv))) (tk : Takes (Cxx P w K mg base ["store", "way"] "_law_right" (defScope s__law_right) T.a__law_right cdv A outer s H E) (WxOf E)) (hp : PassesOwn (model P w) (A.deeper (envOfC "_law_right" (defScope s__law_right) s.heap.objs.size T.a__law_right cdv)) (envOfC "_law_right" (defScope s__law_right) s.heap.objs.size T.a__law_right cdv) (Cxx P w K mg base ["store", "way"] "_law_right" (defScope s__law_right) T.a__law_right cdv A outer s H E).xe) : ∃ t, BkD (Cxx P w K mg base ["store", "way"] "_law_right" (defScope s__law_right) T.a__law_right cdv A outer s H E) (WxOf E) (defBody s__law_right) t (w__law_right) := by
  have sc := sc__law_right
  have hu := hr.units
  exact ⟨_, bk_cons (sd_asg (pd_call G__law_take (hr.mono (by decide)) T.g__law_take T.F__law_take.kp T.b__law_take tk [.s, .d] (ad_cons (pd_var (i := 0)) (ad_cons (pd_int) (ad_nil)))) (gd_name (i := 1) sc.nd))
  (bk_cons (sd_if (td_cmp op_lt r2_cmp (pd_var (i := 1)) (pd_int) (nomark _)) (bk_one (sd_ret (pd_call G__law_word (hr.mono (by decide)) T.g__law_word T.F__law_word.kp T.b__law_word tk [.d, .d] (ad_cons (pd_call G__law_take (hr.mono (by decide)) T.g__law_take T.F__law_take.kp T.b__law_take tk [.s, .d] (ad_cons (pd_var (i := 0)) (ad_cons (pd_int) (ad_nil)))) (ad_cons (pd_call G__law_take (hr.mono (by decide)) T.g__law_take T.F__law_take.kp T.b__law_take tk [.s, .d] (ad_cons (pd_var (i := 0)) (ad_cons (pd_int) (ad_nil)))) (ad_nil)))))) (bk_nil))
  (bk_cons (sd_if (td_cmp (op_eq2 hu) r2_eq (pd_var (i := 1)) (pd_int) (nomark _)) (bk_one (sd_ret (pd_call G__law_pick (hr.mono (by decide)) T.g__law_pick T.F__law_pick.kp T.b__law_pick tk [.s, .d] (ad_cons (pd_var (i := 0)) (ad_cons (pd_call0 G__law_kept (hr.mono (by decide)) T.g__law_kept T.F__law_kept.kp T.b__law_kept tk) (ad_nil)))))) (bk_nil))
  (bk_cons (sd_if (td_cmp op_lt r2_cmp (pd_var (i := 1)) (pd_int) (nomark _)) (bk_one (sd_ret (pd_ty call_str2 rc_str2 bt_str T.z_str (ad_cons (pd_call G__law_number (hr.mono (by decide)) T.g__law_number T.F__law_number.kp T.b__law_number tk [.s] (ad_cons (pd_var (i := 0)) (ad_nil))) (ad_nil))))) (bk_nil))
  (bk_one (sd_ret (pd_call G__law_pick (hr.mono (by decide)) T.g__law_pick T.F__law_pick.kp T.b__law_pick tk [.s, .d] (ad_cons (pd_var (i := 0)) (ad_cons (pd_lst (ad_cons (pd_str) (ad_cons (pd_str) (ad_cons (pd_str) (ad_cons (pd_str) (ad_cons (pd_str) (ad_nil))))))) (ad_nil)))))))))⟩
theorem sc__law_cut : FnScope ["text", "words", "mode", "sign", "small", "digit"] ["text"] (defScope s__law_cut) := ⟨rfl, rfl, rfl, by decide +kernel, rfl, by decide +kernel, by decide +kernel⟩
theorem bk__law_cut (T : Tx w K mg)  (cdv : Value) (A : Around) (outer : List Env) (s : Shared) (H : Hp) (E : XK) (hr : Room 0 (A.deeper (envOfC "_law_cut" (defScope s__law_cut) s.heap.objs.size T.a__law_cut cdv))) (tk : Takes (Cxx P w K mg base ["text", "words", "mode", "sign", "small", "digit"] "_law_cut" (defScope s__law_cut) T.a__law_cut cdv A outer s H E) (WxOf E)) (hp : PassesOwn (model P w) (A.deeper (envOfC "_law_cut" (defScope s__law_cut) s.heap.objs.size T.a__law_cut cdv)) (envOfC "_law_cut" (defScope s__law_cut) s.heap.objs.size T.a__law_cut cdv) (Cxx P w K mg base ["text", "words", "mode", "sign", "small", "digit"] "_law_cut" (defScope s__law_cut) T.a__law_cut cdv A outer s H E).xe) : ∃ t, BkD (Cxx P w K mg base ["text", "words", "mode", "sign", "small", "digit"] "_law_cut" (defScope s__law_cut) T.a__law_cut cdv A outer s H E) (WxOf E) (defBody s__law_cut) t (w__law_cut) := by
  have sc := sc__law_cut
  have hu := hr.units
  exact ⟨_, bk_cons (sd_asg (pd_lst (ad_nil)) (gd_name (i := 1) sc.nd))
  (bk_cons (sd_asg (pd_int) (gd_name (i := 2) sc.nd))
  (bk_cons (sd_for hp rfl (id_str (pd_var (i := 0))) (gd_name (i := 3) sc.nd) (bk_cons (sd_asg (pd_cmp op_in2 r2_in (pd_var (i := 3)) (pd_str) rfl) (gd_name (i := 4) sc.nd))
  (bk_cons (sd_asg (pd_cmp op_in2 r2_in (pd_var (i := 3)) (pd_str) rfl) (gd_name (i := 5) sc.nd))
  (bk_one (sd_if ((bd_or ((bd_and (td_cmp (op_eq2 hu) r2_eq (pd_var (i := 2)) (pd_int) (nomark _)) (bd_and1 ((bd_or (td_tru (pd_var (i := 4))) (bd_or1 (td_tru (pd_var (i := 5))))).td))).td) (bd_or1 ((bd_and (td_cmp (op_eq2 hu) r2_eq (pd_var (i := 2)) (pd_int) (nomark _)) (bd_and1 (td_tru (pd_var (i := 5))))).td))).td) (bk_one (sd_setI (pd_bin op_add2 r2_add (pd_ix (pd_var (i := 1)) (pd_neg (pd_int))) (pd_var (i := 3))) (pd_var (i := 1)) (pd_neg (pd_int)))) (bk_cons (sd_asg (pd_int) (gd_name (i := 2) sc.nd))
  (bk_one (sd_if ((bd_and (td_cmp (op_ne2 hu) r2_ne (pd_var (i := 3)) (pd_str) (nomark _)) (bd_and1 (td_cmp (op_ne2 hu) r2_ne (pd_var (i := 3)) (pd_str) (nomark _)))).td) (bk_cons (sd_app (pd_var (i := 1)) (pd_var (i := 3)))
  (bk_one (sd_asg (pd_bin op_add2 r2_add (pd_ty call_int2 rc_int bt_int T.z_int (ad_cons (pd_var (i := 4)) (ad_nil))) (pd_bin op_mul r2_IC (pd_int) (pd_ty call_int2 rc_int bt_int T.z_int (ad_cons (pd_or (pd_var (i := 5)) (pd_one (pd_cmp (op_eq2 hu) r2_eq (pd_var (i := 3)) (pd_str) (nomark _)))) (ad_nil))))) (gd_name (i := 2) sc.nd)))) (bk_nil)))))))))
  (bk_one (sd_ret (pd_var (i := 1))))))⟩
theorem sc__law_good : FnScope ["word", "figures"] ["word"] (defScope s__law_good) := ⟨rfl, rfl, rfl, by decide +kernel, rfl, by decide +kernel, by decide +kernel⟩
theorem bk__law_good (T : Tx w K mg)  (cdv : Value) (A : Around) (outer : List Env) (s : Shared) (H : Hp) (E : XK) (hr : Room 0 (A.deeper (envOfC "_law_good" (defScope s__law_good) s.heap.objs.size T.a__law_good cdv))) (tk : Takes (Cxx P w K mg base ["word", "figures"] "_law_good" (defScope s__law_good) T.a__law_good cdv A outer s H E) (WxOf E)) (hp : PassesOwn (model P w) (A.deeper (envOfC "_law_good" (defScope s__law_good) s.heap.objs.size T.a__law_good cdv)) (envOfC "_law_good" (defScope s__law_good) s.heap.objs.size T.a__law_good cdv) (Cxx P w K mg base ["word", "figures"] "_law_good" (defScope s__law_good) T.a__law_good cdv A outer s H E).xe) : ∃ t, BkD (Cxx P w K mg base ["word", "figures"] "_law_good" (defScope s__law_good) T.a__law_good cdv A outer s H E) (WxOf E) (defBody s__law_good) t (w__law_good) := by
  have sc := sc__law_good
  have hu := hr.units
  exact ⟨_, bk_cons (sd_if (td_cmp op_in2 r2_in (pd_ix (pd_var (i := 0)) (pd_int)) (pd_str) rfl) (bk_one (sd_ret (pd_cmp op_lt r2_cmp (pd_fn call_len2 rc_len bt_len T.z_len (ad_cons (pd_var (i := 0)) (ad_nil))) (pd_int) (nomark _)))) (bk_nil))
  (bk_cons (sd_if (td_cmp op_in2 r2_in (pd_var (i := 0)) (pd_lst (ad_cons (pd_str) (ad_cons (pd_str) (ad_cons (pd_str) (ad_cons (pd_str) (ad_cons (pd_str) (ad_cons (pd_str) (ad_nil)))))))) rfl) (bk_one (sd_ret (pd_bl))) (bk_nil))
  (bk_cons (sd_asg (pd_var (i := 0)) (gd_name (i := 1) sc.nd))
  (bk_cons (sd_if (td_cmp (op_eq2 hu) r2_eq (pd_ix (pd_var (i := 0)) (pd_int)) (pd_str) (nomark _)) (bk_one (sd_asg (pd_sl (pd_var (i := 0)) (od_some (pd_int)) (od_none)) (gd_name (i := 1) sc.nd))) (bk_nil))
  (bk_one (sd_ret (pd_and (pd_cmp (op_ne2 hu) r2_ne (pd_var (i := 1)) (pd_str) (nomark _)) (pd_and (pd_cmp op_in2 r2_in (pd_ix (pd_var (i := 1)) (pd_int)) (pd_str) rfl) (pd_one (pd_cmp op_lt r2_cmp (pd_fn call_len2 rc_len bt_len T.z_len (ad_cons (pd_var (i := 1)) (ad_nil))) (pd_int) (nomark _))))))))))⟩
theorem sc__law_due : FnScope ["text", "words", "k"] ["text"] (defScope s__law_due) := ⟨rfl, rfl, rfl, by decide +kernel, rfl, by decide +kernel, by decide +kernel⟩
theorem bk__law_due (T : Tx w K mg) (G__law_cut : FnOk P w K mg base (L2.CX P w) 1 T.a__law_cut T.fd__law_cut ["text"] (spP K fs__law_cut)) (G__law_good : FnOk P w K mg base (L2.CX P w) 1 T.a__law_good T.fd__law_good ["word"] (spP K fs__law_good)) (cdv : Value) (A : Around) (outer : List Env) (s : Shared) (H : Hp) (E : XK) (hr : Room 1 (A.deeper (envOfC "_law_due" (defScope s__law_due) s.heap.objs.size T.a__law_due cdv))) (tk : Takes (Cxx P w K mg base ["text", "words", "k"] "_law_due" (defScope s__law_due) T.a__law_due cdv A outer s H E) (WxOf E)) (hp : PassesOwn (model P w) (A.deeper (envOfC "_law_due" (defScope s__law_due) s.heap.objs.size T.a__law_due cdv)) (envOfC "_law_due" (defScope s__law_due) s.heap.objs.size T.a__law_due cdv) (Cxx P w K mg base ["text", "words", "k"] "_law_due" (defScope s__law_due) T.a__law_due cdv A outer s H E).xe) : ∃ t, BkD (Cxx P w K mg base ["text", "words", "k"] "_law_due" (defScope s__law_due) T.a__law_due cdv A outer s H E) (WxOf E) (defBody s__law_due) t (w__law_due) := by
  have sc := sc__law_due
  have hu := hr.units
  exact ⟨_, bk_cons (sd_if (td_cmp op_gt r2_cmp (pd_fn call_len2 rc_len bt_len T.z_len (ad_cons (pd_var (i := 0)) (ad_nil))) (pd_int) (nomark _)) (bk_one (sd_ret (pd_lst (ad_cons (pd_str) (ad_cons (pd_str) (ad_nil)))))) (bk_nil))
  (bk_cons (sd_fz (i := 1) (sd_asg (pd_call G__law_cut (hr.mono (by decide)) T.g__law_cut T.F__law_cut.kp T.b__law_cut tk [.d] (ad_cons (pd_var (i := 0)) (ad_nil))) (gd_name (i := 1) sc.nd)))
  (bk_cons (sd_for hp rfl (id_r1 T.z_range (ad_cons (pd_fn call_len2 rc_len bt_len T.z_len (ad_cons (pd_var (i := 1)) (ad_nil))) (ad_nil))) (gd_name (i := 2) sc.nd) (bk_one (sd_if (td_not (td_tru (pd_call G__law_good (hr.mono (by decide)) T.g__law_good T.F__law_good.kp T.b__law_good tk [.d] (ad_cons (pd_ix (pd_var (i := 1)) (pd_var (i := 2))) (ad_nil))))) (bk_one (sd_ret (pd_lst (ad_cons (pd_str) (ad_cons (pd_var (i := 2)) (ad_nil)))))) (bk_nil))))
  (bk_one (sd_ret (pd_lst (ad_cons (pd_str) (ad_cons (pd_var (i := 1)) (ad_nil))))))))⟩
theorem sc__law_spelling : FnScope ["text", "sign"] ["text"] (defScope s__law_spelling) := ⟨rfl, rfl, rfl, by decide +kernel, rfl, by decide +kernel, by decide +kernel⟩
theorem bk__law_spelling (T : Tx w K mg) (G__law_kept : FnOk P w K mg base (L2.CX P w) 1 T.a__law_kept T.fd__law_kept [] (spP K fs__law_kept)) (cdv : Value) (A : Around) (outer : List Env) (s : Shared) (H : Hp) (E : XK) (hr : Room 1 (A.deeper (envOfC "_law_spelling" (defScope s__law_spelling) s.heap.objs.size T.a__law_spelling cdv))) (tk : Takes (Cxx P w K mg base ["text", "sign"] "_law_spelling" (defScope s__law_spelling) T.a__law_spelling cdv A outer s H E) (WxOf E)) (hp : PassesOwn (model P w) (A.deeper (envOfC "_law_spelling" (defScope s__law_spelling) s.heap.objs.size T.a__law_spelling cdv)) (envOfC "_law_spelling" (defScope s__law_spelling) s.heap.objs.size T.a__law_spelling cdv) (Cxx P w K mg base ["text", "sign"] "_law_spelling" (defScope s__law_spelling) T.a__law_spelling cdv A outer s H E).xe) : ∃ t, BkD (Cxx P w K mg base ["text", "sign"] "_law_spelling" (defScope s__law_spelling) T.a__law_spelling cdv A outer s H E) (WxOf E) (defBody s__law_spelling) t (w__law_spelling) := by
  have sc := sc__law_spelling
  have hu := hr.units
  exact ⟨_, bk_cons (sd_if ((bd_or (td_cmp (op_eq2 hu) r2_eq (pd_var (i := 0)) (pd_str) (nomark _)) (bd_or (td_cmp op_gt r2_cmp (pd_fn call_len2 rc_len bt_len T.z_len (ad_cons (pd_var (i := 0)) (ad_nil))) (pd_int) (nomark _)) (bd_or (td_cmp op_in2 r2_in (pd_var (i := 0)) (pd_call0 G__law_kept (hr.mono (by decide)) T.g__law_kept T.F__law_kept.kp T.b__law_kept tk) rfl) (bd_or1 (td_cmp op_in2 r2_in (pd_ix (pd_var (i := 0)) (pd_int)) (pd_str) rfl))))).td) (bk_one (sd_ret (pd_bl))) (bk_nil))
  (bk_cons (sd_for hp rfl (id_str (pd_var (i := 0))) (gd_name (i := 1) sc.nd) (bk_one (sd_if (td_cmp op_notIn2 r2_notIn (pd_var (i := 1)) (pd_str) rfl) (bk_one (sd_ret (pd_bl))) (bk_nil))))
  (bk_one (sd_ret (pd_bl))))⟩
theorem sc__law_told : FnScope ["text", "e", "marks"] ["text"] (defScope s__law_told) := ⟨rfl, rfl, rfl, by decide +kernel, rfl, by decide +kernel, by decide +kernel⟩
theorem bk__law_told (T : Tx w K mg) (G_split_words : FnOk P w K mg base (L2.CX P w) 3 T.a_split_words T.fd_split_words ["text"] (spP K (fs_split_words T.c))) (cdv : Value) (A : Around) (outer : List Env) (s : Shared) (H : Hp) (E : XK) (hr : Room 3 (A.deeper (envOfC "_law_told" (defScope s__law_told) s.heap.objs.size T.a__law_told cdv))) (tk : Takes (Cxx P w K mg base ["text", "e", "marks"] "_law_told" (defScope s__law_told) T.a__law_told cdv A outer s H E) (WxOf E)) (hp : PassesOwn (model P w) (A.deeper (envOfC "_law_told" (defScope s__law_told) s.heap.objs.size T.a__law_told cdv)) (envOfC "_law_told" (defScope s__law_told) s.heap.objs.size T.a__law_told cdv) (Cxx P w K mg base ["text", "e", "marks"] "_law_told" (defScope s__law_told) T.a__law_told cdv A outer s H E).xe) : ∃ t, BkD (Cxx P w K mg base ["text", "e", "marks"] "_law_told" (defScope s__law_told) T.a__law_told cdv A outer s H E) (WxOf E) (defBody s__law_told) t (w__law_told K T.c) := by
  have sc := sc__law_told
  have hu := hr.units
  exact ⟨_, bk_cons (sd_try (tb := fun W => tRet (tLst (tCons (tC (.str "words")) (tCons (tCallSD (spP K (fs_split_words T.c)) [] (fun σ cls d H => W cls d σ H) (tCons (tVar 0) (tNil))) (tNil))))) (ts := fun a cls d => tSeq (tAsg (tLst (tCons (tCB (rIsX K cls a d) (tCons (tVar 1) (tCons (tC (.ref T.c.a_BadCall)) tNil))) (tCons (tCB (rIsX K cls a d) (tCons (tVar 1) (tCons (tC (.ref T.c.a_BadChain)) tNil))) (tCons (tCB (rIsX K cls a d) (tCons (tVar 1) (tCons (tC (.ref T.c.a_BadCount)) tNil))) (tCons (tCB (rIsX K cls a d) (tCons (tVar 1) (tCons (tC (.ref T.c.a_BadEdit)) tNil))) (tNil)))))) (gName 2)) (tSeq (tAsg (tOp rCat (tVar 2) (tLst (tCons (tCB (rIsX K cls a d) (tCons (tVar 1) (tCons (tC (.ref T.c.a_BadForest)) tNil))) (tCons (tCB (rIsX K cls a d) (tCons (tVar 1) (tCons (tC (.ref T.c.a_BadGiving)) tNil))) (tCons (tCB (rIsX K cls a d) (tCons (tVar 1) (tCons (tC (.ref T.c.a_BadLeave)) tNil))) (tNil)))))) (gName 2)) (tSeq (tAsg (tOp rCat (tVar 2) (tLst (tCons (tCB (rIsX K cls a d) (tCons (tVar 1) (tCons (tC (.ref T.c.a_BadLine)) tNil))) (tCons (tCB (rIsX K cls a d) (tCons (tVar 1) (tCons (tC (.ref T.c.a_BadName)) tNil))) (tCons (tCB (rIsX K cls a d) (tCons (tVar 1) (tCons (tC (.ref T.c.a_BadSpelling)) tNil))) (tNil)))))) (gName 2)) (tSeq (tAsg (tOp rCat (tVar 2) (tLst (tCons (tCB (rIsX K cls a d) (tCons (tVar 1) (tCons (tC (.ref T.c.a_BadTape)) tNil))) (tCons (tCB (rIsX K cls a d) (tCons (tVar 1) (tCons (tC (.ref T.c.a_BadText)) tNil))) (tCons (tCB (rIsX K cls a d) (tCons (tVar 1) (tCons (tC (.ref T.c.a_NoSuch)) tNil))) (tNil)))))) (gName 2)) (tSeq (tAsg (tOp rCat (tVar 2) (tLst (tCons (tCB (rIsX K cls a d) (tCons (tVar 1) (tCons (tC (.ref T.c.a_NotLive)) tNil))) (tCons (tCB (rIsX K cls a d) (tCons (tVar 1) (tCons (tC (.ref T.c.a_NotRight)) tNil))) (tCons (tCB (rIsX K cls a d) (tCons (tVar 1) (tCons (tC (.ref T.c.a_TooBig)) tNil))) (tNil)))))) (gName 2)) (tSeq (tAsg (tOp rCat (tVar 2) (tLst (tCons (tCB (rIsX K cls a d) (tCons (tVar 1) (tCons (tC (.ref T.c.a_TooLong)) tNil))) (tCons (tCB (rIsX K cls a d) (tCons (tVar 1) (tCons (tC (.ref T.c.a_Twice)) tNil))) (tNil))))) (gName 2)) (tSeq (tIfS (tOr (tTest (tOp (rNe2 K) (tBM K "list" (rCntB K) (tVar 2) (tCons (tC (.bl true)) tNil)) (tC (.int 1)))) (tNot ((fun σ H Q => (tCB (rIsX K cls a d) (tCons (tVar 1) (tCons (tC (.ty "ValueError")) tNil))) σ H fun x H2 => ∃ k, TruV K x H2 k ∧ Q k H2)))) (tRet (tLst (tCons (tC (.str "other")) (tNil)))) (tNext)) (tSeq (tIfS ((fun σ H Q => (tCB (rIsX K cls a d) (tCons (tVar 1) (tCons (tC (.ref T.c.a_BadText)) tNil))) σ H fun x H2 => ∃ k, TruV K x H2 k ∧ Q k H2)) (tRet (tLst (tCons (tC (.str "BadText")) (tCons (tXf a cls d T.c.a_BadText "bad_word" (tVar 1)) (tNil))))) (tNext)) (tIfS ((fun σ H Q => (tCB (rIsX K cls a d) (tCons (tVar 1) (tCons (tC (.ref T.c.a_TooBig)) tNil))) σ H fun x H2 => ∃ k, TruV K x H2 k ∧ Q k H2)) (tRet (tLst (tCons (tC (.str "TooBig")) (tCons (tXf a cls d T.c.a_TooBig "bad_what" (tVar 1)) (tNil))))) (tNext)))))))))) sc.nd (by exact ⟨rfl, by decide, .inl T.g_CellsError⟩) tk (fun W pn xe tk' => bk_one (sd_ret (pd_lstO (ad_cons (pd_str) (ad_cons (pd_call G_split_words (hr.mono (by decide)) T.g_split_words T.F_split_words.kp T.b_split_words tk' [.d] (ad_cons (pd_var (i := 0)) (ad_nil))) (ad_nil)))))) (fun a oe cls d pn hz hv => bk_cons (sd_fz (i := 2) (sd_asg (pd_lst (ad_cons (pd_isX hz hv T.z_isinstance T.g_BadCall (i := 1)) (ad_cons (pd_isX hz hv T.z_isinstance T.g_BadChain (i := 1)) (ad_cons (pd_isX hz hv T.z_isinstance T.g_BadCount (i := 1)) (ad_cons (pd_isX hz hv T.z_isinstance T.g_BadEdit (i := 1)) (ad_nil)))))) (gd_name (i := 2) sc.nd)))
  (bk_cons (sd_fz (i := 2) (sd_asg (pd_cat (pd_var (i := 2)) (pd_lst (ad_cons (pd_isX hz hv T.z_isinstance T.g_BadForest (i := 1)) (ad_cons (pd_isX hz hv T.z_isinstance T.g_BadGiving (i := 1)) (ad_cons (pd_isX hz hv T.z_isinstance T.g_BadLeave (i := 1)) (ad_nil)))))) (gd_name (i := 2) sc.nd)))
  (bk_cons (sd_fz (i := 2) (sd_asg (pd_cat (pd_var (i := 2)) (pd_lst (ad_cons (pd_isX hz hv T.z_isinstance T.g_BadLine (i := 1)) (ad_cons (pd_isX hz hv T.z_isinstance T.g_BadName (i := 1)) (ad_cons (pd_isX hz hv T.z_isinstance T.g_BadSpelling (i := 1)) (ad_nil)))))) (gd_name (i := 2) sc.nd)))
  (bk_cons (sd_fz (i := 2) (sd_asg (pd_cat (pd_var (i := 2)) (pd_lst (ad_cons (pd_isX hz hv T.z_isinstance T.g_BadTape (i := 1)) (ad_cons (pd_isX hz hv T.z_isinstance T.g_BadText (i := 1)) (ad_cons (pd_isX hz hv T.z_isinstance T.g_NoSuch (i := 1)) (ad_nil)))))) (gd_name (i := 2) sc.nd)))
  (bk_cons (sd_fz (i := 2) (sd_asg (pd_cat (pd_var (i := 2)) (pd_lst (ad_cons (pd_isX hz hv T.z_isinstance T.g_NotLive (i := 1)) (ad_cons (pd_isX hz hv T.z_isinstance T.g_NotRight (i := 1)) (ad_cons (pd_isX hz hv T.z_isinstance T.g_TooBig (i := 1)) (ad_nil)))))) (gd_name (i := 2) sc.nd)))
  (bk_cons (sd_fz (i := 2) (sd_asg (pd_cat (pd_var (i := 2)) (pd_lst (ad_cons (pd_isX hz hv T.z_isinstance T.g_TooLong (i := 1)) (ad_cons (pd_isX hz hv T.z_isinstance T.g_Twice (i := 1)) (ad_nil))))) (gd_name (i := 2) sc.nd)))
  (bk_cons (sd_if ((bd_or (td_cmp (op_ne2 hu) r2_ne (pd_cntB (pd_var (i := 2))) (pd_int) (nomark _)) (bd_or1 (td_not (td_tru (pd_isXT hz hv T.z_isinstance T.z_ValueError bt_ValueError (i := 1)))))).td) (bk_one (sd_ret (pd_lst (ad_cons (pd_str) (ad_nil))))) (bk_nil))
  (bk_cons (sd_if (td_tru (pd_isX hz hv T.z_isinstance T.g_BadText (i := 1))) (bk_one (sd_ret (pd_lst (ad_cons (pd_str) (ad_cons (pd_xf T.X_BadText T.n_BadText_bad_word hz hv (i := 1)) (ad_nil)))))) (bk_nil))
  (bk_one (sd_if (td_tru (pd_isX hz hv T.z_isinstance T.g_TooBig (i := 1))) (bk_one (sd_ret (pd_lst (ad_cons (pd_str) (ad_cons (pd_xf T.X_TooBig T.n_TooBig_bad_what hz hv (i := 1)) (ad_nil)))))) (bk_nil))))))))))) (i := 1))
  (bk_one (sd_ret (pd_lst (ad_cons (pd_str) (ad_nil)))))⟩
theorem sc__law_made : FnScope ["store", "words", "place", "text", "k"] ["store"] (defScope s__law_made) := ⟨rfl, rfl, rfl, by decide +kernel, rfl, by decide +kernel, by decide +kernel⟩
theorem bk__law_made (T : Tx w K mg) (G__law_bad_word : FnOk P w K mg base (L2.CX P w) 5 T.a__law_bad_word T.fd__law_bad_word ["store"] (spP K fs__law_bad_word)) (G__law_edge : FnOk P w K mg base (L2.CX P w) 3 T.a__law_edge T.fd__law_edge ["store", "low", "high"] (spP K fs__law_edge)) (G__law_right : FnOk P w K mg base (L2.CX P w) 4 T.a__law_right T.fd__law_right ["store"] (spP K fs__law_right)) (G__law_spread : FnOk P w K mg base (L2.CX P w) 4 T.a__law_spread T.fd__law_spread ["store", "words"] (spP K fs__law_spread)) (G__law_take : FnOk P w K mg base (L2.CX P w) 2 T.a__law_take T.fd__law_take ["store", "many"] (spP K fs__law_take)) (cdv : Value) (A : Around) (outer : List Env) (s : Shared) (H : Hp) (E : XK) (hr : Room 5 (A.deeper (envOfC "_law_made" (defScope s__law_made) s.heap.objs.size T.a__law_made cdv))) (tk : Takes (Cxx P w K mg base ["store", "words", "place", "text", "k"] "_law_made" (defScope s__law_made) T.a__law_made cdv A outer s H E) (WxOf E)) (hp : PassesOwn (model P w) (A.deeper (envOfC "_law_made" (defScope s__law_made) s.heap.objs.size T.a__law_made cdv)) (envOfC "_law_made" (defScope s__law_made) s.heap.objs.size T.a__law_made cdv) (Cxx P w K mg base ["store", "words", "place", "text", "k"] "_law_made" (defScope s__law_made) T.a__law_made cdv A outer s H E).xe) : ∃ t, BkD (Cxx P w K mg base ["store", "words", "place", "text", "k"] "_law_made" (defScope s__law_made) T.a__law_made cdv A outer s H E) (WxOf E) (defBody s__law_made) t (w__law_made) := by
  have sc := sc__law_made
  have hu := hr.units
  exact ⟨_, bk_cons (sd_fz (i := 1) (sd_setLc (i := 1) rfl sc.nd rfl (id_r1 T.z_range (ad_cons (pd_call G__law_edge (hr.mono (by decide)) T.g__law_edge T.F__law_edge.kp T.b__law_edge tk [.s, .d, .d] (ad_cons (pd_var (i := 0)) (ad_cons (pd_int) (ad_cons (pd_int) (ad_nil))))) (ad_nil))) (te := tCallSD (spP K fs__law_right) [] (fun σ cls d H => W0 cls d σ H) (tCons (tVar 0) (tNil))) (tt := tYes) (own := [("k", 4)]) (by exact (show BlkOk ["store", "words", "place", "text", "k"] (defScope s__law_made) _ [("k", 4)] from ⟨rfl, by decide +kernel, by decide +kernel, by decide +kernel, by decide +kernel⟩)) (fun _ _ _ _ _ => gd_name (i := 4) sc.nd) (fun _ _ _ _ _ => ls_nil) (fun _ _ _ _ _ => pd_call G__law_right (hr.mono (by decide)) T.g__law_right T.F__law_right.kp T.b__law_right takesW [.s] (ad_cons (pd_var (i := 0)) (ad_nil))) (Stores.name (by decide))))
  (bk_cons (sd_if (td_cmp (op_eq2 hu) r2_eq (pd_call G__law_take (hr.mono (by decide)) T.g__law_take T.F__law_take.kp T.b__law_take tk [.s, .d] (ad_cons (pd_var (i := 0)) (ad_cons (pd_int) (ad_nil)))) (pd_int) (nomark _)) (bk_one (sd_ret (pd_lst (ad_cons (pd_call G__law_spread (hr.mono (by decide)) T.g__law_spread T.F__law_spread.kp T.b__law_spread tk [.s, .d] (ad_cons (pd_var (i := 0)) (ad_cons (pd_var (i := 1)) (ad_nil)))) (ad_cons (pd_lst (ad_cons (pd_str) (ad_cons (pd_var (i := 1)) (ad_nil)))) (ad_nil)))))) (bk_nil))
  (bk_cons (sd_asg (pd_call G__law_edge (hr.mono (by decide)) T.g__law_edge T.F__law_edge.kp T.b__law_edge tk [.s, .d, .d] (ad_cons (pd_var (i := 0)) (ad_cons (pd_int) (ad_cons (pd_fn call_len2 rc_len bt_len T.z_len (ad_cons (pd_var (i := 1)) (ad_nil))) (ad_nil))))) (gd_name (i := 2) sc.nd))
  (bk_cons (sd_asg (pd_bin op_add2 r2_add (pd_bin op_add2 r2_add (pd_bin op_add2 r2_add (pd_bin op_add2 r2_add (pd_call G__law_spread (hr.mono (by decide)) T.g__law_spread T.F__law_spread.kp T.b__law_spread tk [.s, .d] (ad_cons (pd_var (i := 0)) (ad_cons (pd_sl (pd_var (i := 1)) (od_none) (od_some (pd_var (i := 2)))) (ad_nil)))) (pd_str)) (pd_call G__law_bad_word (hr.mono (by decide)) T.g__law_bad_word T.F__law_bad_word.kp T.b__law_bad_word tk [.s] (ad_cons (pd_var (i := 0)) (ad_nil)))) (pd_str)) (pd_call G__law_spread (hr.mono (by decide)) T.g__law_spread T.F__law_spread.kp T.b__law_spread tk [.s, .d] (ad_cons (pd_var (i := 0)) (ad_cons (pd_sl (pd_var (i := 1)) (od_some (pd_var (i := 2))) (od_none)) (ad_nil))))) (gd_name (i := 3) sc.nd))
  (bk_cons (sd_if (td_cmp (op_eq2 hu) r2_eq (pd_call G__law_take (hr.mono (by decide)) T.g__law_take T.F__law_take.kp T.b__law_take tk [.s, .d] (ad_cons (pd_var (i := 0)) (ad_cons (pd_int) (ad_nil)))) (pd_int) (nomark _)) (bk_one (sd_asg (pd_bin op_add2 r2_add (pd_bin op_add2 r2_add (pd_var (i := 3)) (pd_str)) (pd_call G__law_bad_word (hr.mono (by decide)) T.g__law_bad_word T.F__law_bad_word.kp T.b__law_bad_word tk [.s] (ad_cons (pd_var (i := 0)) (ad_nil)))) (gd_name (i := 3) sc.nd))) (bk_nil))
  (bk_one (sd_ret (pd_lst (ad_cons (pd_var (i := 3)) (ad_cons (pd_lst (ad_cons (pd_str) (ad_cons (pd_var (i := 2)) (ad_nil)))) (ad_nil))))))))))⟩
theorem sc__law_loose : FnScope ["store", "signs", "text", "k", "sign"] ["store"] (defScope s__law_loose) := ⟨rfl, rfl, rfl, by decide +kernel, rfl, by decide +kernel, by decide +kernel⟩
theorem bk__law_loose (T : Tx w K mg) (G__law_edge : FnOk P w K mg base (L2.CX P w) 3 T.a__law_edge T.fd__law_edge ["store", "low", "high"] (spP K fs__law_edge)) (G__law_pick : FnOk P w K mg base (L2.CX P w) 3 T.a__law_pick T.fd__law_pick ["store", "options"] (spP K fs__law_pick)) (G__law_signs : FnOk P w K mg base (L2.CX P w) 1 T.a__law_signs T.fd__law_signs [] (spP K fs__law_signs)) (cdv : Value) (A : Around) (outer : List Env) (s : Shared) (H : Hp) (E : XK) (hr : Room 3 (A.deeper (envOfC "_law_loose" (defScope s__law_loose) s.heap.objs.size T.a__law_loose cdv))) (tk : Takes (Cxx P w K mg base ["store", "signs", "text", "k", "sign"] "_law_loose" (defScope s__law_loose) T.a__law_loose cdv A outer s H E) (WxOf E)) (hp : PassesOwn (model P w) (A.deeper (envOfC "_law_loose" (defScope s__law_loose) s.heap.objs.size T.a__law_loose cdv)) (envOfC "_law_loose" (defScope s__law_loose) s.heap.objs.size T.a__law_loose cdv) (Cxx P w K mg base ["store", "signs", "text", "k", "sign"] "_law_loose" (defScope s__law_loose) T.a__law_loose cdv A outer s H E).xe) : ∃ t, BkD (Cxx P w K mg base ["store", "signs", "text", "k", "sign"] "_law_loose" (defScope s__law_loose) T.a__law_loose cdv A outer s H E) (WxOf E) (defBody s__law_loose) t (w__law_loose) := by
  have sc := sc__law_loose
  have hu := hr.units
  exact ⟨_, bk_cons (sd_asg (pd_call G__law_pick (hr.mono (by decide)) T.g__law_pick T.F__law_pick.kp T.b__law_pick tk [.s, .d] (ad_cons (pd_var (i := 0)) (ad_cons (pd_lst (ad_cons (pd_call0 G__law_signs (hr.mono (by decide)) T.g__law_signs T.F__law_signs.kp T.b__law_signs tk) (ad_cons (pd_call0 G__law_signs (hr.mono (by decide)) T.g__law_signs T.F__law_signs.kp T.b__law_signs tk) (ad_cons (pd_str) (ad_cons (pd_str) (ad_cons (pd_str) (ad_cons (pd_str) (ad_cons (pd_str) (ad_nil))))))))) (ad_nil)))) (gd_name (i := 1) sc.nd))
  (bk_cons (sd_asg (pd_str) (gd_name (i := 2) sc.nd))
  (bk_cons (sd_for hp rfl (id_r1 T.z_range (ad_cons (pd_call G__law_edge (hr.mono (by decide)) T.g__law_edge T.F__law_edge.kp T.b__law_edge tk [.s, .d, .d] (ad_cons (pd_var (i := 0)) (ad_cons (pd_int) (ad_cons (pd_int) (ad_nil))))) (ad_nil))) (gd_name (i := 3) sc.nd) (bk_cons (sd_asg (pd_call G__law_pick (hr.mono (by decide)) T.g__law_pick T.F__law_pick.kp T.b__law_pick tk [.s, .d] (ad_cons (pd_var (i := 0)) (ad_cons (pd_listS rfl T.z_list (ad_cons (pd_var (i := 1)) (ad_nil))) (ad_nil)))) (gd_name (i := 4) sc.nd))
  (bk_one (sd_asg (pd_bin op_add2 r2_add (pd_var (i := 2)) (pd_bin op_mulS r2_mulS (pd_var (i := 4)) (pd_call G__law_pick (hr.mono (by decide)) T.g__law_pick T.F__law_pick.kp T.b__law_pick tk [.s, .d] (ad_cons (pd_var (i := 0)) (ad_cons (pd_lst (ad_cons (pd_int) (ad_cons (pd_int) (ad_cons (pd_int) (ad_cons (pd_int) (ad_cons (pd_int) (ad_cons (pd_int) (ad_cons (pd_int) (ad_cons (pd_int) (ad_cons (pd_int) (ad_nil))))))))))) (ad_nil)))))) (gd_name (i := 2) sc.nd)))))
  (bk_one (sd_ret (pd_var (i := 2))))))⟩
theorem sc__law_long : FnScope ["store", "text", "size", "rest"] ["store"] (defScope s__law_long) := ⟨rfl, rfl, rfl, by decide +kernel, rfl, by decide +kernel, by decide +kernel⟩
theorem bk__law_long (T : Tx w K mg) (G__law_pick : FnOk P w K mg base (L2.CX P w) 3 T.a__law_pick T.fd__law_pick ["store", "options"] (spP K fs__law_pick)) (G__law_take : FnOk P w K mg base (L2.CX P w) 2 T.a__law_take T.fd__law_take ["store", "many"] (spP K fs__law_take)) (cdv : Value) (A : Around) (outer : List Env) (s : Shared) (H : Hp) (E : XK) (hr : Room 3 (A.deeper (envOfC "_law_long" (defScope s__law_long) s.heap.objs.size T.a__law_long cdv))) (tk : Takes (Cxx P w K mg base ["store", "text", "size", "rest"] "_law_long" (defScope s__law_long) T.a__law_long cdv A outer s H E) (WxOf E)) (hp : PassesOwn (model P w) (A.deeper (envOfC "_law_long" (defScope s__law_long) s.heap.objs.size T.a__law_long cdv)) (envOfC "_law_long" (defScope s__law_long) s.heap.objs.size T.a__law_long cdv) (Cxx P w K mg base ["store", "text", "size", "rest"] "_law_long" (defScope s__law_long) T.a__law_long cdv A outer s H E).xe) : ∃ t, BkD (Cxx P w K mg base ["store", "text", "size", "rest"] "_law_long" (defScope s__law_long) T.a__law_long cdv A outer s H E) (WxOf E) (defBody s__law_long) t (w__law_long) := by
  have sc := sc__law_long
  have hu := hr.units
  exact ⟨_, bk_cons (sd_asg (pd_call G__law_pick (hr.mono (by decide)) T.g__law_pick T.F__law_pick.kp T.b__law_pick tk [.s, .d] (ad_cons (pd_var (i := 0)) (ad_cons (pd_lst (ad_cons (pd_str) (ad_cons (pd_str) (ad_cons (pd_str) (ad_cons (pd_str) (ad_cons (pd_str) (ad_cons (pd_str) (ad_cons (pd_str) (ad_cons (pd_str) (ad_cons (pd_str) (ad_cons (pd_str) (ad_nil)))))))))))) (ad_nil)))) (gd_name (i := 1) sc.nd))
  (bk_cons (sd_asg (pd_bin op_add2 r2_add (pd_int) (pd_call G__law_take (hr.mono (by decide)) T.g__law_take T.F__law_take.kp T.b__law_take tk [.s, .d] (ad_cons (pd_var (i := 0)) (ad_cons (pd_int) (ad_nil))))) (gd_name (i := 2) sc.nd))
  (bk_cons (sd_asg (pd_bin op_mulS r2_mulS (pd_var (i := 1)) (pd_bin op_fdivW r2_IC (pd_var (i := 2)) (pd_fn (call_max2 rfl) rc_2I bt_max T.z_max (ad_cons (pd_int) (ad_cons (pd_fn call_len2 rc_len bt_len T.z_len (ad_cons (pd_var (i := 1)) (ad_nil))) (ad_nil)))))) (gd_name (i := 1) sc.nd))
  (bk_cons (sd_asg (pd_bin op_sub r2_I (pd_var (i := 2)) (pd_fn call_len2 rc_len bt_len T.z_len (ad_cons (pd_var (i := 1)) (ad_nil)))) (gd_name (i := 3) sc.nd))
  (bk_one (sd_ret (pd_call G__law_pick (hr.mono (by decide)) T.g__law_pick T.F__law_pick.kp T.b__law_pick tk [.s, .d] (ad_cons (pd_var (i := 0)) (ad_cons (pd_lst (ad_cons (pd_bin op_add2 r2_add (pd_bin op_mulS r2_mulS (pd_str) (pd_var (i := 3))) (pd_var (i := 1))) (ad_cons (pd_bin op_add2 r2_add (pd_var (i := 1)) (pd_bin op_mulS r2_mulS (pd_str) (pd_var (i := 3)))) (ad_cons (pd_bin op_add2 r2_add (pd_var (i := 1)) (pd_bin op_mulS r2_mulS (pd_str) (pd_var (i := 3)))) (ad_nil))))) (ad_nil)))))))))⟩
theorem sc__law_texts : FnScope ["store", "base", "word", "sign", "place", "texts", "mixed", "k"] ["store"] (defScope s__law_texts) := ⟨rfl, rfl, rfl, by decide +kernel, rfl, by decide +kernel, by decide +kernel⟩
theorem bk__law_texts (T : Tx w K mg) (G__law_bad_spelling : FnOk P w K mg base (L2.CX P w) 4 T.a__law_bad_spelling T.fd__law_bad_spelling ["store"] (spP K fs__law_bad_spelling)) (G__law_kept : FnOk P w K mg base (L2.CX P w) 1 T.a__law_kept T.fd__law_kept [] (spP K fs__law_kept)) (G__law_pick : FnOk P w K mg base (L2.CX P w) 3 T.a__law_pick T.fd__law_pick ["store", "options"] (spP K fs__law_pick)) (G__law_signs : FnOk P w K mg base (L2.CX P w) 1 T.a__law_signs T.fd__law_signs [] (spP K fs__law_signs)) (G__law_take : FnOk P w K mg base (L2.CX P w) 2 T.a__law_take T.fd__law_take ["store", "many"] (spP K fs__law_take)) (G__law_word : FnOk P w K mg base (L2.CX P w) 1 T.a__law_word T.fd__law_word ["way", "k"] (spP K fs__law_word)) (cdv : Value) (A : Around) (outer : List Env) (s : Shared) (H : Hp) (E : XK) (hr : Room 4 (A.deeper (envOfC "_law_texts" (defScope s__law_texts) s.heap.objs.size T.a__law_texts cdv))) (tk : Takes (Cxx P w K mg base ["store", "base", "word", "sign", "place", "texts", "mixed", "k"] "_law_texts" (defScope s__law_texts) T.a__law_texts cdv A outer s H E) (WxOf E)) (hp : PassesOwn (model P w) (A.deeper (envOfC "_law_texts" (defScope s__law_texts) s.heap.objs.size T.a__law_texts cdv)) (envOfC "_law_texts" (defScope s__law_texts) s.heap.objs.size T.a__law_texts cdv) (Cxx P w K mg base ["store", "base", "word", "sign", "place", "texts", "mixed", "k"] "_law_texts" (defScope s__law_texts) T.a__law_texts cdv A outer s H E).xe) : ∃ t, BkD (Cxx P w K mg base ["store", "base", "word", "sign", "place", "texts", "mixed", "k"] "_law_texts" (defScope s__law_texts) T.a__law_texts cdv A outer s H E) (WxOf E) (defBody s__law_texts) t (w__law_texts) := by
  have sc := sc__law_texts
  have hu := hr.units
  exact ⟨_, bk_cons (sd_asg (pd_call G__law_word (hr.mono (by decide)) T.g__law_word T.F__law_word.kp T.b__law_word tk [.d, .d] (ad_cons (pd_call G__law_take (hr.mono (by decide)) T.g__law_take T.F__law_take.kp T.b__law_take tk [.s, .d] (ad_cons (pd_var (i := 0)) (ad_cons (pd_int) (ad_nil)))) (ad_cons (pd_call G__law_take (hr.mono (by decide)) T.g__law_take T.F__law_take.kp T.b__law_take tk [.s, .d] (ad_cons (pd_var (i := 0)) (ad_cons (pd_int) (ad_nil)))) (ad_nil)))) (gd_name (i := 1) sc.nd))
  (bk_cons (sd_asg (pd_call G__law_pick (hr.mono (by decide)) T.g__law_pick T.F__law_pick.kp T.b__law_pick tk [.s, .d] (ad_cons (pd_var (i := 0)) (ad_cons (pd_call0 G__law_kept (hr.mono (by decide)) T.g__law_kept T.F__law_kept.kp T.b__law_kept tk) (ad_nil)))) (gd_name (i := 2) sc.nd))
  (bk_cons (sd_asg (pd_call G__law_pick (hr.mono (by decide)) T.g__law_pick T.F__law_pick.kp T.b__law_pick tk [.s, .d] (ad_cons (pd_var (i := 0)) (ad_cons (pd_listS rfl T.z_list (ad_cons (pd_call0 G__law_signs (hr.mono (by decide)) T.g__law_signs T.F__law_signs.kp T.b__law_signs tk) (ad_nil))) (ad_nil)))) (gd_name (i := 3) sc.nd))
  (bk_cons (sd_asg (pd_call G__law_take (hr.mono (by decide)) T.g__law_take T.F__law_take.kp T.b__law_take tk [.s, .d] (ad_cons (pd_var (i := 0)) (ad_cons (pd_bin op_add2 r2_add (pd_fn call_len2 rc_len bt_len T.z_len (ad_cons (pd_var (i := 1)) (ad_nil))) (pd_int)) (ad_nil)))) (gd_name (i := 4) sc.nd))
  (bk_cons (sd_asg (pd_lst (ad_cons (pd_var (i := 1)) (ad_cons (pd_var (i := 2)) (ad_cons (pd_str) (ad_cons (pd_var (i := 3)) (ad_cons (pd_bin op_add2 r2_add (pd_bin op_add2 r2_add (pd_sl (pd_var (i := 1)) (od_none) (od_some (pd_var (i := 4)))) (pd_var (i := 3))) (pd_sl (pd_var (i := 1)) (od_some (pd_var (i := 4))) (od_none))) (ad_cons (pd_bin op_add2 r2_add (pd_var (i := 2)) (pd_var (i := 3))) (ad_cons (pd_bin op_add2 r2_add (pd_var (i := 3)) (pd_var (i := 2))) (ad_cons (pd_sl (pd_var (i := 2)) (od_none) (od_some (pd_neg (pd_int)))) (ad_cons (pd_sl (pd_var (i := 2)) (od_some (pd_int)) (od_none)) (ad_nil))))))))))) (gd_name (i := 5) sc.nd))
  (bk_cons (sd_asg (pd_cat (pd_var (i := 5)) (pd_lst (ad_cons (pd_bin op_add2 r2_add (pd_var (i := 1)) (pd_str)) (ad_cons (pd_bin op_add2 r2_add (pd_var (i := 1)) (pd_str)) (ad_cons (pd_bin op_add2 r2_add (pd_str) (pd_var (i := 1))) (ad_cons (pd_sl (pd_bin op_add2 r2_add (pd_var (i := 1)) (pd_str)) (od_none) (od_some (pd_bin op_add2 r2_add (pd_int) (pd_call G__law_take (hr.mono (by decide)) T.g__law_take T.F__law_take.kp T.b__law_take tk [.s, .d] (ad_cons (pd_var (i := 0)) (ad_cons (pd_int) (ad_nil))))))) (ad_cons (pd_bin op_add2 r2_add (pd_var (i := 2)) (pd_var (i := 2))) (ad_nil)))))))) (gd_name (i := 5) sc.nd))
  (bk_cons (sd_fz (i := 6) (sd_setLc (i := 6) rfl sc.nd rfl (id_r1 T.z_range (ad_cons (pd_call G__law_take (hr.mono (by decide)) T.g__law_take T.F__law_take.kp T.b__law_take tk [.s, .d] (ad_cons (pd_var (i := 0)) (ad_cons (pd_int) (ad_nil)))) (ad_nil))) (te := tCallSD (spP K fs__law_pick) [] (fun σ cls d H => W0 cls d σ H) (tCons (tVar 0) (tCons (tCB rListS (tCons (tC (.str "abcdefghijklmnopqrstuvwxyz0123456789")) (tNil))) (tNil)))) (tt := tYes) (own := [("k", 7)]) (by exact (show BlkOk ["store", "base", "word", "sign", "place", "texts", "mixed", "k"] (defScope s__law_texts) _ [("k", 7)] from ⟨rfl, by decide +kernel, by decide +kernel, by decide +kernel, by decide +kernel⟩)) (fun _ _ _ _ _ => gd_name (i := 7) sc.nd) (fun _ _ _ _ _ => ls_nil) (fun _ _ _ _ _ => pd_call G__law_pick (hr.mono (by decide)) T.g__law_pick T.F__law_pick.kp T.b__law_pick takesW [.s, .d] (ad_cons (pd_var (i := 0)) (ad_cons (pd_listS rfl T.z_list (ad_cons (pd_str) (ad_nil))) (ad_nil)))) (Stores.name (by decide))))
  (bk_cons (sd_asg (pd_cat (pd_var (i := 5)) (pd_lst (ad_cons (pd_join (pd_str) (pd_var (i := 6))) (ad_cons (pd_bin op_add2 r2_add (pd_str) (pd_join (pd_str) (pd_var (i := 6)))) (ad_cons (pd_str) (ad_cons (pd_call G__law_bad_spelling (hr.mono (by decide)) T.g__law_bad_spelling T.F__law_bad_spelling.kp T.b__law_bad_spelling tk [.s] (ad_cons (pd_var (i := 0)) (ad_nil))) (ad_cons (pd_upper (pd_var (i := 2))) (ad_cons (pd_bin op_add2 r2_add (pd_var (i := 1)) (pd_var (i := 2))) (ad_nil))))))))) (gd_name (i := 5) sc.nd))
  (bk_cons (sd_if (td_cmp (op_eq2 hu) r2_eq (pd_call G__law_take (hr.mono (by decide)) T.g__law_take T.F__law_take.kp T.b__law_take tk [.s, .d] (ad_cons (pd_var (i := 0)) (ad_cons (pd_int) (ad_nil)))) (pd_int) (nomark _)) (bk_one (sd_app (pd_var (i := 5)) (pd_bin op_mulS r2_mulS (pd_str) (pd_bin op_add2 r2_add (pd_int) (pd_call G__law_take (hr.mono (by decide)) T.g__law_take T.F__law_take.kp T.b__law_take tk [.s, .d] (ad_cons (pd_var (i := 0)) (ad_cons (pd_int) (ad_nil)))))))) (bk_nil))
  (bk_one (sd_ret (pd_var (i := 5))))))))))))⟩
theorem sc_law : FnScope ["script", "store", "made", "loose", "first", "text"] ["script"] (defScope s_law) := ⟨rfl, rfl, rfl, by decide +kernel, rfl, by decide +kernel, by decide +kernel⟩
theorem bk_law (T : Tx w K mg) (G__law_due : FnOk P w K mg base (L2.CX P w) 2 T.a__law_due T.fd__law_due ["text"] (spP K fs__law_due)) (G__law_long : FnOk P w K mg base (L2.CX P w) 4 T.a__law_long T.fd__law_long ["store"] (spP K fs__law_long)) (G__law_loose : FnOk P w K mg base (L2.CX P w) 4 T.a__law_loose T.fd__law_loose ["store"] (spP K fs__law_loose)) (G__law_made : FnOk P w K mg base (L2.CX P w) 6 T.a__law_made T.fd__law_made ["store"] (spP K fs__law_made)) (G__law_same : FnOk P w K mg base (L2.CX P w) 5 T.a__law_same T.fd__law_same ["told", "due"] (spP K fs__law_same)) (G__law_spelling : FnOk P w K mg base (L2.CX P w) 2 T.a__law_spelling T.fd__law_spelling ["text"] (spP K fs__law_spelling)) (G__law_store : FnOk P w K mg base (L2.CX P w) 1 T.a__law_store T.fd__law_store ["script"] (spStore K)) (G__law_take : FnOk P w K mg base (L2.CX P w) 2 T.a__law_take T.fd__law_take ["store", "many"] (spP K fs__law_take)) (G__law_texts : FnOk P w K mg base (L2.CX P w) 5 T.a__law_texts T.fd__law_texts ["store"] (spP K fs__law_texts)) (G__law_told : FnOk P w K mg base (L2.CX P w) 4 T.a__law_told T.fd__law_told ["text"] (spP K (fs__law_told T.c))) (G_is_spelling : FnOk P w K mg base (L2.CX P w) 2 T.a_is_spelling T.fd_is_spelling ["text"] (spP K fs_is_spelling)) (cdv : Value) (A : Around) (outer : List Env) (s : Shared) (H : Hp) (E : XK) (hr : Room 6 (A.deeper (envOfC "law" (defScope s_law) s.heap.objs.size T.a_law cdv))) (tk : Takes (Cxx P w K mg base ["script", "store", "made", "loose", "first", "text"] "law" (defScope s_law) T.a_law cdv A outer s H E) (WxOf E)) (hp : PassesOwn (model P w) (A.deeper (envOfC "law" (defScope s_law) s.heap.objs.size T.a_law cdv)) (envOfC "law" (defScope s_law) s.heap.objs.size T.a_law cdv) (Cxx P w K mg base ["script", "store", "made", "loose", "first", "text"] "law" (defScope s_law) T.a_law cdv A outer s H E).xe) : ∃ t, BkD (Cxx P w K mg base ["script", "store", "made", "loose", "first", "text"] "law" (defScope s_law) T.a_law cdv A outer s H E) (WxOf E) (defBody s_law).tail t (w_law K T.c) := by
  have sc := sc_law
  have hu := hr.units
  exact ⟨_, bk_cons (sd_fz (i := 2) (sd_asg (pd_call G__law_made (hr.mono (by decide)) T.g__law_made T.F__law_made.kp T.b__law_made tk [.s] (ad_cons (pd_var (i := 1)) (ad_nil))) (gd_name (i := 2) sc.nd)))
  (bk_cons (sd_asg (pd_call G__law_loose (hr.mono (by decide)) T.g__law_loose T.F__law_loose.kp T.b__law_loose tk [.s] (ad_cons (pd_var (i := 1)) (ad_nil))) (gd_name (i := 3) sc.nd))
  (bk_cons (sd_asg (pd_call G__law_told (hr.mono (by decide)) T.g__law_told T.F__law_told.kp T.b__law_told tk [.d] (ad_cons (pd_ix (pd_var (i := 2)) (pd_int)) (ad_nil))) (gd_name (i := 4) sc.nd))
  (bk_cons (sd_if ((bd_or (td_not (td_tru (pd_call G__law_same (hr.mono (by decide)) T.g__law_same T.F__law_same.kp T.b__law_same tk [.r, .r] (ad_cons (pd_var (i := 4)) (ad_cons (pd_ix (pd_var (i := 2)) (pd_int)) (ad_nil)))))) (bd_or1 (td_not (td_tru (pd_call G__law_same (hr.mono (by decide)) T.g__law_same T.F__law_same.kp T.b__law_same tk [.r, .r] (ad_cons (pd_call G__law_told (hr.mono (by decide)) T.g__law_told T.F__law_told.kp T.b__law_told tk [.d] (ad_cons (pd_var (i := 3)) (ad_nil))) (ad_cons (pd_call G__law_due (hr.mono (by decide)) T.g__law_due T.F__law_due.kp T.b__law_due tk [.d] (ad_cons (pd_var (i := 3)) (ad_nil))) (ad_nil)))))))).td) (bk_one (sd_ret (pd_bl))) (bk_nil))
  (bk_cons (sd_if (td_cmp (op_eq2 hu) r2_eq (pd_ix (pd_var (i := 4)) (pd_int)) (pd_str) (nomark _)) (bk_cons (sd_app (pd_ix (pd_var (i := 4)) (pd_int)) (pd_str))
  (bk_one (sd_insS (pd_ix (pd_var (i := 4)) (pd_int)) (pd_int) (pd_str)))) (bk_nil))
  (bk_cons (sd_if ((bd_or (td_not (td_tru (pd_call G__law_same (hr.mono (by decide)) T.g__law_same T.F__law_same.kp T.b__law_same tk [.r, .r] (ad_cons (pd_call G__law_told (hr.mono (by decide)) T.g__law_told T.F__law_told.kp T.b__law_told tk [.d] (ad_cons (pd_ix (pd_var (i := 2)) (pd_int)) (ad_nil))) (ad_cons (pd_ix (pd_var (i := 2)) (pd_int)) (ad_nil)))))) (bd_or1 (td_not (td_tru (pd_call G__law_same (hr.mono (by decide)) T.g__law_same T.F__law_same.kp T.b__law_same tk [.r, .r] (ad_cons (pd_call G__law_told (hr.mono (by decide)) T.g__law_told T.F__law_told.kp T.b__law_told tk [.d] (ad_cons (pd_str) (ad_nil))) (ad_cons (pd_lst (ad_cons (pd_str) (ad_cons (pd_lst (ad_nil)) (ad_nil)))) (ad_nil)))))))).td) (bk_one (sd_ret (pd_bl))) (bk_nil))
  (bk_cons (sd_if (td_cmp (op_eq2 hu) r2_eq (pd_call G__law_take (hr.mono (by decide)) T.g__law_take T.F__law_take.kp T.b__law_take tk [.s, .d] (ad_cons (pd_var (i := 1)) (ad_cons (pd_int) (ad_nil)))) (pd_int) (nomark _)) (bk_cons (sd_asg (pd_call G__law_long (hr.mono (by decide)) T.g__law_long T.F__law_long.kp T.b__law_long tk [.s] (ad_cons (pd_var (i := 1)) (ad_nil))) (gd_name (i := 5) sc.nd))
  (bk_one (sd_if (td_not (td_tru (pd_call G__law_same (hr.mono (by decide)) T.g__law_same T.F__law_same.kp T.b__law_same tk [.r, .r] (ad_cons (pd_call G__law_told (hr.mono (by decide)) T.g__law_told T.F__law_told.kp T.b__law_told tk [.d] (ad_cons (pd_var (i := 5)) (ad_nil))) (ad_cons (pd_call G__law_due (hr.mono (by decide)) T.g__law_due T.F__law_due.kp T.b__law_due tk [.d] (ad_cons (pd_var (i := 5)) (ad_nil))) (ad_nil)))))) (bk_one (sd_ret (pd_bl))) (bk_nil)))) (bk_nil))
  (bk_cons (sd_for hp rfl (id_list (pd_call G__law_texts (hr.mono (by decide)) T.g__law_texts T.F__law_texts.kp T.b__law_texts tk [.s] (ad_cons (pd_var (i := 1)) (ad_nil)))) (gd_name (i := 5) sc.nd) (bk_one (sd_if (td_not (td_tru (pd_call G__law_same (hr.mono (by decide)) T.g__law_same T.F__law_same.kp T.b__law_same tk [.r, .r] (ad_cons (pd_call G_is_spelling (hr.mono (by decide)) T.g_is_spelling T.F_is_spelling.kp T.b_is_spelling tk [.d] (ad_cons (pd_var (i := 5)) (ad_nil))) (ad_cons (pd_call G__law_spelling (hr.mono (by decide)) T.g__law_spelling T.F__law_spelling.kp T.b__law_spelling tk [.d] (ad_cons (pd_var (i := 5)) (ad_nil))) (ad_nil)))))) (bk_one (sd_ret (pd_bl))) (bk_nil))))
  (bk_one (sd_ret (pd_call G__law_same (hr.mono (by decide)) T.g__law_same T.F__law_same.kp T.b__law_same tk [.r, .r] (ad_cons (pd_call G__law_told (hr.mono (by decide)) T.g__law_told T.F__law_told.kp T.b__law_told tk [.d] (ad_cons (pd_var (i := 3)) (ad_nil))) (ad_cons (pd_call G__law_due (hr.mono (by decide)) T.g__law_due T.F__law_due.kp T.b__law_due tk [.d] (ad_cons (pd_var (i := 3)) (ad_nil))) (ad_nil)))))))))))))⟩
end

theorem tx_of {w : World} {K : PySem.W.Frag} {h : Heap} {mg : Str → Option Value} (X : K.In h) (G : h.Ns mainGlobals mg) (c : He.SaysX fa fn ts [] ex w h K) : ∃ T : Tx w K mg, T.a_law = He.ga K "law" := by
  have E : fx.all (Fx2.ok K) = true := c.more
  obtain ⟨fd_run_end, F_run_end⟩ := c.t.d.def_ 0 (d := d_run_end) rfl
  obtain ⟨fd_word_end, F_word_end⟩ := c.t.d.def_ 1 (d := d_word_end) rfl
  obtain ⟨fd_is_sound_number, F_is_sound_number⟩ := c.t.d.def_ 2 (d := d_is_sound_number) rfl
  obtain ⟨fd_is_sound, F_is_sound⟩ := c.t.d.def_ 3 (d := d_is_sound) rfl
  obtain ⟨fd_split_words, F_split_words⟩ := c.t.d.def_ 4 (d := d_split_words) rfl
  obtain ⟨fd_is_spelling, F_is_spelling⟩ := c.t.d.def_ 5 (d := d_is_spelling) rfl
  obtain ⟨fd__law_store, F__law_store⟩ := c.t.d.def_ 6 (d := d__law_store) rfl
  obtain ⟨fd__law_mix, F__law_mix⟩ := c.t.d.def_ 7 (d := d__law_mix) rfl
  obtain ⟨fd__law_take, F__law_take⟩ := c.t.d.def_ 8 (d := d__law_take) rfl
  obtain ⟨fd__law_edge, F__law_edge⟩ := c.t.d.def_ 9 (d := d__law_edge) rfl
  obtain ⟨fd__law_pick, F__law_pick⟩ := c.t.d.def_ 10 (d := d__law_pick) rfl
  obtain ⟨fd__law_number, F__law_number⟩ := c.t.d.def_ 11 (d := d__law_number) rfl
  obtain ⟨fd__law_word, F__law_word⟩ := c.t.d.def_ 12 (d := d__law_word) rfl
  obtain ⟨fd__law_apart, F__law_apart⟩ := c.t.d.def_ 13 (d := d__law_apart) rfl
  obtain ⟨fd__law_spread, F__law_spread⟩ := c.t.d.def_ 14 (d := d__law_spread) rfl
  obtain ⟨fd__law_bad_sign, F__law_bad_sign⟩ := c.t.d.def_ 15 (d := d__law_bad_sign) rfl
  obtain ⟨fd__law_bad_word, F__law_bad_word⟩ := c.t.d.def_ 16 (d := d__law_bad_word) rfl
  obtain ⟨fd__law_bad_spelling, F__law_bad_spelling⟩ := c.t.d.def_ 17 (d := d__law_bad_spelling) rfl
  obtain ⟨fd__law_same, F__law_same⟩ := c.t.d.def_ 18 (d := d__law_same) rfl
  obtain ⟨fd__law_signs, F__law_signs⟩ := c.t.d.def_ 19 (d := d__law_signs) rfl
  obtain ⟨fd__law_kept, F__law_kept⟩ := c.t.d.def_ 20 (d := d__law_kept) rfl
  obtain ⟨fd__law_right, F__law_right⟩ := c.t.d.def_ 21 (d := d__law_right) rfl
  obtain ⟨fd__law_cut, F__law_cut⟩ := c.t.d.def_ 22 (d := d__law_cut) rfl
  obtain ⟨fd__law_good, F__law_good⟩ := c.t.d.def_ 23 (d := d__law_good) rfl
  obtain ⟨fd__law_due, F__law_due⟩ := c.t.d.def_ 24 (d := d__law_due) rfl
  obtain ⟨fd__law_spelling, F__law_spelling⟩ := c.t.d.def_ 25 (d := d__law_spelling) rfl
  obtain ⟨fd__law_told, F__law_told⟩ := c.t.d.def_ 26 (d := d__law_told) rfl
  obtain ⟨fd__law_made, F__law_made⟩ := c.t.d.def_ 27 (d := d__law_made) rfl
  obtain ⟨fd__law_loose, F__law_loose⟩ := c.t.d.def_ 28 (d := d__law_loose) rfl
  obtain ⟨fd__law_long, F__law_long⟩ := c.t.d.def_ 29 (d := d__law_long) rfl
  obtain ⟨fd__law_texts, F__law_texts⟩ := c.t.d.def_ 30 (d := d__law_texts) rfl
  obtain ⟨fd_law, F_law⟩ := c.t.d.def_ 31 (d := d_law) rfl
  obtain ⟨fd_BadText___init__, F_BadText___init__⟩ := c.t.d.def_ 32 (d := d_BadText___init__) rfl
  obtain ⟨fd_TooBig___init__, F_TooBig___init__⟩ := c.t.d.def_ 33 (d := d_TooBig___init__) rfl
  exact ⟨{ c := ⟨He.ga K "BadCall", He.ga K "BadChain", He.ga K "BadCount", He.ga K "BadEdit", He.ga K "BadForest", He.ga K "BadGiving", He.ga K "BadLeave", He.ga K "BadLine", He.ga K "BadName", He.ga K "BadSpelling", He.ga K "BadTape", He.ga K "BadText", He.ga K "CellsError", He.ga K "NoSuch", He.ga K "NotLive", He.ga K "NotRight", He.ga K "TooBig", He.ga K "TooLong", He.ga K "Twice"⟩, kf := ⟨fx_exc (fx_at E 0), fx_exm (fx_at E 1), fx_kit (fx_at E 2), fx_kit (fx_at E 3), fx_kit (fx_at E 4), fx_kit (fx_at E 5), fx_kit (fx_at E 6), fx_kit (fx_at E 7), fx_kit (fx_at E 8), fx_kit (fx_at E 9), fx_kit (fx_at E 10), fx_kit (fx_at E 11), fx_kit (fx_at E 12), fx_kit (fx_at E 13), fx_kit (fx_at E 14), fx_kit (fx_at E 15), fx_kit (fx_at E 16), fx_kit (fx_at E 17), fx_kit (fx_at E 18), fx_kit (fx_at E 19), fx_kitV (fx_at E 20), fx_exc (fx_at E 21), fx_exm (fx_at E 22), fx_kit (fx_at E 23), fx_kit (fx_at E 24), fx_kit (fx_at E 25), fx_kit (fx_at E 26), fx_kit (fx_at E 27), fx_kit (fx_at E 28), fx_kit (fx_at E 29), fx_kit (fx_at E 30), fx_kit (fx_at E 31), fx_kit (fx_at E 32), fx_kit (fx_at E 33), fx_kit (fx_at E 34), fx_kit (fx_at E 35), fx_kit (fx_at E 36), fx_kit (fx_at E 37), fx_kit (fx_at E 38), fx_kit (fx_at E 39), fx_kit (fx_at E 40), fx_kitV (fx_at E 41)⟩, a_run_end := He.fAd K ("run_end", none), fd_run_end := fd_run_end, g_run_end := He.glo_ok X G (c.t.d.fact 0 rfl), F_run_end := F_run_end, a_word_end := He.fAd K ("word_end", none), fd_word_end := fd_word_end, g_word_end := He.glo_ok X G (c.t.d.fact 1 rfl), F_word_end := F_word_end, a_is_sound_number := He.fAd K ("is_sound_number", none), fd_is_sound_number := fd_is_sound_number, g_is_sound_number := He.glo_ok X G (c.t.d.fact 2 rfl), F_is_sound_number := F_is_sound_number, a_is_sound := He.fAd K ("is_sound", none), fd_is_sound := fd_is_sound, g_is_sound := He.glo_ok X G (c.t.d.fact 3 rfl), F_is_sound := F_is_sound, a_split_words := He.fAd K ("split_words", none), fd_split_words := fd_split_words, g_split_words := He.glo_ok X G (c.t.d.fact 4 rfl), F_split_words := F_split_words, a_is_spelling := He.fAd K ("is_spelling", none), fd_is_spelling := fd_is_spelling, g_is_spelling := He.glo_ok X G (c.t.d.fact 5 rfl), F_is_spelling := F_is_spelling, a__law_store := He.fAd K ("_law_store", none), fd__law_store := fd__law_store, g__law_store := He.glo_ok X G (c.t.d.fact 6 rfl), F__law_store := F__law_store, a__law_mix := He.fAd K ("_law_mix", none), fd__law_mix := fd__law_mix, g__law_mix := He.glo_ok X G (c.t.d.fact 7 rfl), F__law_mix := F__law_mix, a__law_take := He.fAd K ("_law_take", none), fd__law_take := fd__law_take, g__law_take := He.glo_ok X G (c.t.d.fact 8 rfl), F__law_take := F__law_take, a__law_edge := He.fAd K ("_law_edge", none), fd__law_edge := fd__law_edge, g__law_edge := He.glo_ok X G (c.t.d.fact 9 rfl), F__law_edge := F__law_edge, a__law_pick := He.fAd K ("_law_pick", none), fd__law_pick := fd__law_pick, g__law_pick := He.glo_ok X G (c.t.d.fact 10 rfl), F__law_pick := F__law_pick, a__law_number := He.fAd K ("_law_number", none), fd__law_number := fd__law_number, g__law_number := He.glo_ok X G (c.t.d.fact 11 rfl), F__law_number := F__law_number, a__law_word := He.fAd K ("_law_word", none), fd__law_word := fd__law_word, g__law_word := He.glo_ok X G (c.t.d.fact 12 rfl), F__law_word := F__law_word, a__law_apart := He.fAd K ("_law_apart", none), fd__law_apart := fd__law_apart, g__law_apart := He.glo_ok X G (c.t.d.fact 13 rfl), F__law_apart := F__law_apart, a__law_spread := He.fAd K ("_law_spread", none), fd__law_spread := fd__law_spread, g__law_spread := He.glo_ok X G (c.t.d.fact 14 rfl), F__law_spread := F__law_spread, a__law_bad_sign := He.fAd K ("_law_bad_sign", none), fd__law_bad_sign := fd__law_bad_sign, g__law_bad_sign := He.glo_ok X G (c.t.d.fact 15 rfl), F__law_bad_sign := F__law_bad_sign, a__law_bad_word := He.fAd K ("_law_bad_word", none), fd__law_bad_word := fd__law_bad_word, g__law_bad_word := He.glo_ok X G (c.t.d.fact 16 rfl), F__law_bad_word := F__law_bad_word, a__law_bad_spelling := He.fAd K ("_law_bad_spelling", none), fd__law_bad_spelling := fd__law_bad_spelling, g__law_bad_spelling := He.glo_ok X G (c.t.d.fact 17 rfl), F__law_bad_spelling := F__law_bad_spelling, a__law_same := He.fAd K ("_law_same", none), fd__law_same := fd__law_same, g__law_same := He.glo_ok X G (c.t.d.fact 18 rfl), F__law_same := F__law_same, a__law_signs := He.fAd K ("_law_signs", none), fd__law_signs := fd__law_signs, g__law_signs := He.glo_ok X G (c.t.d.fact 19 rfl), F__law_signs := F__law_signs, a__law_kept := He.fAd K ("_law_kept", none), fd__law_kept := fd__law_kept, g__law_kept := He.glo_ok X G (c.t.d.fact 20 rfl), F__law_kept := F__law_kept, a__law_right := He.fAd K ("_law_right", none), fd__law_right := fd__law_right, g__law_right := He.glo_ok X G (c.t.d.fact 21 rfl), F__law_right := F__law_right, a__law_cut := He.fAd K ("_law_cut", none), fd__law_cut := fd__law_cut, g__law_cut := He.glo_ok X G (c.t.d.fact 22 rfl), F__law_cut := F__law_cut, a__law_good := He.fAd K ("_law_good", none), fd__law_good := fd__law_good, g__law_good := He.glo_ok X G (c.t.d.fact 23 rfl), F__law_good := F__law_good, a__law_due := He.fAd K ("_law_due", none), fd__law_due := fd__law_due, g__law_due := He.glo_ok X G (c.t.d.fact 24 rfl), F__law_due := F__law_due, a__law_spelling := He.fAd K ("_law_spelling", none), fd__law_spelling := fd__law_spelling, g__law_spelling := He.glo_ok X G (c.t.d.fact 25 rfl), F__law_spelling := F__law_spelling, a__law_told := He.fAd K ("_law_told", none), fd__law_told := fd__law_told, g__law_told := He.glo_ok X G (c.t.d.fact 26 rfl), F__law_told := F__law_told, a__law_made := He.fAd K ("_law_made", none), fd__law_made := fd__law_made, g__law_made := He.glo_ok X G (c.t.d.fact 27 rfl), F__law_made := F__law_made, a__law_loose := He.fAd K ("_law_loose", none), fd__law_loose := fd__law_loose, g__law_loose := He.glo_ok X G (c.t.d.fact 28 rfl), F__law_loose := F__law_loose, a__law_long := He.fAd K ("_law_long", none), fd__law_long := fd__law_long, g__law_long := He.glo_ok X G (c.t.d.fact 29 rfl), F__law_long := F__law_long, a__law_texts := He.fAd K ("_law_texts", none), fd__law_texts := fd__law_texts, g__law_texts := He.glo_ok X G (c.t.d.fact 30 rfl), F__law_texts := F__law_texts, a_law := He.fAd K ("law", none), fd_law := fd_law, g_law := He.glo_ok X G (c.t.d.fact 31 rfl), F_law := F_law, g_BadCall := He.glo_ok X G (c.t.d.fact 32 rfl), g_BadChain := He.glo_ok X G (c.t.d.fact 33 rfl), g_BadCount := He.glo_ok X G (c.t.d.fact 34 rfl), g_BadEdit := He.glo_ok X G (c.t.d.fact 35 rfl), g_BadForest := He.glo_ok X G (c.t.d.fact 36 rfl), g_BadGiving := He.glo_ok X G (c.t.d.fact 37 rfl), g_BadLeave := He.glo_ok X G (c.t.d.fact 38 rfl), g_BadLine := He.glo_ok X G (c.t.d.fact 39 rfl), g_BadName := He.glo_ok X G (c.t.d.fact 40 rfl), g_BadSpelling := He.glo_ok X G (c.t.d.fact 41 rfl), g_BadTape := He.glo_ok X G (c.t.d.fact 42 rfl), g_BadText := He.glo_ok X G (c.t.d.fact 43 rfl), g_CellsError := He.glo_ok X G (c.t.d.fact 44 rfl), g_NoSuch := He.glo_ok X G (c.t.d.fact 45 rfl), g_NotLive := He.glo_ok X G (c.t.d.fact 46 rfl), g_NotRight := He.glo_ok X G (c.t.d.fact 47 rfl), g_TooBig := He.glo_ok X G (c.t.d.fact 48 rfl), g_TooLong := He.glo_ok X G (c.t.d.fact 49 rfl), g_Twice := He.glo_ok X G (c.t.d.fact 50 rfl), a_BadText___init__ := He.fAd K ("BadText", some "__init__"), fd_BadText___init__ := fd_BadText___init__, F_BadText___init__ := F_BadText___init__, a_TooBig___init__ := He.fAd K ("TooBig", some "__init__"), fd_TooBig___init__ := fd_TooBig___init__, F_TooBig___init__ := F_TooBig___init__, O_BadText := fx_oex (fx_at E 42), iC_BadText := fx_iC (fx_at E 43), tI_BadText := fx_tI (fx_at E 43), X_BadText := fx_xf (fx_at E 44), O_TooBig := fx_oex (fx_at E 45), iC_TooBig := fx_iC (fx_at E 46), tI_TooBig := fx_tI (fx_at E 46), X_TooBig := fx_xf (fx_at E 47), t_KEPT_WORDS := He.ga K "KEPT_WORDS", g_KEPT_WORDS := He.glo_ok X G (c.t.d.fact 51 rfl), k_KEPT_WORDS := fx_tup (fx_at E 48), n_BadText_bad_word := He.noat_ok (c.t.d.fact 52 rfl), n_TooBig_bad_what := He.noat_ok (c.t.d.fact 53 rfl), z_ValueError := He.free_ok X G (c.t.d.fact 54 rfl), z_bool := He.free_ok X G (c.t.d.fact 55 rfl), z_int := He.free_ok X G (c.t.d.fact 56 rfl), z_isinstance := He.free_ok X G (c.t.d.fact 57 rfl), z_len := He.free_ok X G (c.t.d.fact 58 rfl), z_list := He.free_ok X G (c.t.d.fact 59 rfl), z_max := He.free_ok X G (c.t.d.fact 60 rfl), z_range := He.free_ok X G (c.t.d.fact 61 rfl), z_str := He.free_ok X G (c.t.d.fact 62 rfl), z_tuple := He.free_ok X G (c.t.d.fact 63 rfl), c_BLANKS := He.str_ok X G (c.t.d.fact 64 rfl), c_DIGITS := He.str_ok X G (c.t.d.fact 65 rfl), c_LETTERS := He.str_ok X G (c.t.d.fact 66 rfl), c_MARKS := He.str_ok X G (c.t.d.fact 67 rfl), c_MOST_DIGITS := He.int_ok X G (c.t.d.fact 68 rfl), c_MOST_SIGNS := He.int_ok X G (c.t.d.fact 69 rfl), c_MOST_WORD_SIGNS := He.int_ok X G (c.t.d.fact 70 rfl) }, rfl⟩
section
variable {P : Program} {w : World} {K : PySem.W.Frag} {mg : Str → Option Value} {base : Heap}
theorem ok__law_store (T : Tx w K mg) : FnOk P w K mg base (L2.CX P w) 1 T.a__law_store T.fd__law_store ["script"] (spStore K) := by
  refine fn_store T.F__law_store sc__law_store (by decide) fun cdv A outer s H E hr tk hp => ?_
  obtain ⟨t, b⟩ := bk__law_store T  cdv A outer s H E hr tk hp
  exact ⟨t, _, b, fun ns h => pl_store ns h⟩
theorem ok__law_cut (T : Tx w K mg) : FnOk P w K mg base (L2.CX P w) 1 T.a__law_cut T.fd__law_cut ["text"] (spP K fs__law_cut) := by
  refine fn_pure T.F__law_cut sc__law_cut (fun as Qd xd h => by first | (obtain ⟨rfl, _⟩ := h; rfl) | (obtain ⟨_, rfl, _⟩ := h; rfl) | (obtain ⟨_, _, rfl, _⟩ := h; rfl) | (obtain ⟨_, _, _, rfl, _⟩ := h; rfl) | (obtain ⟨_, _, _, _, rfl, _⟩ := h; rfl) | (obtain ⟨_, _, _, _, _, rfl, _⟩ := h; rfl) | (obtain ⟨_, _, _, _, _, _, rfl, _⟩ := h; rfl) | (obtain ⟨_, _, _, _, _, _, _, rfl, _⟩ := h; rfl)) (by decide) fun cdv A outer s H E hr tk hp => ?_
  obtain ⟨t, b⟩ := bk__law_cut T  cdv A outer s H E hr tk hp
  exact ⟨t, _, b, fun as Qd xd h => pl__law_cut as Qd xd h⟩
theorem ok__law_good (T : Tx w K mg) : FnOk P w K mg base (L2.CX P w) 1 T.a__law_good T.fd__law_good ["word"] (spP K fs__law_good) := by
  refine fn_pure T.F__law_good sc__law_good (fun as Qd xd h => by first | (obtain ⟨rfl, _⟩ := h; rfl) | (obtain ⟨_, rfl, _⟩ := h; rfl) | (obtain ⟨_, _, rfl, _⟩ := h; rfl) | (obtain ⟨_, _, _, rfl, _⟩ := h; rfl) | (obtain ⟨_, _, _, _, rfl, _⟩ := h; rfl) | (obtain ⟨_, _, _, _, _, rfl, _⟩ := h; rfl) | (obtain ⟨_, _, _, _, _, _, rfl, _⟩ := h; rfl) | (obtain ⟨_, _, _, _, _, _, _, rfl, _⟩ := h; rfl)) (by decide) fun cdv A outer s H E hr tk hp => ?_
  obtain ⟨t, b⟩ := bk__law_good T  cdv A outer s H E hr tk hp
  exact ⟨t, _, b, fun as Qd xd h => pl__law_good as Qd xd h⟩
theorem ok__law_due (T : Tx w K mg) : FnOk P w K mg base (L2.CX P w) 2 T.a__law_due T.fd__law_due ["text"] (spP K fs__law_due) := by
  refine fn_pure T.F__law_due sc__law_due (fun as Qd xd h => by first | (obtain ⟨rfl, _⟩ := h; rfl) | (obtain ⟨_, rfl, _⟩ := h; rfl) | (obtain ⟨_, _, rfl, _⟩ := h; rfl) | (obtain ⟨_, _, _, rfl, _⟩ := h; rfl) | (obtain ⟨_, _, _, _, rfl, _⟩ := h; rfl) | (obtain ⟨_, _, _, _, _, rfl, _⟩ := h; rfl) | (obtain ⟨_, _, _, _, _, _, rfl, _⟩ := h; rfl) | (obtain ⟨_, _, _, _, _, _, _, rfl, _⟩ := h; rfl)) (by decide) fun cdv A outer s H E hr tk hp => ?_
  obtain ⟨t, b⟩ := bk__law_due T (ok__law_cut T) (ok__law_good T) cdv A outer s H E hr tk hp
  exact ⟨t, _, b, fun as Qd xd h => pl__law_due as Qd xd h⟩
theorem ok__law_mix (T : Tx w K mg) : FnOk P w K mg base (L2.CX P w) 1 T.a__law_mix T.fd__law_mix ["value", "turn"] (spP K fs__law_mix) := by
  refine fn_pure T.F__law_mix sc__law_mix (fun as Qd xd h => by first | (obtain ⟨rfl, _⟩ := h; rfl) | (obtain ⟨_, rfl, _⟩ := h; rfl) | (obtain ⟨_, _, rfl, _⟩ := h; rfl) | (obtain ⟨_, _, _, rfl, _⟩ := h; rfl) | (obtain ⟨_, _, _, _, rfl, _⟩ := h; rfl) | (obtain ⟨_, _, _, _, _, rfl, _⟩ := h; rfl) | (obtain ⟨_, _, _, _, _, _, rfl, _⟩ := h; rfl) | (obtain ⟨_, _, _, _, _, _, _, rfl, _⟩ := h; rfl)) (by decide) fun cdv A outer s H E hr tk hp => ?_
  obtain ⟨t, b⟩ := bk__law_mix T  cdv A outer s H E hr tk hp
  exact ⟨t, _, b, fun as Qd xd h => pl_mix as Qd xd h⟩
theorem ok__law_take (T : Tx w K mg) : FnOk P w K mg base (L2.CX P w) 2 T.a__law_take T.fd__law_take ["store", "many"] (spP K fs__law_take) := by
  refine fn_take T.F__law_take sc__law_take (by decide) fun cdv A outer s H E hr tk hp => ?_
  obtain ⟨t, b⟩ := bk__law_take T (ok__law_mix T) cdv A outer s H E hr tk hp
  exact ⟨t, _, b, fun a ns many h hm => pl_take a ns many h hm⟩
theorem ok__law_pick (T : Tx w K mg) : FnOk P w K mg base (L2.CX P w) 3 T.a__law_pick T.fd__law_pick ["store", "options"] (spP K fs__law_pick) := by
  refine fn_pure T.F__law_pick sc__law_pick (fun as Qd xd h => by first | (obtain ⟨rfl, _⟩ := h; rfl) | (obtain ⟨_, rfl, _⟩ := h; rfl) | (obtain ⟨_, _, rfl, _⟩ := h; rfl) | (obtain ⟨_, _, _, rfl, _⟩ := h; rfl) | (obtain ⟨_, _, _, _, rfl, _⟩ := h; rfl) | (obtain ⟨_, _, _, _, _, rfl, _⟩ := h; rfl) | (obtain ⟨_, _, _, _, _, _, rfl, _⟩ := h; rfl) | (obtain ⟨_, _, _, _, _, _, _, rfl, _⟩ := h; rfl)) (by decide) fun cdv A outer s H E hr tk hp => ?_
  obtain ⟨t, b⟩ := bk__law_pick T (ok__law_take T) cdv A outer s H E hr tk hp
  exact ⟨t, _, b, fun as Qd xd h => pl_pick as Qd xd h⟩
theorem ok__law_long (T : Tx w K mg) : FnOk P w K mg base (L2.CX P w) 4 T.a__law_long T.fd__law_long ["store"] (spP K fs__law_long) := by
  refine fn_pure T.F__law_long sc__law_long (fun as Qd xd h => by first | (obtain ⟨rfl, _⟩ := h; rfl) | (obtain ⟨_, rfl, _⟩ := h; rfl) | (obtain ⟨_, _, rfl, _⟩ := h; rfl) | (obtain ⟨_, _, _, rfl, _⟩ := h; rfl) | (obtain ⟨_, _, _, _, rfl, _⟩ := h; rfl) | (obtain ⟨_, _, _, _, _, rfl, _⟩ := h; rfl) | (obtain ⟨_, _, _, _, _, _, rfl, _⟩ := h; rfl) | (obtain ⟨_, _, _, _, _, _, _, rfl, _⟩ := h; rfl)) (by decide) fun cdv A outer s H E hr tk hp => ?_
  obtain ⟨t, b⟩ := bk__law_long T (ok__law_pick T) (ok__law_take T) cdv A outer s H E hr tk hp
  exact ⟨t, _, b, fun as Qd xd h => pl__law_long as Qd xd h⟩
theorem ok__law_edge (T : Tx w K mg) : FnOk P w K mg base (L2.CX P w) 3 T.a__law_edge T.fd__law_edge ["store", "low", "high"] (spP K fs__law_edge) := by
  refine fn_pure T.F__law_edge sc__law_edge (fun as Qd xd h => by first | (obtain ⟨rfl, _⟩ := h; rfl) | (obtain ⟨_, rfl, _⟩ := h; rfl) | (obtain ⟨_, _, rfl, _⟩ := h; rfl) | (obtain ⟨_, _, _, rfl, _⟩ := h; rfl) | (obtain ⟨_, _, _, _, rfl, _⟩ := h; rfl) | (obtain ⟨_, _, _, _, _, rfl, _⟩ := h; rfl) | (obtain ⟨_, _, _, _, _, _, rfl, _⟩ := h; rfl) | (obtain ⟨_, _, _, _, _, _, _, rfl, _⟩ := h; rfl)) (by decide) fun cdv A outer s H E hr tk hp => ?_
  obtain ⟨t, b⟩ := bk__law_edge T (ok__law_take T) cdv A outer s H E hr tk hp
  exact ⟨t, _, b, fun as Qd xd h => pl_edge as Qd xd h⟩
theorem ok__law_signs (T : Tx w K mg) : FnOk P w K mg base (L2.CX P w) 1 T.a__law_signs T.fd__law_signs [] (spP K fs__law_signs) := by
  refine fn_pure T.F__law_signs sc__law_signs (fun as Qd xd h => by first | (obtain ⟨rfl, _⟩ := h; rfl) | (obtain ⟨_, rfl, _⟩ := h; rfl) | (obtain ⟨_, _, rfl, _⟩ := h; rfl) | (obtain ⟨_, _, _, rfl, _⟩ := h; rfl) | (obtain ⟨_, _, _, _, rfl, _⟩ := h; rfl) | (obtain ⟨_, _, _, _, _, rfl, _⟩ := h; rfl) | (obtain ⟨_, _, _, _, _, _, rfl, _⟩ := h; rfl) | (obtain ⟨_, _, _, _, _, _, _, rfl, _⟩ := h; rfl)) (by decide) fun cdv A outer s H E hr tk hp => ?_
  obtain ⟨t, b⟩ := bk__law_signs T  cdv A outer s H E hr tk hp
  exact ⟨t, _, b, fun as Qd xd h => pl__law_signs as Qd xd h⟩
theorem ok__law_loose (T : Tx w K mg) : FnOk P w K mg base (L2.CX P w) 4 T.a__law_loose T.fd__law_loose ["store"] (spP K fs__law_loose) := by
  refine fn_pure T.F__law_loose sc__law_loose (fun as Qd xd h => by first | (obtain ⟨rfl, _⟩ := h; rfl) | (obtain ⟨_, rfl, _⟩ := h; rfl) | (obtain ⟨_, _, rfl, _⟩ := h; rfl) | (obtain ⟨_, _, _, rfl, _⟩ := h; rfl) | (obtain ⟨_, _, _, _, rfl, _⟩ := h; rfl) | (obtain ⟨_, _, _, _, _, rfl, _⟩ := h; rfl) | (obtain ⟨_, _, _, _, _, _, rfl, _⟩ := h; rfl) | (obtain ⟨_, _, _, _, _, _, _, rfl, _⟩ := h; rfl)) (by decide) fun cdv A outer s H E hr tk hp => ?_
  obtain ⟨t, b⟩ := bk__law_loose T (ok__law_edge T) (ok__law_pick T) (ok__law_signs T) cdv A outer s H E hr tk hp
  exact ⟨t, _, b, fun as Qd xd h => pl__law_loose as Qd xd h⟩
theorem ok__law_bad_sign (T : Tx w K mg) : FnOk P w K mg base (L2.CX P w) 4 T.a__law_bad_sign T.fd__law_bad_sign ["store"] (spP K fs__law_bad_sign) := by
  refine fn_pure T.F__law_bad_sign sc__law_bad_sign (fun as Qd xd h => by first | (obtain ⟨rfl, _⟩ := h; rfl) | (obtain ⟨_, rfl, _⟩ := h; rfl) | (obtain ⟨_, _, rfl, _⟩ := h; rfl) | (obtain ⟨_, _, _, rfl, _⟩ := h; rfl) | (obtain ⟨_, _, _, _, rfl, _⟩ := h; rfl) | (obtain ⟨_, _, _, _, _, rfl, _⟩ := h; rfl) | (obtain ⟨_, _, _, _, _, _, rfl, _⟩ := h; rfl) | (obtain ⟨_, _, _, _, _, _, _, rfl, _⟩ := h; rfl)) (by decide) fun cdv A outer s H E hr tk hp => ?_
  obtain ⟨t, b⟩ := bk__law_bad_sign T (ok__law_pick T) cdv A outer s H E hr tk hp
  exact ⟨t, _, b, fun as Qd xd h => pl__law_bad_sign as Qd xd h⟩
theorem ok__law_bad_word (T : Tx w K mg) : FnOk P w K mg base (L2.CX P w) 5 T.a__law_bad_word T.fd__law_bad_word ["store"] (spP K fs__law_bad_word) := by
  refine fn_pure T.F__law_bad_word sc__law_bad_word (fun as Qd xd h => by first | (obtain ⟨rfl, _⟩ := h; rfl) | (obtain ⟨_, rfl, _⟩ := h; rfl) | (obtain ⟨_, _, rfl, _⟩ := h; rfl) | (obtain ⟨_, _, _, rfl, _⟩ := h; rfl) | (obtain ⟨_, _, _, _, rfl, _⟩ := h; rfl) | (obtain ⟨_, _, _, _, _, rfl, _⟩ := h; rfl) | (obtain ⟨_, _, _, _, _, _, rfl, _⟩ := h; rfl) | (obtain ⟨_, _, _, _, _, _, _, rfl, _⟩ := h; rfl)) (by decide) fun cdv A outer s H E hr tk hp => ?_
  obtain ⟨t, b⟩ := bk__law_bad_word T (ok__law_bad_sign T) (ok__law_pick T) (ok__law_take T) cdv A outer s H E hr tk hp
  exact ⟨t, _, b, fun as Qd xd h => pl__law_bad_word as Qd xd h⟩
theorem ok__law_kept (T : Tx w K mg) : FnOk P w K mg base (L2.CX P w) 1 T.a__law_kept T.fd__law_kept [] (spP K fs__law_kept) := by
  refine fn_pure T.F__law_kept sc__law_kept (fun as Qd xd h => by first | (obtain ⟨rfl, _⟩ := h; rfl) | (obtain ⟨_, rfl, _⟩ := h; rfl) | (obtain ⟨_, _, rfl, _⟩ := h; rfl) | (obtain ⟨_, _, _, rfl, _⟩ := h; rfl) | (obtain ⟨_, _, _, _, rfl, _⟩ := h; rfl) | (obtain ⟨_, _, _, _, _, rfl, _⟩ := h; rfl) | (obtain ⟨_, _, _, _, _, _, rfl, _⟩ := h; rfl) | (obtain ⟨_, _, _, _, _, _, _, rfl, _⟩ := h; rfl)) (by decide) fun cdv A outer s H E hr tk hp => ?_
  obtain ⟨t, b⟩ := bk__law_kept T  cdv A outer s H E hr tk hp
  exact ⟨t, _, b, fun as Qd xd h => pl__law_kept as Qd xd h⟩
theorem ok__law_number (T : Tx w K mg) : FnOk P w K mg base (L2.CX P w) 3 T.a__law_number T.fd__law_number ["store"] (spP K fs__law_number) := by
  refine fn_pure T.F__law_number sc__law_number (fun as Qd xd h => by first | (obtain ⟨rfl, _⟩ := h; rfl) | (obtain ⟨_, rfl, _⟩ := h; rfl) | (obtain ⟨_, _, rfl, _⟩ := h; rfl) | (obtain ⟨_, _, _, rfl, _⟩ := h; rfl) | (obtain ⟨_, _, _, _, rfl, _⟩ := h; rfl) | (obtain ⟨_, _, _, _, _, rfl, _⟩ := h; rfl) | (obtain ⟨_, _, _, _, _, _, rfl, _⟩ := h; rfl) | (obtain ⟨_, _, _, _, _, _, _, rfl, _⟩ := h; rfl)) (by decide) fun cdv A outer s H E hr tk hp => ?_
  obtain ⟨t, b⟩ := bk__law_number T (ok__law_take T) cdv A outer s H E hr tk hp
  exact ⟨t, _, b, fun as Qd xd h => pl__law_number as Qd xd h⟩
theorem ok__law_word (T : Tx w K mg) : FnOk P w K mg base (L2.CX P w) 1 T.a__law_word T.fd__law_word ["way", "k"] (spP K fs__law_word) := by
  refine fn_pure T.F__law_word sc__law_word (fun as Qd xd h => by first | (obtain ⟨rfl, _⟩ := h; rfl) | (obtain ⟨_, rfl, _⟩ := h; rfl) | (obtain ⟨_, _, rfl, _⟩ := h; rfl) | (obtain ⟨_, _, _, rfl, _⟩ := h; rfl) | (obtain ⟨_, _, _, _, rfl, _⟩ := h; rfl) | (obtain ⟨_, _, _, _, _, rfl, _⟩ := h; rfl) | (obtain ⟨_, _, _, _, _, _, rfl, _⟩ := h; rfl) | (obtain ⟨_, _, _, _, _, _, _, rfl, _⟩ := h; rfl)) (by decide) fun cdv A outer s H E hr tk hp => ?_
  obtain ⟨t, b⟩ := bk__law_word T  cdv A outer s H E hr tk hp
  exact ⟨t, _, b, fun as Qd xd h => pl__law_word as Qd xd h⟩
theorem ok__law_right (T : Tx w K mg) : FnOk P w K mg base (L2.CX P w) 4 T.a__law_right T.fd__law_right ["store"] (spP K fs__law_right) := by
  refine fn_pure T.F__law_right sc__law_right (fun as Qd xd h => by first | (obtain ⟨rfl, _⟩ := h; rfl) | (obtain ⟨_, rfl, _⟩ := h; rfl) | (obtain ⟨_, _, rfl, _⟩ := h; rfl) | (obtain ⟨_, _, _, rfl, _⟩ := h; rfl) | (obtain ⟨_, _, _, _, rfl, _⟩ := h; rfl) | (obtain ⟨_, _, _, _, _, rfl, _⟩ := h; rfl) | (obtain ⟨_, _, _, _, _, _, rfl, _⟩ := h; rfl) | (obtain ⟨_, _, _, _, _, _, _, rfl, _⟩ := h; rfl)) (by decide) fun cdv A outer s H E hr tk hp => ?_
  obtain ⟨t, b⟩ := bk__law_right T (ok__law_kept T) (ok__law_number T) (ok__law_pick T) (ok__law_take T) (ok__law_word T) cdv A outer s H E hr tk hp
  exact ⟨t, _, b, fun as Qd xd h => pl__law_right as Qd xd h⟩
theorem ok__law_apart (T : Tx w K mg) : FnOk P w K mg base (L2.CX P w) 1 T.a__law_apart T.fd__law_apart ["left", "right"] (spP K fs__law_apart) := by
  refine fn_pure T.F__law_apart sc__law_apart (fun as Qd xd h => by first | (obtain ⟨rfl, _⟩ := h; rfl) | (obtain ⟨_, rfl, _⟩ := h; rfl) | (obtain ⟨_, _, rfl, _⟩ := h; rfl) | (obtain ⟨_, _, _, rfl, _⟩ := h; rfl) | (obtain ⟨_, _, _, _, rfl, _⟩ := h; rfl) | (obtain ⟨_, _, _, _, _, rfl, _⟩ := h; rfl) | (obtain ⟨_, _, _, _, _, _, rfl, _⟩ := h; rfl) | (obtain ⟨_, _, _, _, _, _, _, rfl, _⟩ := h; rfl)) (by decide) fun cdv A outer s H E hr tk hp => ?_
  obtain ⟨t, b⟩ := bk__law_apart T  cdv A outer s H E hr tk hp
  exact ⟨t, _, b, fun as Qd xd h => pl__law_apart as Qd xd h⟩
theorem ok__law_spread (T : Tx w K mg) : FnOk P w K mg base (L2.CX P w) 4 T.a__law_spread T.fd__law_spread ["store", "words"] (spP K fs__law_spread) := by
  refine fn_pure T.F__law_spread sc__law_spread (fun as Qd xd h => by first | (obtain ⟨rfl, _⟩ := h; rfl) | (obtain ⟨_, rfl, _⟩ := h; rfl) | (obtain ⟨_, _, rfl, _⟩ := h; rfl) | (obtain ⟨_, _, _, rfl, _⟩ := h; rfl) | (obtain ⟨_, _, _, _, rfl, _⟩ := h; rfl) | (obtain ⟨_, _, _, _, _, rfl, _⟩ := h; rfl) | (obtain ⟨_, _, _, _, _, _, rfl, _⟩ := h; rfl) | (obtain ⟨_, _, _, _, _, _, _, rfl, _⟩ := h; rfl)) (by decide) fun cdv A outer s H E hr tk hp => ?_
  obtain ⟨t, b⟩ := bk__law_spread T (ok__law_apart T) (ok__law_pick T) (ok__law_take T) cdv A outer s H E hr tk hp
  exact ⟨t, _, b, fun as Qd xd h => pl__law_spread as Qd xd h⟩
theorem ok__law_made (T : Tx w K mg) : FnOk P w K mg base (L2.CX P w) 6 T.a__law_made T.fd__law_made ["store"] (spP K fs__law_made) := by
  refine fn_pure T.F__law_made sc__law_made (fun as Qd xd h => by first | (obtain ⟨rfl, _⟩ := h; rfl) | (obtain ⟨_, rfl, _⟩ := h; rfl) | (obtain ⟨_, _, rfl, _⟩ := h; rfl) | (obtain ⟨_, _, _, rfl, _⟩ := h; rfl) | (obtain ⟨_, _, _, _, rfl, _⟩ := h; rfl) | (obtain ⟨_, _, _, _, _, rfl, _⟩ := h; rfl) | (obtain ⟨_, _, _, _, _, _, rfl, _⟩ := h; rfl) | (obtain ⟨_, _, _, _, _, _, _, rfl, _⟩ := h; rfl)) (by decide) fun cdv A outer s H E hr tk hp => ?_
  obtain ⟨t, b⟩ := bk__law_made T (ok__law_bad_word T) (ok__law_edge T) (ok__law_right T) (ok__law_spread T) (ok__law_take T) cdv A outer s H E hr tk hp
  exact ⟨t, _, b, fun as Qd xd h => pl__law_made as Qd xd h⟩
theorem ok__law_same_n (T : Tx w K mg) : (n : Nat) → FnOk P w K mg base (L2.CX P w) (n + 1) T.a__law_same T.fd__law_same ["told", "due"] (spP K (fsSame n))
  | 0 => fn_pure T.F__law_same sc__law_same (fun as Qd xd h => by first | (obtain ⟨rfl, _⟩ := h; rfl) | (obtain ⟨_, rfl, _⟩ := h; rfl) | (obtain ⟨_, _, rfl, _⟩ := h; rfl) | (obtain ⟨_, _, _, rfl, _⟩ := h; rfl) | (obtain ⟨_, _, _, _, rfl, _⟩ := h; rfl) | (obtain ⟨_, _, _, _, _, rfl, _⟩ := h; rfl) | (obtain ⟨_, _, _, _, _, _, rfl, _⟩ := h; rfl) | (obtain ⟨_, _, _, _, _, _, _, rfl, _⟩ := h; rfl)) (by decide) fun cdv A outer s H E hr tk hp => by
    obtain ⟨t, b⟩ := bk__law_same T 0 (fun _ _ _ => False) fn_never cdv A outer s H E hr tk hp
    exact ⟨t, _, b, fun as Qd xd h => pl_same0 _ as Qd xd h⟩
  | n + 1 => fn_pure T.F__law_same sc__law_same (fun as Qd xd h => by first | (obtain ⟨rfl, _⟩ := h; rfl) | (obtain ⟨_, rfl, _⟩ := h; rfl) | (obtain ⟨_, _, rfl, _⟩ := h; rfl) | (obtain ⟨_, _, _, rfl, _⟩ := h; rfl) | (obtain ⟨_, _, _, _, rfl, _⟩ := h; rfl) | (obtain ⟨_, _, _, _, _, rfl, _⟩ := h; rfl) | (obtain ⟨_, _, _, _, _, _, rfl, _⟩ := h; rfl) | (obtain ⟨_, _, _, _, _, _, _, rfl, _⟩ := h; rfl)) (by decide) fun cdv A outer s H E hr tk hp => by
    obtain ⟨t, b⟩ := bk__law_same T (n + 1) (fsSame n) (ok__law_same_n T n) cdv A outer s H E hr tk hp
    exact ⟨t, _, b, fun as Qd xd h => pl_same n as Qd xd h⟩
theorem ok__law_same (T : Tx w K mg) : FnOk P w K mg base (L2.CX P w) 5 T.a__law_same T.fd__law_same ["told", "due"] (spP K fs__law_same) := ok__law_same_n T 4
theorem ok__law_spelling (T : Tx w K mg) : FnOk P w K mg base (L2.CX P w) 2 T.a__law_spelling T.fd__law_spelling ["text"] (spP K fs__law_spelling) := by
  refine fn_pure T.F__law_spelling sc__law_spelling (fun as Qd xd h => by first | (obtain ⟨rfl, _⟩ := h; rfl) | (obtain ⟨_, rfl, _⟩ := h; rfl) | (obtain ⟨_, _, rfl, _⟩ := h; rfl) | (obtain ⟨_, _, _, rfl, _⟩ := h; rfl) | (obtain ⟨_, _, _, _, rfl, _⟩ := h; rfl) | (obtain ⟨_, _, _, _, _, rfl, _⟩ := h; rfl) | (obtain ⟨_, _, _, _, _, _, rfl, _⟩ := h; rfl) | (obtain ⟨_, _, _, _, _, _, _, rfl, _⟩ := h; rfl)) (by decide) fun cdv A outer s H E hr tk hp => ?_
  obtain ⟨t, b⟩ := bk__law_spelling T (ok__law_kept T) cdv A outer s H E hr tk hp
  exact ⟨t, _, b, fun as Qd xd h => pl__law_spelling as Qd xd h⟩
theorem ok__law_bad_spelling (T : Tx w K mg) : FnOk P w K mg base (L2.CX P w) 4 T.a__law_bad_spelling T.fd__law_bad_spelling ["store"] (spP K fs__law_bad_spelling) := by
  refine fn_pure T.F__law_bad_spelling sc__law_bad_spelling (fun as Qd xd h => by first | (obtain ⟨rfl, _⟩ := h; rfl) | (obtain ⟨_, rfl, _⟩ := h; rfl) | (obtain ⟨_, _, rfl, _⟩ := h; rfl) | (obtain ⟨_, _, _, rfl, _⟩ := h; rfl) | (obtain ⟨_, _, _, _, rfl, _⟩ := h; rfl) | (obtain ⟨_, _, _, _, _, rfl, _⟩ := h; rfl) | (obtain ⟨_, _, _, _, _, _, rfl, _⟩ := h; rfl) | (obtain ⟨_, _, _, _, _, _, _, rfl, _⟩ := h; rfl)) (by decide) fun cdv A outer s H E hr tk hp => ?_
  obtain ⟨t, b⟩ := bk__law_bad_spelling T (ok__law_pick T) cdv A outer s H E hr tk hp
  exact ⟨t, _, b, fun as Qd xd h => pl__law_bad_spelling as Qd xd h⟩
theorem ok__law_texts (T : Tx w K mg) : FnOk P w K mg base (L2.CX P w) 5 T.a__law_texts T.fd__law_texts ["store"] (spP K fs__law_texts) := by
  refine fn_pure T.F__law_texts sc__law_texts (fun as Qd xd h => by first | (obtain ⟨rfl, _⟩ := h; rfl) | (obtain ⟨_, rfl, _⟩ := h; rfl) | (obtain ⟨_, _, rfl, _⟩ := h; rfl) | (obtain ⟨_, _, _, rfl, _⟩ := h; rfl) | (obtain ⟨_, _, _, _, rfl, _⟩ := h; rfl) | (obtain ⟨_, _, _, _, _, rfl, _⟩ := h; rfl) | (obtain ⟨_, _, _, _, _, _, rfl, _⟩ := h; rfl) | (obtain ⟨_, _, _, _, _, _, _, rfl, _⟩ := h; rfl)) (by decide) fun cdv A outer s H E hr tk hp => ?_
  obtain ⟨t, b⟩ := bk__law_texts T (ok__law_bad_spelling T) (ok__law_kept T) (ok__law_pick T) (ok__law_signs T) (ok__law_take T) (ok__law_word T) cdv A outer s H E hr tk hp
  exact ⟨t, _, b, fun as Qd xd h => pl__law_texts as Qd xd h⟩
theorem ok_is_sound_number (T : Tx w K mg) : FnOk P w K mg base (L2.CX P w) 1 T.a_is_sound_number T.fd_is_sound_number ["word"] (spP K fs_is_sound_number) := by
  refine fn_pure T.F_is_sound_number sc_is_sound_number (fun as Qd xd h => by first | (obtain ⟨rfl, _⟩ := h; rfl) | (obtain ⟨_, rfl, _⟩ := h; rfl) | (obtain ⟨_, _, rfl, _⟩ := h; rfl) | (obtain ⟨_, _, _, rfl, _⟩ := h; rfl) | (obtain ⟨_, _, _, _, rfl, _⟩ := h; rfl) | (obtain ⟨_, _, _, _, _, rfl, _⟩ := h; rfl) | (obtain ⟨_, _, _, _, _, _, rfl, _⟩ := h; rfl) | (obtain ⟨_, _, _, _, _, _, _, rfl, _⟩ := h; rfl)) (by decide) fun cdv A outer s H E hr tk hp => ?_
  obtain ⟨t, b⟩ := bk_is_sound_number T  cdv A outer s H E hr tk hp
  exact ⟨t, _, b, fun as Qd xd h => pl_is_sound_number as Qd xd h⟩
theorem ok_is_sound (T : Tx w K mg) : FnOk P w K mg base (L2.CX P w) 2 T.a_is_sound T.fd_is_sound ["word"] (spP K fs_is_sound) := by
  refine fn_pure T.F_is_sound sc_is_sound (fun as Qd xd h => by first | (obtain ⟨rfl, _⟩ := h; rfl) | (obtain ⟨_, rfl, _⟩ := h; rfl) | (obtain ⟨_, _, rfl, _⟩ := h; rfl) | (obtain ⟨_, _, _, rfl, _⟩ := h; rfl) | (obtain ⟨_, _, _, _, rfl, _⟩ := h; rfl) | (obtain ⟨_, _, _, _, _, rfl, _⟩ := h; rfl) | (obtain ⟨_, _, _, _, _, _, rfl, _⟩ := h; rfl) | (obtain ⟨_, _, _, _, _, _, _, rfl, _⟩ := h; rfl)) (by decide) fun cdv A outer s H E hr tk hp => ?_
  obtain ⟨t, b⟩ := bk_is_sound T (ok_is_sound_number T) cdv A outer s H E hr tk hp
  exact ⟨t, _, b, fun as Qd xd h => pl_is_sound as Qd xd h⟩
theorem ok_run_end (T : Tx w K mg) : FnOk P w K mg base (L2.CX P w) 1 T.a_run_end T.fd_run_end ["text", "at", "signs"] (spP K fs_run_end) := by
  refine fn_pure T.F_run_end sc_run_end (fun as Qd xd h => by first | (obtain ⟨rfl, _⟩ := h; rfl) | (obtain ⟨_, rfl, _⟩ := h; rfl) | (obtain ⟨_, _, rfl, _⟩ := h; rfl) | (obtain ⟨_, _, _, rfl, _⟩ := h; rfl) | (obtain ⟨_, _, _, _, rfl, _⟩ := h; rfl) | (obtain ⟨_, _, _, _, _, rfl, _⟩ := h; rfl) | (obtain ⟨_, _, _, _, _, _, rfl, _⟩ := h; rfl) | (obtain ⟨_, _, _, _, _, _, _, rfl, _⟩ := h; rfl)) (by decide) fun cdv A outer s H E hr tk hp => ?_
  obtain ⟨t, b⟩ := bk_run_end T  cdv A outer s H E hr tk hp
  exact ⟨t, _, b, fun as Qd xd h => pl_run_end as Qd xd h⟩
theorem ok_word_end (T : Tx w K mg) : FnOk P w K mg base (L2.CX P w) 2 T.a_word_end T.fd_word_end ["text", "at"] (spP K fs_word_end) := by
  refine fn_pure T.F_word_end sc_word_end (fun as Qd xd h => by first | (obtain ⟨rfl, _⟩ := h; rfl) | (obtain ⟨_, rfl, _⟩ := h; rfl) | (obtain ⟨_, _, rfl, _⟩ := h; rfl) | (obtain ⟨_, _, _, rfl, _⟩ := h; rfl) | (obtain ⟨_, _, _, _, rfl, _⟩ := h; rfl) | (obtain ⟨_, _, _, _, _, rfl, _⟩ := h; rfl) | (obtain ⟨_, _, _, _, _, _, rfl, _⟩ := h; rfl) | (obtain ⟨_, _, _, _, _, _, _, rfl, _⟩ := h; rfl)) (by decide) fun cdv A outer s H E hr tk hp => ?_
  obtain ⟨t, b⟩ := bk_word_end T (ok_run_end T) cdv A outer s H E hr tk hp
  exact ⟨t, _, b, fun as Qd xd h => pl_word_end as Qd xd h⟩
theorem ok_split_words (T : Tx w K mg) : FnOk P w K mg base (L2.CX P w) 3 T.a_split_words T.fd_split_words ["text"] (spP K (fs_split_words T.c)) := by
  refine fn_pure T.F_split_words sc_split_words (fun as Qd xd h => by first | (obtain ⟨rfl, _⟩ := h; rfl) | (obtain ⟨_, rfl, _⟩ := h; rfl) | (obtain ⟨_, _, rfl, _⟩ := h; rfl) | (obtain ⟨_, _, _, rfl, _⟩ := h; rfl) | (obtain ⟨_, _, _, _, rfl, _⟩ := h; rfl) | (obtain ⟨_, _, _, _, _, rfl, _⟩ := h; rfl) | (obtain ⟨_, _, _, _, _, _, rfl, _⟩ := h; rfl) | (obtain ⟨_, _, _, _, _, _, _, rfl, _⟩ := h; rfl)) (by decide) fun cdv A outer s H E hr tk hp => ?_
  obtain ⟨t, b⟩ := bk_split_words T (ok_BadText___init__ T) (ok_TooBig___init__ T) (ok_is_sound T) (ok_word_end T) cdv A outer s H E hr tk hp
  exact ⟨t, _, b, fun as Qd xd h => pl_split_words K T.c T.kf as Qd xd h⟩
theorem ok__law_told (T : Tx w K mg) : FnOk P w K mg base (L2.CX P w) 4 T.a__law_told T.fd__law_told ["text"] (spP K (fs__law_told T.c)) := by
  refine fn_pure T.F__law_told sc__law_told (fun as Qd xd h => by first | (obtain ⟨rfl, _⟩ := h; rfl) | (obtain ⟨_, rfl, _⟩ := h; rfl) | (obtain ⟨_, _, rfl, _⟩ := h; rfl) | (obtain ⟨_, _, _, rfl, _⟩ := h; rfl) | (obtain ⟨_, _, _, _, rfl, _⟩ := h; rfl) | (obtain ⟨_, _, _, _, _, rfl, _⟩ := h; rfl) | (obtain ⟨_, _, _, _, _, _, rfl, _⟩ := h; rfl) | (obtain ⟨_, _, _, _, _, _, _, rfl, _⟩ := h; rfl)) (by decide) fun cdv A outer s H E hr tk hp => ?_
  obtain ⟨t, b⟩ := bk__law_told T (ok_split_words T) cdv A outer s H E hr tk hp
  exact ⟨t, _, b, fun as Qd xd h => pl__law_told K T.c T.kf as Qd xd h⟩
theorem ok_is_spelling (T : Tx w K mg) : FnOk P w K mg base (L2.CX P w) 2 T.a_is_spelling T.fd_is_spelling ["text"] (spP K fs_is_spelling) := by
  refine fn_pure T.F_is_spelling sc_is_spelling (fun as Qd xd h => by first | (obtain ⟨rfl, _⟩ := h; rfl) | (obtain ⟨_, rfl, _⟩ := h; rfl) | (obtain ⟨_, _, rfl, _⟩ := h; rfl) | (obtain ⟨_, _, _, rfl, _⟩ := h; rfl) | (obtain ⟨_, _, _, _, rfl, _⟩ := h; rfl) | (obtain ⟨_, _, _, _, _, rfl, _⟩ := h; rfl) | (obtain ⟨_, _, _, _, _, _, rfl, _⟩ := h; rfl) | (obtain ⟨_, _, _, _, _, _, _, rfl, _⟩ := h; rfl)) (by decide) fun cdv A outer s H E hr tk hp => ?_
  obtain ⟨t, b⟩ := bk_is_spelling T (ok_run_end T) cdv A outer s H E hr tk hp
  exact ⟨t, _, b, fun as Qd xd h => pl_is_spelling as Qd xd h⟩
theorem ok_law (T : Tx w K mg) : FnOk P w K mg base (L2.CX P w) 7 T.a_law T.fd_law ["script"] (spLaw K) := by
  refine fn_law (rest := (defBody s_law).tail) T.F_law sc_law (by decide) fun cdv A outer s H E hr tk hp => ?_
  obtain ⟨t, b⟩ := bk_law T (ok__law_due T) (ok__law_long T) (ok__law_loose T) (ok__law_made T) (ok__law_same T) (ok__law_spelling T) (ok__law_store T) (ok__law_take T) (ok__law_texts T) (ok__law_told T) (ok_is_spelling T) cdv A outer s H E hr tk hp
  refine ⟨ps_set (i := 1) sc_law.nd rfl (Or.inl rfl) (pe_callSD (ok__law_store T) (hr.mono (by decide)) rfl T.g__law_store T.F__law_store.kp T.b__law_store .nil (fun σ => passAtE tk σ) (pa_cons (pv 0) pa_nil)), t, _, b, ?_⟩
  exact pl_law K T.c T.kf
end

end My
open PySem PySem.W PySem.Calls PyProof.Rows
set_option maxRecDepth 100000 in
set_option maxHeartbeats 0 in
theorem PySem.Challenge.cw_cellsfornames_k01_words_and_spellings_holds : PySem.Challenge.rw_cellsfornames_k01_words_and_spellings.Holds := by
  w_on; o_law
  refine HandSHeadRun.head_any (r := OpenLaw.row PySem.Challenge.rw_cellsfornames_k01_words_and_spellings) (q := view (OpenLaw.row PySem.Challenge.rw_cellsfornames_k01_words_and_spellings).prog [61]) (H := My.hk) (ob := My.ob) (M := 8000) (loose := My.loose) (d := HandSHeadRun.topDef (OpenLaw.row PySem.Challenge.rw_cellsfornames_k01_words_and_spellings).prog 61) (kwd := []) My.ob_eq
    (by kernel_rfl) (fun s => by kernel_rfl) My.run (by kernel_rfl) (by kernel_rfl) (by kernel_rfl) (by rfl) (by first | assumption | decide +kernel) (by decide +kernel) ⟨rfl, rfl, rfl, rfl, rfl, by decide +kernel⟩ ?hw ?hc
  case hw => w_witness2
  case hc =>
    refine DL.walk_ofEW (l := PySem.Challenge.rw_cellsfornames_k01_words_and_spellings) (n := 63) (k := 7) (x := "script") rfl (by decide) (by kernel_rfl) ⟨rfl, by decide, by decide⟩ ?F
    intro w mg fa h Y G hmg0
    obtain ⟨K, KX, c⟩ := Y
    have hmg : mg ("law" : PySem.Str) = some (.ref fa) := by
      have e : (HandSHeadRun.topDef (OpenLaw.row PySem.Challenge.rw_cellsfornames_k01_words_and_spellings).prog 61).name = ("law" : PySem.Str) := by kernel_rfl
      rw [← e]
      exact hmg0
    obtain ⟨T, eT⟩ := My.tx_of KX G c
    have e2 := hmg.symm.trans T.g_law
    cases e2
    have hF := fun base => My.ok_law (P := (PySem.Challenge.rw_cellsfornames_k01_words_and_spellings).prog) (w := w) (base := base) T
    have hb := L2.FunD.bindsA (ps := ["script"]) T.F_law fun _ _ _ _ _ _ us hl => match us, hl with | [_], _ => rfl
    exact ⟨K, T.fd_law, DL.spLaw K, KX, fun s u => hb s [u] rfl, fun H a ns hl _ hS => ⟨a, ns, rfl, hS, hl, fun _ => rfl⟩, fun base _ _ => hF base⟩
