import PyProof.Rows.All
import Wide.All
import OpenK.AllK
import Wide.FinOn
import HandS.ForMost
import HandS.ForExc
import HandS.TryMany
import HandS.TryOnly
import HandS.ExcOwn
import HandS.ExcIs
import HandS.Walk
import HandS.IsInst
import HandS.Wide
import HandS.TupAny
import HandS.DeepEq
import HandS.NoneIn
import HandS.TupLe
import HandS.HeadHook4
import HandS.HeadEnd
import HandS.HeadWalk
import HandS.Head2
import KE.DataCmp
import KE.DataMinMax
import PySem.Challenge.RW_trueleaf_k12_trees_refused
set_option Elab.async false
set_option linter.all false
set_option autoImplicit false
set_option maxRecDepth 100000
set_option maxHeartbeats 0
namespace TL
open PySem PySem.Spec PyProof.Rows L2
/-! ### data: frozen trees are PyData; owned trees -/
abbrev D := PyData
inductive O where
  | fz (d : D)
  | lst (os : List O)
  | tup (os : List O)
  | dct (kvs : List (Key × O))
  | dtp (kvs : List (List Key × D))
  | ins (c : Str) (fs : List (Str × O))
def keyD : Key → D
  | .inl i => .int i
  | .inr s => .str s
theorem keyD_inj {k k' : Key} (h : keyD k = keyD k') : k = k' := by
  cases k <;> cases k' <;> simp [keyD] at h <;> simp [h]
/-- the pairs of a dict by tuples; what tells it from a dict by numbers and texts -/
def tkD (p : List Key × D) : D × D := (.tuple (p.1.map keyD), p.2)
abbrev dtD (kvs : List (List Key × D)) : D := .dict ((.none, .none) :: kvs.map tkD)
/-- an instance of a class, as data -/
abbrev insD (c : Str) : D := .dict [(.none, .str c)]
/-- an exception that a suite holds -/
abbrev excD (a : Addr) : D := .dict [(.none, .int ((a : Nat) : Int))]
mutual
def toD : O → D
  | .fz d => d
  | .lst os => .list (toDs os)
  | .tup os => .tuple (toDs os)
  | .dct kvs => .dict (toDk kvs)
  | .dtp kvs => dtD kvs
  | .ins c _ => insD c
def toDs : List O → List D
  | [] => []
  | o :: os => toD o :: toDs os
def toDk : List (Key × O) → List (D × D)
  | [] => []
  | (k, o) :: r => (keyD k, toD o) :: toDk r
end
mutual
def noIns : O → Bool
  | .fz _ => true
  | .lst os => noInss os
  | .tup os => noInss os
  | .dct kvs => noInsk kvs
  | .dtp _ => true
  | .ins _ _ => false
def noInss : List O → Bool
  | [] => true
  | o :: os => noIns o && noInss os
def noInsk : List (Key × O) → Bool
  | [] => true
  | (_, o) :: r => noIns o && noInsk r
end
theorem toDs_map (os : List O) : toDs os = os.map toD := by
  induction os with
  | nil => rfl
  | cons o os ih => rw [toDs, ih]; rfl
theorem toDs_fz (ds : List D) : toDs (ds.map O.fz) = ds := by
  induction ds with
  | nil => rfl
  | cons d ds ih => simp [toDs, toD, ih]
def fzAll : List O → Option (List D)
  | [] => some []
  | .fz d :: os => (fzAll os).map (d :: ·)
  | _ :: _ => none
theorem fzAll_map (ds : List D) : fzAll (ds.map O.fz) = some ds := by
  induction ds with
  | nil => rfl
  | cons d ds ih => simp [fzAll, ih]
theorem fzAll_eq : ∀ {os : List O} {ds : List D}, fzAll os = some ds → os = ds.map O.fz
  | [], ds, h => by simp [fzAll] at h; subst h; rfl
  | .fz d :: os, ds, h => by
    simp only [fzAll, Option.map_eq_some_iff] at h
    obtain ⟨r, h1, h2⟩ := h
    subst h2
    rw [fzAll_eq h1]; rfl
  | .lst _ :: _, _, h => by simp [fzAll] at h
  | .tup _ :: _, _, h => by simp [fzAll] at h
  | .dct _ :: _, _, h => by simp [fzAll] at h
  | .dtp _ :: _, _, h => by simp [fzAll] at h
  | .ins _ _ :: _, _, h => by simp [fzAll] at h
def fzAllK : List (Key × O) → Option (List (Key × D))
  | [] => some []
  | (k, .fz d) :: os => (fzAllK os).map ((k, d) :: ·)
  | _ :: _ => none
def fzK (kvs : List (Key × D)) : List (Key × O) := kvs.map fun p => (p.1, O.fz p.2)
theorem fzAllK_fz (ds : List (Key × D)) : fzAllK (fzK ds) = some ds := by
  induction ds with
  | nil => rfl
  | cons d ds ih => obtain ⟨k, d⟩ := d; simp only [fzK, List.map_cons, fzAllK]; rw [show (List.map (fun p => (p.fst, O.fz p.snd)) ds) = fzK ds from rfl, ih]; rfl
theorem fzAllK_eq : ∀ {os : List (Key × O)} {ds : List (Key × D)}, fzAllK os = some ds → os = fzK ds
  | [], ds, h => by simp [fzAllK] at h; subst h; rfl
  | (k, .fz d) :: os, ds, h => by
    simp only [fzAllK, Option.map_eq_some_iff] at h
    obtain ⟨r, h1, h2⟩ := h
    subst h2
    rw [fzAllK_eq h1]; rfl
  | (_, .lst _) :: _, _, h => by simp [fzAllK] at h
  | (_, .tup _) :: _, _, h => by simp [fzAllK] at h
  | (_, .dct _) :: _, _, h => by simp [fzAllK] at h
  | (_, .dtp _) :: _, _, h => by simp [fzAllK] at h
  | (_, .ins _ _) :: _, _, h => by simp [fzAllK] at h
/-! ### frozen representation -/
mutual
inductive Is (K : PySem.W.Frag) (F : Hp) : D → V → Prop
  | non : Is K F .none .non
  | bl (b : Bool) : Is K F (.bool b) (.bl b)
  | int (i : Int) : Is K F (.int i) (.int i)
  | str (x : Str) : Is K F (.str x) (.str x)
  | lst {a : Addr} {xs : List V} {ds : List D} : SqL K F a xs → IsL K F ds xs → Is K F (.list ds) (.ref a)
  | tup {a : Addr} {xs : List V} {ds : List D} : SqT K F a xs → (∀ i r, xs = .int i :: r → F a = some (.tup xs)) → IsL K F ds xs → Is K F (.tuple ds) (.ref a)
  | dct {a : Addr} {kvs : List (Key × V)} {ds : List (D × D)} : Rd F a (.dK kvs) → IsK K F ds kvs → Is K F (.dict ds) (.ref a)
  | dtp {a : Addr} {kvs : List (List Key × V)} {ds : List (D × D)} : Rd F a (.dT kvs) → IsT K F ds kvs → Is K F (.dict ((.none, .none) :: ds)) (.ref a)
  | ins {a dx : Addr} {c : Str} {fs : List (Str × V)} : F a = some (.ins (He.ga K c) dx fs) → Is K F (insD c) (.ref a)
  | exc {a : Addr} : Is K F (excD a) (.ref a)
inductive IsL (K : PySem.W.Frag) (F : Hp) : List D → List V → Prop
  | nil : IsL K F [] []
  | cons {d : D} {ds : List D} {v : V} {vs : List V} : Is K F d v → IsL K F ds vs → IsL K F (d :: ds) (v :: vs)
inductive IsK (K : PySem.W.Frag) (F : Hp) : List (D × D) → List (Key × V) → Prop
  | nil : IsK K F [] []
  | cons {k : Key} {d : D} {ds : List (D × D)} {v : V} {vs : List (Key × V)} : Is K F d v → IsK K F ds vs → IsK K F ((keyD k, d) :: ds) ((k, v) :: vs)
inductive IsT (K : PySem.W.Frag) (F : Hp) : List (D × D) → List (List Key × V) → Prop
  | nil : IsT K F [] []
  | cons {k : List Key} {d : D} {ds : List (D × D)} {v : V} {vs : List (List Key × V)} : Is K F d v → IsT K F ds vs → IsT K F ((.tuple (k.map keyD), d) :: ds) ((k, v) :: vs)
end
section mono
variable {K : PySem.W.Frag} {F F' : Hp}
theorem Same.rd (e : Same F F') {a : Addr} {u : HO} (h : Rd F a u) : Rd F' a u := by
  rcases h with h | ⟨o, h⟩
  · exact .inl (e _ _ h)
  · exact .inr ⟨o, e _ _ h⟩
theorem Same.sqT (e : Same F F') {a : Addr} {xs : List V} (h : SqT K F a xs) : SqT K F' a xs := by
  rcases h with h | h
  · exact .inl (Same.rd e h)
  · exact .inr h
mutual
theorem Is.mono (e : Same F F') : ∀ {d : D} {v : V}, Is K F d v → Is K F' d v
  | _, _, .non => .non
  | _, _, .bl b => .bl b
  | _, _, .int i => .int i
  | _, _, .str x => .str x
  | _, _, .lst h l => .lst (e.seq h) (IsL.mono e l)
  | _, _, .tup h k l => .tup (Same.sqT e h) (fun i r z => e _ _ (k i r z)) (IsL.mono e l)
  | _, _, .dct h l => .dct (Same.rd e h) (IsK.mono e l)
  | _, _, .dtp h l => .dtp (Same.rd e h) (IsT.mono e l)
  | _, _, .ins h => .ins (e _ _ h)
  | _, _, .exc => .exc
theorem IsL.mono (e : Same F F') : ∀ {d : List D} {v : List V}, IsL K F d v → IsL K F' d v
  | _, _, .nil => .nil
  | _, _, .cons h l => .cons (Is.mono e h) (IsL.mono e l)
theorem IsK.mono (e : Same F F') : ∀ {d : List (D × D)} {v : List (Key × V)}, IsK K F d v → IsK K F' d v
  | _, _, .nil => .nil
  | _, _, .cons h l => .cons (Is.mono e h) (IsK.mono e l)
theorem IsT.mono (e : Same F F') : ∀ {d : List (D × D)} {v : List (List Key × V)}, IsT K F d v → IsT K F' d v
  | _, _, .nil => .nil
  | _, _, .cons h l => .cons (Is.mono e h) (IsT.mono e l)
end
end mono
theorem IsL.length {K : PySem.W.Frag} {F : Hp} : ∀ {ds : List D} {vs : List V}, IsL K F ds vs → ds.length = vs.length
  | _, _, .nil => rfl
  | _, _, .cons _ l => by simp [IsL.length l]
theorem IsL.get {K : PySem.W.Frag} {F : Hp} : ∀ {ds : List D} {vs : List V} {i : Nat} {d : D}, IsL K F ds vs → ds[i]? = some d → ∃ v, vs[i]? = some v ∧ Is K F d v
  | _, _, _, _, .nil, e => by simp at e
  | _, _, 0, _, .cons h _, e => by simp at e; subst e; exact ⟨_, rfl, h⟩
  | _, _, i + 1, d, .cons _ l, e => by
    obtain ⟨v, h1, h2⟩ := IsL.get (i := i) (d := d) l (by simpa using e)
    exact ⟨v, by simpa using h1, h2⟩
theorem IsL.app {K : PySem.W.Frag} {F : Hp} : ∀ {ds es : List D} {vs ws : List V}, IsL K F ds vs → IsL K F es ws → IsL K F (ds ++ es) (vs ++ ws)
  | _, _, _, _, .nil, s => s
  | _, _, _, _, .cons r t, s => .cons r (IsL.app t s)
theorem IsL.take {K : PySem.W.Frag} {F : Hp} : ∀ {ds : List D} {vs : List V} (n : Nat), IsL K F ds vs → IsL K F (ds.take n) (vs.take n)
  | _, _, 0, _ => .nil
  | _, _, _ + 1, .nil => .nil
  | _, _, n + 1, .cons r t => .cons r (IsL.take n t)
theorem IsL.drop {K : PySem.W.Frag} {F : Hp} : ∀ {ds : List D} {vs : List V} (n : Nat), IsL K F ds vs → IsL K F (ds.drop n) (vs.drop n)
  | _, _, 0, r => r
  | _, _, _ + 1, .nil => .nil
  | _, _, n + 1, .cons _ t => IsL.drop n t
/-! ### own trees: L is the list of the owned addresses -/
mutual
inductive RO (K : PySem.W.Frag) (F H : Hp) : O → V → List Addr → Prop
  | fz {d : D} {v : V} : Is K F d v → RO K F H (.fz d) v []
  | lst {a : Addr} {xs : List V} {os : List O} {L : List Addr} : H a = some (.lst xs) → ROs K F H os xs L → RO K F H (.lst os) (.ref a) (a :: L)
  | tup {a : Addr} {xs : List V} {os : List O} {L : List Addr} : H a = some (.tup xs) → ROs K F H os xs L → RO K F H (.tup os) (.ref a) (a :: L)
  | dct {a : Addr} {kvs : List (Key × V)} {os : List (Key × O)} {L : List Addr} : H a = some (.dK kvs) → ROk K F H os kvs L → RO K F H (.dct os) (.ref a) (a :: L)
  | dtp {a : Addr} {kvs : List (List Key × V)} {ds : List (List Key × D)} : H a = some (.dT kvs) → IsT K F (ds.map tkD) kvs → RO K F H (.dtp ds) (.ref a) [a]
  | ins {a dx : Addr} {c : Str} {fs : List (Str × V)} {os : List (Str × O)} {L : List Addr} : H a = some (.ins (He.ga K c) dx fs) → H dx = some (.own a) → ROf K F H os fs L → RO K F H (.ins c os) (.ref a) (a :: dx :: L)
inductive ROs (K : PySem.W.Frag) (F H : Hp) : List O → List V → List Addr → Prop
  | nil : ROs K F H [] [] []
  | cons {o : O} {os : List O} {v : V} {vs : List V} {L1 L2 : List Addr} : RO K F H o v L1 → ROs K F H os vs L2 → ROs K F H (o :: os) (v :: vs) (L1 ++ L2)
inductive ROk (K : PySem.W.Frag) (F H : Hp) : List (Key × O) → List (Key × V) → List Addr → Prop
  | nil : ROk K F H [] [] []
  | cons {k : Key} {o : O} {os : List (Key × O)} {v : V} {vs : List (Key × V)} {L1 L2 : List Addr} : RO K F H o v L1 → ROk K F H os vs L2 → ROk K F H ((k, o) :: os) ((k, v) :: vs) (L1 ++ L2)
inductive ROf (K : PySem.W.Frag) (F H : Hp) : List (Str × O) → List (Str × V) → List Addr → Prop
  | nil : ROf K F H [] [] []
  | cons {k : Str} {o : O} {os : List (Str × O)} {v : V} {vs : List (Str × V)} {L1 L2 : List Addr} : RO K F H o v L1 → ROf K F H os vs L2 → ROf K F H ((k, o) :: os) ((k, v) :: vs) (L1 ++ L2)
end
section
variable {K : PySem.W.Frag} {F F' H H' : Hp}
mutual
theorem RO.mono (e : Same F F') : ∀ {o : O} {v : V} {L : List Addr}, RO K F H o v L → (∀ b ∈ L, H' b = H b) → RO K F' H' o v L
  | _, _, _, .fz h, _ => .fz (h.mono e)
  | _, _, _, .lst h l, k => .lst ((k _ (by simp)).trans h) (ROs.mono e l fun b hb => k b (by simp [hb]))
  | _, _, _, .tup h l, k => .tup ((k _ (by simp)).trans h) (ROs.mono e l fun b hb => k b (by simp [hb]))
  | _, _, _, .dct h l, k => .dct ((k _ (by simp)).trans h) (ROk.mono e l fun b hb => k b (by simp [hb]))
  | _, _, _, .dtp h l, k => .dtp ((k _ (by simp)).trans h) (IsT.mono e l)
  | _, _, _, .ins h g l, k => .ins ((k _ (by simp)).trans h) ((k _ (by simp)).trans g) (ROf.mono e l fun b hb => k b (by simp [hb]))
theorem ROs.mono (e : Same F F') : ∀ {o : List O} {v : List V} {L : List Addr}, ROs K F H o v L → (∀ b ∈ L, H' b = H b) → ROs K F' H' o v L
  | _, _, _, .nil, _ => .nil
  | _, _, _, .cons h l, k => .cons (RO.mono e h fun b hb => k b (by simp [hb])) (ROs.mono e l fun b hb => k b (by simp [hb]))
theorem ROk.mono (e : Same F F') : ∀ {o : List (Key × O)} {v : List (Key × V)} {L : List Addr}, ROk K F H o v L → (∀ b ∈ L, H' b = H b) → ROk K F' H' o v L
  | _, _, _, .nil, _ => .nil
  | _, _, _, .cons h l, k => .cons (RO.mono e h fun b hb => k b (by simp [hb])) (ROk.mono e l fun b hb => k b (by simp [hb]))
theorem ROf.mono (e : Same F F') : ∀ {o : List (Str × O)} {v : List (Str × V)} {L : List Addr}, ROf K F H o v L → (∀ b ∈ L, H' b = H b) → ROf K F' H' o v L
  | _, _, _, .nil, _ => .nil
  | _, _, _, .cons h l, k => .cons (RO.mono e h fun b hb => k b (by simp [hb])) (ROf.mono e l fun b hb => k b (by simp [hb]))
end
mutual
/-- every owned address is tracked -/
theorem RO.trk : ∀ {o : O} {v : V} {L : List Addr}, RO K F H o v L → ∀ b ∈ L, ∃ u, H b = some u
  | _, _, _, .fz _, b, hb => by simp at hb
  | _, _, _, .lst h l, b, hb => by
    rcases List.mem_cons.mp hb with e | hb
    · subst e; exact ⟨_, h⟩
    · exact ROs.trk l b hb
  | _, _, _, .tup h l, b, hb => by
    rcases List.mem_cons.mp hb with e | hb
    · subst e; exact ⟨_, h⟩
    · exact ROs.trk l b hb
  | _, _, _, .dct h l, b, hb => by
    rcases List.mem_cons.mp hb with e | hb
    · subst e; exact ⟨_, h⟩
    · exact ROk.trk l b hb
  | _, _, _, .dtp h l, b, hb => by
    rw [List.mem_singleton] at hb
    subst hb
    exact ⟨_, h⟩
  | _, _, _, .ins h g l, b, hb => by
    rcases List.mem_cons.mp hb with e | hb
    · subst e; exact ⟨_, h⟩
    · rcases List.mem_cons.mp hb with e | hb
      · subst e; exact ⟨_, g⟩
      · exact ROf.trk l b hb
theorem ROs.trk : ∀ {o : List O} {v : List V} {L : List Addr}, ROs K F H o v L → ∀ b ∈ L, ∃ u, H b = some u
  | _, _, _, .nil, b, hb => by simp at hb
  | _, _, _, .cons h l, b, hb => by
    rcases List.mem_append.mp hb with hb | hb
    · exact RO.trk h b hb
    · exact ROs.trk l b hb
theorem ROk.trk : ∀ {o : List (Key × O)} {v : List (Key × V)} {L : List Addr}, ROk K F H o v L → ∀ b ∈ L, ∃ u, H b = some u
  | _, _, _, .nil, b, hb => by simp at hb
  | _, _, _, .cons h l, b, hb => by
    rcases List.mem_append.mp hb with hb | hb
    · exact RO.trk h b hb
    · exact ROk.trk l b hb
theorem ROf.trk : ∀ {o : List (Str × O)} {v : List (Str × V)} {L : List Addr}, ROf K F H o v L → ∀ b ∈ L, ∃ u, H b = some u
  | _, _, _, .nil, b, hb => by simp at hb
  | _, _, _, .cons h l, b, hb => by
    rcases List.mem_append.mp hb with hb | hb
    · exact RO.trk h b hb
    · exact ROf.trk l b hb
end
theorem RO.same (e : Same F F') (s : Same H H') {o : O} {v : V} {L : List Addr} (r : RO K F H o v L) : RO K F' H' o v L :=
  r.mono e fun b hb => by obtain ⟨u, h⟩ := r.trk b hb; rw [h, s b u h]
theorem ROs.same (e : Same F F') (s : Same H H') {o : List O} {v : List V} {L : List Addr} (r : ROs K F H o v L) : ROs K F' H' o v L :=
  r.mono e fun b hb => by obtain ⟨u, h⟩ := r.trk b hb; rw [h, s b u h]
theorem ROs.length : ∀ {o : List O} {v : List V} {L : List Addr}, ROs K F H o v L → o.length = v.length
  | _, _, _, .nil => rfl
  | _, _, _, .cons _ l => by simp [ROs.length l]
theorem ROs.fzL : ∀ {ds : List D} {vs : List V}, IsL K F ds vs → ROs K F H (ds.map O.fz) vs []
  | _, _, .nil => .nil
  | _, _, .cons h l => .cons (L1 := []) (L2 := []) (.fz h) (ROs.fzL l)
theorem ROs.ofFz : ∀ {ds : List D} {vs : List V} {L : List Addr}, ROs K F H (ds.map O.fz) vs L → IsL K F ds vs ∧ L = []
  | [], _, _, .nil => ⟨.nil, rfl⟩
  | d :: ds, _, _, .cons (.fz h) l => by
    obtain ⟨a, b⟩ := ROs.ofFz l
    subst b
    exact ⟨.cons h a, rfl⟩
theorem ROs.app : ∀ {os ps : List O} {vs ws : List V} {L M : List Addr}, ROs K F H os vs L → ROs K F H ps ws M → ROs K F H (os ++ ps) (vs ++ ws) (L ++ M)
  | _, _, _, _, _, _, .nil, s => s
  | _, _, _, _, _, _, .cons r t, s => by rw [List.append_assoc]; exact .cons r (ROs.app t s)
mutual
/-- reading: the tree as data, over the whole heap -/
theorem RO.is (e : Same F H) : ∀ {o : O} {v : V} {L : List Addr}, RO K F H o v L → Is K H (toD o) v
  | _, _, _, .fz h => h.mono e
  | _, _, _, .lst h l => .lst (.inl (.inl h)) (ROs.is e l)
  | _, _, _, .tup h l => .tup (.inl (.inl h)) (fun _ _ _ => h) (ROs.is e l)
  | _, _, _, .dct h l => .dct (.inl h) (ROk.is e l)
  | _, _, _, .dtp h l => .dtp (.inl h) (IsT.mono e l)
  | _, _, _, .ins h _ _ => .ins h
theorem ROs.is (e : Same F H) : ∀ {o : List O} {v : List V} {L : List Addr}, ROs K F H o v L → IsL K H (toDs o) v
  | _, _, _, .nil => .nil
  | _, _, _, .cons h l => .cons (RO.is e h) (ROs.is e l)
theorem ROk.is (e : Same F H) : ∀ {o : List (Key × O)} {v : List (Key × V)} {L : List Addr}, ROk K F H o v L → IsK K H (toDk o) v
  | _, _, _, .nil => .nil
  | _, _, _, .cons h l => .cons (RO.is e h) (ROk.is e l)
end
end
/-- the frozen map widened by what is owned -/
def wid (F H : Hp) (L : List Addr) : Hp := fun b => if b ∈ L then H b else F b
section
variable {K : PySem.W.Frag} {F H : Hp}
theorem wid_same {L : List Addr} (n : ∀ b ∈ L, F b = none) : Same F (wid F H L) := fun b o h => by
  unfold wid
  by_cases hb : b ∈ L
  · rw [n b hb] at h; cases h
  · rw [if_neg hb]; exact h
theorem wid_in {L : List Addr} {b : Addr} (h : b ∈ L) : wid F H L b = H b := by unfold wid; rw [if_pos h]
theorem wid_out {L : List Addr} {b : Addr} (h : b ∉ L) : wid F H L b = F b := by unfold wid; rw [if_neg h]
theorem wid_sub {L : List Addr} (e : Same F H) : Same (wid F H L) H := fun b o h => by
  by_cases hb : b ∈ L
  · rw [wid_in hb] at h; exact h
  · rw [wid_out hb] at h; exact e b o h
mutual
theorem RO.frz {G : Hp} (e : Same F G) : ∀ {o : O} {v : V} {L : List Addr}, RO K F H o v L → (∀ b ∈ L, G b = H b) → Is K G (toD o) v
  | _, _, _, .fz h, _ => h.mono e
  | _, _, _, .lst h l, k => .lst (.inl (.inl ((k _ (by simp)).trans h))) (ROs.frz e l fun b hb => k b (by simp [hb]))
  | _, _, _, .tup h l, k => .tup (.inl (.inl ((k _ (by simp)).trans h))) (fun _ _ _ => (k _ (by simp)).trans h) (ROs.frz e l fun b hb => k b (by simp [hb]))
  | _, _, _, .dct h l, k => .dct (.inl ((k _ (by simp)).trans h)) (ROk.frz e l fun b hb => k b (by simp [hb]))
  | _, _, _, .dtp h l, k => .dtp (.inl ((k _ (by simp)).trans h)) (IsT.mono e l)
  | _, _, _, .ins h _ _, k => .ins ((k _ (by simp)).trans h)
theorem ROs.frz {G : Hp} (e : Same F G) : ∀ {o : List O} {v : List V} {L : List Addr}, ROs K F H o v L → (∀ b ∈ L, G b = H b) → IsL K G (toDs o) v
  | _, _, _, .nil, _ => .nil
  | _, _, _, .cons h l, k => .cons (RO.frz e h fun b hb => k b (by simp [hb])) (ROs.frz e l fun b hb => k b (by simp [hb]))
theorem ROk.frz {G : Hp} (e : Same F G) : ∀ {o : List (Key × O)} {v : List (Key × V)} {L : List Addr}, ROk K F H o v L → (∀ b ∈ L, G b = H b) → IsK K G (toDk o) v
  | _, _, _, .nil, _ => .nil
  | _, _, _, .cons h l, k => .cons (RO.frz e h fun b hb => k b (by simp [hb])) (ROk.frz e l fun b hb => k b (by simp [hb]))
end
end
end TL
namespace TL
open PySem PySem.Spec L2
/-! ### views -/
mutual
inductive RV (K : PySem.W.Frag) (F H : Hp) : O → V → Prop
  | fz {d : D} {v : V} : Is K F d v → RV K F H (.fz d) v
  | lst {a : Addr} {xs : List V} {os : List O} : SqL K H a xs → RVs K F H os xs → RV K F H (.lst os) (.ref a)
  | tup {a : Addr} {xs : List V} {os : List O} : SqT K H a xs → (∀ i r, xs = .int i :: r → H a = some (.tup xs)) → RVs K F H os xs → RV K F H (.tup os) (.ref a)
  | dct {a : Addr} {kvs : List (Key × V)} {os : List (Key × O)} : Rd H a (.dK kvs) → RVk K F H os kvs → RV K F H (.dct os) (.ref a)
  | dtp {a : Addr} {kvs : List (List Key × V)} {ds : List (List Key × D)} : Rd H a (.dT kvs) → IsT K F (ds.map tkD) kvs → RV K F H (.dtp ds) (.ref a)
  | ins {a dx : Addr} {c : Str} {fs : List (Str × V)} {os : List (Str × O)} : H a = some (.ins (He.ga K c) dx fs) → RVf K F H os fs → RV K F H (.ins c os) (.ref a)
inductive RVs (K : PySem.W.Frag) (F H : Hp) : List O → List V → Prop
  | nil : RVs K F H [] []
  | cons {o : O} {os : List O} {v : V} {vs : List V} : RV K F H o v → RVs K F H os vs → RVs K F H (o :: os) (v :: vs)
inductive RVk (K : PySem.W.Frag) (F H : Hp) : List (Key × O) → List (Key × V) → Prop
  | nil : RVk K F H [] []
  | cons {k : Key} {o : O} {os : List (Key × O)} {v : V} {vs : List (Key × V)} : RV K F H o v → RVk K F H os vs → RVk K F H ((k, o) :: os) ((k, v) :: vs)
inductive RVf (K : PySem.W.Frag) (F H : Hp) : List (Str × O) → List (Str × V) → Prop
  | nil : RVf K F H [] []
  | cons {k : Str} {o : O} {os : List (Str × O)} {v : V} {vs : List (Str × V)} : RV K F H o v → RVf K F H os vs → RVf K F H ((k, o) :: os) ((k, v) :: vs)
end
section
variable {K : PySem.W.Frag} {F F' H H' : Hp}
mutual
theorem RV.same (e : Same F F') (s : Same H H') : ∀ {o : O} {v : V}, RV K F H o v → RV K F' H' o v
  | _, _, .fz h => .fz (h.mono e)
  | _, _, .lst h l => .lst (s.seq h) (RVs.same e s l)
  | _, _, .tup h k l => .tup (Same.sqT s h) (fun i r z => s _ _ (k i r z)) (RVs.same e s l)
  | _, _, .dct h l => .dct (Same.rd s h) (RVk.same e s l)
  | _, _, .dtp h l => .dtp (Same.rd s h) (IsT.mono e l)
  | _, _, .ins h l => .ins (s _ _ h) (RVf.same e s l)
theorem RVs.same (e : Same F F') (s : Same H H') : ∀ {o : List O} {v : List V}, RVs K F H o v → RVs K F' H' o v
  | _, _, .nil => .nil
  | _, _, .cons h l => .cons (RV.same e s h) (RVs.same e s l)
theorem RVk.same (e : Same F F') (s : Same H H') : ∀ {o : List (Key × O)} {v : List (Key × V)}, RVk K F H o v → RVk K F' H' o v
  | _, _, .nil => .nil
  | _, _, .cons h l => .cons (RV.same e s h) (RVk.same e s l)
theorem RVf.same (e : Same F F') (s : Same H H') : ∀ {o : List (Str × O)} {v : List (Str × V)}, RVf K F H o v → RVf K F' H' o v
  | _, _, .nil => .nil
  | _, _, .cons h l => .cons (RV.same e s h) (RVf.same e s l)
end
mutual
theorem RO.view : ∀ {o : O} {v : V} {L : List Addr}, RO K F H o v L → RV K F H o v
  | _, _, _, .fz h => .fz h
  | _, _, _, .lst h l => .lst (.inl (.inl h)) (ROs.view l)
  | _, _, _, .tup h l => .tup (.inl (.inl h)) (fun _ _ _ => h) (ROs.view l)
  | _, _, _, .dct h l => .dct (.inl h) (ROk.view l)
  | _, _, _, .dtp h l => .dtp (.inl h) l
  | _, _, _, .ins h _ l => .ins h (ROf.view l)
theorem ROs.view : ∀ {o : List O} {v : List V} {L : List Addr}, ROs K F H o v L → RVs K F H o v
  | _, _, _, .nil => .nil
  | _, _, _, .cons h l => .cons (RO.view h) (ROs.view l)
theorem ROk.view : ∀ {o : List (Key × O)} {v : List (Key × V)} {L : List Addr}, ROk K F H o v L → RVk K F H o v
  | _, _, _, .nil => .nil
  | _, _, _, .cons h l => .cons (RO.view h) (ROk.view l)
theorem ROf.view : ∀ {o : List (Str × O)} {v : List (Str × V)} {L : List Addr}, ROf K F H o v L → RVf K F H o v
  | _, _, _, .nil => .nil
  | _, _, _, .cons h l => .cons (RO.view h) (ROf.view l)
end
mutual
theorem RV.is (e : Same F H) : ∀ {o : O} {v : V}, RV K F H o v → Is K H (toD o) v
  | _, _, .fz h => h.mono e
  | _, _, .lst h l => .lst h (RVs.is e l)
  | _, _, .tup h k l => .tup h k (RVs.is e l)
  | _, _, .dct h l => .dct h (RVk.is e l)
  | _, _, .dtp h l => .dtp h (IsT.mono e l)
  | _, _, .ins h _ => .ins h
theorem RVs.is (e : Same F H) : ∀ {o : List O} {v : List V}, RVs K F H o v → IsL K H (toDs o) v
  | _, _, .nil => .nil
  | _, _, .cons h l => .cons (RV.is e h) (RVs.is e l)
theorem RVk.is (e : Same F H) : ∀ {o : List (Key × O)} {v : List (Key × V)}, RVk K F H o v → IsK K H (toDk o) v
  | _, _, .nil => .nil
  | _, _, .cons h l => .cons (RV.is e h) (RVk.is e l)
end
theorem RVs.ofFz : ∀ {ds : List D} {vs : List V}, RVs K F H (ds.map O.fz) vs → IsL K F ds vs
  | [], _, .nil => .nil
  | d :: ds, _, .cons (.fz h) l => .cons h (RVs.ofFz l)
theorem RVs.fzL : ∀ {ds : List D} {vs : List V}, IsL K F ds vs → RVs K F H (ds.map O.fz) vs
  | _, _, .nil => .nil
  | _, _, .cons h l => .cons (.fz h) (RVs.fzL l)
theorem RVs.get : ∀ {os : List O} {vs : List V} {i : Nat} {o : O}, RVs K F H os vs → os[i]? = some o → ∃ v, vs[i]? = some v ∧ RV K F H o v
  | _, _, _, _, .nil, e => by simp at e
  | _, _, 0, _, .cons h _, e => by simp at e; subst e; exact ⟨_, rfl, h⟩
  | _, _, i + 1, d, .cons _ l, e => by
    obtain ⟨v, h1, h2⟩ := RVs.get (i := i) (o := d) l (by simpa using e)
    exact ⟨v, by simpa using h1, h2⟩
theorem RVs.length : ∀ {o : List O} {v : List V}, RVs K F H o v → o.length = v.length
  | _, _, .nil => rfl
  | _, _, .cons _ l => by simp [RVs.length l]
theorem RVs.mem : ∀ {os : List O} {vs : List V} {o : O}, RVs K F H os vs → o ∈ os → ∃ v, RV K F H o v
  | _, _, _, .nil, e => by simp at e
  | _, _, o, .cons h l, e => by
    rcases List.mem_cons.mp e with e | e
    · subst e; exact ⟨_, h⟩
    · exact RVs.mem l e
end
/-! ### temporaries and slots -/
inductive TV where
  | own (o : O)
  | brw (o : O)
inductive SL where
  | own (o : O)
  | par (d : D)
abbrev fl (d : D) : TV := .own (.fz d)
def keyOf : D → Option Key
  | .int i => some (.inl i)
  | .str s => some (.inr s)
  | _ => none
theorem keyOf_keyD (k : Key) : keyOf (keyD k) = some k := by cases k <;> rfl
theorem keyOf_eq {d : D} {k : Key} (h : keyOf d = some k) : d = keyD k := by
  cases d <;> simp [keyOf] at h <;> (subst h; rfl)
/-- the pairs of a dict with plain keys -/
def unK : List (D × D) → Option (List (Key × D))
  | [] => some []
  | (k, d) :: r => match keyOf k, unK r with
    | some k, some r => some ((k, d) :: r)
    | _, _ => none
theorem IsK.unK {K : PySem.W.Frag} {F : Hp} : ∀ {ds : List (D × D)} {kvs : List (Key × V)}, IsK K F ds kvs → ∃ es, TL.unK ds = some es ∧ RVk K F F (fzK es) kvs
  | _, _, .nil => ⟨[], rfl, .nil⟩
  | _, _, .cons (k := k) (d := d) h l => by
    obtain ⟨es, e, q⟩ := IsK.unK l
    refine ⟨(k, d) :: es, ?_, .cons (.fz h) q⟩
    simp only [TL.unK, keyOf_keyD, e]
/-- a depth-one view of data -/
def O1 : D → O
  | .list ds => .lst (ds.map .fz)
  | .dict ds => match unK ds with
    | some es => .dct (fzK es)
    | none => .fz (.dict ds)
  | d => .fz d
theorem O1.of {K : PySem.W.Frag} {F P : Hp} (e : Same F P) {d : D} {v : V} (h : Is K F d v) : RV K F P (O1 d) v := by
  cases h with
  | non => exact .fz .non
  | bl b => exact .fz (.bl b)
  | int i => exact .fz (.int i)
  | str x => exact .fz (.str x)
  | lst h l => exact .lst (e.seq h) (RVs.fzL l)
  | tup h k l => exact .fz (.tup h k l)
  | dct h l =>
    obtain ⟨es, q, r⟩ := l.unK
    show RV K F P (match unK _ with | some es => .dct (fzK es) | none => .fz _) _
    rw [q]
    exact .dct (Same.rd e h) (r.same (fun _ _ x => x) e)
  | dtp h l => exact .fz (.dtp h l)
  | ins h => exact .fz (.ins h)
  | exc => exact .fz .exc
inductive RT (K : PySem.W.Frag) (F H : Hp) : TV → V → List Addr → Prop
  | own {o : O} {v : V} {L : List Addr} : RO K F H o v L → RT K F H (.own o) v L
  | brw {o : O} {v : V} : RV K F H o v → RT K F H (.brw o) v []
inductive RL (K : PySem.W.Frag) (F P H : Hp) : SL → V → List Addr → Prop
  | own {o : O} {v : V} {L : List Addr} : RO K F H o v L → RL K F P H (.own o) v L
  | par {d : D} {v : V} : RV K F P (O1 d) v → RL K F P H (.par d) v []
inductive AT (K : PySem.W.Frag) (F H : Hp) : List V → List TV → List Addr → Prop
  | nil : AT K F H [] [] []
  | cons {v : V} {t : TV} {vs : List V} {ts : List TV} {L1 L2 : List Addr} : RT K F H t v L1 → AT K F H vs ts L2 → AT K F H (v :: vs) (t :: ts) (L1 ++ L2)
abbrev Ev := List (Option SL)
inductive AS (K : PySem.W.Frag) (F P H : Hp) : St → Ev → List Addr → Prop
  | nil : AS K F P H [] [] []
  | skip {x : Option V} {vs : St} {es : Ev} {L : List Addr} : AS K F P H vs es L → AS K F P H (x :: vs) (none :: es) L
  | cons {v : V} {s : SL} {vs : St} {es : Ev} {L1 L2 : List Addr} : RL K F P H s v L1 → AS K F P H vs es L2 → AS K F P H (some v :: vs) (some s :: es) (L1 ++ L2)
structure Good (F P : Hp) (L : List Addr) : Prop where
  one : ∀ b, L.count b ≤ 1
  fF : ∀ b ∈ L, F b = none
  fP : ∀ b ∈ L, P b = none
theorem Good.sub {F P : Hp} {L L' : List Addr} (g : Good F P L) (h : ∀ b, L'.count b ≤ L.count b) : Good F P L' := by
  have m : ∀ b ∈ L', b ∈ L := fun b hb => by
    have := List.count_pos_iff.mpr hb
    exact List.count_pos_iff.mp (Nat.lt_of_lt_of_le this (h b))
  exact ⟨fun b => Nat.le_trans (h b) (g.one b), fun b hb => g.fF b (m b hb), fun b hb => g.fP b (m b hb)⟩
theorem Good.dis {F P : Hp} {L1 L2 : List Addr} (g : Good F P (L1 ++ L2)) {b : Addr} (h1 : b ∈ L1) : b ∉ L2 := fun h2 => by
  have a := List.count_pos_iff.mpr h1
  have c := List.count_pos_iff.mpr h2
  have := g.one b
  rw [List.count_append] at this
  omega
theorem Good.cons {F P : Hp} {L : List Addr} {p : Addr} (g : Good F P L) (h : p ∉ L) (f : F p = none) (q : P p = none) : Good F P (p :: L) := by
  refine ⟨fun b => ?_, fun b hb => ?_, fun b hb => ?_⟩
  · rw [List.count_cons]
    by_cases e : p = b
    · subst e
      rw [List.count_eq_zero_of_not_mem h]; simp
    · have := g.one b
      simp [e, this]
  · rcases List.mem_cons.mp hb with e | hb
    · rw [e]; exact f
    · exact g.fF b hb
  · rcases List.mem_cons.mp hb with e | hb
    · rw [e]; exact q
    · exact g.fP b hb
/-- the state: temporaries ts, tv; slots σ, env -/
structure SR (K : PySem.W.Frag) (F P H : Hp) (ts : List V) (tv : List TV) (σ : St) (env : Ev) : Prop where
  ex : ∃ L1 L2, AT K F H ts tv L1 ∧ AS K F P H σ env L2 ∧ Good F P (L1 ++ L2)
  fh : Same F H
  ph : Same P H
/-- the frozen part grows by what was not protected -/
structure Ext (P F F' : Hp) : Prop where
  up : Same F F'
  new : ∀ b o, F' b = some o → F b = none → P b = none
theorem Ext.refl (P F : Hp) : Ext P F F := ⟨fun _ _ h => h, fun b o h1 h2 => by rw [h1] at h2; cases h2⟩
theorem Ext.trans {P F G J : Hp} (a : Ext P F G) (b : Ext P G J) : Ext P F J := ⟨a.up.trans b.up, fun c o h1 h2 => by
  cases q : G c with
  | none => exact b.new c o h1 q
  | some u => exact a.new c u q h2⟩
def stable : TV → Bool
  | .own _ => true
  | .brw (.fz _) => true
  | .brw _ => false
section
variable {K : PySem.W.Frag} {F F' P H H' : Hp}
theorem RT.same (e : Same F F') (s : Same H H') {t : TV} {v : V} {L : List Addr} (r : RT K F H t v L) : RT K F' H' t v L := by
  cases r with
  | own r => exact .own (r.same e s)
  | brw r => exact .brw (r.same e s)
theorem RL.same (e : Same F F') (s : Same H H') {t : SL} {v : V} {L : List Addr} (r : RL K F P H t v L) : RL K F' P H' t v L := by
  cases r with
  | own r => exact .own (r.same e s)
  | par r => exact .par (r.same e fun _ _ x => x)
theorem AT.same (e : Same F F') (s : Same H H') : ∀ {vs : List V} {ts : List TV} {L : List Addr}, AT K F H vs ts L → AT K F' H' vs ts L
  | _, _, _, .nil => .nil
  | _, _, _, .cons r l => .cons (r.same e s) (l.same e s)
theorem AS.same (e : Same F F') (s : Same H H') : ∀ {vs : St} {ts : Ev} {L : List Addr}, AS K F P H vs ts L → AS K F' P H' vs ts L
  | _, _, _, .nil => .nil
  | _, _, _, .skip l => .skip (l.same e s)
  | _, _, _, .cons r l => .cons (r.same e s) (l.same e s)
theorem RT.mono (e : Same F F') {t : TV} {v : V} {L : List Addr} (st : stable t = true) (r : RT K F H t v L) (k : ∀ b ∈ L, H' b = H b) : RT K F' H' t v L := by
  cases r with
  | own r => exact .own (r.mono e k)
  | brw r =>
    cases r with
    | fz h => exact .brw (.fz (h.mono e))
    | lst _ _ => simp [stable] at st
    | tup _ _ => simp [stable] at st
    | dct _ _ => simp [stable] at st
    | dtp _ _ => simp [stable] at st
    | ins _ _ => simp [stable] at st
theorem AT.mono (e : Same F F') : ∀ {vs : List V} {ts : List TV} {L : List Addr}, (∀ t ∈ ts, stable t = true) → AT K F H vs ts L → (∀ b ∈ L, H' b = H b) → AT K F' H' vs ts L
  | _, _, _, _, .nil, _ => .nil
  | _, _, _, st, .cons r l, k => .cons (r.mono e (st _ (by simp)) fun b hb => k b (by simp [hb])) (l.mono e (fun t ht => st t (by simp [ht])) fun b hb => k b (by simp [hb]))
theorem AS.mono (e : Same F F') : ∀ {vs : St} {ts : Ev} {L : List Addr}, AS K F P H vs ts L → (∀ b ∈ L, H' b = H b) → AS K F' P H' vs ts L
  | _, _, _, .nil, _ => .nil
  | _, _, _, .skip l, k => .skip (l.mono e k)
  | _, _, _, .cons r l, k => by
    refine .cons ?_ (l.mono e fun b hb => k b (by simp [hb]))
    cases r with
    | own r => exact .own (r.mono e fun b hb => k b (by simp [hb]))
    | par r => exact .par (r.same e fun _ _ x => x)
theorem AT.trk : ∀ {vs : List V} {ts : List TV} {L : List Addr}, AT K F H vs ts L → ∀ b ∈ L, ∃ u, H b = some u
  | _, _, _, .nil, b, hb => by simp at hb
  | _, _, _, .cons r l, b, hb => by
    rcases List.mem_append.mp hb with hb | hb
    · cases r with
      | own r => exact r.trk b hb
      | brw r => simp at hb
    · exact l.trk b hb
theorem AS.trk : ∀ {vs : St} {ts : Ev} {L : List Addr}, AS K F P H vs ts L → ∀ b ∈ L, ∃ u, H b = some u
  | _, _, _, .nil, b, hb => by simp at hb
  | _, _, _, .skip l, b, hb => l.trk b hb
  | _, _, _, .cons r l, b, hb => by
    rcases List.mem_append.mp hb with hb | hb
    · cases r with
      | own r => exact r.trk b hb
      | par r => simp at hb
    · exact l.trk b hb
theorem AS.length : ∀ {vs : St} {ts : Ev} {L : List Addr}, AS K F P H vs ts L → vs.length = ts.length
  | _, _, _, .nil => rfl
  | _, _, _, .skip l => by simp [l.length]
  | _, _, _, .cons r l => by simp [l.length]
/-- one slot taken out -/
theorem AS.take : ∀ {vs : St} {es : Ev} {L : List Addr} {i : Nat} {s : SL}, AS K F P H vs es L → es[i]? = some (some s) →
    ∃ v L1 L2, vs[i]? = some (some v) ∧ RL K F P H s v L1 ∧ AS K F P H vs (es.set i none) L2 ∧ ∀ b, L.count b = L1.count b + L2.count b
  | _, _, _, i, _, .nil, e => by simp at e
  | _, _, _, 0, _, .skip l, e => by simp at e
  | _, _, _, i + 1, s, .skip l, e => by
    obtain ⟨v, L1, L2, h1, h2, h3, h4⟩ := l.take (i := i) (s := s) (by simpa using e)
    exact ⟨v, L1, L2, by simpa using h1, h2, .skip h3, h4⟩
  | _, _, _, 0, s, .cons (L1 := L1) (L2 := L2) r l, e => by
    simp at e; subst e
    exact ⟨_, L1, L2, rfl, r, .skip l, fun b => List.count_append⟩
  | _, _, _, i + 1, s, .cons (L1 := M1) (L2 := M2) r l, e => by
    obtain ⟨v, L1, L2, h1, h2, h3, h4⟩ := l.take (i := i) (s := s) (by simpa using e)
    refine ⟨v, L1, M1 ++ L2, by simpa using h1, h2, .cons r h3, fun b => ?_⟩
    rw [List.count_append, List.count_append, h4 b]; omega
/-- an empty slot filled -/
theorem AS.put : ∀ {vs : St} {es : Ev} {L L1 : List Addr} {i : Nat} {s : SL} {v : V}, AS K F P H vs es L → es[i]? = some none → RL K F P H s v L1 →
    ∃ L', AS K F P H (vs.set i (some v)) (es.set i (some s)) L' ∧ ∀ b, L'.count b = L1.count b + L.count b
  | _, _, _, _, i, _, _, .nil, e, _ => by simp at e
  | _, _, _, L1, 0, _, _, .skip l, e, r => ⟨_, .cons r l, fun b => List.count_append⟩
  | _, _, _, _, i + 1, s, v, .skip l, e, r => by
    obtain ⟨L', h1, h2⟩ := l.put (i := i) (by simpa using e) r
    exact ⟨L', .skip h1, h2⟩
  | _, _, _, _, 0, s, _, .cons _ _, e, _ => by simp at e
  | _, _, _, _, i + 1, s, v, .cons (L1 := M1) (L2 := M2) r0 l, e, r => by
    obtain ⟨L', h1, h2⟩ := l.put (i := i) (by simpa using e) r
    refine ⟨M1 ++ L', .cons r0 h1, fun b => ?_⟩
    rw [List.count_append, List.count_append, h2 b]; omega
/-- .. holding what stands there -/
theorem AS.back {vs : St} {es : Ev} {L L1 : List Addr} {i : Nat} {s : SL} {v : V} (a : AS K F P H vs es L) (e : es[i]? = some none) (hv : vs[i]? = some (some v)) (r : RL K F P H s v L1) :
    ∃ L', AS K F P H vs (es.set i (some s)) L' ∧ ∀ b, L'.count b = L1.count b + L.count b := by
  obtain ⟨L', h1, h2⟩ := a.put e r
  have : vs.set i (some v) = vs := by
    have hl : i < vs.length := (List.getElem?_eq_some_iff.mp hv).1
    apply List.ext_getElem?
    intro j
    by_cases hj : i = j
    · subst hj; rw [List.getElem?_set_self hl, hv]
    · rw [List.getElem?_set_ne hj]
  rw [this] at h1
  exact ⟨L', h1, h2⟩
theorem AS.drop {vs : St} {es : Ev} {L : List Addr} {i : Nat} (a : AS K F P H vs es L) : ∃ L', AS K F P H vs (es.set i none) L' ∧ ∀ b, L'.count b ≤ L.count b := by
  cases h : es[i]? with
  | none =>
    have : es.set i none = es := by
      apply List.set_eq_of_length_le
      exact List.getElem?_eq_none_iff.mp h
    rw [this]
    exact ⟨L, a, fun _ => Nat.le_refl _⟩
  | some o =>
    cases o with
    | none =>
      have : es.set i none = es := by
        have hl : i < es.length := (List.getElem?_eq_some_iff.mp h).1
        apply List.ext_getElem?
        intro j
        by_cases hj : i = j
        · subst hj; rw [List.getElem?_set_self hl, h]
        · rw [List.getElem?_set_ne hj]
      rw [this]
      exact ⟨L, a, fun _ => Nat.le_refl _⟩
    | some s =>
      obtain ⟨v, L1, L2, _, _, h3, h4⟩ := a.take h
      exact ⟨L2, h3, fun b => by rw [h4 b]; omega⟩
/-- a value in an empty slot -/
theorem AS.any : ∀ {vs : St} {es : Ev} {L : List Addr} {i : Nat} (x : Option V), AS K F P H vs es L → es[i]? = some none → AS K F P H (vs.set i x) es L
  | _, _, _, i, _, .nil, e => by simp at e
  | _, _, _, 0, _, .skip l, e => .skip l
  | _, _, _, i + 1, x, .skip l, e => .skip (l.any (i := i) x (by simpa using e))
  | _, _, _, 0, _, .cons _ _, e => by simp at e
  | _, _, _, i + 1, x, .cons r l, e => .cons r (l.any (i := i) x (by simpa using e))
end
theorem upd_sameH {H : Hp} {p : Addr} {o : HO} (h : H p = none) : Same H (upd H p o) := fun b x e => by
  rw [upd_ne (ne_of_none e h)]
  exact e
end TL
namespace TL
open PySem PySem.Spec L2
/-! ### the IR -/
inductive Md where
  | f | b | io
  deriving DecidableEq
/-- built-in functions -/
inductive Bf where
  | len | str | int | max2 | min2 | max | min | sum | any | all | list | tuple
  deriving DecidableEq
/-- methods of texts and lists that change nothing -/
inductive Bm where
  | split | join | find | count
  deriving DecidableEq
/-- types asked by isinstance -/
inductive Ty where
  | bool | int | str | tuple | list | dict
  deriving DecidableEq
inductive Ik where
  | sq | rng | enm | zip
  deriving DecidableEq
inductive Tg where
  | nm (i : Nat)
  | tp (ts : List Tg)
inductive E where
  | nul
  | con (d : D)
  | var (i : Nat)
  | glb (x : Str) (d : D)
  | bin (op : Operator) (a b : E)
  | neg (a : E)
  | fzn (a : E)
  | fzi (a : E)
  | dp (a : E)
  | cmp (op : CmpOp) (a b : E)
  | chn (op op' : CmpOp) (a b c : E)
  | and (a b : E)
  | or (a b : E)
  | not (a : E)
  | ite (c a b : E)
  | ix (a b : E)
  | slc (a lo hi : E)
  | tup (es : List E)
  | lst (es : List E)
  | call (id : Nat) (ms : List Md) (es : List E) (dl : List D)
  | cio (id : Nat) (ms : List Md) (es : List E)
  | cfr (id : Nat) (ms : List Md) (es : List E)
  | blt (f : Bf) (es : List E)
  | isi (a : E) (t : Ty)
  | idx (a b : E)
  | met (m : Bm) (a b : E)
  | lc (own : List Nat) (t : Tg) (k : Ik) (src : List E) (c elt : E)
  | dnk
  | dnt
  | din (neg : Bool) (a b : E)
  | dix (a b : E)
  | dgt (a b c : E)
  | dcp (a : E)
  | mv (i : Nat)
/-! ### the language of except suites -/
inductive HE where
  | con (d : D)
  | var (i : Nat)
  | isx (i n : Nat) (ids : List Nat)
  | isv (i : Nat)
  | or (a b : HE)
  | int (a : HE)
  | add (a b : HE)
  | lst (es : List HE)
  | ix (a b : HE)
abbrev Su := List (Nat × HE)
/-- a handler: the classes that it catches, the slot of its name, its suite; n the place of its class -/
structure Hd where
  n : Nat
  ids : List Nat
  sl : Option Nat
  su : List (Nat × HE)
/-- a path from a slot -/
inductive Pa where
  | var (i : Nat)
  | ix (p : Pa) (e : E)
inductive S where
  | asg (t : Tg) (e : E)
  | aug (i : Nat) (op : Operator) (e : E)
  | app (p : Pa) (e : E)
  | popd (p : Pa)
  | popi (p : Pa) (i : E)
  | asgPop (t : Tg) (p : Pa)
  | setix (p : Pa) (i e : E)
  | ext (p : Pa) (e : E)
  | clr (p : Pa)
  | dput (p : Pa) (k v : E)
  | expr (e : E)
  | ret (e : E)
  | retN
  | ifs (c : E) (a b : List S)
  | fors (t : Tg) (k : Ik) (src : List E) (body : List S)
  | whiles (n : Nat) (c : E) (body : List S)
  | brk | cont | pass
  | raise (c : Nat) (m : Str)
  | tryx (kn : List Nat) (hs : List Hd) (body : List S)
  | wip (js : List Nat) (s : S)
  | blk (js : List Nat) (ss : List S)
  | ali (i : Nat) (p : Pa) (ss : List S)
  | frz (i : Nat) (s : S)
/-! ### results -/
inductive R (α : Type) where
  | ok (a : α) (e : Ev)
  | exc (c : Nat) (e : Ev)
  | bad
def R.bd {α β : Type} (r : R α) (f : α → Ev → R β) : R β := match r with
  | .ok a e => f a e
  | .exc c e => .exc c e
  | .bad => .bad
@[simp] theorem R.bd_ok {α β : Type} (a : α) (e : Ev) (f : α → Ev → R β) : (R.ok a e).bd f = f a e := rfl
@[simp] theorem R.bd_exc {α β : Type} (c : Nat) (e : Ev) (f : α → Ev → R β) : (R.exc c e : R α).bd f = .exc c e := rfl
@[simp] theorem R.bd_bad {α β : Type} (f : α → Ev → R β) : (R.bad : R α).bd f = .bad := rfl
def R.lf {α : Type} (o : Option α) (e : Ev) : R α := match o with
  | some a => .ok a e
  | none => .bad
@[simp] theorem R.lf_some {α : Type} (a : α) (e : Ev) : R.lf (some a) e = .ok a e := rfl
@[simp] theorem R.lf_none {α : Type} (e : Ev) : R.lf (none : Option α) e = .bad := rfl
/-- arguments, a call's end -/
inductive AV where
  | f (d : D)
  | b (d : D)
  | io (o : O)
inductive CR where
  | ok (r : O) (outs : List (Option O))
  | exc (c : Nat) (outs : List (Option O))
  | bad
abbrev CF := Nat → List AV → CR
/-! ### values -/
def rdO : O → TV
  | .fz d => .own (.fz d)
  | o => .brw o
def rdSlot : SL → TV
  | .own o => rdO o
  | .par d => rdO (O1 d)
def tvO : TV → O
  | .own o => o
  | .brw o => o
def rd (t : TV) : D := toD (tvO t)
def items : TV → Option (List O)
  | .own (.fz (.list ds)) => some (ds.map .fz)
  | .own (.lst os) => some os
  | .brw (.fz (.list ds)) => some (ds.map .fz)
  | .brw (.lst os) => (fzAll os).map (List.map .fz)
  | _ => none
def itemsT : TV → Option (List O)
  | .own (.fz (.tuple ds)) => some (ds.map .fz)
  | .own (.tup os) => some os
  | .brw (.fz (.tuple ds)) => some (ds.map .fz)
  | .brw (.tup os) => (fzAll os).map (List.map .fz)
  | _ => none
def flatD : D → Bool
  | .none => true
  | .bool _ => true
  | .int _ => true
  | .str _ => true
  | _ => false
def mulOk (i j : Int) : Bool := decide (-(2 ^ 64) < i ∧ i < 2 ^ 64) || decide (-(2 ^ 64) < j ∧ j < 2 ^ 64) || (decide (i.natAbs < 2 ^ 4096) && decide (j.natAbs < 2 ^ 4096))
def divOk (j : Int) : Bool := decide (0 < j) && decide (j.natAbs < 2 ^ 8000)
def powOk (i j : Int) : Bool := decide (0 ≤ j ∧ j ≤ 1000000 ∧ i.natAbs < 2 ^ 64)
def repS (a : Str) (k : Int) : Str := ⟨((List.replicate k.toNat a.cps.toList).flatten).toArray⟩
/-- a value that may be handed on as it is -/
def ownV : TV → Option TV
  | .own o => some (.own o)
  | .brw (.fz d) => some (.own (.fz d))
  | _ => none
def binOp (op : Operator) (ta tb : TV) : Option TV := match op, rd ta, rd tb with
  | .Add, .int i, .int j => some (fl (.int (i + j)))
  | .Add, .str a, .str b => if a.length + b.length ≤ sizeLine then some (fl (.str (a ++ b))) else none
  | .Add, .list _, .list _ => match items ta, items tb with
    | some xs, some ys => if xs.length + ys.length ≤ sizeLine then some (.own (.lst (xs ++ ys))) else none
    | _, _ => none
  | .Add, .tuple _, .tuple _ => match itemsT ta, itemsT tb with
    | some xs, some ys => if xs.length + ys.length ≤ sizeLine then (if xs.isEmpty then ownV tb else if ys.isEmpty then ownV ta else some (.own (.tup (xs ++ ys)))) else none
    | _, _ => none
  | .Sub, .int i, .int j => some (fl (.int (i - j)))
  | .Mult, .int i, .int j => if mulOk i j then some (fl (.int (i * j))) else none
  | .Mult, .str a, .int k => if decide (k < 2 ^ 62) && decide (-(2 ^ 62) < k) && decide (a.length * k.toNat ≤ sizeLine) then some (fl (.str (repS a k))) else none
  | .Mult, .list _, .int k => match ta with
    | .own (.lst xs) => match fzAll xs with
      | some ds => if decide (k < 2 ^ 62) && decide (-(2 ^ 62) < k) && decide (ds.length * k.toNat ≤ sizeLine) then some (.own (.lst ((List.replicate k.toNat ds).flatten.map .fz))) else none
      | none => none
    | _ => none
  | .FloorDiv, .int i, .int j => if divOk j then some (fl (.int (i / j))) else none
  | .Mod, .int i, .int j => if decide (0 < j) then some (fl (.int (i % j))) else none
  | .Pow, .int i, .int j => if powOk i j then some (fl (.int (i ^ j.toNat))) else none
  | _, _, _ => none
def inL (x : D) (xs : List D) : Bool := xs.any fun y => PyData.eqv y x
def occurs (a b : Str) : Bool := !(Builtin.Str.occurrences b a 0 b.length 1).isEmpty
def inD (x y : D) : Option Bool := match x, y with
  | .str a, .str b => some (occurs a b)
  | x, .list ds => if flatD x && ds.all flatD then some (inL x ds) else none
  | x, .tuple ds => if flatD x && ds.all flatD then some (inL x ds) else none
  | _, _ => none
/-- == of scalars -/
def eqS (x y : D) : Option Bool := match x, y with
  | .int i, .int j => some (i == j)
  | .str a, .str b => some (a == b)
  | .bool a, .bool b => some (a == b)
  | .none, .none => some true
  | .none, .int _ => some false
  | .none, .str _ => some false
  | .none, .bool _ => some false
  | .int _, .none => some false
  | .str _, .none => some false
  | .bool _, .none => some false
  | .int _, .str _ => some false
  | .str _, .int _ => some false
  | _, _ => none
def isDct : D → Bool
  | .dict _ => true
  | _ => false
/-- two dicts of plain keys and plain values: the same ones -/
def eqK : D → D → Bool
  | .dict a, .dict b => match unK a, unK b with
    | some es, some fs => decide (es.length = fs.length) && es.all fun p => match (fs.find? fun q => decide (q.1 = p.1)) with
      | some q => flatD p.2 && decide (eqS p.2 q.2 = some true)
      | none => false
    | _, _ => false
  | _, _ => false
def eqD (x y : D) : Option Bool := match eqS x y with
  | some b => some b
  | none => if SeqAt.shaped x && SeqAt.shaped y then some (PyData.eqv x y) else if eqK x y then some true else none
/-- pairs of whole numbers, in order -/
def pairOf : D → Option (Int × Int)
  | .tuple [.int a, .int b] => some (a, b)
  | _ => none
abbrev pairD (p : Int × Int) : D := .tuple [.int p.1, .int p.2]
theorem pairOf_eq {d : D} {p : Int × Int} (h : pairOf d = some p) : d = pairD p := by
  unfold pairOf at h
  split at h
  · cases h; rfl
  · cases h
def ltP2 (p q : Int × Int) : Bool := decide (p.1 < q.1) || (decide (p.1 = q.1) && decide (p.2 < q.2))
def ord2 (x y : D) (f : Int × Int → Int × Int → Bool) : Option Bool := match pairOf x, pairOf y with
  | some p, some q => some (f p q)
  | _, _ => none
def cmpD (op : CmpOp) (x y : D) : Option Bool := match op with
  | .Eq => eqD x y
  | .NotEq => if isDct x then none else (eqD x y).map (!·)
  | .Lt => match x, y with | .int i, .int j => some (decide (i < j)) | x, y => ord2 x y (fun p q => ltP2 p q)
  | .LtE => match x, y with | .int i, .int j => some (decide (i ≤ j)) | x, y => ord2 x y (fun p q => !ltP2 q p)
  | .Gt => match x, y with | .int i, .int j => some (decide (j < i)) | x, y => ord2 x y (fun p q => ltP2 q p)
  | .GtE => match x, y with | .int i, .int j => some (decide (j ≤ i)) | x, y => ord2 x y (fun p q => !ltP2 p q)
  | .Is => match y with
    | .none => some (match x with | .none => true | _ => false)
    | .bool b => (match x with | .bool a => some (decide (a = b)) | _ => none)
    | _ => none
  | .IsNot => match y with
    | .none => some (match x with | .none => false | _ => true)
    | .bool b => (match x with | .bool a => some (!decide (a = b)) | _ => none)
    | _ => none
  | .In => inD x y
  | .NotIn => (inD x y).map (!·)
def sgn (c : Nat) : D := .str ⟨#[c]⟩
/-- an item -/
def ixO (o : O) (k : D) : Option O := match o, k with
  | .fz (.list ds), .int i => (atI ds i).map .fz
  | .fz (.tuple ds), .int i => (atI ds i).map .fz
  | .fz (.str z), .int i => if z.length ≤ sizeLine then (atI z.cps.toList i).map fun c => .fz (sgn c) else none
  | .lst os, .int i => atI os i
  | .tup os, .int i => atI os i
  | _, _ => none
/-- an item: of what was made on the spot it is taken whole -/
def ixT (t : TV) (k : D) : Option TV := match t with
  | .own o => (ixO o k).map .own
  | .brw o => (ixO o k).map rdO
def loOf : Option TV → Option (Option Int)
  | none => some none
  | some t => match rd t with
    | .int i => some (some i)
    | _ => none
def cutL {α : Type} (xs : List α) (lo hi : Option Int) : List α := (xs.drop (HT.sIx xs.length 0 lo)).take (HT.sIx xs.length xs.length hi - HT.sIx xs.length 0 lo)
def slcV (t : TV) (lo hi : Option Int) : Option TV := match rd t with
  | .tuple _ => match itemsT t with
    | some os => match fzAll os with
      | some ds => if HT.sIx ds.length 0 lo = 0 ∧ HT.sIx ds.length ds.length hi = ds.length then ownV t else some (.own (.tup ((cutL ds lo hi).map .fz)))
      | none => none
    | none => none
  | .str z => if z.length ≤ sizeLine then some (fl (.str (cutS z lo hi))) else none
  | .list _ => match items t with
    | some os => match fzAll os with
      | some ds => some (.own (.lst ((cutL ds lo hi).map .fz)))
      | none => none
    | none => none
  | _ => none
def intsOf : List D → Option (List Int)
  | [] => some []
  | .int i :: r => (intsOf r).map (i :: ·)
  | _ :: _ => none
def boolsOf : List D → Option (List Bool)
  | [] => some []
  | .bool i :: r => (boolsOf r).map (i :: ·)
  | _ :: _ => none
def strsOf : List D → Option (List Str)
  | [] => some []
  | .str i :: r => (strsOf r).map (i :: ·)
  | _ :: _ => none
def maxI : List Int → Int
  | [] => 0
  | i :: r => r.foldl (fun a b => if b > a then b else a) i
def minI : List Int → Int
  | [] => 0
  | i :: r => r.foldl (fun a b => if b < a then b else a) i
def pairsOf : List D → Option (List (Int × Int))
  | [] => some []
  | d :: r => match pairOf d, pairsOf r with
    | some p, some ps => some (p :: ps)
    | _, _ => none
def maxP : List (Int × Int) → Int × Int
  | [] => (0, 0)
  | p :: r => r.foldl (fun a b => if ltP2 a b then b else a) p
def minP : List (Int × Int) → Int × Int
  | [] => (0, 0)
  | p :: r => r.foldl (fun a b => if ltP2 b a then b else a) p
/-- what stands frozen -/
def fzT : TV → Option D
  | .own (.fz d) => some d
  | .brw (.fz d) => some d
  | _ => none
def best2 (f : Int × Int → Int × Int → Bool) (t u : TV) : Option TV := match fzT t, fzT u with
  | some x, some y => match pairOf x, pairOf y with
    | some p, some q => some (fl (if f p q then y else x))
    | _, _ => none
  | _, _ => none
/-- items that stand frozen -/
def fzIt : TV → Option (List D)
  | .own (.fz (.list ds)) => some ds
  | .own (.lst os) => fzAll os
  | .brw (.fz (.list ds)) => some ds
  | .brw (.lst os) => fzAll os
  | _ => none
def bestL (f : List (Int × Int) → Int × Int) (t : TV) : Option TV := match fzIt t with
  | some ds => match pairsOf ds with
    | some (p :: r) => some (fl (pairD (f (p :: r))))
    | _ => none
  | none => none
def bltV (f : Bf) (ts : List TV) : Option TV := match f, ts with
  | .len, [t] => match rd t with
    | .str z => if z.length ≤ sizeLine then some (fl (.int z.length)) else none
    | .list ds => some (fl (.int ds.length))
    | .tuple ds => some (fl (.int ds.length))
    | _ => none
  | .str, [t] => match rd t with
    | .int i => if i.natAbs.log2 < 1920 then some (fl (.str (toString i))) else none
    | _ => none
  | .int, [t] => match rd t with
    | .int i => some (fl (.int i))
    | .bool b => some (fl (.int (if b then 1 else 0)))
    | .str z => if z.length ≤ 640 then (match PySem.intText? z with
      | some n => some (fl (.int n))
      | none => none) else none
    | _ => none
  | .max2, [t, u] => match rd t, rd u with
    | .int i, .int j => some (fl (.int (if j > i then j else i)))
    | _, _ => best2 (fun p q => ltP2 p q) t u
  | .min2, [t, u] => match rd t, rd u with
    | .int i, .int j => some (fl (.int (if j < i then j else i)))
    | _, _ => best2 (fun p q => ltP2 q p) t u
  | .max, [t] => match rd t with
    | .list ds => match intsOf ds with
      | some (i :: r) => some (fl (.int (maxI (i :: r))))
      | _ => bestL maxP t
    | _ => none
  | .min, [t] => match rd t with
    | .list ds => match intsOf ds with
      | some (i :: r) => some (fl (.int (minI (i :: r))))
      | _ => bestL minP t
    | _ => none
  | .sum, [t] => match rd t with
    | .list ds => (intsOf ds).map fun ns => fl (.int ns.sum)
    | _ => none
  | .any, [t] => match rd t with
    | .list ds => (boolsOf ds).map fun bs => fl (.bool (bs.any id))
    | _ => none
  | .all, [t] => match rd t with
    | .list ds => (boolsOf ds).map fun bs => fl (.bool (bs.all id))
    | _ => none
  | .list, [t] => match rd t with
    | .list _ => (items t).map fun os => .own (.lst os)
    | .tuple _ => (itemsT t).map fun os => .own (.lst os)
    | _ => none
  | _, _ => none
/-! dicts -/
def valK {κ α : Type} [DecidableEq κ] (es : List (κ × α)) (k : κ) : Option α := (es.find? fun p => decide (p.1 = k)).map (·.2)
def setK' {κ α : Type} [DecidableEq κ] (es : List (κ × α)) (k : κ) (v : α) : List (κ × α) := if es.any (fun p => decide (p.1 = k)) then es.map fun p => if p.1 = k then (p.1, v) else p else es ++ [(k, v)]
def keysL : List D → Option (List Key)
  | [] => some []
  | d :: r => match keyOf d, keysL r with
    | some k, some ks => some (k :: ks)
    | _, _ => none
/-- a tuple as a key: a number stands first -/
def keysOf : D → Option (List Key)
  | .tuple (.int i :: r) => (keysL r).map (.inl i :: ·)
  | _ => none
def dicK (t : TV) : Option (List (Key × D)) := match tvO t with
  | .dct kvs => fzAllK kvs
  | .fz (.dict ds) => unK ds
  | _ => none
def dicT (t : TV) : Option (List (List Key × D)) := match tvO t with
  | .dtp kvs => some kvs
  | _ => none
def dLook (t : TV) (k : D) : Option (Option D) := match dicK t, keyOf k with
  | some es, some k => some (valK es k)
  | _, _ => match dicT t, keysOf k with
    | some es, some ks => some (valK es ks)
    | _, _ => none
/-- .. None stands in no dict by numbers and texts -/
def dLookN (t : TV) (k : D) : Option (Option D) := match k with
  | .none => (dicK t).map fun _ => none
  | k => dLook t k
/-- what is found, or another value -/
def orT (r : Option D) (t : TV) : TV := match r with
  | some d => fl d
  | none => t
def isDt (t : TV) : Bool := (dicK t).isSome || (dicT t).isSome
def metV (m : Bm) (o t : TV) : Option TV := match m, rd o, rd t with
  | .split, .str a, .str b => if (b.length == 0) = false ∧ a.length + 2 ≤ sizeLine then some (.own (.lst ((Txt.split a b).map fun z => .fz (.str z)))) else none
  | .find, .str a, .str b => some (fl (.int (Txt.find a b)))
  | .count, .str a, .str b => some (fl (.int (Txt.count a b)))
  | .join, .str a, .list ds => match strsOf ds with
    | some ys => if (ys.map (·.length)).sum + ys.length * a.length ≤ 16777216 then some (fl (.str (Txt.join a ys))) else none
    | none => none
  | _, _, _ => none
def isStr (t : TV) : Bool := match rd t with
  | .str _ => true
  | _ => false
/-- list.index: of plain items -/
def idxD : D → D → Option Nat
  | .list ds, d => if ds.all flatD && flatD d then ds.findIdx? fun z => PyData.eqv z d else none
  | _, _ => none
def isLsD (t : TV) : Bool := match rd t with
  | .list _ => true
  | _ => false
def idxV (o t : TV) : Option TV := (idxD (rd o) (rd t)).map fun j => fl (.int (j : Nat))
/-- neither a dict by tuples nor an instance -/
def plainD (d : D) : Bool := match d with
  | .dict ((.none, _) :: _) => false
  | _ => true
def isTy (t : Ty) (d : D) : Bool := match t, d with
  | .bool, .bool _ => true
  | .int, .bool _ => true
  | .int, .int _ => true
  | .str, .str _ => true
  | .tuple, .tuple _ => true
  | .list, .list _ => true
  | .dict, .dict _ => true
  | _, _ => false
/-! ### targets -/
mutual
/-- storing an own value; pins: slots that must stay -/
def asgT (pins : List Nat) : Tg → O → Ev → Option Ev
  | .nm i, o, e => if pins.contains i || decide (e.length ≤ i) then none else some (e.set i (some (.own o)))
  | .tp ts, .fz (.tuple ds), e => asgTs pins ts (ds.map .fz) e
  | .tp ts, .fz (.list ds), e => asgTs pins ts (ds.map .fz) e
  | .tp ts, .tup os, e => asgTs pins ts os e
  | .tp _, _, _ => none
def asgTs (pins : List Nat) : List Tg → List O → Ev → Option Ev
  | [], [], e => some e
  | t :: ts, o :: os, e => match asgT pins t o e with
    | some e' => asgTs pins ts os e'
    | none => none
  | _, _, _ => none
end
/-! ### quiet: nothing owned is changed -/
mutual
def quiet : E → Bool
  | .nul => true
  | .con _ => true
  | .var _ => true
  | .glb _ _ => true
  | .bin _ a b => quiet a && quiet b
  | .neg a => quiet a
  | .fzn a => quiet a
  | .fzi a => quiet a
  | .dp _ => true
  | .cmp _ a b => quiet a && quiet b
  | .chn _ _ a b c => quiet a && quiet b && quiet c
  | .and a b => quiet a && quiet b
  | .or a b => quiet a && quiet b
  | .not a => quiet a
  | .ite c a b => quiet c && quiet a && quiet b
  | .ix a b => quiet a && quiet b
  | .slc a lo hi => quiet a && quiet lo && quiet hi
  | .tup es => quiets es
  | .lst es => quiets es
  | .call _ _ es _ => quiets es
  | .cio _ _ _ => false
  | .cfr _ _ _ => false
  | .blt _ es => quiets es
  | .isi a _ => quiet a
  | .idx a b => quiet a && quiet b
  | .met _ a b => quiet a && quiet b
  | .lc _ _ _ src c elt => quiets src && quiet c && quiet elt
  | .dnk => true
  | .dnt => true
  | .din _ a b => quiet a && quiet b
  | .dix a b => quiet a && quiet b
  | .dgt a b c => quiet a && quiet b && quiet c
  | .dcp a => quiet a
  | .mv _ => true
def quiets : List E → Bool
  | [] => true
  | e :: es => quiet e && quiets es
end
/-- reading for a store: an own value; what a slot owns is frozen -/
def stv (x : E) (ev : R TV) (e : Ev) : R O := match x with
  | .var i => match e[i]? with
    | some (some (.own (.fz d))) => .ok (.fz d) e
    | some (some (.own o)) => if noIns o then .ok (.fz (toD o)) (e.set i (some (.own (.fz (toD o))))) else .bad
    | some (some (.par d)) => match O1 d with
      | .fz d' => .ok (.fz d') e
      | _ => .bad
    | _ => .bad
  | _ => ev.bd fun t e1 => match t with
    | .own o => .ok o e1
    | .brw (.fz d) => .ok (.fz d) e1
    | .brw _ => .bad
/-- frozen whole -/
def frzO (o : O) : Option D := if noIns o then some (toD o) else none
/-- an argument to be borrowed -/
def shallow : O → Option D
  | .fz d => some d
  | .lst os => (fzAll os).map .list
  | .dct kvs => (fzAllK kvs).map fun es => .dict (es.map fun p => (keyD p.1, p.2))
  | _ => none
/-- at an io call: a slot borrowed -/
def brwAt (e : Ev) (i : Nat) : Option D := match e[i]? with
  | some (some (.own o)) => shallow o
  | some (some (.par d)) => some d
  | _ => none
def ioAt (e : Ev) (i : Nat) : Option O := match e[i]? with
  | some (some (.own o)) => some o
  | _ => none
/-- the arguments of an io call: the frozen ones have been read (fs), the others are slots -/
def ioArgs : List Md → List E → List D → Ev → Option (List AV)
  | [], [], [], _ => some []
  | .f :: ms, _ :: es, d :: fs, e => (ioArgs ms es fs e).map (.f d :: ·)
  | .b :: ms, .var i :: es, fs, e => match brwAt e i, ioArgs ms es fs e with
    | some d, some r => some (.b d :: r)
    | _, _ => none
  | .io :: ms, .var i :: es, fs, e => match ioAt e i, ioArgs ms es fs e with
    | some o, some r => some (.io o :: r)
    | _, _ => none
  | _, _, _, _ => none
def ioSlots : List Md → List E → List Nat
  | .io :: ms, .var i :: es => i :: ioSlots ms es
  | _ :: ms, _ :: es => ioSlots ms es
  | _, _ => []
def bSlots : List Md → List E → List Nat
  | .b :: ms, .var i :: es => i :: bSlots ms es
  | _ :: ms, _ :: es => bSlots ms es
  | _, _ => []
/-- behind an io call: what the callee left -/
def ioBack : List Md → List E → List (Option O) → Ev → Option Ev
  | .io :: ms, .var i :: es, some o :: os, e => ioBack ms es os (e.set i (some (.own o)))
  | .f :: ms, _ :: es, _ :: os, e => ioBack ms es os e
  | .b :: ms, _ :: es, _ :: os, e => ioBack ms es os e
  | [], [], [], e => some e
  | _, _, _, _ => none
/-- what is walked: the items -/
def rngL (lo : Int) (n : Nat) : List D := (List.range n).map fun k => .int (lo + (k : Nat))
def rngD (hi : Int) (n : Nat) : List D := (List.range n).map fun k => .int (hi - (k : Nat))
def enumL (ds : List D) (k : Nat) : List D := match ds with
  | [] => []
  | d :: r => .tuple [.int (k : Nat), d] :: enumL r (k + 1)
def zipL : List D → List D → List D
  | a :: as, b :: bs => .tuple [a, b] :: zipL as bs
  | _, _ => []
def seqD : D → Option (List D)
  | .list ds => some ds
  | .tuple ds => some ds
  | .str z => some (z.cps.toList.map sgn)
  | _ => none
def lstD : D → Option (List D)
  | .list ds => some ds
  | _ => none
def rngOk (i : Int) : Bool := decide (-(2 ^ 62) ≤ i) && decide (i < 2 ^ 62)
def walkD (k : Ik) (ts : List D) : Option (List D) := match k, ts with
  | .sq, [d] => seqD d
  | .rng, [.int n] => if rngOk n then some (rngL 0 n.toNat) else none
  | .rng, [.int a, .int b] => if rngOk a && rngOk b then some (rngL a (b - a).toNat) else none
  | .rng, [.int a, .int b, .int c] => if rngOk a && rngOk b && decide (c = -1) then some (rngD a (a - b).toNat) else none
  | .enm, [d] => (lstD d).map (enumL · 0)
  | .zip, [a, b] => match lstD a, lstD b with
    | some as, some bs => some (zipL as bs)
    | _, _ => none
  | _, _ => none
/-- the data of a source: every item frozen -/
def srcD (t : TV) : Option D := shallow (tvO t)
def wipeE (e : Ev) : List Nat → Ev
  | [] => e
  | i :: is => (wipeE e is).set i none
/-- all other slots -/
def compl (own : List Nat) (n : Nat) : List Nat := (List.range n).filter fun i => !own.contains i
/-- slots of a comprehension's own names: nothing owned stands there -/
def freeOwn (e : Ev) (own : List Nat) : Bool := own.all fun i => match e[i]? with
  | some none => true
  | some (some (.own (.fz _))) => true
  | some (some (.par _)) => true
  | _ => false
def restore (e0 e : Ev) : List Nat → Ev
  | [] => e
  | i :: is => (restore e0 e is).set i (e0[i]?.getD none)
/-- a comprehension's loop: acc what is made so far -/
def lcGo (turn : D → Ev → R (Option O)) : List D → List O → Ev → R (List O)
  | [], acc, e => .ok acc e
  | d :: ds, acc, e => (turn d e).bd fun o e1 => match o with
    | none => lcGo turn ds acc e1
    | some o => lcGo turn ds (acc ++ [o]) e1
def boolT (t : TV) (e : Ev) : R Bool := match t with
  | .own (.fz (.bool b)) => .ok b e
  | _ => .bad
def noExc {α : Type} (r : R α) : R α := match r with
  | .exc _ _ => .bad
  | r => r
/-- a part of a slice -/
def prt (x : E) (ev : R TV) (e : Ev) : R (Option Int) := match x with
  | .nul => .ok none e
  | _ => ev.bd fun t e1 => match rd t with
    | .int i => .ok (some i) e1
    | _ => .bad
/-- a comprehension's test -/
def cnd (x : E) (ev : R TV) (e : Ev) : R Bool := match x with
  | .nul => .ok true e
  | _ => ev.bd boolT
/-- frozen as it is told -/
def fznV : TV → Option TV
  | .own o => if noIns o then some (fl (toD o)) else none
  | .brw (.fz d) => some (fl d)
  | .brw _ => none
/-- the items frozen, the list itself stays -/
def fziV : TV → Option TV
  | .own (.lst os) => if noInss os then some (.own (.lst ((os.map toD).map .fz))) else none
  | .own (.fz d) => some (fl d)
  | _ => none
/-- nothing frozen within but plain values -/
def plainO : O → Bool
  | .fz d => flatD d
  | .lst os => plainOs os
  | .tup os => plainOs os
  | .dct _ => false
  | .dtp _ => false
  | .ins _ _ => false
where plainOs : List O → Bool
  | [] => true
  | o :: os => plainO o && plainOs os
/-- what the slots own, frozen for a while -/
def frz1 : Option SL → Option SL
  | some (.own o) => if noIns o then some (.own (.fz (toD o))) else none
  | s => s
def frzE (e : Ev) : Ev := e.map frz1
/-- behind a reading that froze all for its time -/
def dpR (e : Ev) : R TV → R TV
  | .ok (.own o) _ => if plainO o then .ok (.own o) e else .bad
  | .ok (.brw _) _ => .bad
  | .exc c _ => .exc c e
  | .bad => .bad
mutual
def evalE (cf : CF) : E → Ev → R TV
  | .nul, _ => .bad
  | .con d, e => if flatD d then .ok (fl d) e else .bad
  | .var i, e => match e[i]? with
    | some (some s) => .ok (rdSlot s) e
    | _ => .bad
  | .glb _ d, e => .ok (fl d) e
  | .bin op a b, e => (evalE cf a e).bd fun ta e1 => if quiet b || stable ta then (evalE cf b e1).bd fun tb e2 => R.lf (binOp op ta tb) e2 else .bad
  | .neg a, e => (evalE cf a e).bd fun ta e1 => match rd ta with
    | .int i => .ok (fl (.int (-i))) e1
    | _ => .bad
  | .fzn a, e => (evalE cf a e).bd fun t e1 => R.lf (fznV t) e1
  | .fzi a, e => (evalE cf a e).bd fun t e1 => R.lf (fziV t) e1
  | .dp a, e => dpR e (evalE cf a (frzE e))
  | .cmp op a b, e => (evalE cf a e).bd fun ta e1 => if quiet b || stable ta then (evalE cf b e1).bd fun tb e2 => R.lf ((cmpD op (rd ta) (rd tb)).map fun c => fl (.bool c)) e2 else .bad
  | .chn op op' a b c, e => if quiet a && quiet b && quiet c then
      (evalE cf a e).bd fun ta e1 => (evalE cf b e1).bd fun tb e2 => (R.lf (cmpD op (rd ta) (rd tb)) e2).bd fun k e2 =>
        if k then (evalE cf c e2).bd fun tc e3 => R.lf ((cmpD op' (rd tb) (rd tc)).map fun c => fl (.bool c)) e3 else .ok (fl (.bool false)) e2
    else .bad
  | .and a b, e => (evalE cf a e).bd fun ta e1 => (boolT ta e1).bd fun k e1 => if k then evalE cf b e1 else .ok (fl (.bool false)) e1
  | .or a b, e => (evalE cf a e).bd fun ta e1 => (boolT ta e1).bd fun k e1 => if k then .ok (fl (.bool true)) e1 else evalE cf b e1
  | .not a, e => (evalE cf a e).bd fun ta e1 => (boolT ta e1).bd fun k e1 => .ok (fl (.bool (!k))) e1
  | .ite c a b, e => (evalE cf c e).bd fun tc e1 => (boolT tc e1).bd fun k e1 => if k then evalE cf a e1 else evalE cf b e1
  | .ix a b, e => (evalE cf a e).bd fun ta e1 => if quiet b || stable ta then (evalE cf b e1).bd fun tb e2 => R.lf (ixT ta (rd tb)) e2 else .bad
  | .slc a lo hi, e => if quiet lo && quiet hi then (evalE cf a e).bd fun ta e1 => (prt lo (evalE cf lo e1) e1).bd fun l e2 => (prt hi (evalE cf hi e2) e2).bd fun h e3 => R.lf (slcV ta l h) e3 else .bad
  | .tup es, e => (evalSts cf es e).bd fun os e1 => .ok (match fzAll os with
      | some ds => .own (.fz (.tuple ds))
      | none => .own (.tup os)) e1
  | .lst es, e => (evalSts cf es e).bd fun os e1 => .ok (.own (.lst os)) e1
  | .call id ms es dl, e => if quiets es then (evalAs cf ms es e).bd fun avs e1 => match cf id (avs ++ dl.map .f) with
      | .ok r _ => .ok (.own r) e1
      | .exc c _ => .exc c e1
      | .bad => .bad
    else .bad
  | .cio id ms es, e => (evalFs cf ms es e).bd fun fs e1 => if (ioSlots ms es).Nodup ∧ (bSlots ms es).all (fun i => !(ioSlots ms es).contains i) then match ioArgs ms es fs e1 with
      | none => .bad
      | some avs => match cf id avs with
        | .ok r outs => (R.lf (ioBack ms es outs e1) e1).bd fun e2 _ => .ok (.own r) e2
        | .exc c outs => (R.lf (ioBack ms es outs e1) e1).bd fun e2 _ => .exc c e2
        | .bad => .bad
    else .bad
  | .cfr id ms es, e => if quiets es then (evalGs cf ms es e).bd fun avs e1 => match cf id avs with
      | .ok r _ => .ok (.own r) e1
      | .exc c _ => .exc c e1
      | .bad => .bad
    else .bad
  | .blt f es, e => if quiets es then (evalTs cf es e).bd fun ts e1 => R.lf (bltV f ts) e1 else .bad
  | .isi a t, e => (evalE cf a e).bd fun ta e1 => if plainD (rd ta) then .ok (fl (.bool (isTy t (rd ta)))) e1 else .bad
  | .idx a b, e => (evalE cf a e).bd fun ta e1 => if isLsD ta then (if quiet b || stable ta then (evalE cf b e1).bd fun tb e2 => R.lf (idxV ta tb) e2 else .bad) else .bad
  | .met m a b, e => (evalE cf a e).bd fun ta e1 => if isStr ta then (if quiet b || stable ta then (evalE cf b e1).bd fun tb e2 => R.lf (metV m ta tb) e2 else .bad) else .bad
  | .lc own t k src c elt, e => if quiets src && quiet c && quiet elt then
      noExc ((evalTs cf src e).bd fun ts e1 => if freeOwn e1 own then match ts.mapM srcD with
        | none => .bad
        | some ds => match walkD k ds with
          | none => .bad
          | some xs => (lcGo (fun d e => match asgT (compl own (wipeE e own).length) t (.fz d) (wipeE e own) with
              | none => .bad
              | some e1 => (cnd c (evalE cf c e1) e1).bd fun b e2 => if b then (stv elt (evalE cf elt e2) e2).bd fun o e3 => .ok (some o) e3 else .ok none e2) xs [] e1).bd fun os e2 =>
            if os.length ≤ sizeLine then .ok (.own (.lst os)) (restore e1 e2 own) else .bad
        else .bad)
    else .bad
  | .dnk, e => .ok (.own (.dct [])) e
  | .dnt, e => .ok (.own (.dtp [])) e
  | .din neg a b, e => (evalE cf a e).bd fun ta e1 => if quiet b || stable ta then (evalE cf b e1).bd fun tb e2 => R.lf ((dLookN tb (rd ta)).map fun r => fl (.bool (if neg then !r.isSome else r.isSome))) e2 else .bad
  | .dix a b, e => (evalE cf a e).bd fun ta e1 => if quiet b || stable ta then (evalE cf b e1).bd fun tb e2 => R.lf ((dLook ta (rd tb)).bind fun r => r.map fl) e2 else .bad
  | .dgt a b c, e => if quiet a && quiet b && quiet c then (evalE cf a e).bd fun ta e1 => if isDt ta then (evalE cf b e1).bd fun tb e2 => (evalE cf c e2).bd fun tc e3 => R.lf ((dLook ta (rd tb)).map fun r => orT r tc) e3 else .bad else .bad
  | .dcp a, e => (evalE cf a e).bd fun ta e1 => R.lf ((dicK ta).map fun es => .own (.dct (fzK es))) e1
  | .mv i, e => match e[i]? with
    | some (some (.own o)) => .ok (.own o) (e.set i none)
    | _ => .bad
/-- values, all kept on the way -/
def evalTs (cf : CF) : List E → Ev → R (List TV)
  | [], e => .ok [] e
  | x :: xs, e => (evalE cf x e).bd fun t e1 => (evalTs cf xs e1).bd fun ts e2 => .ok (t :: ts) e2
/-- values to be stored -/
def evalSts (cf : CF) : List E → Ev → R (List O)
  | [], e => .ok [] e
  | x :: xs, e => (stv x (evalE cf x e) e).bd fun o e1 => (evalSts cf xs e1).bd fun os e2 => .ok (o :: os) e2
/-- the arguments of a call that changes nothing -/
def evalAs (cf : CF) : List Md → List E → Ev → R (List AV)
  | [], [], e => .ok [] e
  | .f :: ms, x :: xs, e => (stv x (evalE cf x e) e).bd fun o e1 => match frzO o with
    | some d => (evalAs cf ms xs e1).bd fun r e2 => .ok (.f d :: r) e2
    | none => .bad
  | .b :: ms, x :: xs, e => (evalE cf x e).bd fun t e1 => match shallow (tvO t) with
    | some d => (evalAs cf ms xs e1).bd fun r e2 => .ok (.b d :: r) e2
    | none => .bad
  | _, _, _ => .bad
/-- the arguments of a call that may change what is made on the spot for it -/
def evalGs (cf : CF) : List Md → List E → Ev → R (List AV)
  | [], [], e => .ok [] e
  | .f :: ms, x :: xs, e => (stv x (evalE cf x e) e).bd fun o e1 => match frzO o with
    | some d => (evalGs cf ms xs e1).bd fun r e2 => .ok (.f d :: r) e2
    | none => .bad
  | .io :: ms, x :: xs, e => (evalE cf x e).bd fun t e1 => match t with
    | .own o => (evalGs cf ms xs e1).bd fun r e2 => .ok (.io o :: r) e2
    | .brw _ => .bad
  | _, _, _ => .bad
/-- the frozen arguments of an io call -/
def evalFs (cf : CF) : List Md → List E → Ev → R (List D)
  | [], [], e => .ok [] e
  | .f :: ms, x :: xs, e => (stv x (evalE cf x e) e).bd fun o e1 => match frzO o with
    | some d => (evalFs cf ms xs e1).bd fun r e2 => .ok (d :: r) e2
    | none => .bad
  | .b :: ms, .var i :: xs, e => match e[i]? with
    | some (some _) => evalFs cf ms xs e
    | _ => .bad
  | .io :: ms, .var i :: xs, e => match e[i]? with
    | some (some _) => evalFs cf ms xs e
    | _ => .bad
  | _, _, _ => .bad
end
end TL
namespace TL
open PySem PySem.Spec L2
/-! ### statements -/
inductive Fl where
  | nx | brk | cont
  | ret (o : O)
def forGo (turn : D → Ev → R Fl) : List D → Ev → R Fl
  | [], e => .ok .nx e
  | d :: ds, e => match turn d e with
    | .ok .nx e1 => forGo turn ds e1
    | .ok .cont e1 => forGo turn ds e1
    | .ok .brk e1 => .ok .nx e1
    | .ok (.ret o) e1 => .ok (.ret o) e1
    | .exc c e1 => .exc c e1
    | .bad => .bad
def whileGo (test : Ev → R Bool) (body : Ev → R Fl) : Nat → Ev → R Fl
  | 0, _ => .bad
  | n + 1, e => (test e).bd fun k e1 => if k then (match body e1 with
      | .ok .nx e2 => whileGo test body n e2
      | .ok .cont e2 => whileGo test body n e2
      | .ok .brk e2 => .ok .nx e2
      | .ok (.ret o) e2 => .ok (.ret o) e2
      | .exc c e2 => .exc c e2
      | .bad => .bad) else .ok .nx e1
/-- a part changed -/
def modO : List Int → (O → Option O) → O → Option O
  | [], f, o => f o
  | k :: π, f, .lst os => match ixN os.length k with
    | some j => match os[j]? with
      | some o => (modO π f o).map fun o' => .lst (os.set j o')
      | none => none
    | none => none
  | k :: π, f, .tup os => match ixN os.length k with
    | some j => match os[j]? with
      | some o => (modO π f o).map fun o' => .tup (os.set j o')
      | none => none
    | none => none
  | _ :: _, _, _ => none
def subO : List Int → O → Option O
  | [], o => some o
  | k :: π, .lst os => (atI os k).bind (subO π)
  | k :: π, .tup os => (atI os k).bind (subO π)
  | _ :: _, _ => none
def ownAt (e : Ev) (i : Nat) : Option O := match e[i]? with
  | some (some (.own o)) => some o
  | _ => none
def subAt (e : Ev) (i : Nat) (π : List Int) : Option O := (ownAt e i).bind (subO π)
def evalPa (cf : CF) : Pa → Ev → R (Nat × List Int)
  | .var i, e => match ownAt e i with
    | some _ => .ok (i, []) e
    | none => .bad
  | .ix p x, e => if quiet x then (evalPa cf p e).bd fun r e1 => (evalE cf x e1).bd fun t e2 => match rd t with
      | .int k => match subAt e2 r.1 (r.2 ++ [k]) with
        | some _ => .ok (r.1, r.2 ++ [k]) e2
        | none => .bad
      | _ => .bad
    else .bad
def isLst : Option O → Bool
  | some (.lst _) => true
  | _ => false
/-- the slot's tree changed at a path -/
def modAt (e : Ev) (i : Nat) (π : List Int) (f : O → Option O) : Option Ev := match ownAt e i with
  | some o => (modO π f o).map fun o' => e.set i (some (.own o'))
  | none => none
def appF (x : O) : O → Option O
  | .lst os => if os.length < sizeLine then some (.lst (os ++ [x])) else none
  | _ => none
def popF : O → Option O
  | .lst os => if os = [] then none else some (.lst os.dropLast)
  | _ => none
def popiF (k : Int) : O → Option O
  | .lst os => if os.length ≤ sizeLine then (ixN os.length k).map fun j => .lst (os.eraseIdx j) else none
  | _ => none
def setF (k : Int) (x : O) : O → Option O
  | .lst os => (ixN os.length k).map fun j => .lst (os.set j x)
  | _ => none
def extF (xs : List O) : O → Option O
  | .lst os => if os.length + xs.length ≤ sizeLine then some (.lst (os ++ xs)) else none
  | _ => none
def clrF : O → Option O
  | .lst _ => some (.lst [])
  | _ => none
def putF (k : D) (x : O) : O → Option O
  | .dct kvs => match keyOf k, x with
    | some k, .fz d => if kvs.length < sizeLine then some (.dct (setK' kvs k (.fz d))) else none
    | _, _ => none
  | .dtp kvs => match keysOf k, x with
    | some ks, .fz d => if kvs.length < sizeLine then some (.dtp (setK' kvs ks d)) else none
    | _, _ => none
  | _ => none
def isDic : Option O → Bool
  | some (.dct _) => true
  | some (.dtp _) => true
  | _ => false
def topO (e : Ev) (i : Nat) (π : List Int) : Option O := match ownAt e i with
  | some o => match subO π o with
    | some (.lst os) => os.getLast?
    | _ => none
  | none => none
/-- a value handed back -/
def retv (pins : List Nat) (x : E) (ev : R TV) (e : Ev) : R O := match x with
  | .var i => if pins.contains i then stv x ev e else match e[i]? with
    | some (some (.own o)) => .ok o (e.set i none)
    | _ => stv x ev e
  | _ => stv x ev e
/-- sources of a for: what slots own is lent -/
def lentOf : List E → Ev → List (Nat × O)
  | [], _ => []
  | .var i :: xs, e => match e[i]? with
    | some (some (.own (.fz _))) => lentOf xs e
    | some (some (.own o)) => (i, o) :: lentOf xs e
    | _ => lentOf xs e
  | _ :: xs, e => lentOf xs e
def lendE : List (Nat × O) → Ev → Option Ev
  | [], e => some e
  | (i, o) :: r, e => match shallow o with
    | some d => lendE r (e.set i (some (.par d)))
    | none => none
def lendBack : List (Nat × O) → Ev → Ev
  | [], e => e
  | (i, o) :: r, e => (lendBack r e).set i (some (.own o))
def srcAt (x : E) (t : TV) (e : Ev) : Option D := match x with
  | .var i => match e[i]? with
    | some (some (.own o)) => shallow o
    | some (some (.par d)) => some d
    | _ => none
  | _ => if stable t then srcD t else none
def srcsAt : List E → List TV → Ev → Option (List D)
  | [], [], _ => some []
  | x :: xs, t :: ts, e => match srcAt x t e, srcsAt xs ts e with
    | some d, some ds => some (d :: ds)
    | _, _ => none
  | _, _, _ => none
def lentOk (l : List (Nat × O)) (pins : List Nat) : Bool := decide (l.map (·.1)).Nodup && l.all fun p => !pins.contains p.1
def backR (l : List (Nat × O)) : R Fl → R Fl
  | .ok f e => .ok f (lendBack l e)
  | .exc c e => .exc c (lendBack l e)
  | .bad => .bad
def R.fl {α : Type} (r : R α) : R Fl := r.bd fun _ e => .ok .nx e
def intAt (e : Ev) (i : Nat) : Option Int := match e[i]? with
  | some (some (.own (.fz (.int a)))) => some a
  | _ => none
def augV (op : Operator) (a : Int) (d : D) : Option Int := match op, d with
  | .Add, .int b => some (a + b)
  | .Sub, .int b => some (a - b)
  | _, _ => none
/-- slots forgotten at the end -/
def wipeR (J : List Nat) : R Fl → R Fl
  | .ok f e => .ok f (wipeE e J)
  | .exc c e => .exc c (wipeE e J)
  | .bad => .bad
mutual
def vH (c : Nat) : HE → Ev → Option TV
  | .con d, _ => if flatD d then some (fl d) else none
  | .var i, e => match e[i]? with
    | some (some s) => some (rdSlot s)
    | _ => none
  | .isx _ _ ids, _ => some (fl (.bool (ids.contains c)))
  | .isv _, _ => some (fl (.bool true))
  | .or x y, e => match vH c x e with
    | some (.own (.fz (.bool true))) => some (fl (.bool true))
    | some (.own (.fz (.bool false))) => vH c y e
    | _ => none
  | .int x, e => match vH c x e with
    | some (.own (.fz (.bool k))) => some (fl (.int (if k then 1 else 0)))
    | _ => none
  | .add x y, e => match vH c x e, vH c y e with
    | some ta, some tb => binOp .Add ta tb
    | _, _ => none
  | .lst es, e => (vHs c es e).map fun os => .own (.lst os)
  | .ix x y, e => match vH c x e, vH c y e with
    | some ta, some tb => ixT ta (rd tb)
    | _, _ => none
def vHs (c : Nat) : List HE → Ev → Option (List O)
  | [], _ => some []
  | x :: xs, e => match vH c x e, vHs c xs e with
    | some (.own o), some os => some (o :: os)
    | _, _ => none
end
def vSu (pins : List Nat) (c : Nat) : Su → Ev → Option Ev
  | [], e => some e
  | (j, z) :: r, e => match vH c z e with
    | some (.own o) => match asgT pins (.nm j) o e with
      | some e1 => vSu pins c r e1
      | none => none
    | _ => none
def tryR (known : Nat → Bool) (ids : List Nat) (i : Nat) (su : Su) (pins : List Nat) : R Fl → R Fl
  | .exc c e1 => if known c && decide (i < e1.length) then (if ids.contains c then (match vSu pins c su e1 with
      | some e2 => .ok .nx (e2.set i none)
      | none => .bad) else .exc c e1) else .bad
  | r => r
def tryM (known : Nat → Bool) (pins : List Nat) (L : List (List Nat × Su)) : R Fl → R Fl
  | .exc c e1 => if known c then (match L.find? fun p => p.1.contains c with
      | some p => (match vSu pins c p.2 e1 with
        | some e2 => .ok .nx e2
        | none => .bad)
      | none => .exc c e1) else .bad
  | r => r
def tryH (kn : List Nat) (pins : List Nat) : List Hd → R Fl → R Fl
  | [⟨_, ids, some i, su⟩], r => if pins.contains i then .bad else tryR (fun c => kn.contains c) ids i su pins r
  | hs, r => tryM (fun c => kn.contains c) pins (hs.map fun h => (h.ids, h.su)) r
/-- behind a part of a tree that a name held for a while -/
def aliB (i : Nat) (r : Nat × List Int) (o : O) (e : Ev) : Option Ev := match e[i]? with
  | some (some (.own o')) => (modO r.2 (fun _ => some o') o).map fun o2 => (e.set i none).set r.1 (some (.own o2))
  | _ => none
def aliR (i : Nat) (r : Nat × List Int) (o : O) : R Fl → R Fl
  | .ok f e => match aliB i r o e with
    | some e2 => .ok f e2
    | none => .bad
  | .exc c e => match aliB i r o e with
    | some e2 => .exc c e2
    | none => .bad
  | .bad => .bad
mutual
def execS (cf : CF) (pins : List Nat) : S → Ev → R Fl
  | .asg t x, e => (stv x (evalE cf x e) e).bd fun o e1 => (R.lf (asgT pins t o e1) e1).bd fun e2 _ => .ok .nx e2
  | .aug i op x, e => if !pins.contains i then match intAt e i with
      | some a => (evalE cf x e).bd fun t e1 => match augV op a (rd t) with
        | some d => .ok .nx (e1.set i (some (.own (.fz (.int d)))))
        | none => .bad
      | none => .bad
    else .bad
  | .app p x, e => if quiet x then (evalPa cf p e).bd fun r e1 => if isLst (subAt e1 r.1 r.2) then (stv x (evalE cf x e1) e1).bd fun o e2 => (R.lf (modAt e2 r.1 r.2 (appF o)) e2).bd fun e3 _ => .ok .nx e3 else .bad
    else .bad
  | .popd p, e => (evalPa cf p e).bd fun r e1 => (R.lf (modAt e1 r.1 r.2 popF) e1).bd fun e2 _ => .ok .nx e2
  | .asgPop t p, e => (evalPa cf p e).bd fun r e1 => match topO e1 r.1 r.2 with
    | none => .bad
    | some o => (R.lf (modAt e1 r.1 r.2 popF) e1).bd fun e2 _ => (R.lf (asgT pins t o e2) e2).bd fun e3 _ => .ok .nx e3
  | .setix p i x, e => if quiet i then (stv x (evalE cf x e) e).bd fun o e1 => (evalPa cf p e1).bd fun r e2 => (evalE cf i e2).bd fun t e3 => match rd t with
      | .int k => (R.lf (modAt e3 r.1 r.2 (setF k o)) e3).bd fun e4 _ => .ok .nx e4
      | _ => .bad
    else .bad
  | .ext p x, e => if quiet x then (evalPa cf p e).bd fun r e1 => if isLst (subAt e1 r.1 r.2) then (evalE cf x e1).bd fun t e2 => match t with
      | .own (.lst xs) => (R.lf (modAt e2 r.1 r.2 (extF xs)) e2).bd fun e3 _ => .ok .nx e3
      | _ => .bad
    else .bad else .bad
  | .clr p, e => (evalPa cf p e).bd fun r e1 => (R.lf (modAt e1 r.1 r.2 clrF) e1).bd fun e2 _ => .ok .nx e2
  | .popi p x, e => if quiet x then (evalPa cf p e).bd fun r e1 => if isLst (subAt e1 r.1 r.2) then (evalE cf x e1).bd fun t e2 => match rd t with
      | .int k => (R.lf (modAt e2 r.1 r.2 (popiF k)) e2).bd fun e3 _ => .ok .nx e3
      | _ => .bad
    else .bad else .bad
  | .dput p k x, e => if quiet k then (stv x (evalE cf x e) e).bd fun o e1 => (evalPa cf p e1).bd fun r e2 => (evalE cf k e2).bd fun t e3 => (R.lf (modAt e3 r.1 r.2 (putF (rd t) o)) e3).bd fun e4 _ => .ok .nx e4
    else .bad
  | .expr x, e => (evalE cf x e).fl
  | .ret x, e => (retv pins x (evalE cf x e) e).bd fun o e1 => .ok (.ret o) e1
  | .retN, e => .ok (.ret (.fz .none)) e
  | .ifs c a b, e => (evalE cf c e).bd fun t e1 => (boolT t e1).bd fun k e1 => if k then execSs cf pins a e1 else execSs cf pins b e1
  | .fors t k src body, e => if quiets src then (evalTs cf src e).bd fun ts e1 => match srcsAt src ts e1 with
    | none => .bad
    | some ds => match walkD k ds, lendE (lentOf src e1) e1 with
      | some xs, some e2 => if lentOk (lentOf src e1) pins then
          backR (lentOf src e1) (forGo (fun d e => match asgT ((lentOf src e1).map (·.1) ++ pins) t (.fz d) e with
            | none => .bad
            | some e' => execSs cf ((lentOf src e1).map (·.1) ++ pins) body e') xs e2)
        else .bad
      | _, _ => .bad
    else .bad
  | .whiles n c body, e => whileGo (fun e => (evalE cf c e).bd boolT) (execSs cf pins body) n e
  | .brk, e => .ok .brk e
  | .cont, e => .ok .cont e
  | .pass, e => .ok .nx e
  | .raise c _, e => .exc c e
  | .tryx kn hs body, e => tryH kn pins hs (execSs cf pins body e)
  | .wip J s, e => wipeR J (execS cf pins s (wipeE e J))
  | .blk J ss, e => wipeR J (execSs cf pins ss e)
  | .frz i s, e => match e[i]? with
    | some (some (.own o)) => if noIns o then execS cf pins s (e.set i (some (.own (.fz (toD o))))) else .bad
    | _ => .bad
  | .ali i p ss, e => (evalPa cf p e).bd fun r e1 => match ownAt e1 r.1 with
    | none => .bad
    | some o => match subO r.2 o with
      | none => .bad
      | some sub => if !pins.contains i && decide (i < e1.length) && decide (i ≠ r.1) then aliR i r o (execSs cf (i :: r.1 :: pins) ss ((e1.set r.1 none).set i (some (.own sub)))) else .bad
def execSs (cf : CF) (pins : List Nat) : List S → Ev → R Fl
  | [], e => .ok .nx e
  | s :: ss, e => match execS cf pins s e with
    | .ok .nx e1 => execSs cf pins ss e1
    | r => r
end
/-! ### functions -/
structure Fn where
  name : Str
  qual : Str
  N : List Str
  ms : List Md
  body : List S
  dfl : Option D := none
def slOf : List Md → List AV → Option Ev
  | [], [] => some []
  | .f :: ms, .f d :: as => (slOf ms as).map (some (.own (.fz d)) :: ·)
  | .b :: ms, .b d :: as => (slOf ms as).map (some (.par d) :: ·)
  | .io :: ms, .io o :: as => (slOf ms as).map (some (.own o) :: ·)
  | _, _ => none
def pinsOf : List Md → Nat → List Nat
  | [], _ => []
  | .io :: ms, i => i :: pinsOf ms (i + 1)
  | _ :: ms, i => pinsOf ms (i + 1)
def outsOf : List Md → Ev → Option (List (Option O))
  | [], _ => some []
  | .io :: ms, some (.own o) :: e => (outsOf ms e).map (some o :: ·)
  | .io :: _, _ => none
  | _ :: ms, _ :: e => (outsOf ms e).map (none :: ·)
  | _ :: _, [] => none
def ends (ms : List Md) (r : R Fl) : CR := match r with
  | .ok (.ret o) e => match outsOf ms e with
    | some os => .ok o os
    | none => .bad
  | .ok .nx e => match outsOf ms e with
    | some os => .ok (.fz .none) os
    | none => .bad
  | .exc c e => match outsOf ms e with
    | some os => .exc c os
    | none => .bad
  | _ => .bad
def callK (tb : Nat → Option Fn) : Nat → CF
  | 0, _, _ => .bad
  | n + 1, id, as => match tb id with
    | none => .bad
    | some fn => match slOf fn.ms as with
      | none => .bad
      | some e => ends fn.ms (execSs (callK tb n) (pinsOf fn.ms 0) fn.body (e ++ List.replicate (fn.N.length - e.length) none))
end TL
namespace TL
open PySem PySem.Spec L2
/-- the state, with loose owned addresses L -/
structure SX (K : PySem.W.Frag) (F P H : Hp) (ts : List V) (tv : List TV) (σ : St) (env : Ev) (L : List Addr) : Prop where
  ex : ∃ L1 L2, AT K F H ts tv L1 ∧ AS K F P H σ env L2 ∧ Good F P (L ++ (L1 ++ L2))
  fh : Same F H
  ph : Same P H
  trk : ∀ b ∈ L, ∃ u, H b = some u
section
variable {K : PySem.W.Frag} {F F' P H H' : Hp} {ts : List V} {tv : List TV} {σ : St} {env : Ev} {L L' L1 : List Addr} {t : TV} {v : V} {p : Addr}
theorem SR.sx (s : SR K F P H ts tv σ env) : SX K F P H ts tv σ env [] := by
  obtain ⟨L1, L2, a, b, g⟩ := s.ex
  exact ⟨⟨L1, L2, a, b, g⟩, s.fh, s.ph, fun b hb => by simp at hb⟩
theorem SX.weak (s : SX K F P H ts tv σ env L) (h : ∀ b, L'.count b ≤ L.count b) : SX K F P H ts tv σ env L' := by
  obtain ⟨M1, M2, a, b, g⟩ := s.ex
  refine ⟨⟨M1, M2, a, b, g.sub fun b => ?_⟩, s.fh, s.ph, fun b hb => s.trk b ?_⟩
  · simp only [List.count_append]; have := h b; omega
  · have h1 := List.count_pos_iff.mpr hb
    exact List.count_pos_iff.mp (Nat.lt_of_lt_of_le h1 (h b))
theorem SX.sr (s : SX K F P H ts tv σ env L) : SR K F P H ts tv σ env := by
  obtain ⟨M1, M2, a, b, g⟩ := (s.weak (L' := []) fun b => by simp).ex
  exact ⟨⟨M1, M2, a, b, g⟩, s.fh, s.ph⟩
theorem SX.pop (s : SX K F P H (v :: ts) (t :: tv) σ env L) : ∃ L1, RT K F H t v L1 ∧ SX K F P H ts tv σ env (L1 ++ L) := by
  obtain ⟨M1, M2, a, b, g⟩ := s.ex
  cases a with
  | cons r a =>
    rename_i N1 N2
    refine ⟨N1, r, ⟨_, _, a, b, g.sub fun b => ?_⟩, s.fh, s.ph, fun b hb => ?_⟩
    · simp only [List.count_append]; omega
    · rcases List.mem_append.mp hb with hb | hb
      · cases r with
        | own r => exact r.trk b hb
        | brw r => simp at hb
      · exact s.trk b hb
theorem SX.push (s : SX K F P H ts tv σ env (L1 ++ L)) (r : RT K F H t v L1) : SX K F P H (v :: ts) (t :: tv) σ env L := by
  obtain ⟨M1, M2, a, b, g⟩ := s.ex
  refine ⟨⟨_, _, .cons r a, b, g.sub fun b => ?_⟩, s.fh, s.ph, fun b hb => s.trk b (by simp [hb])⟩
  simp only [List.count_append]; omega
/-- something flat or frozen on top -/
theorem SX.pushF (s : SX K F P H ts tv σ env L) {d : D} (h : Is K F d v) : SX K F P H (v :: ts) (fl d :: tv) σ env L := SX.push (L1 := []) s (.own (.fz h))
theorem SX.dis (s : SX K F P H ts tv σ env (p :: L)) : p ∉ L := fun h => by
  obtain ⟨M1, M2, a, b, g⟩ := s.ex
  have h1 := g.one p
  have h2 := List.count_pos_iff.mpr h
  simp only [List.count_append, List.count_cons_self] at h1
  omega
theorem SX.disA (s : SX K F P H ts tv σ env (L1 ++ L)) {b : Addr} (h : b ∈ L1) : b ∉ L := fun h' => by
  obtain ⟨M1, M2, a, c, g⟩ := s.ex
  have h1 := g.one b
  have h2 := List.count_pos_iff.mpr h
  have h3 := List.count_pos_iff.mpr h'
  simp only [List.count_append] at h1
  omega
theorem SX.fF (s : SX K F P H ts tv σ env L) {b : Addr} (h : b ∈ L) : F b = none := by
  obtain ⟨M1, M2, a, c, g⟩ := s.ex
  exact g.fF b (by simp [h])
theorem SX.fP (s : SX K F P H ts tv σ env L) {b : Addr} (h : b ∈ L) : P b = none := by
  obtain ⟨M1, M2, a, c, g⟩ := s.ex
  exact g.fP b (by simp [h])
/-- the heap grows -/
theorem SX.grow (s : SX K F P H ts tv σ env L) (e : Same H H') : SX K F P H' ts tv σ env L := by
  obtain ⟨M1, M2, a, b, g⟩ := s.ex
  exact ⟨⟨M1, M2, a.same (Same.refl F) e, b.same (Same.refl F) e, g⟩, s.fh.trans e, s.ph.trans e, fun b hb => by
    obtain ⟨u, h⟩ := s.trk b hb
    exact ⟨u, e b u h⟩⟩
theorem SX.new (s : SX K F P H ts tv σ env L) {o : HO} (hp : H p = none) : SX K F P (upd H p o) ts tv σ env (p :: L) := by
  have e : Same H (upd H p o) := upd_sameH hp
  obtain ⟨M1, M2, a, b, g⟩ := s.ex
  refine ⟨⟨M1, M2, a.same (Same.refl F) e, b.same (Same.refl F) e, Good.cons g (fun hm => ?_) ?_ ?_⟩, s.fh.trans e, s.ph.trans e, fun b hb => ?_⟩
  · have : ∃ u, H p = some u := by
      rcases List.mem_append.mp hm with hm | hm
      · exact s.trk p hm
      · rcases List.mem_append.mp hm with hm | hm
        · exact a.trk p hm
        · exact b.trk p hm
    obtain ⟨u, h⟩ := this
    rw [hp] at h; cases h
  · cases q : F p with
    | none => rfl
    | some u => rw [s.fh p u q] at hp; cases hp
  · cases q : P p with
    | none => rfl
    | some u => rw [s.ph p u q] at hp; cases hp
  · rcases List.mem_cons.mp hb with e' | hb
    · subst e'; exact ⟨o, upd_same⟩
    · obtain ⟨u, h⟩ := s.trk b hb
      exact ⟨u, e b u h⟩
/-- a tracked owned object changed -/
theorem SX.write (s : SX K F P H ts tv σ env (p :: L)) (st : ∀ t ∈ tv, stable t = true) {o : HO} : SX K F P (upd H p o) ts tv σ env (p :: L) := by
  obtain ⟨M1, M2, a, b, g⟩ := s.ex
  have n1 : ∀ {M : List Addr}, (∀ b ∈ M, b ∈ L ++ (M1 ++ M2)) → ∀ b ∈ M, upd H p o b = H b := fun hM b hb => by
    refine upd_ne fun z => ?_
    subst z
    have h1 := g.one b
    have h2 := List.count_pos_iff.mpr (hM b hb)
    simp only [List.cons_append, List.count_cons_self] at h1
    omega
  refine ⟨⟨M1, M2, a.mono (Same.refl F) st (n1 fun b hb => by simp [hb]), b.mono (Same.refl F) (n1 fun b hb => by simp [hb]), g⟩, fun b u h => ?_, fun b u h => ?_, fun b hb => ?_⟩
  · rw [upd_ne fun z => by subst z; rw [g.fF b (by simp)] at h; cases h]
    exact s.fh b u h
  · rw [upd_ne fun z => by subst z; rw [g.fP b (by simp)] at h; cases h]
    exact s.ph b u h
  · by_cases e : b = p
    · subst e; exact ⟨o, upd_same⟩
    · rw [upd_ne e]; exact s.trk b hb
/-- loose addresses frozen -/
theorem SX.frz (s : SX K F P H ts tv σ env (L1 ++ L)) : Ext P F (wid F H L1) ∧ SX K (wid F H L1) P H ts tv σ env L := by
  have nF : ∀ b ∈ L1, F b = none := fun b hb => s.fF (by simp [hb])
  have up : Same F (wid F H L1) := wid_same nF
  refine ⟨⟨up, fun b o h n => ?_⟩, ?_⟩
  · by_cases hb : b ∈ L1
    · exact s.fP (by simp [hb])
    · rw [wid_out hb] at h; rw [h] at n; cases n
  · obtain ⟨M1, M2, a, b, g⟩ := s.ex
    refine ⟨⟨M1, M2, a.same up (Same.refl H), b.same up (Same.refl H), ?_⟩, wid_sub s.fh, s.ph, fun b hb => s.trk b (by simp [hb])⟩
    have g2 : Good F P (L ++ (M1 ++ M2)) := g.sub fun b => by simp only [List.count_append]; omega
    refine ⟨g2.one, fun b hb => ?_, g2.fP⟩
    rw [wid_out fun h1 => ?_]
    · exact g2.fF b hb
    · have h2 := g.one b
      have h3 := List.count_pos_iff.mpr h1
      have h4 := List.count_pos_iff.mpr hb
      simp only [List.append_assoc, List.count_append] at h2 h4
      omega
theorem SX.ext (s : SX K F P H ts tv σ env L) : Ext P F F := Ext.refl P F
/-- a slot taken -/
theorem SX.take (s : SX K F P H ts tv σ env L) {i : Nat} {sl : SL} (h : env[i]? = some (some sl)) : ∃ v L1, σ[i]? = some (some v) ∧ RL K F P H sl v L1 ∧ SX K F P H ts tv σ (env.set i none) (L1 ++ L) := by
  obtain ⟨M1, M2, a, b, g⟩ := s.ex
  obtain ⟨v, L1, L2, h1, h2, h3, h4⟩ := b.take h
  refine ⟨v, L1, h1, h2, ⟨M1, L2, a, h3, g.sub fun b => ?_⟩, s.fh, s.ph, fun b hb => ?_⟩
  · have := h4 b
    simp only [List.count_append]; omega
  · rcases List.mem_append.mp hb with hb | hb
    · cases h2 with
      | own r => exact r.trk b hb
      | par r => simp at hb
    · exact s.trk b hb
theorem SX.slot (s : SX K F P H ts tv σ env L) {i : Nat} {sl : SL} (h : env[i]? = some (some sl)) : ∃ v L1, σ[i]? = some (some v) ∧ RL K F P H sl v L1 := by
  obtain ⟨v, L1, h1, h2, _⟩ := s.take h
  exact ⟨v, L1, h1, h2⟩
theorem SX.len (s : SX K F P H ts tv σ env L) : σ.length = env.length := by
  obtain ⟨M1, M2, a, b, g⟩ := s.ex
  exact b.length
/-- a slot filled with a new value -/
theorem SX.put (s : SX K F P H ts tv σ env (L1 ++ L)) {i : Nat} {sl : SL} (h : env[i]? = some none) (r : RL K F P H sl v L1) : SX K F P H ts tv (σ.set i (some v)) (env.set i (some sl)) L := by
  obtain ⟨M1, M2, a, b, g⟩ := s.ex
  obtain ⟨L', h1, h2⟩ := b.put h r
  refine ⟨⟨M1, L', a, h1, g.sub fun b => ?_⟩, s.fh, s.ph, fun b hb => s.trk b (by simp [hb])⟩
  have := h2 b
  simp only [List.count_append]; omega
/-- a slot filled with what stands there -/
theorem SX.back (s : SX K F P H ts tv σ env (L1 ++ L)) {i : Nat} {sl : SL} (h : env[i]? = some none) (hv : σ[i]? = some (some v)) (r : RL K F P H sl v L1) : SX K F P H ts tv σ (env.set i (some sl)) L := by
  obtain ⟨M1, M2, a, b, g⟩ := s.ex
  obtain ⟨L', h1, h2⟩ := b.back h hv r
  refine ⟨⟨M1, L', a, h1, g.sub fun b => ?_⟩, s.fh, s.ph, fun b hb => s.trk b (by simp [hb])⟩
  have := h2 b
  simp only [List.count_append]; omega
theorem SX.drop (s : SX K F P H ts tv σ env L) (i : Nat) : SX K F P H ts tv σ (env.set i none) L := by
  obtain ⟨M1, M2, a, b, g⟩ := s.ex
  obtain ⟨L', h1, h2⟩ := b.drop (i := i)
  refine ⟨⟨M1, L', a, h1, g.sub fun b => ?_⟩, s.fh, s.ph, s.trk⟩
  have := h2 b
  simp only [List.count_append]; omega
theorem SX.any (s : SX K F P H ts tv σ env L) {i : Nat} (x : Option V) (h : env[i]? = some none) : SX K F P H ts tv (σ.set i x) env L := by
  obtain ⟨M1, M2, a, b, g⟩ := s.ex
  exact ⟨⟨M1, M2, a, b.any x h, g⟩, s.fh, s.ph, s.trk⟩
/-- several temporaries on top -/
theorem SX.pops : ∀ {vs : List V} {us : List TV} {ts : List V} {tv : List TV} {L : List Addr}, SX K F P H (vs ++ ts) (us ++ tv) σ env L → vs.length = us.length → ∃ L1, AT K F H vs us L1 ∧ SX K F P H ts tv σ env (L1 ++ L)
  | [], [], _, _, _, s, _ => ⟨[], .nil, s⟩
  | v :: vs, u :: us, ts, tv, L, s, hl => by
    obtain ⟨L1, r, s1⟩ := SX.pop (ts := vs ++ ts) (tv := us ++ tv) s
    obtain ⟨L2, a, s2⟩ := SX.pops s1 (by simpa using hl)
    refine ⟨L1 ++ L2, .cons r a, s2.weak fun b => ?_⟩
    simp only [List.count_append]; omega
  | [], _ :: _, _, _, _, _, h => by simp at h
  | _ :: _, [], _, _, _, _, h => by simp at h
end
/-- a temporary as read -/
theorem RT.is {K : PySem.W.Frag} {F H : Hp} (e : Same F H) {t : TV} {v : V} {L : List Addr} (r : RT K F H t v L) : Is K H (rd t) v := by
  cases r with
  | own r => exact r.is e
  | brw r => exact r.is e
theorem RT.view {K : PySem.W.Frag} {F H : Hp} {t : TV} {v : V} {L : List Addr} (r : RT K F H t v L) : RV K F H (tvO t) v := by
  cases r with
  | own r => exact r.view
  | brw r => exact r
/-- a view as a temporary -/
theorem RV.rdO {K : PySem.W.Frag} {F H : Hp} {o : O} {v : V} (r : RV K F H o v) : RT K F H (rdO o) v [] := by
  cases r with
  | fz h => exact .own (.fz h)
  | lst h l => exact .brw (.lst h l)
  | tup h k l => exact .brw (.tup h k l)
  | dct h l => exact .brw (.dct h l)
  | dtp h l => exact .brw (.dtp h l)
  | ins h l => exact .brw (.ins h l)
/-- slots that lend in the end lent before, the same -/
def Pq (σ : St) (env : Ev) (σ' : St) (env' : Ev) : Prop := σ'.length = σ.length ∧ ∀ (i : Nat) d, env'[i]? = some (some (.par d)) → env[i]? = some (some (.par d)) ∧ σ'[i]? = σ[i]?
/-- lent slots in the end were lent before -/
def Ps (e e' : Ev) : Prop := ∀ (i : Nat) d, e'[i]? = some (some (.par d)) → e[i]? = some (some (.par d))
theorem Ps.refl (e : Ev) : Ps e e := fun _ _ h => h
theorem Ps.trans {a b c : Ev} (h : Ps a b) (g : Ps b c) : Ps a c := fun i d x => h i d (g i d x)
theorem Ps.set {e : Ev} {i : Nat} {s : Option SL} (h : ∀ d, s ≠ some (.par d)) : Ps e (e.set i s) := fun j d x => by
  by_cases hj : i = j
  · subst hj
    by_cases hl : i < e.length
    · rw [List.getElem?_set_self hl] at x
      exact absurd (Option.some.inj x) (h d)
    · rw [List.getElem?_eq_none (by rw [List.length_set]; omega)] at x; cases x
  · rw [List.getElem?_set_ne hj] at x; exact x
theorem Pq.refl (σ : St) (e : Ev) : Pq σ e σ e := ⟨rfl, fun _ _ h => ⟨h, rfl⟩⟩
theorem Pq.trans {a b c : St} {e f g : Ev} (h : Pq a e b f) (k : Pq b f c g) : Pq a e c g := ⟨k.1.trans h.1, fun i d x => ⟨(h.2 i d (k.2 i d x).1).1, (k.2 i d x).2.trans (h.2 i d (k.2 i d x).1).2⟩⟩
theorem Ps.pq {σ : St} {e f : Ev} (h : Ps e f) : Pq σ e σ f := ⟨rfl, fun i d x => ⟨h i d x, rfl⟩⟩
end TL
namespace TL
open PySem PySem.Spec L2
theorem PE.imp {X : Cx} {e : Expr} {t t' : TE} (h : PE X e t) (k : ∀ σ H Q, t' σ H Q → t σ H Q) : PE X e t' :=
  ⟨fun pins s σ H Q I x => h.run pins s σ H Q I (k σ H Q x)⟩
theorem PT.imp {X : Cx} {e : Expr} {t t' : TT} (h : PT X e t) (k : ∀ σ H Q, t' σ H Q → t σ H Q) : PT X e t' :=
  ⟨fun pins s σ H Q I x => h.run pins s σ H Q I (k σ H Q x)⟩
theorem PW.imp {X : Cx} {e : Expr} {t t' : TT} (h : PW X e t) (k : ∀ σ H Q, t' σ H Q → t σ H Q) : PW X e t' :=
  ⟨fun whole pins s σ H Q I x => h.run whole pins s σ H Q I (k σ H Q x)⟩
theorem PA.imp {X : Cx} {e : List Expr} {t t' : TA} (h : PA X e t) (k : ∀ σ H Q, t' σ H Q → t σ H Q) : PA X e t' :=
  ⟨fun pos pins s σ H Q I x => h.run pos pins s σ H Q I (k σ H Q x)⟩
/-- what is asked of exceptions: the wish, the classes' places -/
structure WC where
  W : WX
  cad : Nat → Addr
section
variable (K : PySem.W.Frag) (w : WC)
/-- a result's reading from the base F, P, H -/
def Res {α : Type} (q : Bool) (F P H : Hp) (ts : List V) (tv : List TV) (σ : St) (pk : Hp → Hp → Ev → α → Prop) : R α → Prop
  | .ok a e => ∀ F' H', Ext P F F' → (q = true → Same H H') → pk F' H' e a
  | .exc c e => ∀ F' H', Ext P F F' → (q = true → Same H H') → SR K F' P H' ts tv σ e → w.W (.ref (w.cad c)) none σ H'
  | .bad => False
def pkE (P : Hp) (ts : List V) (tv : List TV) (σ : St) (Q : VK) : Hp → Hp → Ev → TV → Prop := fun F' H' e t => ∀ v, SR K F' P H' (v :: ts) (t :: tv) σ e → Q v H'
def pkB (P : Hp) (ts : List V) (tv : List TV) (σ : St) (Q : Bool → Hp → Prop) : Hp → Hp → Ev → Bool → Prop := fun F' H' e b => SR K F' P H' ts tv σ e → Q b H'
def pkL (P : Hp) (ts : List V) (tv : List TV) (σ : St) (Q : List V → Hp → Prop) : Hp → Hp → Ev → List TV → Prop := fun F' H' e us => ∀ vs, vs.length = us.length → SR K F' P H' (vs.reverse ++ ts) (us.reverse ++ tv) σ e → Q vs H'
def tE (q : Bool) (r : Ev → R TV) : TE := fun σ H Q => ∃ F P ts tv env, SR K F P H ts tv σ env ∧ (q = true ∨ ∀ t ∈ tv, stable t = true) ∧ Res K w q F P H ts tv σ (pkE K P ts tv σ Q) (r env)
def tB (q : Bool) (r : Ev → R Bool) : TT := fun σ H Q => ∃ F P ts tv env, SR K F P H ts tv σ env ∧ (q = true ∨ ∀ t ∈ tv, stable t = true) ∧ Res K w q F P H ts tv σ (pkB K P ts tv σ Q) (r env)
def tL (q : Bool) (r : Ev → R (List TV)) : TA := fun σ H Q => ∃ F P ts tv env, SR K F P H ts tv σ env ∧ (q = true ∨ ∀ t ∈ tv, stable t = true) ∧ Res K w q F P H ts tv σ (pkL K P ts tv σ Q) (r env)
end
section
variable {K : PySem.W.Frag} {w : WC} {α β : Type} {q : Bool} {F F1 P H H1 : Hp} {ts : List V} {tv : List TV} {σ : St} {pk : Hp → Hp → Ev → α → Prop}
theorem Res.base {r : R α} (h : Res K w q F P H ts tv σ pk r) (x : Ext P F F1) (s : q = true → Same H H1) : Res K w q F1 P H1 ts tv σ pk r := by
  cases r with
  | ok a e => exact fun F' H' x' s' => h F' H' (x.trans x') fun z => (s z).trans (s' z)
  | exc c e => exact fun F' H' x' s' => h F' H' (x.trans x') fun z => (s z).trans (s' z)
  | bad => exact h
theorem Res.here {a : α} {e : Ev} (h : Res K w q F P H ts tv σ pk (.ok a e)) : pk F H e a := h F H (Ext.refl P F) fun _ => Same.refl H
/-- a raise in a part, the temporaries of the part dropped -/
theorem Res.exc1 {c : Nat} {e : Ev} {v : V} {t : TV} {pk' : Hp → Hp → Ev → β → Prop} {q' : Bool} (h : Res K w q F P H ts tv σ pk (.exc c e)) (hq : q = true → q' = true) : Res K w q' F P H (v :: ts) (t :: tv) σ pk' (.exc c e) := by
  intro F' H' x s sr
  refine h F' H' x (fun z => s (hq z)) ?_
  obtain ⟨L1, _, s2⟩ := sr.sx.pop
  exact s2.sr
theorem Res.exc0 {c : Nat} {e : Ev} {pk' : Hp → Hp → Ev → β → Prop} {q' : Bool} (h : Res K w q F P H ts tv σ pk (.exc c e)) (hq : q = true → q' = true) : Res K w q' F P H ts tv σ pk' (.exc c e) :=
  fun F' H' x s sr => h F' H' x (fun z => s (hq z)) sr
/-- two parts in a row -/
theorem tE2 {qa qb : Bool} {ra rb : Ev → R TV} {f : TV → TV → Ev → R TV} {R' : V → V → Hp → Prop} {Q : VK}
    (h : tE K w (qa && qb) (fun e => (ra e).bd fun ta e1 => if qb || stable ta then (rb e1).bd fun tb e2 => f ta tb e2 else .bad) σ H Q)
    (k : ∀ F2 P H2 v1 v2 ta tb ts tv e2, SR K F2 P H2 (v2 :: v1 :: ts) (tb :: ta :: tv) σ e2 → Res K w (qa && qb) F2 P H2 ts tv σ (pkE K P ts tv σ Q) (f ta tb e2) → R' v1 v2 H2) :
    tE K w qa ra σ H fun v1 H1 => tE K w qb rb σ H1 fun v2 H2 => R' v1 v2 H2 := by
  obtain ⟨F, P, ts, tv, env, sr, hq, h⟩ := h
  dsimp only at h
  have hqa : qa = true ∨ ∀ t ∈ tv, stable t = true := by
    rcases hq with z | z
    · exact .inl (Bool.and_eq_true_iff.mp z).1
    · exact .inr z
  refine ⟨F, P, ts, tv, env, sr, hqa, ?_⟩
  cases ea : ra env with
  | bad => rw [ea] at h; exact h
  | exc c e => rw [ea] at h; exact Res.exc0 h fun z => (Bool.and_eq_true_iff.mp z).1
  | ok ta e1 =>
    rw [ea] at h
    intro F1 H1 x1 s1 v1 sr1
    simp only [R.bd_ok] at h
    by_cases hb : (qb || stable ta) = true
    · rw [if_pos hb] at h
      have hqb : qb = true ∨ ∀ t ∈ ta :: tv, stable t = true := by
        rcases Bool.or_eq_true_iff.mp hb with z | z
        · exact .inl z
        · by_cases zb : qb = true
          · exact .inl zb
          · refine .inr fun t ht => ?_
            rcases List.mem_cons.mp ht with e | ht
            · rw [e]; exact z
            · rcases hq with zz | zz
              · exact absurd (Bool.and_eq_true_iff.mp zz).2 zb
              · exact zz t ht
      refine ⟨F1, P, v1 :: ts, ta :: tv, e1, sr1, hqb, ?_⟩
      have h1 := h.base x1 fun z => s1 (Bool.and_eq_true_iff.mp z).1
      cases eb : rb e1 with
      | bad => rw [eb] at h1; exact h1
      | exc c e => rw [eb] at h1; exact Res.exc1 h1 fun z => (Bool.and_eq_true_iff.mp z).2
      | ok tb e2 =>
        rw [eb] at h1
        intro F2 H2 x2 s2 v2 sr2
        exact k F2 P H2 v1 v2 ta tb ts tv e2 sr2 (h1.base x2 fun z => s2 (Bool.and_eq_true_iff.mp z).2)
    · rw [if_neg hb] at h
      exact h.elim
/-- one part -/
theorem tE1 {qa : Bool} {ra : Ev → R TV} {f : TV → Ev → R TV} {R' : V → Hp → Prop} {Q : VK}
    (h : tE K w qa (fun e => (ra e).bd fun ta e1 => f ta e1) σ H Q)
    (k : ∀ F2 P H2 v1 ta ts tv e2, SR K F2 P H2 (v1 :: ts) (ta :: tv) σ e2 → (qa = true ∨ ∀ t ∈ tv, stable t = true) → Res K w qa F2 P H2 ts tv σ (pkE K P ts tv σ Q) (f ta e2) → R' v1 H2) :
    tE K w qa ra σ H R' := by
  obtain ⟨F, P, ts, tv, env, sr, hq, h⟩ := h
  dsimp only at h
  refine ⟨F, P, ts, tv, env, sr, hq, ?_⟩
  cases ea : ra env with
  | bad => rw [ea] at h; exact h
  | exc c e => rw [ea] at h; exact Res.exc0 h fun z => z
  | ok ta e1 =>
    rw [ea] at h
    intro F1 H1 x1 s1 v1 sr1
    simp only [R.bd_ok] at h
    exact k F1 P H1 v1 ta ts tv e1 sr1 hq (h.base x1 s1)
end
/-! ### small expressions -/
section
variable {X : Cx} {w : WC}
theorem so_con {d : D} {c : Const} {k : Nat} {pos : Pos} (h : (match d, c with
    | .none, .none => true
    | .bool a, .bool b => a == b
    | .int a, .int b => decide (a = b)
    | .str a, .str b => decide (a = b)
    | _, _ => false) = true) : PE X (.Constant c k pos) (tE X.K w true fun e => if flatD d then .ok (fl d) e else .bad) := by
  have fin : ∀ {v : V} {σ : St} {H : Hp} {Q : VK}, flatD d = true → (∀ F, Is X.K F d v) → tE X.K w true (fun e => if flatD d then .ok (fl d) e else .bad) σ H Q → Q v H := by
    intro v σ H Q hf hv h
    obtain ⟨F, P, ts, tv, env, sr, hq, h⟩ := h
    dsimp only at h
    simp only [hf, if_true] at h
    exact h.here v (sr.sx.pushF (hv F)).sr
  cases d <;> cases c <;> simp at h
  case none.none => exact PE.imp pe_non fun σ H Q z => fin rfl (fun F => .non) z
  case bool.bool a b => subst h; exact PE.imp pe_bl fun σ H Q z => fin rfl (fun F => .bl a) z
  case int.int a b => subst h; exact PE.imp pe_int fun σ H Q z => fin rfl (fun F => .int a) z
  case str.str a b => subst h; exact PE.imp pe_str fun σ H Q z => fin rfl (fun F => .str a) z
/-- a slot as read -/
theorem RL.rd {K : PySem.W.Frag} {F P H : Hp} (e : Same P H) {s : SL} {v : V} {L : List Addr} (r : RL K F P H s v L) : RT K F H (rdSlot s) v [] := by
  cases r with
  | own r => exact r.view.rdO
  | par r => exact (r.same (fun _ _ x => x) e).rdO
theorem so_var {i : Nat} {x : Str} {pos : Pos} (hN : X.N[i]? = some x) (hv : Vis X.env.scope x) (hd : (x == ("__debug__" : Str)) = false) (hcd : (x == ("__classdict__" : Str)) = false) :
    PE X (.Name x pos) (tE X.K w true fun e => match e[i]? with
      | some (some s) => .ok (rdSlot s) e
      | _ => .bad) := by
  refine PE.imp (pe_var hN hv hd hcd) fun σ H Q h => ?_
  obtain ⟨F, P, ts, tv, env, sr, hq, h⟩ := h
  dsimp only at h
  cases e : env[i]? with
  | none => simp only [e] at h; exact h.elim
  | some o =>
    cases o with
    | none => simp only [e] at h; exact h.elim
    | some s =>
      simp only [e] at h
      obtain ⟨v, L1, h1, h2⟩ := sr.sx.slot e
      exact ⟨v, h1, h.here v (SX.push (L1 := []) sr.sx (h2.rd sr.ph)).sr⟩
theorem so_glb {x : Str} {d : D} {v : V} {u : Value} {pos : Pos} (hg : Gl X x) (hm : X.mg x = some u) (r : RelV v u) (hv : ∀ F, Is X.K F d v) (hd : (x == ("__debug__" : Str)) = false) :
    PE X (.Name x pos) (tE X.K w true fun e => .ok (fl d) e) := by
  refine PE.imp (pe_glob hg hm r hd) fun σ H Q h => ?_
  obtain ⟨F, P, ts, tv, env, sr, hq, h⟩ := h
  dsimp only at h
  exact h.here v (sr.sx.pushF (hv F)).sr
end
/-! ### operators -/
theorem so_bin {X : Cx} {w : WC} {a b : Expr} {op : Operator} {pos : Pos} {r : R2} {qa qb : Bool} {ra rb : Ev → R TV} {f : TV → TV → Option TV} (ho : OpR X (binaryOp op) r)
    (ha : PE X a (tE X.K w qa ra)) (hb : PE X b (tE X.K w qb rb))
    (hr : ∀ F P H v1 v2 ta tb t ts tv σ e Q, f ta tb = some t → SR X.K F P H (v2 :: v1 :: ts) (tb :: ta :: tv) σ e → (∀ F' H' v, Ext P F F' → Same H H' → SR X.K F' P H' (v :: ts) (t :: tv) σ e → Q v H') → r v1 v2 H Q) :
    PE X (.BinOp a op b pos) (tE X.K w (qa && qb) fun e => (ra e).bd fun ta e1 => if qb || stable ta then (rb e1).bd fun tb e2 => R.lf (f ta tb) e2 else .bad) := by
  refine PE.imp (pe_op ho ha hb) fun σ H Q h => ?_
  refine tE2 h fun F2 P H2 v1 v2 ta tb ts tv e2 sr k => ?_
  cases e : f ta tb with
  | none => rw [e] at k; exact k.elim
  | some t =>
    rw [e] at k
    exact hr F2 P H2 v1 v2 ta tb t ts tv σ e2 Q e sr fun F' H' v x s sr' => k F' H' x (fun _ => s) v sr'
theorem so_cmp {X : Cx} {w : WC} {a b : Expr} {op : CmpOp} {pos : Pos} {r : R2} {qa qb : Bool} {ra rb : Ev → R TV} {f : D → D → Option Bool} (ho : OpR X (compareOp op) r) (hm : behindInMarks op b = false)
    (ha : PE X a (tE X.K w qa ra)) (hb : PE X b (tE X.K w qb rb))
    (hr : ∀ H v1 v2 d1 d2 k Q, f d1 d2 = some k → Is X.K H d1 v1 → Is X.K H d2 v2 → Q (.bl k) H → r v1 v2 H Q) :
    PE X (.Compare a [op] [b] pos) (tE X.K w (qa && qb) fun e => (ra e).bd fun ta e1 => if qb || stable ta then (rb e1).bd fun tb e2 => R.lf ((f (rd ta) (rd tb)).map fun c => fl (.bool c)) e2 else .bad) := by
  refine PE.imp (pe_cmpR ho ha hb hm) fun σ H Q h => ?_
  refine tE2 h fun F2 P H2 v1 v2 ta tb ts tv e2 sr k => ?_
  obtain ⟨L1, r1, s1⟩ := sr.sx.pop
  obtain ⟨L2, r2, s2⟩ := s1.pop
  cases e : f (rd ta) (rd tb) with
  | none => rw [e] at k; exact k.elim
  | some t =>
    rw [e] at k
    exact hr H2 v1 v2 _ _ t Q e (r2.is sr.fh) (r1.is sr.fh) (k.here (.bl t) (s2.pushF (.bl t)).sr)
/-- a value that must be True or False -/
theorem Res.ofBool {K : PySem.W.Frag} {w : WC} {q : Bool} {F P H : Hp} {ts : List V} {tv : List TV} {σ : St} {Q : Bool → Hp → Prop} {r : R TV} (h : Res K w q F P H ts tv σ (pkB K P ts tv σ Q) (r.bd boolT)) :
    Res K w q F P H ts tv σ (pkE K P ts tv σ fun x H' => ∃ k, x = .bl k ∧ Q k H') r := by
  cases r with
  | bad => exact h
  | exc c e => exact Res.exc0 h fun z => z
  | ok t e =>
    intro F' H' x s v sr'
    obtain ⟨L1, r1, s1⟩ := sr'.sx.pop
    cases t with
    | brw o => exact h.elim
    | own o =>
      cases o with
      | fz d =>
        cases d with
        | bool k =>
          cases r1 with
          | own r1 => cases r1 with
            | fz r1 => cases r1; exact ⟨k, rfl, h F' H' x s s1.sr⟩
        | _ => exact h.elim
      | _ => exact h.elim
theorem so_cmpT {X : Cx} {w : WC} {a b : Expr} {op : CmpOp} {pos : Pos} {r : R2} {qa qb : Bool} {ra rb : Ev → R TV} {f : D → D → Option Bool} (ho : OpR X (compareOp op) r) (hm : behindInMarks op b = false)
    (ha : PE X a (tE X.K w qa ra)) (hb : PE X b (tE X.K w qb rb))
    (hr : ∀ H v1 v2 d1 d2 k Q, f d1 d2 = some k → Is X.K H d1 v1 → Is X.K H d2 v2 → Q (.bl k) H → r v1 v2 H Q) :
    PT X (.Compare a [op] [b] pos) (tB X.K w (qa && qb) fun e => ((ra e).bd fun ta e1 => if qb || stable ta then (rb e1).bd fun tb e2 => R.lf ((f (rd ta) (rd tb)).map fun c => fl (.bool c)) e2 else .bad).bd boolT) := by
  refine PT.imp (pt_cmpR ho ha hb hm) fun σ H Q h => ?_
  show tOp r _ _ σ H fun x H' => ∃ k, x = .bl k ∧ Q k H'
  obtain ⟨F, P, ts, tv, env, sr, hq, h⟩ := h
  dsimp only at h
  refine tE2 (f := fun ta tb e2 => R.lf ((f (rd ta) (rd tb)).map fun c => fl (.bool c)) e2) (Q := fun x H' => ∃ k, x = .bl k ∧ Q k H') ⟨F, P, ts, tv, env, sr, hq, ?_⟩ fun F2 P H2 v1 v2 ta tb ts tv e2 sr k => ?_
  · exact Res.ofBool h
  · obtain ⟨L1, r1, s1⟩ := sr.sx.pop
    obtain ⟨L2, r2, s2⟩ := s1.pop
    cases e : f (rd ta) (rd tb) with
    | none => rw [e] at k; exact k.elim
    | some t =>
      rw [e] at k
      exact hr H2 v1 v2 _ _ t _ e (r2.is sr.fh) (r1.is sr.fh) (k.here (.bl t) (s2.pushF (.bl t)).sr)
/-- an expression that gives True or False, as a test -/
theorem so_test {X : Cx} {w : WC} {a : Expr} {q : Bool} {ra : Ev → R TV} (ha : PE X a (tE X.K w q ra)) (he : ∀ whole, isTrue a X.env whole = (do let v ← whole; standAt a.pos; holding [v] (truthy v))) :
    PT X a (tB X.K w q fun e => (ra e).bd boolT) := by
  refine PT.imp (pt_val ha he) fun σ H Q h => ?_
  obtain ⟨F, P, ts, tv, env, sr, hq, h⟩ := h
  dsimp only at h
  refine ⟨F, P, ts, tv, env, sr, hq, ?_⟩
  exact Res.ofBool h
end TL
namespace TL
open PySem PySem.Spec L2
section
variable {X : Cx}
/-- list + list, wherever they stand -/
def rCatQ (K : PySem.W.Frag) : R2 := fun x y H Q => ∃ l b xs zs, x = .ref l ∧ y = .ref b ∧ SqL K H l xs ∧ SqL K H b zs ∧ xs.length + zs.length ≤ sizeLine ∧ ∀ p, H p = none → Q (.ref p) (upd H p (.lst (xs ++ zs)))
theorem op_catQ : OpR X (binaryOp .Add) (rCatQ X.K) := by
  intro pins s σ H x y v u Q I rx ry h
  obtain ⟨l, b, xs, zs, rfl, rfl, hH, hB, hz, q⟩ := h
  cases rx
  cases ry
  obtain ⟨its, r, pl, z1⟩ := I.list hH
  obtain ⟨its2, r2, pl2, z2⟩ := I.list hB
  have l1 := r.length
  have l2 := r2.length
  obtain ⟨⟨cls, dd, data, sl⟩, n, ho, hc, _, hd⟩ := pl
  obtain ⟨⟨cls2, dd2, data2, sl2⟩, n2, ho2, hc2, _, hd2⟩ := pl2
  simp only at hc hd hc2 hd2
  subst hc hd hc2 hd2
  have e : its.toArray ++ its2.toArray = (its ++ its2).toArray := by simp
  refine concat_meets ⟨_, ho, rfl⟩ ⟨_, ho2, rfl⟩ PySem.noFill_list_add PySem.seq_list_add PySem.F.slot_list_add PySem.F.entry_list_add (PySem.F.args_list_add_2 _ _) (PyProof.Rows.list_addW l b its.toArray its2.toArray n n2 dd dd2 sl sl2 (by simp; omega)) ⟨ho, ho2, ?_⟩
  rw [e]
  exact ⟨.ref _, _, I.lnew (t' := s.toks) (r.append r2) (by rw [List.length_append]; omega), rfl, q _ I.fresh⟩
/-- text * int -/
theorem op_mul_str : OpR X (binaryOp .Mult) (fun x y H Q => ∃ a k, x = .str a ∧ y = .int k ∧ k < 2 ^ 62 ∧ -(2 ^ 62) < k ∧ a.length * k.toNat ≤ sizeLine ∧ Q (.str (repS a k)) H) := by
  intro pins s σ H x y v u Q I rx ry h
  obtain ⟨a, k, rfl, rfl, h1, h2, hz, q⟩ := h
  obtain ⟨t, rfl⟩ := rx
  obtain ⟨t', rfl⟩ := ry
  have hs : (sizeLine : Nat) < 2 ^ 62 := by rw [PySem.sizeLine_eq]; decide
  refine PySem.P.mul_str (by simp; omega) (fun k1 _ => ?_) (fun k1 _ => ?_) ?_
  · intro hc
    have : (a.length : Int) * k ≤ sizeLine := by
      have : (a.length * k.toNat : Nat) ≤ sizeLine := hz
      have e : ((k.toNat : Nat) : Int) = k := Int.toNat_of_nonneg (by omega)
      rw [← e]; exact_mod_cast this
    have h3 : (2 ^ 63 - 1) / k < a.length := hc
    have h4 := Int.lt_mul_of_ediv_lt (by omega) h3
    have : ((sizeLine : Nat) : Int) < 2 ^ 62 := by exact_mod_cast hs
    omega
  · unfold Builtin.Str.tooLong
    exact decide_eq_false (by omega)
  · have hrep : (⟨(List.replicate k.toNat a.cps).foldl (· ++ ·) #[]⟩ : Str) = repS a k := by
      have := foldl_rep (its := []) 0 []
      unfold repS
      congr 1
      have key : ∀ (m : Nat) (acc : List Nat), List.foldl (fun x1 x2 => x1 ++ x2) acc.toArray (List.replicate m a.cps) = (acc ++ (List.replicate m a.cps.toList).flatten).toArray := by
        intro m
        induction m with
        | zero => intro acc; simp
        | succ m ih =>
          intro acc
          rw [List.replicate_succ, List.foldl_cons, List.replicate_succ, List.flatten_cons, ← List.append_assoc, ← ih (acc ++ a.cps.toList)]
          congr 1
          simp
      have := key k.toNat []
      simpa using this
    by_cases k1 : k < 1
    · rw [if_pos k1]
      refine ⟨by show Str.empty.length ≤ sizeLine; decide, ?_⟩
      have e : repS a k = Str.empty := by
        unfold repS
        have : k.toNat = 0 := by omega
        rw [this]; rfl
      rw [← e]
      exact ⟨.str _, H, I.tok _, ⟨_, rfl⟩, q⟩
    · rw [if_neg k1]
      by_cases k2 : (k == 1 || a.length == 0) = true
      · rw [if_pos k2]
        have e : repS a k = a := by
          unfold repS
          simp only [Bool.or_eq_true, beq_iff_eq] at k2
          rcases k2 with z | z
          · subst z; simp
          · have : a.cps = #[] := by
              have : a.cps.size = 0 := z
              exact Array.eq_empty_of_size_eq_zero this
            cases a with
            | mk c => simp only at this; subst this; simp
        refine ⟨.str a, H, I, ⟨t, rfl⟩, ?_⟩
        rw [e] at q
        exact q
      · rw [if_neg k2, hrep]
        refine ⟨?_, .str _, H, I.tok _, ⟨_, rfl⟩, q⟩
        have : (repS a k).length = k.toNat * a.length := by
          unfold repS Str.length
          simp
        rw [this, Nat.mul_comm]; exact hz
end
/-- reading of an own list among temporaries -/
theorem items_ro {K : PySem.W.Frag} {F H : Hp} (e : Same F H) {t : TV} {v : V} {L : List Addr} {os : List O} (r : RT K F H t v L) (h : items t = some os) :
    ∃ a xs L', v = .ref a ∧ SqL K H a xs ∧ ROs K F H os xs L' ∧ ∀ b, L'.count b ≤ L.count b := by
  cases r with
  | own r =>
    cases r with
    | fz i =>
      cases i with
      | lst s l =>
        simp only [items, Option.some.injEq] at h
        subst h
        exact ⟨_, _, [], rfl, e.seq s, ROs.fzL l, fun b => Nat.le_refl _⟩
      | _ => simp [items] at h
    | lst s l =>
      simp only [items, Option.some.injEq] at h
      subst h
      exact ⟨_, _, _, rfl, .inl (.inl s), l, fun b => by rw [List.count_cons]; omega⟩
    | _ => simp [items] at h
  | brw r =>
    cases r with
    | fz i =>
      cases i with
      | lst s l =>
        simp only [items, Option.some.injEq] at h
        subst h
        exact ⟨_, _, [], rfl, e.seq s, ROs.fzL l, fun b => Nat.le_refl _⟩
      | _ => simp [items] at h
    | lst s l =>
      rename_i os' 
      simp only [items, Option.map_eq_some_iff] at h
      obtain ⟨ds, h1, h2⟩ := h
      subst h2
      have := fzAll_eq h1
      subst this
      exact ⟨_, _, [], rfl, s, ROs.fzL (RVs.ofFz l), fun b => Nat.le_refl _⟩
    | _ => simp [items] at h
theorem itemsT_ro {K : PySem.W.Frag} {F H : Hp} (e : Same F H) {t : TV} {v : V} {L : List Addr} {os : List O} (r : RT K F H t v L) (h : itemsT t = some os) :
    ∃ a xs L', v = .ref a ∧ SqT K H a xs ∧ ROs K F H os xs L' ∧ ∀ b, L'.count b ≤ L.count b := by
  cases r with
  | own r =>
    cases r with
    | fz i =>
      cases i with
      | tup s _ l =>
        simp only [itemsT, Option.some.injEq] at h
        subst h
        exact ⟨_, _, [], rfl, Same.sqT e s, ROs.fzL l, fun b => Nat.le_refl _⟩
      | _ => simp [itemsT] at h
    | tup s l =>
      simp only [itemsT, Option.some.injEq] at h
      subst h
      exact ⟨_, _, _, rfl, .inl (.inl s), l, fun b => by rw [List.count_cons]; omega⟩
    | _ => simp [itemsT] at h
  | brw r =>
    cases r with
    | fz i =>
      cases i with
      | tup s _ l =>
        simp only [itemsT, Option.some.injEq] at h
        subst h
        exact ⟨_, _, [], rfl, Same.sqT e s, ROs.fzL l, fun b => Nat.le_refl _⟩
      | _ => simp [itemsT] at h
    | tup s _ l =>
      simp only [itemsT, Option.map_eq_some_iff] at h
      obtain ⟨ds, h1, h2⟩ := h
      subst h2
      have := fzAll_eq h1
      subst this
      exact ⟨_, _, [], rfl, s, ROs.fzL (RVs.ofFz l), fun b => Nat.le_refl _⟩
    | _ => simp [itemsT] at h
section
variable {K : PySem.W.Frag} {F P H : Hp} {ts : List V} {tv : List TV} {σ : St} {env : Ev} {L L1 : List Addr}
/-- a new list laid of owned items -/
theorem SX.newL (s : SX K F P H ts tv σ env (L1 ++ L)) {os : List O} {xs : List V} (r : ROs K F H os xs L1) {p : Addr} (hp : H p = none) :
    Same H (upd H p (.lst xs)) ∧ SX K F P (upd H p (.lst xs)) (.ref p :: ts) (.own (.lst os) :: tv) σ env L := by
  have e : Same H (upd H p (.lst xs)) := upd_sameH hp
  refine ⟨e, SX.push (L1 := p :: L1) (s.new hp) (.own (.lst upd_same (r.same (Same.refl F) e)))⟩
theorem SX.newT (s : SX K F P H ts tv σ env (L1 ++ L)) {os : List O} {xs : List V} (r : ROs K F H os xs L1) {p : Addr} (hp : H p = none) :
    Same H (upd H p (.tup xs)) ∧ SX K F P (upd H p (.tup xs)) (.ref p :: ts) (.own (.tup os) :: tv) σ env L := by
  have e : Same H (upd H p (.tup xs)) := upd_sameH hp
  refine ⟨e, SX.push (L1 := p :: L1) (s.new hp) (.own (.tup upd_same (r.same (Same.refl F) e)))⟩
end
/-- the operators' rules -/
def binR (K : PySem.W.Frag) : Operator → R2
  | .Add => fun x y H Q => rI0 (fun i j => .int (i + j)) x y H Q ∨ (∃ i j, x = .str i ∧ y = .str j ∧ i.length + j.length ≤ sizeLine ∧ Q (.str (i ++ j)) H) ∨ rCatQ K x y H Q ∨ rCatA K x y H Q
  | .Sub => rI0 fun i j => .int (i - j)
  | .Mult => fun x y H Q => rI CMul (fun i j => .int (i * j)) x y H Q ∨ rI CMulW (fun i j => .int (i * j)) x y H Q ∨ (∃ a k, x = .str a ∧ y = .int k ∧ k < 2 ^ 62 ∧ -(2 ^ 62) < k ∧ a.length * k.toNat ≤ sizeLine ∧ Q (.str (repS a k)) H) ∨ rRep x y H Q
  | .FloorDiv => rI CDivW fun i j => .int (i / j)
  | .Mod => rI (fun _ j => 0 < j) fun i j => .int (i % j)
  | .Pow => rI CPow fun i j => .int (i ^ j.toNat)
  | _ => fun _ _ _ _ => False
theorem binR_ok {X : Cx} (op : Operator) : OpR X (binaryOp op) (binR X.K op) := by
  cases op
  case Add => exact op_add.or (op_add_str.or (op_catQ.or op_catA))
  case Sub => exact op_sub
  case Mult => exact op_mul.or (op_mulW.or (op_mul_str.or op_rep))
  case FloorDiv => exact op_fdivW
  case Mod => exact op_mod
  case Pow => exact op_pow
  all_goals (intro pins s σ H x y v u Q I rx ry h; exact h.elim)
theorem binR_res {K : PySem.W.Frag} {op : Operator} {F P H : Hp} {v1 v2 : V} {ta tb t : TV} {ts : List V} {tv : List TV} {σ : St} {e : Ev} {Q : VK} (h : binOp op ta tb = some t)
    (sr : SR K F P H (v2 :: v1 :: ts) (tb :: ta :: tv) σ e) (k : ∀ F' H' v, Ext P F F' → Same H H' → SR K F' P H' (v :: ts) (t :: tv) σ e → Q v H') : binR K op v1 v2 H Q := by
  obtain ⟨L2, r2, s2⟩ := sr.sx.pop
  obtain ⟨L1, r1, s1⟩ := s2.pop
  have i1 := r1.is sr.fh
  have i2 := r2.is sr.fh
  have flat : ∀ {d : D} {v : V}, t = fl d → (∀ G, Is K G d v) → Q v H := fun {d v} et hv => by
    subst et
    exact k F H v (Ext.refl P F) (Same.refl H) (s1.pushF (hv F)).sr
  have keep : ∀ {tx : TV} {v : V} {L : List Addr}, ownV tx = some t → RT K F H tx v L → SX K F P H ts tv σ e (L ++ []) → SR K F P H (v :: ts) (t :: tv) σ e := fun {tx v L} hx r s => by
    cases tx with
    | own o =>
      have et := Option.some.inj hx
      subst et
      exact (SX.push s r).sr
    | brw o =>
      cases o with
      | fz d =>
        have et := Option.some.inj hx
        subst et
        cases r with
        | brw r => cases r with
          | fz i => exact (SX.pushF (L := []) (s.weak (L' := []) fun b => by simp) i).sr
      | _ => cases hx
  revert h i1 i2
  unfold binOp
  generalize e1 : rd ta = d1
  generalize e2 : rd tb = d2
  intro h i1 i2
  split at h
  · cases i1; cases i2
    exact .inl ⟨_, _, rfl, rfl, flat (Option.some.inj h).symm fun G => .int _⟩
  · cases i1; cases i2
    split at h
    · exact .inr (.inl ⟨_, _, rfl, rfl, by assumption, flat (Option.some.inj h).symm fun G => .str _⟩)
    · cases h
  · split at h
    · rename_i xs ys hx hy
      split at h
      · rename_i hz
        obtain ⟨a, ws, M1, rfl, q1, w1, c1⟩ := items_ro sr.fh r1 hx
        obtain ⟨b, zs, M2, rfl, q2, w2, c2⟩ := items_ro sr.fh r2 hy
        refine .inr (.inr (.inl ⟨a, b, ws, zs, rfl, rfl, q1, q2, by rw [← w1.length, ← w2.length]; exact hz, fun p hp => ?_⟩))
        have s3 : SX K F P H ts tv σ e ((M1 ++ M2) ++ []) := s1.weak fun b => by
          have := c1 b; have := c2 b
          simp only [List.count_append, List.append_nil]; omega
        obtain ⟨sm, s4⟩ := s3.newL (w1.app w2) hp
        have et := Option.some.inj h
        subst et
        exact k F _ _ (Ext.refl P F) sm s4.sr
      · cases h
    · cases h
  · split at h
    · rename_i xs ys hx hy
      split at h
      · rename_i hz
        obtain ⟨a, ws, M1, rfl, q1, w1, c1⟩ := itemsT_ro sr.fh r1 hx
        obtain ⟨b, zs, M2, rfl, q2, w2, c2⟩ := itemsT_ro sr.fh r2 hy
        refine .inr (.inr (.inr ⟨a, b, ws, zs, rfl, rfl, q1, q2, by rw [← w1.length, ← w2.length]; exact hz, fun hw => ?_, fun hw hv => ?_, fun hw hv p hp => ?_⟩))
        · have he : xs.isEmpty = true := by rw [List.isEmpty_iff]; exact List.length_eq_zero_iff.mp (by rw [w1.length, hw]; rfl)
          rw [if_pos he] at h
          exact k F H _ (Ext.refl P F) (Same.refl H) (keep h r2 (s1.weak fun b => by simp only [List.count_append]; omega))
        · have he : ¬ xs.isEmpty = true := by rw [List.isEmpty_iff]; exact fun z => hw (List.length_eq_zero_iff.mp (by rw [← w1.length, z]; rfl))
          have he2 : ys.isEmpty = true := by rw [List.isEmpty_iff]; exact List.length_eq_zero_iff.mp (by rw [w2.length, hv]; rfl)
          rw [if_neg he, if_pos he2] at h
          exact k F H _ (Ext.refl P F) (Same.refl H) (keep h r1 (s1.weak fun b => by simp only [List.count_append]; omega))
        · have he : ¬ xs.isEmpty = true := by rw [List.isEmpty_iff]; exact fun z => hw (List.length_eq_zero_iff.mp (by rw [← w1.length, z]; rfl))
          have he2 : ¬ ys.isEmpty = true := by rw [List.isEmpty_iff]; exact fun z => hv (List.length_eq_zero_iff.mp (by rw [← w2.length, z]; rfl))
          rw [if_neg he, if_neg he2] at h
          have s3 : SX K F P H ts tv σ e ((M1 ++ M2) ++ []) := s1.weak fun b => by
            have := c1 b; have := c2 b
            simp only [List.count_append, List.append_nil]; omega
          obtain ⟨sm, s4⟩ := s3.newT (w1.app w2) hp
          have et := Option.some.inj h
          subst et
          exact k F _ _ (Ext.refl P F) sm s4.sr
      · cases h
    · cases h
  · cases i1; cases i2
    exact ⟨_, _, rfl, rfl, flat (Option.some.inj h).symm fun G => .int _⟩
  · cases i1; cases i2
    split at h
    · rename_i hm
      unfold mulOk at hm
      simp only [Bool.or_eq_true, Bool.and_eq_true, decide_eq_true_eq] at hm
      have f := flat (Option.some.inj h).symm fun G => .int _
      rcases hm with (hm | hm) | hm
      · exact .inl ⟨_, _, rfl, rfl, .inl hm, f⟩
      · exact .inl ⟨_, _, rfl, rfl, .inr hm, f⟩
      · exact .inr (.inl ⟨_, _, rfl, rfl, wide_mul hm.1 hm.2 (by decide) (by decide) (by decide), f⟩)
    · cases h
  · cases i1; cases i2
    split at h
    · rename_i hm
      simp only [Bool.and_eq_true, decide_eq_true_eq] at hm
      exact .inr (.inr (.inl ⟨_, _, rfl, rfl, hm.1.1, hm.1.2, hm.2, flat (Option.some.inj h).symm fun G => .str _⟩))
    · cases h
  · cases i2
    split at h
    · rename_i xs
      split at h
      · rename_i ds hds
        split at h
        · rename_i hm
          simp only [Bool.and_eq_true, decide_eq_true_eq] at hm
          have et := Option.some.inj h
          subst et
          cases r1 with
          | own r1 =>
            cases r1 with
            | lst q l =>
              have := fzAll_eq hds
              subst this
              obtain ⟨l1, l2⟩ := ROs.ofFz l
              have hl := l1.length
              refine .inr (.inr (.inr ⟨_, _, _, rfl, rfl, q, by omega, by omega, by rw [← hl]; exact hm.2, fun p hp => ?_⟩))
              have rep : ∀ n : Nat, IsL K F (List.replicate n ds).flatten (List.replicate n _).flatten := fun n => by
                induction n with
                | zero => exact .nil
                | succ n ih => rw [List.replicate_succ, List.replicate_succ, List.flatten_cons, List.flatten_cons]; exact l1.app ih
              have s3 : SX K F P H ts tv σ e ([] ++ []) := s1.weak fun b => by simp
              obtain ⟨sm, s4⟩ := s3.newL (ROs.fzL (rep _)) hp
              exact k F _ _ (Ext.refl P F) sm s4.sr
        · cases h
      · cases h
    · cases h
  · cases i1; cases i2
    split at h
    · rename_i hm
      unfold divOk at hm
      simp only [Bool.and_eq_true, decide_eq_true_eq] at hm
      exact ⟨_, _, rfl, rfl, wide_div hm.1 hm.2 (by decide) (by decide), flat (Option.some.inj h).symm fun G => .int _⟩
    · cases h
  · cases i1; cases i2
    split at h
    · rename_i hm
      exact ⟨_, _, rfl, rfl, of_decide_eq_true hm, flat (Option.some.inj h).symm fun G => .int _⟩
    · cases h
  · cases i1; cases i2
    split at h
    · rename_i hm
      simp only [powOk, decide_eq_true_eq] at hm
      exact ⟨_, _, rfl, rfl, hm, flat (Option.some.inj h).symm fun G => .int _⟩
    · cases h
  · cases h
end TL
namespace TL
open PySem PySem.Spec L2
section
variable {K : PySem.W.Frag} {H : Hp}
mutual
theorem Is.dp : ∀ {d : D} {v : V}, Is K H d v → d.canLay0 = true → Dp K H v d
  | _, _, .non, _ => .non
  | _, _, .bl b, _ => .bl b
  | _, _, .int i, _ => .int i
  | _, _, .str x, _ => .str x
  | _, _, .lst s l, h => .lst s (IsL.dp l (by simpa [PyData.canLay0] using h))
  | _, _, .tup s _ l, h => .tup s (IsL.dp l (by simpa [PyData.canLay0] using h))
  | _, _, .dct _ _, h => by simp [PyData.canLay0] at h
  | _, _, .dtp _ _, h => by simp [PyData.canLay0] at h
  | _, _, .ins _, h => by simp [PyData.canLay0] at h
  | _, _, .exc, h => by simp [PyData.canLay0] at h
theorem IsL.dp : ∀ {ds : List D} {vs : List V}, IsL K H ds vs → PyData.canLayAll0 ds = true → DpAll K H vs ds
  | _, _, .nil, _ => .nil
  | _, _, .cons h l, z => by
    simp only [PyData.canLayAll0, Bool.and_eq_true] at z
    exact .cons (Is.dp h z.1) (IsL.dp l z.2)
end
theorem Is.flat {d : D} {v : V} (h : Is K H d v) (f : flatD d = true) : flatV v = true := by
  cases h <;> first | rfl | simp [flatD] at f
theorem IsL.flat : ∀ {ds : List D} {vs : List V}, IsL K H ds vs → ds.all flatD = true → vs.all flatV = true
  | _, _, .nil, _ => rfl
  | _, _, .cons h l, z => by
    simp only [List.all_cons, Bool.and_eq_true] at z ⊢
    exact ⟨h.flat z.1, l.flat z.2⟩
theorem eqV_eqv {d e : D} {v u : V} (h : Is K H d v) (g : Is K H e u) (f1 : flatD d = true) (f2 : flatD e = true) : eqV v u = PyData.eqv d e := by
  cases h <;> first | (simp [flatD] at f1; done) | (cases g <;> first | (simp [flatD] at f2; done) | rfl | (simp [eqV, PyData.eqv]))
theorem inV_inL {e : D} {u : V} (g : Is K H e u) (f2 : flatD e = true) : ∀ {ds : List D} {vs : List V}, IsL K H ds vs → ds.all flatD = true → inV u vs = inL e ds
  | _, _, .nil, _ => rfl
  | _, _, .cons h l, z => by
    simp only [List.all_cons, Bool.and_eq_true] at z
    have := inV_inL g f2 l z.2
    unfold inV inL at this ⊢
    rw [List.any_cons, List.any_cons, eqV_eqv h g z.1 f2, this]
end
/-- pairs of whole numbers -/
theorem dataLt_pair (p q : Int × Int) : PySem.W.dataLt (pairD p) (pairD q) = ltP2 p q := by
  obtain ⟨a, b⟩ := p
  obtain ⟨c, d⟩ := q
  simp only [PySem.W.dataLt, pairD, PySem.W.keyToks, PySem.W.keyToksAll, List.cons_append, List.nil_append, PyProof.Rows.lexLt, PyProof.Rows.itemLt, ltP2]
  by_cases h1 : a < c
  · simp [h1]
  · by_cases h2 : c < a
    · have : ¬ a = c := by omega
      simp [h1, h2, this]
    · have : a = c := by omega
      subst this
      by_cases h3 : b < d
      · simp [h3]
      · by_cases h4 : d < b <;> simp [h3, h4]
def rPair (K : PySem.W.Frag) (f : Int × Int → Int × Int → Bool) : R2 := fun x y H Q => ∃ p q, Dp K H x (pairD p) ∧ Dp K H y (pairD q) ∧ Q (.bl (f p q)) H
section
variable {X : Cx}
theorem pair_reads {X : Cx} {pins : List (Addr × Obj)} {σ : St} {H : Hp} {s : Shared} {x : V} {u : Value} {p : Int × Int} (I : L2.Inv X pins σ H s) (h : Dp X.K H x (pairD p)) (r : RelV x u) : ∃ as, Reads s.heap u (pairD p) as := Dp.reads I _ _ _ h r
theorem pair_depth (p q : Int × Int) : min (pairD p).depth (pairD q).depth ≤ 2 := Nat.le_trans (Nat.min_le_left _ _) (by simp [pairD, PyData.depth, PyData.depthAll])
theorem op_ltP (hu : X.A.units + 64 < cLine) : OpR X (compareOp .Lt) (rPair X.K fun p q => ltP2 p q) := by
  intro pins s σ H x y v u Q I rx ry h
  obtain ⟨p, q, hx, hy, k⟩ := h
  obtain ⟨as, ra⟩ := pair_reads I hx rx
  obtain ⟨bs, rb⟩ := pair_reads I hy ry
  exact PySem.W.lt_data ra rb rfl (by simp) (by have := pair_depth p q; omega) (fin_bl I k (dataLt_pair p q).symm)
theorem op_gtP (hu : X.A.units + 64 < cLine) : OpR X (compareOp .Gt) (rPair X.K fun p q => ltP2 q p) := by
  intro pins s σ H x y v u Q I rx ry h
  obtain ⟨p, q, hx, hy, k⟩ := h
  obtain ⟨as, ra⟩ := pair_reads I hx rx
  obtain ⟨bs, rb⟩ := pair_reads I hy ry
  exact PySem.W.gt_data ra rb rfl (by simp) (by have := pair_depth p q; omega) (fin_bl I k (dataLt_pair q p).symm)
theorem op_leP (hu : X.A.units + 64 < cLine) : OpR X (compareOp .LtE) (rPair X.K fun p q => !ltP2 q p) := by
  intro pins s σ H x y v u Q I rx ry h
  obtain ⟨p, q, hx, hy, k⟩ := h
  obtain ⟨as, ra⟩ := pair_reads I hx rx
  obtain ⟨bs, rb⟩ := pair_reads I hy ry
  exact PySem.W.le_data ra rb rfl (by simp) (by have := pair_depth p q; omega) (fin_bl I k (by rw [dataLt_pair q p]))
theorem op_geP (hu : X.A.units + 64 < cLine) : OpR X (compareOp .GtE) (rPair X.K fun p q => !ltP2 p q) := by
  intro pins s σ H x y v u Q I rx ry h
  obtain ⟨p, q, hx, hy, k⟩ := h
  obtain ⟨as, ra⟩ := pair_reads I hx rx
  obtain ⟨bs, rb⟩ := pair_reads I hy ry
  exact PySem.W.ge_data ra rb rfl (by simp) (by have := pair_depth p q; omega) (fin_bl I k (by rw [dataLt_pair p q]))
end
/-- dicts that are equal -/
def rEqK : R2 := fun x y H Q => ∃ a b ks ls, x = .ref a ∧ y = .ref b ∧ Rd H a (.dK ks) ∧ Rd H b (.dK ls) ∧ ks.length = ls.length ∧ (∀ p ∈ ks, ∃ u, valV ls p.1 = some u ∧ p.2 = u ∧ flatB p.2 = true) ∧ Q (.bl true) H
theorem op_eqK {X : Cx} (hu : X.A.units + 64 < cLine) : OpR X (compareOp .Eq) rEqK := by
  intro pins s σ H x y v u Q I rx ry h
  obtain ⟨a, b, ks, ls, rfl, rfl, ha, hb, hl, hp, q⟩ := h
  cases (show v = Value.ref a from rx)
  cases (show u = Value.ref b from ry)
  obtain ⟨_, ya, va, ra, da⟩ := (show ObjOk X.prog X.w H s.heap a (.dK ks) from ha.ok I.hok)
  obtain ⟨_, yb, vb, rb, db⟩ := (show ObjOk X.prog X.w H s.heap b (.dK ls) from hb.ok I.hok)
  refine PySem.W.rcP_dicts (A := X.A) (knd := mixKind X.prog X.w) (r := true) ya yb da db (by omega) (fun _ => hits_run (eqV_run I 1 X.A.in1 (by show X.A.units + 1 + 1 < cLine; omega)) rb ra fun p hm => ?_) _ _ ?_
  · obtain ⟨u, h1, h2, h3⟩ := hp p hm
    exact ⟨u, h1, .inl ⟨h2, h3⟩⟩
  · have e : va.length = vb.length := by rw [← ra.length, ← rb.length]; exact hl
    rw [show (va.length == vb.length && true) = true from by rw [e]; simp]
    exact ⟨.bl true, H, I, rfl, q⟩
/-- the comparisons' rules -/
def inR (K : PySem.W.Frag) (neg : Bool) : R2 := fun x y H Q => (∃ i j, x = .str i ∧ y = .str j ∧ Q (.bl (if neg then !occurs i j else occurs i j)) H) ∨ rIn K neg x y H Q
def cmpR (K : PySem.W.Frag) : CmpOp → R2
  | .Eq => fun x y H Q => rEq x y H Q ∨ rEqD K x y H Q ∨ rEqK x y H Q
  | .NotEq => fun x y H Q => (rNe x y H Q ∨ rNeD K x y H Q)
  | .Lt => fun x y H Q => rI0 (fun i j => .bl (decide (i < j))) x y H Q ∨ rPair K (fun p q => ltP2 p q) x y H Q
  | .LtE => fun x y H Q => rI0 (fun i j => .bl (decide (i ≤ j))) x y H Q ∨ rPair K (fun p q => !ltP2 q p) x y H Q
  | .Gt => fun x y H Q => rI0 (fun i j => .bl (decide (j < i))) x y H Q ∨ rPair K (fun p q => ltP2 q p) x y H Q
  | .GtE => fun x y H Q => rI0 (fun i j => .bl (decide (j ≤ i))) x y H Q ∨ rPair K (fun p q => !ltP2 p q) x y H Q
  | .Is => fun x y H Q => (y = .non ∧ Q (.bl (decide (x = .non))) H) ∨ ∃ a b, x = .bl a ∧ y = .bl b ∧ Q (.bl (decide (a = b))) H
  | .IsNot => fun x y H Q => (y = .non ∧ Q (.bl (!decide (x = .non))) H) ∨ ∃ a b, x = .bl a ∧ y = .bl b ∧ Q (.bl (!decide (a = b))) H
  | .In => inR K false
  | .NotIn => inR K true
theorem cmpR_ok {X : Cx} (hu : X.A.units + 64 < cLine) (op : CmpOp) : OpR X (compareOp op) (cmpR X.K op) := by
  cases op
  case Eq => exact op_eq.or ((op_eqD hu).or (op_eqK hu))
  case NotEq => exact op_ne.or (op_neD hu)
  case Lt => exact op_lt.or (op_ltP hu)
  case LtE => exact op_le.or (op_leP hu)
  case Gt => exact op_gt.or (op_gtP hu)
  case GtE => exact op_ge.or (op_geP hu)
  case Is => exact op_isN.or op_is_bl
  case IsNot => exact op_notN.or op_isnot_bl
  case In => exact op_in_str.or op_in_seq
  case NotIn => exact op_notin_str.or op_notIn_seq
theorem eqS_ok {K : PySem.W.Frag} {H : Hp} {d e : D} {v u : V} {k : Bool} (h : eqS d e = some k) (i : Is K H d v) (j : Is K H e u) : scal v u = true ∧ decide (v = u) = k := by
  cases i <;> cases j <;> simp [eqS] at h <;> (subst h) <;> refine ⟨rfl, ?_⟩ <;> first | rfl | (rw [Bool.eq_iff_iff]; simp; done) | simp
theorem IsK.un {K : PySem.W.Frag} {F : Hp} : ∀ {ds : List (D × D)} {kvs : List (Key × V)} {es : List (Key × D)}, IsK K F ds kvs → TL.unK ds = some es → Paired (fun (p : Key × D) (q : Key × V) => p.1 = q.1 ∧ Is K F p.2 q.2) es kvs
  | _, _, es, .nil, h => by
    simp only [TL.unK, Option.some.injEq] at h
    subst h
    exact .nil
  | _, _, es, .cons (k := k) (d := d) i l, h => by
    simp only [TL.unK, keyOf_keyD] at h
    split at h
    · rename_i k' es' h1 h2
      cases h1
      have := Option.some.inj h
      subst this
      exact .cons ⟨rfl, i⟩ (IsK.un l h2)
    · cases h
theorem pair_find {K : PySem.W.Frag} {F : Hp} {es : List (Key × D)} {kvs : List (Key × V)} (h : Paired (fun (p : Key × D) (q : Key × V) => p.1 = q.1 ∧ Is K F p.2 q.2) es kvs) {k : Key} : ∀ {q : Key × D}, (es.find? fun q => decide (q.1 = k)) = some q → ∃ u, valV kvs k = some u ∧ Is K F q.2 u := by
  induction h with
  | nil => intro q h; simp at h
  | @cons p r ps rs h t ih =>
    intro q hq
    rw [List.find?_cons] at hq
    unfold valV
    rw [List.find?_cons]
    rw [h.1] at hq
    cases e : decide (r.1 = k) with
    | true =>
      rw [e] at hq
      cases hq
      exact ⟨r.2, rfl, h.2⟩
    | false =>
      rw [e] at hq
      exact ih hq
theorem pair_mem {K : PySem.W.Frag} {F : Hp} {es : List (Key × D)} {kvs : List (Key × V)} (h : Paired (fun (p : Key × D) (q : Key × V) => p.1 = q.1 ∧ Is K F p.2 q.2) es kvs) : ∀ {r : Key × V}, r ∈ kvs → ∃ p ∈ es, p.1 = r.1 ∧ Is K F p.2 r.2 := by
  induction h with
  | nil => intro r h; cases h
  | @cons p q ps qs h t ih =>
    intro r hr
    rcases List.mem_cons.mp hr with e | hr
    · subst e
      exact ⟨p, by simp, h⟩
    · obtain ⟨a, b, c⟩ := ih hr
      exact ⟨a, by simp [b], c⟩
theorem eqK_ok {K : PySem.W.Frag} {H : Hp} {d1 d2 : D} {v1 v2 : V} {Q : VK} (h : eqK d1 d2 = true) (i : Is K H d1 v1) (j : Is K H d2 v2) (q : Q (.bl true) H) : rEqK v1 v2 H Q := by
  unfold eqK at h
  split at h
  · rename_i a b
    split at h
    · rename_i es fs h1 h2
      simp only [Bool.and_eq_true, decide_eq_true_eq, List.all_eq_true] at h
      obtain ⟨hl, hall⟩ := h
      cases i with
      | dct ra la =>
        cases j with
        | dct rb lb =>
          have pa := la.un h1
          have pb := lb.un h2
          refine ⟨_, _, _, _, rfl, rfl, ra, rb, by rw [← Paired.length pa, ← Paired.length pb]; exact hl, fun r hr => ?_, q⟩
          obtain ⟨p, hp, e, is⟩ := pair_mem pa hr
          have := hall p hp
          split at this
          · rename_i z hz
            simp only [Bool.and_eq_true, decide_eq_true_eq] at this
            rw [e] at hz
            obtain ⟨u, hu, iu⟩ := pair_find pb hz
            have ok := eqS_ok this.2 is iu
            refine ⟨u, hu, of_decide_eq_true ok.2, ?_⟩
            have ff := this.1
            generalize p.2 = dd at is ff
            generalize r.2 = vv at is
            cases is <;> first | rfl | (simp [flatD] at ff)
          · cases this
        | dtp rb lb => simp [TL.unK, keyOf] at h2
        | ins h => simp [insD, TL.unK, keyOf] at h2
        | exc => simp [excD, TL.unK, keyOf] at h2
      | dtp ra la => simp [TL.unK, keyOf] at h1
      | ins h => simp [insD, TL.unK, keyOf] at h1
      | exc => simp [excD, TL.unK, keyOf] at h1
    · cases h
  · cases h
theorem cmpR_res {K : PySem.W.Frag} {op : CmpOp} {H : Hp} {v1 v2 : V} {d1 d2 : D} {k : Bool} {Q : VK} (h : cmpD op d1 d2 = some k) (i : Is K H d1 v1) (j : Is K H d2 v2) (q : Q (.bl k) H) : cmpR K op v1 v2 H Q := by
  have eq : ∀ {b : Bool}, eqD d1 d2 = some b → (scal v1 v2 = true ∧ decide (v1 = v2) = b) ∨ (∃ d e, Dp K H v1 d ∧ Dp K H v2 e ∧ SeqAt.shaped d = true ∧ SeqAt.shaped e = true ∧ PyData.eqv d e = b) ∨ (b = true ∧ eqK d1 d2 = true) := fun {b} h => by
    unfold eqD at h
    split at h
    · rename_i hh
      have e := Option.some.inj h
      subst e
      exact .inl (eqS_ok hh i j)
    · split at h
      · rename_i z
        simp only [Bool.and_eq_true] at z
        exact .inr (.inl ⟨d1, d2, i.dp (SeqAt.canLay_of_shaped z.1), j.dp (SeqAt.canLay_of_shaped z.2), z.1, z.2, Option.some.inj h⟩)
      · split at h
        · rename_i z
          exact .inr (.inr ⟨(Option.some.inj h).symm, z⟩)
        · cases h
  have hin : ∀ {b : Bool} {neg : Bool}, inD d1 d2 = some b → Q (.bl (if neg then !b else b)) H → inR K neg v1 v2 H Q := fun {b neg} h q => by
    unfold inD at h
    split at h
    · cases i; cases j
      have e := Option.some.inj h
      subst e
      exact .inl ⟨_, _, rfl, rfl, q⟩
    · cases j with
      | lst s l =>
        split at h
        · rename_i z
          simp only [Bool.and_eq_true] at z
          have e := Option.some.inj h
          refine .inr ⟨_, _, rfl, .inl s, i.flat z.1, l.flat z.2, ?_⟩
          rw [inV_inL i z.1 l z.2, e]
          exact q
        · cases h
    · cases j with
      | tup s _ l =>
        split at h
        · rename_i z
          simp only [Bool.and_eq_true] at z
          have e := Option.some.inj h
          refine .inr ⟨_, _, rfl, .inr s, i.flat z.1, l.flat z.2, ?_⟩
          rw [inV_inL i z.1 l z.2, e]
          exact q
        · cases h
    · cases h
  cases op
  case Eq =>
    rcases eq h with ⟨a, b⟩ | ⟨d, e, a, b, c, f, g⟩ | ⟨a, b⟩
    · exact .inl ⟨a, by rw [b]; exact q⟩
    · exact .inr (.inl ⟨d, e, a, b, c, f, by rw [g]; exact q⟩)
    · subst a
      exact .inr (.inr (eqK_ok b i j q))
  case NotEq =>
    simp only [cmpD] at h
    split at h
    · cases h
    · rename_i nd
      simp only [Option.map_eq_some_iff] at h
      obtain ⟨b', h, hk⟩ := h
      subst hk
      rcases eq h with ⟨a, b⟩ | ⟨d, e, a, b, c, f, g⟩ | ⟨_, a⟩
      · exact .inl ⟨a, by rw [b]; exact q⟩
      · exact .inr ⟨d, e, a, b, c, f, by rw [g]; exact q⟩
      · unfold eqK at a
        split at a
        · exact absurd rfl nd
        · cases a
  case In => exact hin (neg := false) h q
  case NotIn =>
    simp only [cmpD, Option.map_eq_some_iff] at h
    obtain ⟨b', h, hk⟩ := h
    subst hk
    exact hin (neg := true) h q
  case Is =>
    simp only [cmpD] at h
    cases j with
    | non =>
      refine .inl ⟨rfl, ?_⟩
      cases i <;> simp at h <;> (subst h; exact q)
    | bl b =>
      cases i with
      | bl a =>
        have e := Option.some.inj h
        subst e
        exact .inr ⟨a, b, rfl, rfl, q⟩
      | _ => simp at h
    | _ => simp at h
  case IsNot =>
    simp only [cmpD] at h
    cases j with
    | non =>
      refine .inl ⟨rfl, ?_⟩
      cases i <;> simp at h <;> (subst h; exact q)
    | bl b =>
      cases i with
      | bl a =>
        have e := Option.some.inj h
        subst e
        exact .inr ⟨a, b, rfl, rfl, q⟩
      | _ => simp at h
    | _ => simp at h
  all_goals
    have fin : ∀ (f : Int × Int → Int × Int → Bool), ord2 d1 d2 f = some k → rPair K f v1 v2 H Q := fun f h => by
      unfold ord2 at h
      split at h
      · rename_i p1 p2 hp hq
        have := Option.some.inj h
        subst this
        have e1 := pairOf_eq hp
        have e2 := pairOf_eq hq
        subst e1 e2
        exact ⟨p1, p2, i.dp rfl, j.dp rfl, q⟩
      · cases h
    simp only [cmpD] at h
    split at h
    · cases i; cases j
      have := Option.some.inj h
      subst this
      exact .inl ⟨_, _, rfl, rfl, q⟩
    · exact .inr (fin _ h)
end TL
namespace TL
open PySem PySem.Spec L2
/-- any reading of this kind -/
def tG (K : PySem.W.Frag) (w : WC) {α : Type} (q : Bool) (pk : Hp → List V → List TV → Hp → Hp → Ev → α → Prop) (r : Ev → R α) (σ : St) (H : Hp) : Prop :=
  ∃ F P ts tv env, SR K F P H ts tv σ env ∧ (q = true ∨ ∀ t ∈ tv, stable t = true) ∧ Res K w q F P H ts tv σ (pk P ts tv) (r env)
section
variable {K : PySem.W.Frag} {w : WC} {α β : Type} {q : Bool} {F F1 P H H1 : Hp} {ts : List V} {tv : List TV} {σ : St}
theorem Res.imp {q' : Bool} {pk : Hp → Hp → Ev → α → Prop} {r : R α} (h : Res K w q F P H ts tv σ pk r) (k : q = true → q' = true) : Res K w q' F P H ts tv σ pk r := by
  cases r with
  | ok a e => exact fun F' H' x s => h F' H' x fun z => s (k z)
  | exc c e => exact fun F' H' x s => h F' H' x fun z => s (k z)
  | bad => exact h
theorem tG1 {pk : Hp → List V → List TV → Hp → Hp → Ev → α → Prop} {qa : Bool} {ra : Ev → R TV} {f : TV → Ev → R α} {R' : VK} (hqa : q = true → qa = true)
    (h : tG K w q pk (fun e => (ra e).bd f) σ H)
    (k : ∀ F2 P H2 v1 ta ts tv e2, SR K F2 P H2 (v1 :: ts) (ta :: tv) σ e2 → (q = true ∨ ∀ t ∈ tv, stable t = true) → Res K w q F2 P H2 ts tv σ (pk P ts tv) (f ta e2) → R' v1 H2) :
    tE K w qa ra σ H R' := by
  obtain ⟨F, P, ts, tv, env, sr, hq, h⟩ := h
  dsimp only at h
  refine ⟨F, P, ts, tv, env, sr, hq.imp hqa id, ?_⟩
  cases ea : ra env with
  | bad => rw [ea] at h; exact h
  | exc c e => rw [ea] at h; exact Res.exc0 h hqa
  | ok ta e1 =>
    rw [ea] at h
    intro F1 H1 x1 s1 v1 sr1
    exact k F1 P H1 v1 ta ts tv e1 sr1 hq (Res.base h x1 fun z => s1 (hqa z))
/-- a second part, the first one's value kept as a temporary -/
theorem tG2 {pk : Hp → List V → List TV → Hp → Hp → Ev → α → Prop} {qb : Bool} {rb : Ev → R TV} {f : TV → Ev → R α} {R' : VK} {v1 : V} {ta : TV} {e1 : Ev} (hqb : q = true → qb = true)
    (sr : SR K F P H (v1 :: ts) (ta :: tv) σ e1) (hq : q = true ∨ ∀ t ∈ tv, stable t = true) (hs : (qb || stable ta) = true)
    (h : Res K w q F P H ts tv σ (pk P ts tv) ((rb e1).bd f))
    (k : ∀ F2 H2 v2 tb e2, SR K F2 P H2 (v2 :: v1 :: ts) (tb :: ta :: tv) σ e2 → Res K w q F2 P H2 ts tv σ (pk P ts tv) (f tb e2) → R' v2 H2) :
    tE K w qb rb σ H R' := by
  have hqb' : qb = true ∨ ∀ t ∈ ta :: tv, stable t = true := by
    rcases hq with z | z
    · exact .inl (hqb z)
    · rcases Bool.or_eq_true_iff.mp hs with y | y
      · exact .inl y
      · refine .inr fun t ht => ?_
        rcases List.mem_cons.mp ht with e | ht
        · rw [e]; exact y
        · exact z t ht
  refine ⟨F, P, v1 :: ts, ta :: tv, e1, sr, hqb', ?_⟩
  cases eb : rb e1 with
  | bad => rw [eb] at h; exact h
  | exc c e => rw [eb] at h; exact Res.exc1 h hqb
  | ok tb e2 =>
    rw [eb] at h
    intro F2 H2 x2 s2 v2 sr2
    exact k F2 H2 v2 tb e2 sr2 (Res.base h x2 fun z => s2 (hqb z))
/-- the first part dropped, the second one alone -/
theorem tG3 {pk : Hp → List V → List TV → Hp → Hp → Ev → α → Prop} {qb : Bool} {rb : Ev → R α} {e1 : Ev} (hqb : q = true → qb = true)
    (sr : SR K F P H ts tv σ e1) (hq : q = true ∨ ∀ t ∈ tv, stable t = true) (h : Res K w q F P H ts tv σ (pk P ts tv) (rb e1)) : tG K w qb pk rb σ H :=
  ⟨F, P, ts, tv, e1, sr, hq.imp hqb id, h.imp hqb⟩
theorem SR.drop1 {v : V} {t : TV} {env : Ev} (sr : SR K F P H (v :: ts) (t :: tv) σ env) : SR K F P H ts tv σ env := by
  obtain ⟨L1, _, s⟩ := sr.sx.pop
  exact s.sr
theorem SR.rd1 {v : V} {t : TV} {env : Ev} (sr : SR K F P H (v :: ts) (t :: tv) σ env) : Is K H (rd t) v := by
  obtain ⟨L1, r, s⟩ := sr.sx.pop
  exact r.is sr.fh
/-- what boolT takes -/
theorem boolT_ok {v : V} {t : TV} {env e : Ev} {k : Bool} (sr : SR K F P H (v :: ts) (t :: tv) σ env) (h : boolT t env = .ok k e) : v = .bl k ∧ e = env := by
  have i := sr.rd1
  cases t with
  | brw o => cases h
  | own o =>
    cases o with
    | fz d => cases d with
      | bool b =>
        cases h
        cases i
        exact ⟨rfl, rfl⟩
      | _ => cases h
    | _ => cases h
theorem boolT_cases (t : TV) (e : Ev) : (∃ k, boolT t e = .ok k e) ∨ boolT t e = .bad := by
  cases t with
  | brw o => exact .inr rfl
  | own o =>
    cases o with
    | fz d => cases d with
      | bool b => exact .inl ⟨b, rfl⟩
      | _ => exact .inr rfl
    | _ => exact .inr rfl
end
section
variable {X : Cx} {w : WC} {a b c : Expr} {rest : List Expr} {pos : Pos} {qa qb qc : Bool} {ra rb rc : Ev → R TV}
theorem so_neg (ha : PE X a (tE X.K w qa ra)) : PE X (.UnaryOp .USub a pos) (tE X.K w qa fun e => (ra e).bd fun ta e1 => match rd ta with
    | .int i => .ok (fl (.int (-i))) e1
    | _ => .bad) := by
  refine PE.imp (pe_un un_neg ha) fun σ H Q h => ?_
  refine tG1 (pk := fun P ts tv => pkE X.K P ts tv σ Q) (fun z => z) h fun F2 P H2 v1 ta ts tv e2 sr hq k => ?_
  have i := sr.rd1
  revert k
  generalize rd ta = d at i
  intro k
  cases i with
  | int i => exact ⟨i, rfl, k.here _ (sr.drop1.sx.pushF (.int _)).sr⟩
  | _ => exact k.elim
theorem so_and (ha : PE X a (tE X.K w qa ra)) (hb : PE X (.BoolOp .And (b :: rest) pos) (tE X.K w qb rb)) :
    PE X (.BoolOp .And (a :: b :: rest) pos) (tE X.K w (qa && qb) fun e => (ra e).bd fun ta e1 => (boolT ta e1).bd fun k e1 => if k then rb e1 else .ok (fl (.bool false)) e1) := by
  refine PE.imp (pe_and ha hb) fun σ H Q h => ?_
  refine tG1 (pk := fun P ts tv => pkE X.K P ts tv σ Q) (fun z => (Bool.and_eq_true_iff.mp z).1) h fun F2 P H2 v1 ta ts tv e2 sr hq k => ?_
  rcases boolT_cases ta e2 with ⟨b, e⟩ | e
  · rw [e] at k
    obtain ⟨rfl, _⟩ := boolT_ok sr e
    refine ⟨b, rfl, ?_⟩
    cases b with
    | true => exact iteT (tG3 (pk := fun P ts tv => pkE X.K P ts tv σ Q) (fun z => (Bool.and_eq_true_iff.mp z).2) sr.drop1 hq k)
    | false => exact iteF (k.here _ (sr.drop1.sx.pushF (.bl false)).sr)
  · rw [e] at k; exact k.elim
theorem so_or (ha : PE X a (tE X.K w qa ra)) (hb : PE X (.BoolOp .Or (b :: rest) pos) (tE X.K w qb rb)) :
    PE X (.BoolOp .Or (a :: b :: rest) pos) (tE X.K w (qa && qb) fun e => (ra e).bd fun ta e1 => (boolT ta e1).bd fun k e1 => if k then .ok (fl (.bool true)) e1 else rb e1) := by
  refine PE.imp (pe_or ha hb) fun σ H Q h => ?_
  refine tG1 (pk := fun P ts tv => pkE X.K P ts tv σ Q) (fun z => (Bool.and_eq_true_iff.mp z).1) h fun F2 P H2 v1 ta ts tv e2 sr hq k => ?_
  rcases boolT_cases ta e2 with ⟨b, e⟩ | e
  · rw [e] at k
    obtain ⟨rfl, _⟩ := boolT_ok sr e
    refine ⟨b, rfl, ?_⟩
    cases b with
    | false => exact iteF (tG3 (pk := fun P ts tv => pkE X.K P ts tv σ Q) (fun z => (Bool.and_eq_true_iff.mp z).2) sr.drop1 hq k)
    | true => exact iteT (k.here _ (sr.drop1.sx.pushF (.bl true)).sr)
  · rw [e] at k; exact k.elim
theorem so_not (ha : PE X a (tE X.K w qa ra)) : PE X (.UnaryOp .Not a pos) (tE X.K w qa fun e => (ra e).bd fun ta e1 => (boolT ta e1).bd fun k e1 => .ok (fl (.bool (!k))) e1) := by
  refine PE.imp (pe_not ha) fun σ H Q h => ?_
  refine tG1 (pk := fun P ts tv => pkE X.K P ts tv σ Q) (fun z => z) h fun F2 P H2 v1 ta ts tv e2 sr hq k => ?_
  rcases boolT_cases ta e2 with ⟨b, e⟩ | e
  · rw [e] at k
    obtain ⟨rfl, _⟩ := boolT_ok sr e
    exact ⟨b, rfl, k.here _ (sr.drop1.sx.pushF (.bl _)).sr⟩
  · rw [e] at k; exact k.elim
/-! ### as tests -/
/-- from a test's reading to its parts: the value's run, then the rest -/
theorem tB1 {α : Type} {K : PySem.W.Frag} {w : WC} {q qa : Bool} {pk : Hp → List V → List TV → Hp → Hp → Ev → α → Prop} {ra : Ev → R Bool} {f : Bool → Ev → R α} {σ : St} {H : Hp} {R' : Bool → Hp → Prop} (hqa : q = true → qa = true)
    (h : tG K w q pk (fun e => (ra e).bd f) σ H)
    (k : ∀ F2 P H2 b ts tv e2, SR K F2 P H2 ts tv σ e2 → (q = true ∨ ∀ t ∈ tv, stable t = true) → Res K w q F2 P H2 ts tv σ (pk P ts tv) (f b e2) → R' b H2) :
    tB K w qa ra σ H R' := by
  obtain ⟨F, P, ts, tv, env, sr, hq, h⟩ := h
  dsimp only at h
  refine ⟨F, P, ts, tv, env, sr, hq.imp hqa id, ?_⟩
  cases ea : ra env with
  | bad => rw [ea] at h; exact h
  | exc c e => rw [ea] at h; exact Res.exc0 h hqa
  | ok b e1 =>
    rw [ea] at h
    intro F1 H1 x1 s1 sr1
    exact k F1 P H1 b ts tv e1 sr1 hq (Res.base h x1 fun z => s1 (hqa z))
theorem bd_bd {α β γ : Type} (r : R α) (f : α → Ev → R β) (g : β → Ev → R γ) : (r.bd f).bd g = r.bd fun a e => (f a e).bd g := by cases r <;> rfl
theorem st_and (ha : PT X a (tB X.K w qa fun e => (ra e).bd boolT)) (hb : PW X (.BoolOp .And (b :: rest) pos) (tB X.K w qb fun e => (rb e).bd boolT)) :
    PW X (.BoolOp .And (a :: b :: rest) pos) (tB X.K w (qa && qb) fun e => ((ra e).bd fun ta e1 => (boolT ta e1).bd fun k e1 => if k then rb e1 else .ok (fl (.bool false)) e1).bd boolT) := by
  refine PW.imp (pw_and ha hb) fun σ H Q h => ?_
  obtain ⟨F, P, ts, tv, env, sr, hq, h⟩ := h
  refine tB1 (q := qa && qb) (ra := fun e => (ra e).bd boolT) (f := fun k e1 => (if k then rb e1 else .ok (fl (.bool false)) e1).bd boolT) (pk := fun P ts tv => pkB X.K P ts tv σ Q) (fun z => (Bool.and_eq_true_iff.mp z).1) ⟨F, P, ts, tv, env, sr, hq, by simpa only [bd_bd] using h⟩ fun F2 P H2 b ts tv e2 sr hq k => ?_
  cases b with
  | true => exact iteT (tG3 (pk := fun P ts tv => pkB X.K P ts tv σ Q) (rb := fun e => (rb e).bd boolT) (fun z => (Bool.and_eq_true_iff.mp z).2) sr hq k)
  | false => exact iteF (k.here sr)
theorem st_or (ha : PT X a (tB X.K w qa fun e => (ra e).bd boolT)) (hb : PW X (.BoolOp .Or (b :: rest) pos) (tB X.K w qb fun e => (rb e).bd boolT)) :
    PW X (.BoolOp .Or (a :: b :: rest) pos) (tB X.K w (qa && qb) fun e => ((ra e).bd fun ta e1 => (boolT ta e1).bd fun k e1 => if k then .ok (fl (.bool true)) e1 else rb e1).bd boolT) := by
  refine PW.imp (pw_or ha hb) fun σ H Q h => ?_
  obtain ⟨F, P, ts, tv, env, sr, hq, h⟩ := h
  refine tB1 (q := qa && qb) (ra := fun e => (ra e).bd boolT) (f := fun k e1 => (if k then .ok (fl (.bool true)) e1 else rb e1).bd boolT) (pk := fun P ts tv => pkB X.K P ts tv σ Q) (fun z => (Bool.and_eq_true_iff.mp z).1) ⟨F, P, ts, tv, env, sr, hq, by simpa only [bd_bd] using h⟩ fun F2 P H2 b ts tv e2 sr hq k => ?_
  cases b with
  | false => exact iteF (tG3 (pk := fun P ts tv => pkB X.K P ts tv σ Q) (rb := fun e => (rb e).bd boolT) (fun z => (Bool.and_eq_true_iff.mp z).2) sr hq k)
  | true => exact iteT (k.here sr)
theorem st_not (ha : PT X a (tB X.K w qa fun e => (ra e).bd boolT)) : PT X (.UnaryOp .Not a pos) (tB X.K w qa fun e => ((ra e).bd fun ta e1 => (boolT ta e1).bd fun k e1 => .ok (fl (.bool (!k))) e1).bd boolT) := by
  refine PT.imp (pt_not ha) fun σ H Q h => ?_
  obtain ⟨F, P, ts, tv, env, sr, hq, h⟩ := h
  refine tB1 (q := qa) (ra := fun e => (ra e).bd boolT) (f := fun k e1 => (R.ok (fl (.bool (!k))) e1).bd boolT) (pk := fun P ts tv => pkB X.K P ts tv σ Q) (fun z => z) ⟨F, P, ts, tv, env, sr, hq, by simpa only [bd_bd] using h⟩ fun F2 P H2 b ts tv e2 sr hq k => ?_
  exact k.here sr
theorem so_ite (hc : PT X c (tB X.K w qc fun e => (rc e).bd boolT)) (ha : PE X a (tE X.K w qa ra)) (hb : PE X b (tE X.K w qb rb)) :
    PE X (.IfExp c a b pos) (tE X.K w (qc && qa && qb) fun e => (rc e).bd fun tc e1 => (boolT tc e1).bd fun k e1 => if k then ra e1 else rb e1) := by
  refine PE.imp (pe_ifExp hc ha hb) fun σ H Q h => ?_
  obtain ⟨F, P, ts, tv, env, sr, hq, h⟩ := h
  have z1 : (qc && qa && qb) = true → qc = true ∧ qa = true ∧ qb = true := fun z => by simp only [Bool.and_eq_true] at z; exact ⟨z.1.1, z.1.2, z.2⟩
  refine tB1 (q := qc && qa && qb) (ra := fun e => (rc e).bd boolT) (f := fun k e1 => if k then ra e1 else rb e1) (pk := fun P ts tv => pkE X.K P ts tv σ Q) (fun z => (z1 z).1) ⟨F, P, ts, tv, env, sr, hq, by simpa only [bd_bd] using h⟩ fun F2 P H2 b ts tv e2 sr hq k => ?_
  cases b with
  | true => exact iteT (tG3 (pk := fun P ts tv => pkE X.K P ts tv σ Q) (fun z => (z1 z).2.1) sr hq k)
  | false => exact iteF (tG3 (pk := fun P ts tv => pkE X.K P ts tv σ Q) (fun z => (z1 z).2.2) sr hq k)
end
end TL
namespace TL
open PySem PySem.Spec L2
section
variable {K : PySem.W.Frag} {w : WC} {F P H : Hp} {ts : List V} {tv : List TV} {σ : St}
/-- a third part, two values kept -/
theorem tG4 {α : Type} {pk : Hp → Hp → Ev → α → Prop} {rb : Ev → R TV} {f : TV → Ev → R α} {R' : VK} {v1 v2 : V} {ta tb : TV} {e1 : Ev}
    (sr : SR K F P H (v2 :: v1 :: ts) (tb :: ta :: tv) σ e1) (h : Res K w true F P H ts tv σ pk ((rb e1).bd f))
    (k : ∀ F2 H2 v3 tc e2, Same H H2 → SR K F2 P H2 (v3 :: v2 :: v1 :: ts) (tc :: tb :: ta :: tv) σ e2 → Res K w true F2 P H2 ts tv σ pk (f tc e2) → R' v3 H2) :
    tE K w true rb σ H R' := by
  refine ⟨F, P, v2 :: v1 :: ts, tb :: ta :: tv, e1, sr, .inl rfl, ?_⟩
  cases eb : rb e1 with
  | bad => rw [eb] at h; exact h
  | exc c e =>
    rw [eb] at h
    exact fun F' H' x s sr' => h F' H' x s sr'.drop1.drop1
  | ok tc e2 =>
    rw [eb] at h
    intro F2 H2 x2 s2 v3 sr2
    exact k F2 H2 v3 tc e2 (s2 rfl) sr2 (Res.base h x2 s2)
variable {X : Cx} {a b c : Expr} {pos : Pos} {ra rb rc : Ev → R TV}
/-- what a chain asks -/
theorem chn_conv {op op' : CmpOp} {σ : St} {H : Hp} {Q : VK}
    (h : tE K w true (fun e => (ra e).bd fun ta e1 => (rb e1).bd fun tb e2 => (R.lf (cmpD op (rd ta) (rd tb)) e2).bd fun k e2 =>
        if k then (rc e2).bd fun tc e3 => R.lf ((cmpD op' (rd tb) (rd tc)).map fun c => fl (.bool c)) e3 else .ok (fl (.bool false)) e2) σ H Q) :
    tChain (cmpR K op) (cmpR K op') (tE K w true ra) (tE K w true rb) (tE K w true rc) σ H Q := by
  refine tG1 (pk := fun P ts tv => pkE K P ts tv σ Q) (fun z => z) h fun F2 P H2 v1 ta ts tv e2 sr hq k => ?_
  refine tG2 (q := true) (pk := fun P ts tv => pkE K P ts tv σ Q) (fun z => z) sr (.inl rfl) rfl k fun F3 H3 v2 tb e3 sr3 k3 => ?_
  have i2 := sr3.rd1
  have i1 := sr3.drop1.rd1
  cases ec : cmpD op (rd ta) (rd tb) with
  | none => rw [ec] at k3; exact k3.elim
  | some b =>
    rw [ec] at k3
    simp only [R.lf_some, R.bd_ok] at k3
    refine cmpR_res ec i1 i2 ⟨b, rfl, ?_⟩
    cases b with
    | false => exact iteF (k3.here _ (sr3.drop1.drop1.sx.pushF (.bl false)).sr)
    | true =>
      refine iteT ?_
      simp only [if_true] at k3
      refine tG4 sr3 k3 fun F4 H4 v3 tc e4 s4 sr4 k4 => ?_
      cases ed : cmpD op' (rd tb) (rd tc) with
      | none => rw [ed] at k4; exact k4.elim
      | some c =>
        rw [ed] at k4
        exact cmpR_res ed sr4.drop1.rd1 sr4.rd1 (k4.here _ (sr4.drop1.drop1.drop1.sx.pushF (.bl c)).sr)
theorem so_chn {op op' : CmpOp} (hu : X.A.units + 64 < cLine) (hm : lastMarks [op, op'] [b, c] = false) (ha : PE X a (tE X.K w true ra)) (hb : PE X b (tE X.K w true rb)) (hc : PE X c (tE X.K w true rc)) :
    PE X (.Compare a [op, op'] [b, c] pos) (tE X.K w true fun e => (ra e).bd fun ta e1 => (rb e1).bd fun tb e2 => (R.lf (cmpD op (rd ta) (rd tb)) e2).bd fun k e2 =>
        if k then (rc e2).bd fun tc e3 => R.lf ((cmpD op' (rd tb) (rd tc)).map fun c => fl (.bool c)) e3 else .ok (fl (.bool false)) e2) :=
  PE.imp (pe_chain (cmpR_ok hu op) (cmpR_ok hu op') ha hb hc hm) fun σ H Q h => chn_conv h
theorem st_chn {op op' : CmpOp} (hu : X.A.units + 64 < cLine) (hm : lastMarks [op, op'] [b, c] = false) (ha : PE X a (tE X.K w true ra)) (hb : PE X b (tE X.K w true rb)) (hc : PE X c (tE X.K w true rc)) :
    PT X (.Compare a [op, op'] [b, c] pos) (tB X.K w true fun e => ((ra e).bd fun ta e1 => (rb e1).bd fun tb e2 => (R.lf (cmpD op (rd ta) (rd tb)) e2).bd fun k e2 =>
        if k then (rc e2).bd fun tc e3 => R.lf ((cmpD op' (rd tb) (rd tc)).map fun c => fl (.bool c)) e3 else .ok (fl (.bool false)) e2).bd boolT) := by
  refine PT.imp (pt_chain (cmpR_ok hu op) (cmpR_ok hu op') ha hb hc hm) fun σ H Q h => ?_
  obtain ⟨F, P, ts, tv, env, sr, hq, h⟩ := h
  exact chn_conv ⟨F, P, ts, tv, env, sr, hq, Res.ofBool h⟩
end
end TL
namespace TL
open PySem PySem.Spec L2
/-! ### lists of values -/
theorem starEach_cons {e : Expr} {es : List Expr} {env : PySem.Env} (h : ∀ x p, e ≠ .Starred x p) : starEach (e :: es) env = (false, eval e env) :: starEach es env := by
  cases e <;> first | rfl | exact absurd rfl (h _ _)
section
variable {X : Cx} {w : WC} {e : Expr} {es : List Expr} {qa qb : Bool}
theorem so_nilL : PA X [] (tL X.K w true fun e => .ok [] e) := by
  refine PA.imp pa_nil fun σ H Q h => ?_
  obtain ⟨F, P, ts, tv, env, sr, hq, h⟩ := h
  exact h.here [] rfl sr
theorem so_consL {ra : Ev → R TV} {rs : Ev → R (List TV)} (ha : PE X e (tE X.K w qa ra)) (hs : PA X es (tL X.K w qb rs)) (hn : ∀ x p, e ≠ .Starred x p) (hst : ∀ e t e', ra e = .ok t e' → (qb || stable t) = true) :
    PA X (e :: es) (tL X.K w (qa && qb) fun e => (ra e).bd fun t e1 => (rs e1).bd fun us e2 => .ok (t :: us) e2) := by
  refine PA.imp (pa_cons ha hs (starEach_cons hn)) fun σ H Q h => ?_
  obtain ⟨F, P, ts, tv, env, sr, hq, h⟩ := h
  dsimp only at h
  have z1 : (qa && qb) = true → qa = true ∧ qb = true := fun z => Bool.and_eq_true_iff.mp z
  refine ⟨F, P, ts, tv, env, sr, hq.imp (fun z => (z1 z).1) id, ?_⟩
  cases ea : ra env with
  | bad => rw [ea] at h; exact h
  | exc c e => rw [ea] at h; exact Res.exc0 h fun z => (z1 z).1
  | ok ta e1 =>
    rw [ea] at h
    intro F1 H1 x1 s1 v1 sr1
    have h := Res.base h x1 fun z => s1 (z1 z).1
    have hqb : qb = true ∨ ∀ t ∈ ta :: tv, stable t = true := by
      rcases hq with z | z
      · exact .inl (z1 z).2
      · rcases Bool.or_eq_true_iff.mp (hst _ _ _ ea) with y | y
        · exact .inl y
        · refine .inr fun t ht => ?_
          rcases List.mem_cons.mp ht with e | ht
          · rw [e]; exact y
          · exact z t ht
    refine ⟨F1, P, v1 :: ts, ta :: tv, e1, sr1, hqb, ?_⟩
    simp only [R.bd_ok] at h
    cases eb : rs e1 with
    | bad => rw [eb] at h; exact h
    | exc c e => rw [eb] at h; exact Res.exc1 h fun z => (z1 z).2
    | ok us e2 =>
      rw [eb] at h
      intro F2 H2 x2 s2 vs hl sr2
      refine h F2 H2 x2 (fun z => s2 (z1 z).2) (v1 :: vs) (by simp [hl]) ?_
      simpa using sr2
end
/-- the temporaries of a list, in order -/
theorem AT.snoc {K : PySem.W.Frag} {F H : Hp} : ∀ {vs : List V} {us : List TV} {L : List Addr} {v : V} {u : TV} {M : List Addr}, AT K F H vs us L → RT K F H u v M → AT K F H (vs ++ [v]) (us ++ [u]) (L ++ (M ++ []))
  | _, _, _, _, _, _, .nil, r => AT.cons (L2 := []) r .nil
  | _, _, _, _, _, _, .cons q l, r => by rw [List.append_assoc]; exact .cons q (AT.snoc l r)
theorem AT.rev {K : PySem.W.Frag} {F H : Hp} : ∀ {vs : List V} {us : List TV} {L : List Addr}, AT K F H vs us L → ∃ M, AT K F H vs.reverse us.reverse M ∧ ∀ b, M.count b = L.count b
  | _, _, _, .nil => ⟨[], .nil, fun _ => rfl⟩
  | _, _, _, .cons r l => by
    obtain ⟨M, h1, h2⟩ := AT.rev l
    refine ⟨_, by rw [List.reverse_cons, List.reverse_cons]; exact h1.snoc r, fun b => ?_⟩
    have := h2 b
    simp only [List.count_append, List.count_nil]; omega
theorem SR.popL {K : PySem.W.Frag} {F P H : Hp} {vs ts : List V} {us tv : List TV} {σ : St} {env : Ev} (s : SR K F P H (vs.reverse ++ ts) (us.reverse ++ tv) σ env) (hl : vs.length = us.length) :
    ∃ L, AT K F H vs us L ∧ SX K F P H ts tv σ env L := by
  obtain ⟨L1, a, s1⟩ := s.sx.pops (by simp [hl])
  obtain ⟨M, h1, h2⟩ := a.rev
  rw [List.reverse_reverse, List.reverse_reverse] at h1
  exact ⟨M, h1, s1.weak fun b => by rw [h2 b, List.append_nil]; exact Nat.le_refl _⟩
theorem AT.ros {K : PySem.W.Frag} {F H : Hp} : ∀ {os : List O} {vs : List V} {L : List Addr}, AT K F H vs (os.map .own) L → ROs K F H os vs L
  | [], _, _, .nil => .nil
  | o :: os, _, _, .cons (.own r) l => .cons r (AT.ros l)
theorem AT.isL {K : PySem.W.Frag} {F H : Hp} (e : Same F H) : ∀ {us : List TV} {vs : List V} {L : List Addr}, AT K F H vs us L → IsL K H (us.map rd) vs
  | _, _, _, .nil => .nil
  | _, _, _, .cons r l => .cons (r.is e) (AT.isL e l)
theorem AT.len {K : PySem.W.Frag} {F H : Hp} : ∀ {us : List TV} {vs : List V} {L : List Addr}, AT K F H vs us L → vs.length = us.length
  | _, _, _, .nil => rfl
  | _, _, _, .cons _ l => by simp [AT.len l]
/-! ### a value to be stored -/
def oT (r : R O) : R TV := r.bd fun o e1 => .ok (.own o) e1
theorem stv_own {x : E} {ev : R TV} {e : Ev} (h : ∀ i, x ≠ .var i) : oT (stv x ev e) = ev.bd fun t e1 => match t with
    | .own o => .ok (.own o) e1
    | .brw (.fz d) => .ok (fl d) e1
    | .brw _ => .bad := by
  have : stv x ev e = ev.bd fun t e1 => match t with
    | .own o => .ok o e1
    | .brw (.fz d) => .ok (.fz d) e1
    | .brw _ => .bad := by
    cases x <;> first | rfl | exact absurd rfl (h _)
  rw [this]
  unfold oT
  rw [bd_bd]
  congr
  funext t e1
  cases t with
  | own o => rfl
  | brw o => cases o <;> rfl
section
variable {X : Cx} {w : WC} {e : Expr} {qa : Bool} {ra : Ev → R TV}
theorem so_stv {x : E} (hx : ∀ i, x ≠ .var i) (ha : PE X e (tE X.K w qa ra)) : PE X e (tE X.K w qa fun e => oT (stv x (ra e) e)) := by
  refine PE.imp ha fun σ H Q h => ?_
  obtain ⟨F, P, ts, tv, env, sr, hq, h⟩ := h
  dsimp only at h
  rw [stv_own hx] at h
  refine tG1 (f := fun t e1 => match t with
    | .own o => R.ok (.own o) e1
    | .brw (.fz d) => .ok (fl d) e1
    | .brw _ => .bad) (pk := fun P ts tv => pkE X.K P ts tv σ Q) (fun z => z) ⟨F, P, ts, tv, env, sr, hq, h⟩ fun F2 P H2 v1 ta ts tv e2 sr hq k => ?_
  cases ta with
  | own o => exact k.here v1 sr
  | brw o =>
    cases o with
    | fz d =>
      obtain ⟨L1, r, s⟩ := sr.sx.pop
      cases r with
      | brw r => cases r with
        | fz i => exact k.here v1 (SX.pushF (s.weak (L' := []) fun b => by simp) i).sr
    | _ => exact k.elim
theorem so_stvV {i : Nat} {x : Str} {pos : Pos} {ev : Ev → R TV} (hN : X.N[i]? = some x) (hv : Vis X.env.scope x) (hd : (x == ("__debug__" : Str)) = false) (hcd : (x == ("__classdict__" : Str)) = false) :
    PE X (.Name x pos) (tE X.K w true fun e => oT (stv (.var i) (ev e) e)) := by
  refine PE.imp (pe_var hN hv hd hcd) fun σ H Q h => ?_
  obtain ⟨F, P, ts, tv, env, sr, hq, h⟩ := h
  dsimp only at h
  unfold stv at h
  dsimp only at h
  cases e : env[i]? with
  | none => simp only [e] at h; exact h.elim
  | some o =>
    cases o with
    | none => simp only [e] at h; exact h.elim
    | some s =>
      simp only [e] at h
      cases s with
      | par d =>
        obtain ⟨v, L1, h1, h2⟩ := sr.sx.slot e
        refine ⟨v, h1, ?_⟩
        cases h2 with
        | par r =>
          have r := r.same (H' := H) (fun _ _ x => x) sr.ph
          dsimp only at h
          cases eo : O1 d with
          | fz d' =>
            rw [eo] at h r
            cases r with
            | fz i => exact h.here v (sr.sx.pushF i).sr
          | _ => rw [eo] at h; exact h.elim
      | own o =>
        obtain ⟨v, L1, h1, h2, s⟩ := sr.sx.take e
        refine ⟨v, h1, ?_⟩
        have hne : (env.set i none)[i]? = some none := by
          rw [List.getElem?_set_self (List.getElem?_eq_some_iff.mp e).1]
        have key : ∀ (d : D), (∀ F' , Same F F' → (∀ b ∈ L1, F' b = H b) → Is X.K F' d v) → Res X.K w true F P H ts tv σ (pkE X.K P ts tv σ Q) (.ok (fl d) (env.set i (some (.own (.fz d))))) → Q v H := fun d hd k => by
          obtain ⟨x, s2⟩ := s.frz
          have hi : Is X.K (wid F H L1) d v := hd _ (x.up) fun b hb => wid_in hb
          have s3 := SX.back (L1 := []) s2 hne h1 (.own (.fz hi))
          rw [List.set_set] at s3
          exact k _ H x (fun _ => Same.refl H) v (SX.pushF s3 hi).sr
        cases h2 with
        | own r =>
          cases r with
          | fz hi =>
            obtain ⟨v', L1', h1', h2'⟩ := sr.sx.slot e
            rw [h1] at h1'; cases h1'
            exact h.here v (sr.sx.pushF hi).sr
          | lst q l =>
            rename_i a xs os L
            have r : RO X.K F H (.lst os) (.ref a) (a :: L) := .lst q l
            dsimp only at h
            split at h
            · exact key _ (fun F' u k => r.frz u k) h
            · exact h.elim
          | tup q l =>
            rename_i a xs os L
            have r : RO X.K F H (.tup os) (.ref a) (a :: L) := .tup q l
            dsimp only at h
            split at h
            · exact key _ (fun F' u k => r.frz u k) h
            · exact h.elim
          | dct q l =>
            rename_i a xs os L
            have r : RO X.K F H (.dct os) (.ref a) (a :: L) := .dct q l
            dsimp only at h
            split at h
            · exact key _ (fun F' u k => r.frz u k) h
            · exact h.elim
          | dtp q l =>
            rename_i a xs ds
            have r : RO X.K F H (.dtp ds) (.ref a) [a] := .dtp q l
            dsimp only at h
            split at h
            · exact key _ (fun F' u k => r.frz u k) h
            · exact h.elim
          | ins q g l =>
            dsimp only at h
            rw [if_neg (by simp [noIns])] at h
            exact h.elim
end
/-! ### displays -/
section
variable {X : Cx} {w : WC} {es : List Expr} {q : Bool} {pos : Pos}
theorem so_tup {k : Nat} {rs : Ev → R (List O)} (h : PA X es (tL X.K w q fun e => (rs e).bd fun os e1 => .ok (os.map .own) e1)) (hz : es.length ≤ 1000)
    (hl : ∀ e os e', rs e = .ok os e' → os.length = es.length) :
    PE X (.Tuple es k pos) (tE X.K w q fun e => (rs e).bd fun os e1 => .ok (match fzAll os with
      | some ds => .own (.fz (.tuple ds))
      | none => .own (.tup os)) e1) := by
  refine PE.imp (pe_tup h) fun σ H Q h => ?_
  obtain ⟨F, P, ts, tv, env, sr, hq, h⟩ := h
  refine ⟨F, P, ts, tv, env, sr, hq, ?_⟩
  dsimp only at h ⊢
  cases ea : rs env with
  | bad => rw [ea] at h; exact h
  | exc c e => rw [ea] at h; exact Res.exc0 h fun z => z
  | ok os e1 =>
    rw [ea] at h
    intro F1 H1 x1 s1 vs hlen sr1
    obtain ⟨L, a, s⟩ := sr1.popL hlen
    have r := a.ros
    have hn := hl _ _ _ ea
    have hz : vs.length ≤ sizeLine := by
      have : vs.length = os.length := by simpa using hlen
      have h3 : (1000 : Nat) ≤ sizeLine := by rw [PySem.sizeLine_eq]; decide
      omega
    refine ⟨hz, fun p hp => ?_⟩
    have s0 : SX X.K F1 P H1 ts tv σ e1 (L ++ []) := s.weak fun b => by rw [List.append_nil]; exact Nat.le_refl _
    obtain ⟨sm, s2⟩ := s0.newT r hp
    simp only [R.bd_ok] at h
    cases ef : fzAll os with
    | none =>
      simp only [ef] at h
      exact h F1 _ x1 (fun z => (s1 z).trans sm) _ s2.sr
    | some ds =>
      simp only [ef] at h
      have := fzAll_eq ef
      subst this
      obtain ⟨il, eL⟩ := ROs.ofFz r
      subst eL
      obtain ⟨L3, r3, s3⟩ := s2.pop
      have s3' : SX X.K F1 P (upd H1 p (.tup vs)) ts tv σ e1 (L3 ++ []) := s3
      obtain ⟨x4, s4⟩ := s3'.frz
      cases r3 with
      | own r3 =>
        have hi := r3.frz (G := wid F1 (upd H1 p (.tup vs)) _) x4.up (fun b hb => wid_in hb)
        have e3 : toD (.tup (ds.map .fz)) = .tuple ds := by rw [toD, toDs_fz]
        rw [e3] at hi
        exact h _ _ (x1.trans x4) (fun z => (s1 z).trans sm) _ (SX.pushF s4 hi).sr
theorem so_lst {rs : Ev → R (List O)} (h : PA X es (tL X.K w q fun e => (rs e).bd fun os e1 => .ok (os.map .own) e1)) (hz : es.length ≤ 1000)
    (hl : ∀ e os e', rs e = .ok os e' → os.length = es.length) :
    PE X (.List es pos) (tE X.K w q fun e => (rs e).bd fun os e1 => .ok (.own (.lst os)) e1) := by
  refine PE.imp (pe_lst h) fun σ H Q h => ?_
  obtain ⟨F, P, ts, tv, env, sr, hq, h⟩ := h
  refine ⟨F, P, ts, tv, env, sr, hq, ?_⟩
  dsimp only at h ⊢
  cases ea : rs env with
  | bad => rw [ea] at h; exact h
  | exc c e => rw [ea] at h; exact Res.exc0 h fun z => z
  | ok os e1 =>
    rw [ea] at h
    intro F1 H1 x1 s1 vs hlen sr1
    obtain ⟨L, a, s⟩ := sr1.popL hlen
    have r := a.ros
    have hn := hl _ _ _ ea
    have hz : vs.length ≤ sizeLine := by
      have : vs.length = os.length := by simpa using hlen
      have h3 : (1000 : Nat) ≤ sizeLine := by rw [PySem.sizeLine_eq]; decide
      omega
    refine ⟨hz, fun p hp => ?_⟩
    have s0 : SX X.K F1 P H1 ts tv σ e1 (L ++ []) := s.weak fun b => by rw [List.append_nil]; exact Nat.le_refl _
    obtain ⟨sm, s2⟩ := s0.newL r hp
    exact h F1 _ x1 (fun z => (s1 z).trans sm) _ s2.sr
end
/-! ### frozen as it is told -/
section
variable {X : Cx} {w : WC} {x : Expr} {q : Bool} {ra : Ev → R TV}
theorem so_fzn (ha : PE X x (tE X.K w q ra)) : PE X x (tE X.K w q fun e => (ra e).bd fun t e1 => R.lf (fznV t) e1) := by
  refine PE.imp ha fun σ H Q h => ?_
  obtain ⟨F, P, ts, tv, env, sr, hq, h⟩ := h
  refine ⟨F, P, ts, tv, env, sr, hq, ?_⟩
  dsimp only at h ⊢
  cases er : ra env with
  | bad => rw [er] at h; exact h
  | exc c e1 => rw [er] at h; exact Res.exc0 h fun z => z
  | ok t e1 =>
    rw [er] at h
    simp only [R.bd_ok] at h
    intro F1 H1 x1 s1 v sr1
    cases hf : fznV t with
    | none => rw [hf] at h; exact h.elim
    | some t' =>
      rw [hf] at h
      unfold fznV at hf
      obtain ⟨L, r, s2⟩ := sr1.sx.pop
      split at hf
      · rename_i o
        split at hf
        · cases hf
          have s2' : SX X.K F1 P H1 ts tv σ e1 (L ++ []) := s2.weak fun b => by simp
          obtain ⟨x4, s4⟩ := s2'.frz
          cases r with
          | own r =>
            have hi := r.frz (G := wid F1 H1 L) x4.up (fun b hb => wid_in hb)
            exact h _ _ (x1.trans x4) s1 v (SX.pushF s4 hi).sr
        · cases hf
      · cases hf
        cases r with
        | brw r => cases r with
          | fz z => exact h F1 H1 x1 s1 v (SX.pushF (s2.weak (L' := []) fun b => by simp) z).sr
      · cases hf
theorem so_fzi (ha : PE X x (tE X.K w q ra)) : PE X x (tE X.K w q fun e => (ra e).bd fun t e1 => R.lf (fziV t) e1) := by
  refine PE.imp ha fun σ H Q h => ?_
  obtain ⟨F, P, ts, tv, env, sr, hq, h⟩ := h
  refine ⟨F, P, ts, tv, env, sr, hq, ?_⟩
  dsimp only at h ⊢
  cases er : ra env with
  | bad => rw [er] at h; exact h
  | exc c e1 => rw [er] at h; exact Res.exc0 h fun z => z
  | ok t e1 =>
    rw [er] at h
    simp only [R.bd_ok] at h
    intro F1 H1 x1 s1 v sr1
    cases hf : fziV t with
    | none => rw [hf] at h; exact h.elim
    | some t' =>
      rw [hf] at h
      unfold fziV at hf
      obtain ⟨L, r, s2⟩ := sr1.sx.pop
      split at hf
      · rename_i os
        split at hf
        · rename_i hni
          cases hf
          cases r with
          | own r => cases r with
            | lst q l =>
              rename_i a xs M
              have s2' : SX X.K F1 P H1 ts tv σ e1 (M ++ [a]) := s2.weak fun b => by
                simp only [List.count_append, List.count_cons, List.count_nil]; omega
              obtain ⟨x4, s4⟩ := s2'.frz
              have hi := l.frz (G := wid F1 H1 M) x4.up (fun b hb => wid_in hb)
              have hi2 : ROs X.K (wid F1 H1 M) H1 ((toDs os).map .fz) xs [] := ROs.fzL hi
              rw [toDs_map] at hi2
              exact h _ _ (x1.trans x4) s1 (.ref a) (SX.push (L1 := [a]) (L := []) s4 (.own (.lst q hi2))).sr
        · cases hf
      · cases hf
        cases r with
        | own r => cases r with
          | fz z => exact h F1 H1 x1 s1 v (SX.pushF (s2.weak (L' := []) fun b => by simp) z).sr
      · cases hf
end
/-! ### items, slices -/
theorem plainIx {b : Expr} (h : ∀ l h s p, b ≠ .Slice l h s p) : PlainIx b := fun o i => by
  cases b <;> first | rfl | exact absurd rfl (h _ _ _ _)
section
variable {K : PySem.W.Frag} {F H : Hp}
theorem IsL.atI {ds : List D} {vs : List V} {i : Int} {d : D} (l : IsL K F ds vs) (h : L2.atI ds i = some d) : ∃ v, L2.atI vs i = some v ∧ Is K F d v := by
  unfold L2.atI at h ⊢
  rw [← l.length]
  cases e : ixN ds.length i with
  | none => rw [e] at h; cases h
  | some j =>
    rw [e] at h
    exact l.get h
theorem RVs.atI {os : List O} {vs : List V} {i : Int} {o : O} (l : RVs K F H os vs) (h : L2.atI os i = some o) : ∃ v, L2.atI vs i = some v ∧ RV K F H o v := by
  unfold L2.atI at h ⊢
  rw [← l.length]
  cases e : ixN os.length i with
  | none => rw [e] at h; cases h
  | some j =>
    rw [e] at h
    exact l.get h
theorem ixO_res {o o' : O} {k : D} {v u : V} {Q : VK} (e : Same F H) (r : RV K F H o v) (i : Is K H k u) (h : ixO o k = some o') (q : ∀ x, RV K F H o' x → Q x H) : rIx K v u H Q := by
  unfold ixO at h
  split at h
  · cases i
    obtain ⟨d, h1, h2⟩ := Option.map_eq_some_iff.mp h
    subst h2
    cases r with
    | fz r => cases r with
      | lst s l =>
        obtain ⟨x, g1, g2⟩ := l.atI h1
        exact .inl ⟨_, _, _, _, rfl, rfl, e.seq s, g1, q x (.fz g2)⟩
  · cases i
    obtain ⟨d, h1, h2⟩ := Option.map_eq_some_iff.mp h
    subst h2
    cases r with
    | fz r => cases r with
      | tup s _ l =>
        obtain ⟨x, g1, g2⟩ := l.atI h1
        exact .inr (.inl ⟨_, _, _, _, rfl, rfl, Same.sqT e s, g1, q x (.fz g2)⟩)
  · cases i
    split at h
    · rename_i hz
      obtain ⟨c, h1, h2⟩ := Option.map_eq_some_iff.mp h
      subst h2
      cases r with
      | fz r => cases r with
        | str z => exact .inr (.inr ⟨_, _, _, rfl, rfl, hz, h1, q _ (.fz (.str _))⟩)
    · cases h
  · cases i
    cases r with
    | lst s l =>
      obtain ⟨x, g1, g2⟩ := l.atI h
      exact .inl ⟨_, _, _, _, rfl, rfl, s, g1, q x g2⟩
  · cases i
    cases r with
    | tup s _ l =>
      obtain ⟨x, g1, g2⟩ := l.atI h
      exact .inr (.inl ⟨_, _, _, _, rfl, rfl, s, g1, q x g2⟩)
  · cases h
theorem ROs.get : ∀ {os : List O} {vs : List V} {L : List Addr} {i : Nat} {o : O}, ROs K F H os vs L → os[i]? = some o → ∃ v L', vs[i]? = some v ∧ RO K F H o v L' ∧ ∀ b, L'.count b ≤ L.count b
  | _, _, _, _, _, .nil, e => by simp at e
  | _, _, _, 0, _, .cons (L1 := L1) (L2 := L2) h _, e => by simp at e; subst e; exact ⟨_, L1, rfl, h, fun b => by rw [List.count_append]; omega⟩
  | _, _, _, i + 1, d, .cons (L1 := L1) (L2 := L2) _ l, e => by
    obtain ⟨v, L', h1, h2, h3⟩ := ROs.get (i := i) (o := d) l (by simpa using e)
    exact ⟨v, L', by simpa using h1, h2, fun b => by have := h3 b; rw [List.count_append]; omega⟩
theorem ROs.atI {os : List O} {vs : List V} {L : List Addr} {i : Int} {o : O} (l : ROs K F H os vs L) (h : L2.atI os i = some o) : ∃ v L', L2.atI vs i = some v ∧ RO K F H o v L' ∧ ∀ b, L'.count b ≤ L.count b := by
  unfold L2.atI at h ⊢
  rw [← l.length]
  cases e : ixN os.length i with
  | none => rw [e] at h; cases h
  | some j =>
    rw [e] at h
    exact l.get h
theorem ixO_own {o o' : O} {k : D} {v u : V} {L : List Addr} {Q : VK} (e : Same F H) (r : RO K F H o v L) (i : Is K H k u) (h : ixO o k = some o') (q : ∀ x L', RO K F H o' x L' → (∀ b, L'.count b ≤ L.count b) → Q x H) : rIx K v u H Q := by
  unfold ixO at h
  split at h
  · cases i
    obtain ⟨d, h1, h2⟩ := Option.map_eq_some_iff.mp h
    subst h2
    cases r with
    | fz r => cases r with
      | lst s l =>
        obtain ⟨x, g1, g2⟩ := l.atI h1
        exact .inl ⟨_, _, _, _, rfl, rfl, e.seq s, g1, q x [] (.fz g2) fun b => by simp⟩
  · cases i
    obtain ⟨d, h1, h2⟩ := Option.map_eq_some_iff.mp h
    subst h2
    cases r with
    | fz r => cases r with
      | tup s _ l =>
        obtain ⟨x, g1, g2⟩ := l.atI h1
        exact .inr (.inl ⟨_, _, _, _, rfl, rfl, Same.sqT e s, g1, q x [] (.fz g2) fun b => by simp⟩)
  · cases i
    split at h
    · rename_i hz
      obtain ⟨c, h1, h2⟩ := Option.map_eq_some_iff.mp h
      subst h2
      cases r with
      | fz r => cases r with
        | str z => exact .inr (.inr ⟨_, _, _, rfl, rfl, hz, h1, q _ [] (.fz (.str _)) fun b => by simp⟩)
    · cases h
  · cases i
    cases r with
    | lst s l =>
      obtain ⟨x, L', g1, g2, g3⟩ := l.atI h
      exact .inl ⟨_, _, _, _, rfl, rfl, .inl (.inl s), g1, q x L' g2 fun b => by have := g3 b; rw [List.count_cons]; omega⟩
  · cases i
    cases r with
    | tup s l =>
      obtain ⟨x, L', g1, g2, g3⟩ := l.atI h
      exact .inr (.inl ⟨_, _, _, _, rfl, rfl, .inl (.inl s), g1, q x L' g2 fun b => by have := g3 b; rw [List.count_cons]; omega⟩)
  · cases h
end
section
variable {X : Cx} {w : WC} {a b : Expr} {pos : Pos} {qa qb : Bool} {ra rb : Ev → R TV}
theorem so_ix (ha : PE X a (tE X.K w qa ra)) (hb : PE X b (tE X.K w qb rb)) (hp : ∀ l h s p, b ≠ .Slice l h s p) :
    PE X (.Subscript a b pos) (tE X.K w (qa && qb) fun e => (ra e).bd fun ta e1 => if qb || stable ta then (rb e1).bd fun tb e2 => R.lf (ixT ta (rd tb)) e2 else .bad) := by
  refine PE.imp (pe_ix ix_seq ha hb (plainIx hp)) fun σ H Q h => ?_
  refine tE2 h fun F2 P H2 v1 v2 ta tb ts tv e2 sr k => ?_
  obtain ⟨L2, r2, s2⟩ := sr.sx.pop
  obtain ⟨L1, r1, s1⟩ := s2.pop
  cases r1 with
  | own r1 =>
    rename_i o
    cases e : ixO o (rd tb) with
    | none => simp only [ixT, e] at k; exact k.elim
    | some o' =>
      simp only [ixT, e] at k
      exact ixO_own sr.fh r1 (r2.is sr.fh) e fun x L' rx hL => k.here x (SX.push (L1 := L') (L := []) (s1.weak (L' := L' ++ []) fun b => by have := hL b; simp only [List.count_append, List.count_nil]; omega) (.own rx)).sr
  | brw r1 =>
    rename_i o
    cases e : ixO o (rd tb) with
    | none => simp only [ixT, e] at k; exact k.elim
    | some o' =>
      simp only [ixT, e] at k
      exact ixO_res sr.fh r1 (r2.is sr.fh) e fun x rx => k.here x (SX.push (L1 := []) (s1.weak (L' := []) fun b => by simp) rx.rdO).sr
end
end TL
namespace TL
open PySem PySem.Spec L2
/-! ### slices -/
def pkP (K : PySem.W.Frag) (P : Hp) (ts : List V) (tv : List TV) (σ : St) (Q : Option Int → Hp → Prop) : Hp → Hp → Ev → Option Int → Prop := fun F' H' e b => SR K F' P H' ts tv σ e → Q b H'
def tPt (K : PySem.W.Frag) (w : WC) (q : Bool) (r : Ev → R (Option Int)) : TO := fun σ H Q => tG K w q (fun P ts tv => pkP K P ts tv σ Q) r σ H
section
variable {X : Cx} {w : WC} {a : Expr} {lo hi : Option Expr} {pos p2 : Pos} {qa ql qh : Bool} {ra : Ev → R TV} {rl rh : Ev → R (Option Int)}
theorem PO.imp {e : Option Expr} {t t' : TO} (h : PO X e t) (k : ∀ σ H Q, t' σ H Q → t σ H Q) : PO X e t' :=
  ⟨fun pins s σ H Q I x => h.run pins s σ H Q I (k σ H Q x)⟩
theorem so_nul {ev : Ev → R TV} : PO X none (tPt X.K w true fun e => prt .nul (ev e) e) := by
  refine PO.imp po_none fun σ H Q h => ?_
  obtain ⟨F, P, ts, tv, env, sr, hq, h⟩ := h
  exact h.here sr
theorem so_prt {x : E} {e : Expr} (hx : x ≠ .nul) (ha : PE X e (tE X.K w qa ra)) : PO X (some e) (tPt X.K w qa fun e => prt x (ra e) e) := by
  refine PO.imp (po_some ha) fun σ H Q h => ?_
  have h : tG X.K w qa (fun P ts tv => pkP X.K P ts tv σ Q) (fun e => (ra e).bd fun t e1 => match rd t with
    | .int i => .ok (some i) e1
    | _ => .bad) σ H := by
    obtain ⟨F, P, ts, tv, env, sr, hq, h⟩ := h
    refine ⟨F, P, ts, tv, env, sr, hq, ?_⟩
    dsimp only at h ⊢
    have e : prt x (ra env) env = (ra env).bd fun t e1 => match rd t with
      | .int i => .ok (some i) e1
      | _ => .bad := by cases x <;> first | rfl | exact absurd rfl hx
    rw [← e]; exact h
  refine tG1 (fun z => z) h fun F2 P H2 v1 ta ts tv e2 sr hq k => ?_
  have i := sr.rd1
  revert k
  generalize rd ta = d at i
  intro k
  cases i with
  | int i => exact ⟨i, rfl, k.here sr.drop1⟩
  | _ => exact k.elim
/-- a part behind a temporary -/
theorem tP2 {K : PySem.W.Frag} {α : Type} {q : Bool} {F P H : Hp} {ts : List V} {tv : List TV} {σ : St} {pk : Hp → List V → List TV → Hp → Hp → Ev → α → Prop} {qb : Bool} {rb : Ev → R (Option Int)} {f : Option Int → Ev → R α} {R' : Option Int → Hp → Prop} {v1 : V} {ta : TV} {e1 : Ev} (hqb : q = true → qb = true) (hb : qb = true)
    (sr : SR K F P H (v1 :: ts) (ta :: tv) σ e1)
    (h : Res K w q F P H ts tv σ (pk P ts tv) ((rb e1).bd f))
    (k : ∀ F2 H2 o e2, SR K F2 P H2 (v1 :: ts) (ta :: tv) σ e2 → Res K w q F2 P H2 ts tv σ (pk P ts tv) (f o e2) → R' o H2) :
    tPt K w qb rb σ H R' := by
  refine ⟨F, P, v1 :: ts, ta :: tv, e1, sr, .inl hb, ?_⟩
  cases eb : rb e1 with
  | bad => rw [eb] at h; exact h
  | exc c e => rw [eb] at h; exact Res.exc1 h hqb
  | ok o e2 =>
    rw [eb] at h
    intro F2 H2 x2 s2 sr2
    exact k F2 H2 o e2 sr2 (Res.base h x2 fun z => s2 (hqb z))
theorem IsL.cut {K : PySem.W.Frag} {F : Hp} {ds : List D} {vs : List V} (l : IsL K F ds vs) (lo hi : Option Int) : IsL K F (cutL ds lo hi) (cutV vs lo hi) := by
  unfold cutL cutV
  rw [l.length]
  exact (l.drop _).take _
theorem so_slc (hql : ql = true) (hqh : qh = true) (ha : PE X a (tE X.K w qa ra)) (hl : PO X lo (tPt X.K w ql rl)) (hh : PO X hi (tPt X.K w qh rh)) :
    PE X (.Subscript a (.Slice lo hi none p2) pos) (tE X.K w qa fun e => (ra e).bd fun ta e1 => (rl e1).bd fun l e2 => (rh e2).bd fun h e3 => R.lf (slcV ta l h) e3) := by
  refine PE.imp (pe_slice (sl_list.or (sl_str.or sl_tupA)) ha hl hh) fun σ H Q h => ?_
  refine tG1 (pk := fun P ts tv => pkE X.K P ts tv σ Q) (fun z => z) h fun F2 P H2 v1 ta ts tv e2 sr hq k => ?_
  refine tP2 (pk := fun P ts tv => pkE X.K P ts tv σ Q) (fun _ => hql) hql sr k fun F3 H3 l e3 sr3 k3 => ?_
  refine tP2 (pk := fun P ts tv => pkE X.K P ts tv σ Q) (fun _ => hqh) hqh sr3 k3 fun F4 H4 h e4 sr4 k4 => ?_
  obtain ⟨L1, r1, s1⟩ := sr4.sx.pop
  have i1 := r1.is sr4.fh
  cases ec : slcV ta l h with
  | none => rw [ec] at k4; exact k4.elim
  | some t =>
    rw [ec] at k4
    unfold slcV at ec
    revert ec i1
    generalize rd ta = d
    intro i1 ec
    cases d with
    | str z =>
      dsimp only at ec
      split at ec
      · rename_i hz
        have := Option.some.inj ec
        subst this
        cases i1
        exact .inr (.inl ⟨z, rfl, hz, k4.here _ ((s1.weak (L' := []) fun b => by simp).pushF (.str _)).sr⟩)
      · cases ec
    | tuple ds0 =>
      dsimp only at ec
      split at ec
      · rename_i os hos
        split at ec
        · rename_i ds hds
          have := fzAll_eq hds
          subst this
          obtain ⟨b, xs, L', rfl, sq, ro, ct⟩ := itemsT_ro sr4.fh r1 hos
          obtain ⟨il, eL⟩ := ROs.ofFz ro
          have hlen := il.length
          refine .inr (.inr ⟨b, xs, rfl, sq, fun hw => ?_, fun hw p hp => ?_⟩)
          · rw [← hlen] at hw
            rw [if_pos hw] at ec
            generalize hta : ta = tx at *
            cases tx with
            | own o =>
              have et := Option.some.inj ec
              subst et
              exact k4.here _ (SX.push (L := []) s1 r1).sr
            | brw o =>
              cases o with
              | fz d =>
                have et := Option.some.inj ec
                subst et
                cases r1 with
                | brw r1 => cases r1 with
                  | fz i => exact k4.here _ (SX.pushF (L := []) (s1.weak (L' := []) fun b => by simp) i).sr
              | _ => cases ec
          · rw [← hlen] at hw
            rw [if_neg hw] at ec
            have := Option.some.inj ec
            subst this
            have s0 : SX X.K F4 P H4 ts tv σ e4 ([] ++ []) := s1.weak fun b => by simp
            obtain ⟨sm, s2⟩ := s0.newT (ROs.fzL (il.cut l h)) hp
            exact k4 F4 _ (Ext.refl P F4) (fun _ => sm) _ s2.sr
        · cases ec
      · cases ec
    | list ds0 =>
      dsimp only at ec
      split at ec
      · rename_i os hos
        split at ec
        · rename_i ds hds
          have := Option.some.inj ec
          subst this
          have := fzAll_eq hds
          subst this
          obtain ⟨b, xs, L', rfl, sq, ro, ct⟩ := items_ro sr4.fh r1 hos
          obtain ⟨il, eL⟩ := ROs.ofFz ro
          refine .inl ⟨b, xs, rfl, sq, fun p hp => ?_⟩
          have s0 : SX X.K F4 P H4 ts tv σ e4 ([] ++ []) := s1.weak fun b => by simp
          obtain ⟨sm, s2⟩ := s0.newL (ROs.fzL (il.cut l h)) hp
          exact k4 F4 _ (Ext.refl P F4) (fun _ => sm) _ s2.sr
        · cases ec
      · cases ec
    | _ => cases ec
end
/-! ### isinstance -/
def tyN : D → String
  | .none => "NoneType"
  | .bool _ => "bool"
  | .int _ => "int"
  | .str _ => "str"
  | .list _ => "list"
  | .tuple _ => "tuple"
  | .dict _ => "dict"
def askN : Ty → String
  | .bool => "bool"
  | .int => "int"
  | .str => "str"
  | .tuple => "tuple"
  | .list => "list"
  | .dict => "dict"
theorem kit_all (t : Ty) (d : D) : kitB (tyN d) (askN t) = some (isTy t d) := by
  cases t <;> cases d <;> simp only [tyN, askN, isTy] <;> decide +kernel
theorem Is.ty {K : PySem.W.Frag} {H : Hp} {d : D} {v : V} (h : Is K H d v) (hp : plainD d = true) : TyX K H v (.type (tyN d)) := by
  cases h with
  | non => exact .base .non
  | bl b => exact .base (.bl b)
  | int i => exact .base (.int i)
  | str x => exact .base (.str x)
  | lst s l =>
    rcases s with (s | ⟨o, s⟩) | ⟨o, its, n, s, c, _⟩
    · exact .base (.lst s)
    · exact .base (.frz s)
    · exact .kList s c
  | tup s _ l =>
    rcases s with (s | ⟨o, s⟩) | ⟨o, its, n, s, c, _⟩
    · exact .base (.tup s)
    · exact .fTuple s
    · exact .kTuple s c
  | dct s l =>
    rcases s with s | ⟨o, s⟩
    · exact .base (.dK s)
    · exact .fDict s
  | dtp s l => simp [plainD] at hp
  | ins s => simp [plainD] at hp
  | exc => simp [plainD] at hp
theorem boot_ty (t : Ty) : bootBuiltins (Str.ofString (askN t)) = some (.type (askN t)) := by cases t <;> decide +kernel
theorem askN_ne (t : Ty) : Str.ofString (askN t) ≠ Str.ofString "__name__" ∧ (Str.ofString (askN t) == Str.ofString "__debug__") = false := by cases t <;> decide +kernel
section
variable {X : Cx} {w : WC} {a : Expr} {p p2 pos : Pos} {qa : Bool} {ra : Ev → R TV}
theorem so_isi {t : Ty} (hg : Gl X "isinstance") (hm : X.mg "isinstance" = none) (hg2 : Gl X (Str.ofString (askN t))) (hm2 : X.mg (Str.ofString (askN t)) = none) (hn : ∀ x p, a ≠ .Starred x p) (ha : PE X a (tE X.K w qa ra)) :
    PE X (.Call (.Name "isinstance" p) [a, .Name (Str.ofString (askN t)) p2] [] pos) (tE X.K w qa fun e => (ra e).bd fun ta e1 => if plainD (rd ta) then .ok (fl (.bool (isTy t (rd ta)))) e1 else .bad) := by
  have h2 : PE X (.Name (Str.ofString (askN t)) p2) (tC (.ty (askN t))) := pe_bltn hg2 hm2 (boot_ty t) rfl (askN_ne t).1 (askN_ne t).2
  refine PE.imp (pe_callB call_isi hg hm (by decide +kernel) (pa_cons ha (pa_cons h2 pa_nil) (starEach_cons hn)) (by decide) (by decide) (starEach_cons hn)) fun σ H Q h => ?_
  refine tG1 (pk := fun P ts tv => pkE X.K P ts tv σ Q) (fun z => z) h fun F2 P H2 v1 ta ts tv e2 sr hq k => ?_
  by_cases hp : plainD (rd ta) = true
  · rw [if_pos hp] at k
    exact ⟨v1, .ty (askN t), _, _, isTy t (rd ta), rfl, .ty _, sr.rd1.ty hp, kit_ty (kit_all t (rd ta)), k.here _ (sr.drop1.sx.pushF (.bl _)).sr⟩
  · rw [if_neg hp] at k; exact k.elim
end
/-! ### built-in functions -/
/-! ### the greater, the less of two pairs; of a list of pairs -/
section
variable {prog : Program} {wd : World} {A : Around} {E : Value → Shared → Prop} {s : Shared} {a b : Value} {p q : Int × Int} {as bs : List Addr} {Q : Value → Shared → Prop}
theorem alike_pairs : ∀ ps : List (Int × Int), PySem.W.AlikeAll (ps.map pairD) := fun ps => by
  refine ⟨fun x hx y hy => ?_, fun x hx => ?_⟩
  · obtain ⟨u, _, rfl⟩ := List.mem_map.mp hx
    obtain ⟨v, _, rfl⟩ := List.mem_map.mp hy
    rfl
  · obtain ⟨u, _, rfl⟩ := List.mem_map.mp hx
    simp
theorem depth_pairs : ∀ ps : List (Int × Int), PyData.depthAll (ps.map pairD) ≤ 2
  | [] => by simp [PyData.depthAll]
  | u :: ps => by
    have := depth_pairs ps
    simp only [List.map_cons, PyData.depthAll, pairD, PyData.depth]
    omega
theorem max_pair (hh : A.handled = none) (ra : Reads s.heap a (pairD p) as) (rb : Reads s.heap b (pairD q) bs) (hu : A.units + 64 < cLine)
    (h : ∀ h' tk, (∀ c o, s.heap.get? c = some o → h'.get? c = some o) → Q (if ltP2 p q then b else a) { s with heap := h', toks := tk }) : wpAny (model prog wd) A (call (.builtin "max") [a, b]) Q E s := by
  have nm : (toString "max" ++ toString ".loop" : String) = "max.loop" := by decide
  refine call_function_tree PySem.F.kind_max PySem.F.plain_max PySem.F.entry_max (PySem.F.args_max2 a b) ?_
  show wpAny (model prog wd) A.in1 (Builtin.Builtins.bindParams "max" ["key", "default"] 0 ⟨[], []⟩ >>= _) _ E s
  refine wpAny_bind (wpAny_of_eq (show Builtin.Builtins.bindParams "max" ["key", "default"] 0 ⟨[], []⟩ = pure [Option.none, Option.none] from rfl) ?_)
  show wpAny (model prog wd) A.in1 (newTuple [a, b] >>= _) _ E s
  refine wpAny_bind (wpAny_newObj_type ?_)
  have tup : (s.heap.push { cls := .type "tuple", data := .seq #[a, b] }).IsTuple s.heap.objs.size #[a, b] := ⟨_, Heap.get?_push_size _ rfl, rfl, 0, rfl⟩
  have old : ∀ c o, s.heap.get? c = some o → (s.heap.push { cls := .type "tuple", data := .seq #[a, b] }).get? c = some o := fun c o e => Heap.get?_push_of_some _ e
  have rs : ReadsAll (s.heap.push { cls := .type "tuple", data := .seq #[a, b] }) (#[a, b] : Array Value).toList ([p, q].map pairD) _ := .cons (PySem.W.reads_keeps old ra) (.cons (PySem.W.reads_keeps old rb) .nil)
  refine wpAny_bind (PySem.W.iter_tupleW (A := A.in1) hh tup fun s2 e2 wk st fps hw hk => ?_)
  refine wpAny_bind (wpAny_newObj_type ?_)
  have fresh : s2.heap.objs.size ∉ [(s.heap.push { cls := .type "tuple", data := .seq #[a, b] }).objs.size, s.heap.objs.size] := fun m => Nat.lt_irrefl _ (fps _ m)
  rw [nm]
  refine wpAny_pure ⟨plainId_quiet PySem.F.plain_max_loop _, PySem.codeAny_max_loop_firstH wk (s.heap.push { cls := .type "tuple", data := .seq #[a, b] }) hw _
    (PySem.W.cmpIn_gt (s := { s with heap := s.heap.push { cls := .type "tuple", data := .seq #[a, b] } }) (A := A.in1) rs (alike_pairs [p, q]) (by have := depth_pairs [p, q]; show A.units + 1 + _ < cLine; omega)) s2.heap.objs.size fresh (PySem.fresh_in hk) _ (by show 0 < 2; decide)
    (fun c o e => Heap.get?_push_of_some _ (hk c o e)) (wk.frame 0 s2 _ s2.toks st (Nat.le_refl _) fun c _ o e => Heap.get?_push_of_some _ e) (Heap.get?_push_size _ rfl) fun v s' hv mv => ?_⟩
  obtain ⟨h', tk, es, hk'⟩ := PySem.W.moved_old e2 rfl (Moved.drop_new (tk := s2.toks) mv (Nat.le_refl _))
  subst es
  have hq := h h' tk fun c o e => hk' c o (old c o e)
  have ev : v = if ltP2 p q then b else a := by
    have hv : (#[a, b] : Array Value)[PySem.argBest _ 1]? = some v := hv
    simp only [PySem.argBest] at hv
    have e1 : PySem.W.dataLt (pairD p) (pairD q) = ltP2 p q := dataLt_pair _ _
    have e2 : PySem.W.dataLt (pairD p) (pairD q) = ltP2 p q := e1
    by_cases c : ltP2 p q = true
    · rw [c] at e1
      simp [e1] at hv
      rw [if_pos c]; exact hv.symm
    · rw [Bool.not_eq_true] at c
      rw [c] at e1
      simp [e1] at hv
      rw [if_neg (by rw [c]; decide)]; exact hv.symm
  rw [ev]
  exact hq
theorem min_pair (hh : A.handled = none) (ra : Reads s.heap a (pairD p) as) (rb : Reads s.heap b (pairD q) bs) (hu : A.units + 64 < cLine)
    (h : ∀ h' tk, (∀ c o, s.heap.get? c = some o → h'.get? c = some o) → Q (if ltP2 q p then b else a) { s with heap := h', toks := tk }) : wpAny (model prog wd) A (call (.builtin "min") [a, b]) Q E s := by
  have nm : (toString "min" ++ toString ".loop" : String) = "min.loop" := by decide
  refine call_function_tree PySem.F.kind_min PySem.F.plain_min PySem.F.entry_min (PySem.F.args_min2 a b) ?_
  show wpAny (model prog wd) A.in1 (Builtin.Builtins.bindParams "min" ["key", "default"] 0 ⟨[], []⟩ >>= _) _ E s
  refine wpAny_bind (wpAny_of_eq (show Builtin.Builtins.bindParams "min" ["key", "default"] 0 ⟨[], []⟩ = pure [Option.none, Option.none] from rfl) ?_)
  show wpAny (model prog wd) A.in1 (newTuple [a, b] >>= _) _ E s
  refine wpAny_bind (wpAny_newObj_type ?_)
  have tup : (s.heap.push { cls := .type "tuple", data := .seq #[a, b] }).IsTuple s.heap.objs.size #[a, b] := ⟨_, Heap.get?_push_size _ rfl, rfl, 0, rfl⟩
  have old : ∀ c o, s.heap.get? c = some o → (s.heap.push { cls := .type "tuple", data := .seq #[a, b] }).get? c = some o := fun c o e => Heap.get?_push_of_some _ e
  have rs : ReadsAll (s.heap.push { cls := .type "tuple", data := .seq #[a, b] }) (#[a, b] : Array Value).toList ([p, q].map pairD) _ := .cons (PySem.W.reads_keeps old ra) (.cons (PySem.W.reads_keeps old rb) .nil)
  refine wpAny_bind (PySem.W.iter_tupleW (A := A.in1) hh tup fun s2 e2 wk st fps hw hk => ?_)
  refine wpAny_bind (wpAny_newObj_type ?_)
  have fresh : s2.heap.objs.size ∉ [(s.heap.push { cls := .type "tuple", data := .seq #[a, b] }).objs.size, s.heap.objs.size] := fun m => Nat.lt_irrefl _ (fps _ m)
  rw [nm]
  refine wpAny_pure ⟨plainId_quiet PySem.F.plain_min_loop _, PySem.codeAny_min_loop_firstH wk (s.heap.push { cls := .type "tuple", data := .seq #[a, b] }) hw _
    (PySem.W.cmpIn_lt (s := { s with heap := s.heap.push { cls := .type "tuple", data := .seq #[a, b] } }) (A := A.in1) rs (alike_pairs [p, q]) (by have := depth_pairs [p, q]; show A.units + 1 + _ < cLine; omega)) s2.heap.objs.size fresh (PySem.fresh_in hk) _ (by show 0 < 2; decide)
    (fun c o e => Heap.get?_push_of_some _ (hk c o e)) (wk.frame 0 s2 _ s2.toks st (Nat.le_refl _) fun c _ o e => Heap.get?_push_of_some _ e) (Heap.get?_push_size _ rfl) fun v s' hv mv => ?_⟩
  obtain ⟨h', tk, es, hk'⟩ := PySem.W.moved_old e2 rfl (Moved.drop_new (tk := s2.toks) mv (Nat.le_refl _))
  subst es
  have hq := h h' tk fun c o e => hk' c o (old c o e)
  have ev : v = if ltP2 q p then b else a := by
    have hv : (#[a, b] : Array Value)[PySem.argBest _ 1]? = some v := hv
    simp only [PySem.argBest] at hv
    have e1 : PySem.W.dataLt (pairD q) (pairD p) = ltP2 q p := dataLt_pair _ _
    have e2 : PySem.W.dataLt (pairD q) (pairD p) = ltP2 q p := e1
    by_cases c : ltP2 q p = true
    · rw [c] at e1
      simp [e1] at hv
      rw [if_pos c]; exact hv.symm
    · rw [Bool.not_eq_true] at c
      rw [c] at e1
      simp [e1] at hv
      rw [if_neg (by rw [c]; decide)]; exact hv.symm
  rw [ev]
  exact hq
end
theorem CallR.or {X : Cx} {f : Value} {r r' : List V → Hp → VK → Prop} (h : CallR X f r) (h' : CallR X f r') : CallR X f (fun xs H Q => r xs H Q ∨ r' xs H Q) := by
  intro pins s σ H xs us Q I rx q
  rcases q with q | q
  · exact h pins s σ H xs us Q I rx q
  · exact h' pins s σ H xs us Q I rx q
def rBest2 (K : PySem.W.Frag) (f : Int × Int → Int × Int → Bool) : List V → Hp → VK → Prop := fun xs H Q => ∃ x y p q, xs = [x, y] ∧ Dp K H x (pairD p) ∧ Dp K H y (pairD q) ∧ Q (if f p q then y else x) H
def rBestL (K : PySem.W.Frag) (f : List (Int × Int) → Int × Int) : List V → Hp → VK → Prop := fun xs H Q => ∃ a vs p ps, xs = [.ref a] ∧ SqL K H a vs ∧ DpAll K H vs ((p :: ps).map pairD) ∧ ∀ (i : Nat) v, vs[i]? = some v → (p :: ps)[i]? = some (f (p :: ps)) → Q v H
theorem DpAll.get {K : PySem.W.Frag} {H : Hp} : ∀ {vs : List V} {ds : List D} {i : Nat} {v : V}, DpAll K H vs ds → vs[i]? = some v → ∃ d, ds[i]? = some d ∧ Dp K H v d
  | _, _, _, _, .nil, e => by simp at e
  | _, _, 0, _, .cons h _, e => by simp at e; subst e; exact ⟨_, rfl, h⟩
  | _, _, i + 1, v, .cons _ l, e => by
    obtain ⟨d, h1, h2⟩ := DpAll.get (i := i) (v := v) l (by simpa using e)
    exact ⟨d, by simpa using h1, h2⟩
theorem Vals.get_inv : ∀ {xs : List V} {us : List Value} {i : Nat} {u : Value}, Vals xs us → us[i]? = some u → ∃ x, xs[i]? = some x ∧ RelV x u
  | _, _, _, _, .nil, e => by simp at e
  | _, _, 0, _, .cons h _, e => by simp at e; subst e; exact ⟨_, rfl, h⟩
  | _, _, i + 1, u, .cons _ l, e => by
    obtain ⟨x, h1, h2⟩ := Vals.get_inv (i := i) (u := u) l (by simpa using e)
    exact ⟨x, by simpa using h1, h2⟩
theorem pairD_inj {p q : Int × Int} (h : pairD p = pairD q) : p = q := by
  obtain ⟨a, b⟩ := p
  obtain ⟨c, d⟩ := q
  simp [pairD] at h
  rw [h.1, h.2]
theorem maxD_pairs : ∀ (ps : List (Int × Int)) (p : Int × Int), PySem.W.maxD (pairD p) (ps.map pairD) = pairD (maxP (p :: ps))
  | [], p => rfl
  | q :: ps, p => by
    have ih := maxD_pairs ps (if ltP2 p q then q else p)
    simp only [PySem.W.maxD, maxP, List.map_cons, List.foldl_cons] at ih ⊢
    rw [show PySem.W.dataLt (pairD p) (pairD q) = ltP2 p q from dataLt_pair p q, ← ih]
    cases ltP2 p q <;> rfl
theorem minD_pairs : ∀ (ps : List (Int × Int)) (p : Int × Int), PySem.W.minD (pairD p) (ps.map pairD) = pairD (minP (p :: ps))
  | [], p => rfl
  | q :: ps, p => by
    have ih := minD_pairs ps (if ltP2 q p then q else p)
    simp only [PySem.W.minD, minP, List.map_cons, List.foldl_cons] at ih ⊢
    rw [show PySem.W.dataLt (pairD q) (pairD p) = ltP2 q p from dataLt_pair q p, ← ih]
    cases ltP2 q p <;> rfl
theorem call_max2P {X : Cx} (hc : X.calm = true) (hu : X.A.units + 64 < cLine) : CallR X (.builtin "max") (rBest2 X.K fun p q => ltP2 p q) := by
  intro pins s σ H xs us Q I r h
  obtain ⟨x, y, p, q, rfl, hx, hy, k⟩ := h
  obtain ⟨u, w', rfl, rx, ry⟩ := vals2 r
  obtain ⟨as, ra⟩ := pair_reads I hx rx
  obtain ⟨bs, rb⟩ := pair_reads I hy ry
  refine max_pair (I.ok.hd hc) ra rb hu fun h' tk kp => ⟨if ltP2 p q then y else x, H, I.kept kp, ?_, k⟩
  by_cases c : ltP2 p q = true
  · rw [if_pos c, if_pos c]; exact ry
  · rw [if_neg c, if_neg c]; exact rx
theorem call_maxP {X : Cx} (hc : X.calm = true) (hu : X.A.units + 64 < cLine) : CallR X (.builtin "max") (rBestL X.K maxP) := by
  intro pins s σ H xs us Q I r h
  obtain ⟨a, vs, p, ps, rfl, hs, hd, k⟩ := h
  obtain ⟨its, rv, hl, _⟩ := I.list hs
  rw [Vals.ref1 r]
  obtain ⟨as, rs⟩ := Dp.readsAll I _ _ _ hd rv
  refine PySem.W.max_list_data (vs := its.toArray) (I.ok.hd hc) hl.isList (as := as) rs (alike_pairs (p :: ps)) (by have := depth_pairs (p :: ps); simp only [List.map_cons] at this; omega) fun i v h' tk bs hi hr kp => ?_
  have hi : its[i]? = some v := by simpa using hi
  obtain ⟨x, hx, rx⟩ := Vals.get_inv rv hi
  obtain ⟨d, hdi, dx⟩ := DpAll.get hd hx
  rw [List.getElem?_map] at hdi
  obtain ⟨pi, hpi, rfl⟩ := Option.map_eq_some_iff.mp hdi
  obtain ⟨cs, rc⟩ := pair_reads I dx rx
  have := Reads.unique (PySem.W.reads_keeps kp rc) _ _ hr
  have e : pairD pi = pairD (maxP (p :: ps)) := this.1.trans (maxD_pairs ps p)
  exact ⟨x, H, I.kept kp, rx, k i x hx (by rw [hpi, pairD_inj e])⟩
theorem call_min2P {X : Cx} (hc : X.calm = true) (hu : X.A.units + 64 < cLine) : CallR X (.builtin "min") (rBest2 X.K fun p q => ltP2 q p) := by
  intro pins s σ H xs us Q I r h
  obtain ⟨x, y, p, q, rfl, hx, hy, k⟩ := h
  obtain ⟨u, w', rfl, rx, ry⟩ := vals2 r
  obtain ⟨as, ra⟩ := pair_reads I hx rx
  obtain ⟨bs, rb⟩ := pair_reads I hy ry
  refine min_pair (I.ok.hd hc) ra rb hu fun h' tk kp => ⟨if ltP2 q p then y else x, H, I.kept kp, ?_, k⟩
  by_cases c : ltP2 q p = true
  · rw [if_pos c, if_pos c]; exact ry
  · rw [if_neg c, if_neg c]; exact rx
theorem call_minP {X : Cx} (hc : X.calm = true) (hu : X.A.units + 64 < cLine) : CallR X (.builtin "min") (rBestL X.K minP) := by
  intro pins s σ H xs us Q I r h
  obtain ⟨a, vs, p, ps, rfl, hs, hd, k⟩ := h
  obtain ⟨its, rv, hl, _⟩ := I.list hs
  rw [Vals.ref1 r]
  obtain ⟨as, rs⟩ := Dp.readsAll I _ _ _ hd rv
  refine PySem.W.min_list_data (vs := its.toArray) (I.ok.hd hc) hl.isList (as := as) rs (alike_pairs (p :: ps)) (by have := depth_pairs (p :: ps); simp only [List.map_cons] at this; omega) fun i v h' tk bs hi hr kp => ?_
  have hi : its[i]? = some v := by simpa using hi
  obtain ⟨x, hx, rx⟩ := Vals.get_inv rv hi
  obtain ⟨d, hdi, dx⟩ := DpAll.get hd hx
  rw [List.getElem?_map] at hdi
  obtain ⟨pi, hpi, rfl⟩ := Option.map_eq_some_iff.mp hdi
  obtain ⟨cs, rc⟩ := pair_reads I dx rx
  have := Reads.unique (PySem.W.reads_keeps kp rc) _ _ hr
  have e : pairD pi = pairD (minP (p :: ps)) := this.1.trans (minD_pairs ps p)
  exact ⟨x, H, I.kept kp, rx, k i x hx (by rw [hpi, pairD_inj e])⟩
def bltN : Bf → String
  | .len => "len" | .str => "str" | .int => "int" | .max2 => "max" | .min2 => "min" | .max => "max" | .min => "min" | .sum => "sum" | .any => "any" | .all => "all" | .list => "list" | .tuple => "tuple"
def bltT : Bf → Bool
  | .str => true | .int => true | .list => true | .tuple => true
  | _ => false
def bltU (f : Bf) : Value := if bltT f then .type (bltN f) else .builtin (bltN f)
def bltA : Bf → Nat
  | .max2 => 2 | .min2 => 2
  | _ => 1
def bltR (K : PySem.W.Frag) : Bf → List V → Hp → VK → Prop
  | .len => fun xs H Q => ∃ x n, xs = [x] ∧ LenV K x H n ∧ Q (.int n) H
  | .str => fun xs H Q => ∃ i, xs = [.int i] ∧ i.natAbs.log2 < 1920 ∧ Q (.str (toString i)) H
  | .int => fun xs H Q => ((∃ i, xs = [.int i] ∧ Q (.int i) H) ∨ ∃ k, xs = [.bl k] ∧ Q (.int (if k then 1 else 0)) H) ∨ ∃ a n, xs = [.str a] ∧ PySem.intText? a = some n ∧ a.length ≤ 640 ∧ Q (.int n) H
  | .max2 => fun xs H Q => (∃ i j, xs = [.int i, .int j] ∧ Q (.int (if j > i then j else i)) H) ∨ rBest2 K (fun p q => ltP2 p q) xs H Q
  | .min2 => fun xs H Q => (∃ i j, xs = [.int i, .int j] ∧ Q (.int (if j < i then j else i)) H) ∨ rBest2 K (fun p q => ltP2 q p) xs H Q
  | .max => fun xs H Q => rMax K xs H Q ∨ rBestL K maxP xs H Q
  | .min => fun xs H Q => rMin K xs H Q ∨ rBestL K minP xs H Q
  | .sum => rSum K
  | .any => rAny K
  | .all => rAll K
  | .list => fun xs H Q => ∃ p ys, xs = [.ref p] ∧ (SqL K H p ys ∨ SqT K H p ys) ∧ ∀ l, H l = none → Q (.ref l) (upd H l (.lst ys))
  | .tuple => fun _ _ _ => False
theorem bltR_ok {X : Cx} (hc : X.calm = true) (hu : X.A.units + 64 < cLine) (f : Bf) : CallR X (bltU f) (bltR X.K f) := by
  cases f
  case len => exact call_len
  case str => exact call_str_int
  case int => exact CallR.or call_int1 call_int_str
  case max2 => exact CallR.or (call_max2 hc) (call_max2P hc hu)
  case min2 => exact CallR.or (call_min2 hc) (call_min2P hc hu)
  case max => exact CallR.or (cr_max hc) (call_maxP hc hu)
  case min => exact CallR.or (cr_min hc) (call_minP hc hu)
  case sum => exact cr_sum hc
  case any => exact cr_any hc
  case all => exact cr_all hc
  case list => exact call_list_of
  case tuple => intro pins s σ H xs us Q I rx q; exact q.elim
theorem blt_boot (f : Bf) : bootBuiltins (Str.ofString (bltN f)) = some (bltU f) := by cases f <;> decide +kernel
theorem blt_ne (f : Bf) : Str.ofString (bltN f) ≠ Str.ofString "__name__" ∧ (Str.ofString (bltN f) == Str.ofString "__debug__") = false := by cases f <;> decide +kernel
theorem ints_of {K : PySem.W.Frag} {H : Hp} : ∀ {ds : List D} {vs : List V} {ns : List Int}, IsL K H ds vs → intsOf ds = some ns → vs = ns.map V.int
  | _, _, _, .nil, h => by cases h; rfl
  | _, _, _, .cons i l, h => by
    cases i <;> simp [intsOf] at h
    obtain ⟨ms, h1, h2⟩ := h
    subst h2
    rw [ints_of l h1]; rfl
theorem bools_of {K : PySem.W.Frag} {H : Hp} : ∀ {ds : List D} {vs : List V} {ns : List Bool}, IsL K H ds vs → boolsOf ds = some ns → vs = ns.map V.bl
  | _, _, _, .nil, h => by cases h; rfl
  | _, _, _, .cons i l, h => by
    cases i <;> simp [boolsOf] at h
    obtain ⟨ms, h1, h2⟩ := h
    subst h2
    rw [bools_of l h1]; rfl
theorem strs_of {K : PySem.W.Frag} {H : Hp} : ∀ {ds : List D} {vs : List V} {ns : List Str}, IsL K H ds vs → strsOf ds = some ns → vs = ns.map V.str
  | _, _, _, .nil, h => by cases h; rfl
  | _, _, _, .cons i l, h => by
    cases i <;> simp [strsOf] at h
    obtain ⟨ms, h1, h2⟩ := h
    subst h2
    rw [strs_of l h1]; rfl
theorem foldl_max : ∀ (r : List Int) (i : Int), i ≤ r.foldl (fun a b => if b > a then b else a) i ∧ (∀ y ∈ r, y ≤ r.foldl (fun a b => if b > a then b else a) i) ∧ (r.foldl (fun a b => if b > a then b else a) i = i ∨ r.foldl (fun a b => if b > a then b else a) i ∈ r)
  | [], i => ⟨Int.le_refl _, by simp, .inl rfl⟩
  | a :: r, i => by
    rw [List.foldl_cons]
    obtain ⟨h1, h2, h3⟩ := foldl_max r (if a > i then a else i)
    have ha : a ≤ (if a > i then a else i) := by split <;> omega
    have hi : i ≤ (if a > i then a else i) := by split <;> omega
    refine ⟨Int.le_trans hi h1, fun y hy => ?_, ?_⟩
    · rcases List.mem_cons.mp hy with e | hy
      · rw [e]; exact Int.le_trans ha h1
      · exact h2 y hy
    · rcases h3 with e | e
      · rw [e]
        split
        · exact .inr List.mem_cons_self
        · exact .inl rfl
      · exact .inr (List.mem_cons_of_mem _ e)
theorem foldl_min : ∀ (r : List Int) (i : Int), r.foldl (fun a b => if b < a then b else a) i ≤ i ∧ (∀ y ∈ r, r.foldl (fun a b => if b < a then b else a) i ≤ y) ∧ (r.foldl (fun a b => if b < a then b else a) i = i ∨ r.foldl (fun a b => if b < a then b else a) i ∈ r)
  | [], i => ⟨Int.le_refl _, by simp, .inl rfl⟩
  | a :: r, i => by
    rw [List.foldl_cons]
    obtain ⟨h1, h2, h3⟩ := foldl_min r (if a < i then a else i)
    have ha : (if a < i then a else i) ≤ a := by split <;> omega
    have hi : (if a < i then a else i) ≤ i := by split <;> omega
    refine ⟨Int.le_trans h1 hi, fun y hy => ?_, ?_⟩
    · rcases List.mem_cons.mp hy with e | hy
      · rw [e]; exact Int.le_trans h1 ha
      · exact h2 y hy
    · rcases h3 with e | e
      · rw [e]
        split
        · exact .inr List.mem_cons_self
        · exact .inl rfl
      · exact .inr (List.mem_cons_of_mem _ e)
theorem maxI_ok (i : Int) (r : List Int) : maxI (i :: r) ∈ i :: r ∧ ∀ y ∈ i :: r, y ≤ maxI (i :: r) := by
  obtain ⟨h1, h2, h3⟩ := foldl_max r i
  refine ⟨?_, fun y hy => ?_⟩
  · rcases h3 with e | e
    · exact List.mem_cons.mpr (.inl e)
    · exact List.mem_cons_of_mem _ e
  · rcases List.mem_cons.mp hy with e | hy
    · rw [e]; exact h1
    · exact h2 y hy
theorem minI_ok (i : Int) (r : List Int) : minI (i :: r) ∈ i :: r ∧ ∀ y ∈ i :: r, minI (i :: r) ≤ y := by
  obtain ⟨h1, h2, h3⟩ := foldl_min r i
  refine ⟨?_, fun y hy => ?_⟩
  · rcases h3 with e | e
    · exact List.mem_cons.mpr (.inl e)
    · exact List.mem_cons_of_mem _ e
  · rcases List.mem_cons.mp hy with e | hy
    · rw [e]; exact h1
    · exact h2 y hy
theorem fzT_ok {K : PySem.W.Frag} {F H : Hp} {t : TV} {v : V} {L : List Addr} {d : D} (r : RT K F H t v L) (h : fzT t = some d) : Is K F d v := by
  unfold fzT at h
  split at h
  · cases h
    cases r with
    | own r => cases r with
      | fz z => exact z
  · cases h
    cases r with
    | brw r => cases r with
      | fz z => exact z
  · cases h
theorem fzIt_ok {K : PySem.W.Frag} {F H : Hp} (e : Same F H) {t : TV} {v : V} {L : List Addr} {ds : List D} (r : RT K F H t v L) (h : fzIt t = some ds) : ∃ a vs, v = .ref a ∧ SqL K H a vs ∧ IsL K F ds vs := by
  unfold fzIt at h
  split at h
  · cases h
    cases r with
    | own r => cases r with
      | fz z => cases z with
        | lst sq l => exact ⟨_, _, rfl, e.seq sq, l⟩
  · have := fzAll_eq h
    subst this
    cases r with
    | own r => cases r with
      | lst hh l => exact ⟨_, _, rfl, .inl (.inl hh), (ROs.ofFz l).1⟩
  · cases h
    cases r with
    | brw r => cases r with
      | fz z => cases z with
        | lst sq l => exact ⟨_, _, rfl, e.seq sq, l⟩
  · have := fzAll_eq h
    subst this
    cases r with
    | brw r => cases r with
      | lst sq l => exact ⟨_, _, rfl, sq, RVs.ofFz l⟩
  · cases h
theorem pairsOf_eq : ∀ {ds : List D} {ps : List (Int × Int)}, pairsOf ds = some ps → ds = ps.map pairD
  | [], ps, h => by cases h; rfl
  | d :: r, ps, h => by
    unfold pairsOf at h
    split at h
    · rename_i p qs h1 h2
      cases h
      rw [pairOf_eq h1, pairsOf_eq h2]; rfl
    · cases h
theorem canAll_pairs : ∀ ps : List (Int × Int), PyData.canLayAll0 (ps.map pairD) = true
  | [] => by simp [PyData.canLayAll0]
  | p :: ps => by simp [PyData.canLayAll0, PyData.canLay0, canAll_pairs ps]
theorem bltR_res {K : PySem.W.Frag} {f : Bf} {F P H : Hp} {vs : List V} {us : List TV} {t : TV} {ts : List V} {tv : List TV} {σ : St} {e : Ev} {L : List Addr} {Q : VK} (h : bltV f us = some t)
    (a : AT K F H vs us L) (s : SX K F P H ts tv σ e L) (k : ∀ F' H' v, Ext P F F' → Same H H' → SR K F' P H' (v :: ts) (t :: tv) σ e → Q v H') : bltR K f vs H Q := by
  have flat : ∀ {d : D} {v : V}, t = fl d → (∀ G, Is K G d v) → Q v H := fun {d v} et hv => by
    subst et
    exact k F H v (Ext.refl P F) (Same.refl H) ((s.weak (L' := []) fun b => by simp).pushF (hv F)).sr
  have two : ∀ {f : Int × Int → Int × Int → Bool} {t1 t2 : TV} {v1 v2 : V} {L1 L2 : List Addr}, best2 f t1 t2 = some t → RT K F H t1 v1 L1 → RT K F H t2 v2 L2 → rBest2 K f [v1, v2] H Q := fun {f t1 t2 v1 v2 L1 L2} h r1 r2 => by
    unfold best2 at h
    split at h
    · rename_i x y hx hy
      split at h
      · rename_i p q hp hq
        have et := (Option.some.inj h).symm
        have ix := fzT_ok r1 hx
        have iy := fzT_ok r2 hy
        rw [pairOf_eq hp] at ix et
        rw [pairOf_eq hq] at iy et
        refine ⟨v1, v2, p, q, rfl, (ix.mono s.fh).dp rfl, (iy.mono s.fh).dp rfl, ?_⟩
        subst et
        refine k F H _ (Ext.refl P F) (Same.refl H) ((s.weak (L' := []) fun b => by simp).pushF ?_).sr
        by_cases c : f p q = true
        · rw [if_pos c, if_pos c]; exact iy
        · rw [if_neg c, if_neg c]; exact ix
      · cases h
    · cases h
  have best : ∀ {f : List (Int × Int) → Int × Int} {t1 : TV} {v1 : V} {L1 : List Addr}, bestL f t1 = some t → RT K F H t1 v1 L1 → rBestL K f [v1] H Q := fun {f t1 v1 L1} h r1 => by
    unfold bestL at h
    split at h
    · rename_i ds hds
      split at h
      · rename_i p ps hp
        have et := (Option.some.inj h).symm
        obtain ⟨a, vs, rfl, sq, il⟩ := fzIt_ok s.fh r1 hds
        rw [pairsOf_eq hp] at il
        refine ⟨a, vs, p, ps, rfl, sq, (il.mono s.fh).dp (canAll_pairs (p :: ps)), fun i v hi hp => ?_⟩
        subst et
        refine k F H _ (Ext.refl P F) (Same.refl H) ((s.weak (L' := []) fun b => by simp).pushF ?_).sr
        obtain ⟨v', hv', iv⟩ := il.get (i := i) (d := pairD (f (p :: ps))) (by rw [List.getElem?_map, hp]; rfl)
        rw [hi] at hv'
        cases hv'
        exact iv
      · cases h
    · cases h
  unfold bltV at h
  split at h
  case h_1 =>
    cases a with
    | cons r a =>
      cases a
      have i := r.is s.fh
      split at h
      · rename_i z hd
        rw [hd] at i
        cases i
        split at h
        · rename_i hz
          exact ⟨_, _, rfl, ⟨hz, rfl⟩, flat (Option.some.inj h).symm fun G => .int _⟩
        · cases h
      · rename_i ds hd
        rw [hd] at i
        cases i with
        | lst sq l => exact ⟨_, ds.length, rfl, .inl ⟨_, sq, l.length⟩, flat (Option.some.inj h).symm fun G => .int _⟩
      · rename_i ds hd
        rw [hd] at i
        cases i with
        | tup sq _ l => exact ⟨_, ds.length, rfl, .inr ⟨_, sq, l.length⟩, flat (Option.some.inj h).symm fun G => .int _⟩
      · cases h
  case h_2 =>
    cases a with
    | cons r a =>
      cases a
      have i := r.is s.fh
      split at h
      · rename_i z hd
        rw [hd] at i
        cases i
        split at h
        · rename_i hz
          exact ⟨_, rfl, hz, flat (Option.some.inj h).symm fun G => .str _⟩
        · cases h
      · cases h
  case h_3 =>
    cases a with
    | cons r a =>
      cases a
      have i := r.is s.fh
      split at h
      · rename_i z hd
        rw [hd] at i
        cases i
        exact .inl (.inl ⟨_, rfl, flat (Option.some.inj h).symm fun G => .int _⟩)
      · rename_i z hd
        rw [hd] at i
        cases i
        exact .inl (.inr ⟨_, rfl, flat (Option.some.inj h).symm fun G => .int _⟩)
      · rename_i z hd
        rw [hd] at i
        cases i
        split at h
        · rename_i hz
          split at h
          · rename_i n hn
            exact .inr ⟨_, _, rfl, hn, hz, flat (Option.some.inj h).symm fun G => .int _⟩
          · cases h
        · cases h
      · cases h
  case h_4 =>
    cases a with
    | cons r a =>
      cases a with
      | cons r2 a =>
        cases a
        have i := r.is s.fh
        have i2 := r2.is s.fh
        split at h
        · rename_i x y hd hd2
          rw [hd] at i
          rw [hd2] at i2
          cases i; cases i2
          exact .inl ⟨_, _, rfl, flat (Option.some.inj h).symm fun G => .int _⟩
        · exact .inr (two h r r2)
  case h_5 =>
    cases a with
    | cons r a =>
      cases a with
      | cons r2 a =>
        cases a
        have i := r.is s.fh
        have i2 := r2.is s.fh
        split at h
        · rename_i x y hd hd2
          rw [hd] at i
          rw [hd2] at i2
          cases i; cases i2
          exact .inl ⟨_, _, rfl, flat (Option.some.inj h).symm fun G => .int _⟩
        · exact .inr (two h r r2)
  case h_6 =>
    cases a with
    | cons r a =>
      cases a
      have i := r.is s.fh
      split at h
      · rename_i ds hd
        rw [hd] at i
        split at h
        · rename_i x r' hi
          cases i with
          | lst sq l =>
            have e1 := ints_of l hi
            subst e1
            refine .inl ⟨_, x :: r', rfl, sq, by simp, fun m h1 h2 => ?_⟩
            obtain ⟨m1, m2⟩ := maxI_ok x r'
            have : m = maxI (x :: r') := Int.le_antisymm (m2 m h1) (h2 _ m1)
            rw [this]
            exact flat (Option.some.inj h).symm fun G => .int _
        · exact .inr (best h r)
      · cases h
  case h_7 =>
    cases a with
    | cons r a =>
      cases a
      have i := r.is s.fh
      split at h
      · rename_i ds hd
        rw [hd] at i
        split at h
        · rename_i x r' hi
          cases i with
          | lst sq l =>
            have e1 := ints_of l hi
            subst e1
            refine .inl ⟨_, x :: r', rfl, sq, by simp, fun m h1 h2 => ?_⟩
            obtain ⟨m1, m2⟩ := minI_ok x r'
            have : m = minI (x :: r') := Int.le_antisymm (h2 _ m1) (m2 m h1)
            rw [this]
            exact flat (Option.some.inj h).symm fun G => .int _
        · exact .inr (best h r)
      · cases h
  case h_8 =>
    cases a with
    | cons r a =>
      cases a
      have i := r.is s.fh
      split at h
      · rename_i ds hd
        rw [hd] at i
        obtain ⟨ns, hi, ht⟩ := Option.map_eq_some_iff.mp h
        cases i with
        | lst sq l =>
          have e1 := ints_of l hi
          subst e1
          exact ⟨_, ns, rfl, sq, flat ht.symm fun G => .int _⟩
      · cases h
  case h_9 =>
    cases a with
    | cons r a =>
      cases a
      have i := r.is s.fh
      split at h
      · rename_i ds hd
        rw [hd] at i
        obtain ⟨ns, hi, ht⟩ := Option.map_eq_some_iff.mp h
        cases i with
        | lst sq l =>
          have e1 := bools_of l hi
          subst e1
          exact ⟨_, ns, rfl, sq, flat ht.symm fun G => .bl _⟩
      · cases h
  case h_10 =>
    cases a with
    | cons r a =>
      cases a
      have i := r.is s.fh
      split at h
      · rename_i ds hd
        rw [hd] at i
        obtain ⟨ns, hi, ht⟩ := Option.map_eq_some_iff.mp h
        cases i with
        | lst sq l =>
          have e1 := bools_of l hi
          subst e1
          exact ⟨_, ns, rfl, sq, flat ht.symm fun G => .bl _⟩
      · cases h
  case h_11 =>
    cases a with
    | cons r a =>
      cases a
      split at h
      · obtain ⟨os, hi, ht⟩ := Option.map_eq_some_iff.mp h
        subst ht
        obtain ⟨b, xs, L', rfl, sq, ro, ct⟩ := items_ro s.fh r hi
        refine ⟨b, xs, rfl, .inl sq, fun p hp => ?_⟩
        have s0 : SX K F P H ts tv σ e (L' ++ []) := s.weak fun b => by
          have := ct b
          simp only [List.count_append, List.append_nil, List.count_nil]; omega
        obtain ⟨sm, s2⟩ := s0.newL ro hp
        exact k F _ _ (Ext.refl P F) sm s2.sr
      · obtain ⟨os, hi, ht⟩ := Option.map_eq_some_iff.mp h
        subst ht
        obtain ⟨b, xs, L', rfl, sq, ro, ct⟩ := itemsT_ro s.fh r hi
        refine ⟨b, xs, rfl, .inr sq, fun p hp => ?_⟩
        have s0 : SX K F P H ts tv σ e (L' ++ []) := s.weak fun b => by
          have := ct b
          simp only [List.count_append, List.append_nil, List.count_nil]; omega
        obtain ⟨sm, s2⟩ := s0.newL ro hp
        exact k F _ _ (Ext.refl P F) sm s2.sr
      · cases h
  case h_12 => cases h
theorem so_blt {X : Cx} {w : WC} {f : Bf} {p pos : Pos} {e1 : Expr} {es : List Expr} {q : Bool} {rs : Ev → R (List TV)} (hc : X.calm = true) (hu : X.A.units + 64 < cLine) (hg : Gl X (Str.ofString (bltN f))) (hm : X.mg (Str.ofString (bltN f)) = none) (hn : ∀ x p, e1 ≠ .Starred x p)
    (hpl : (backTo pos (starEach es X.env)).any (·.1) = false) (ha : PA X (e1 :: es) (tL X.K w q rs)) :
    PE X (.Call (.Name (Str.ofString (bltN f)) p) (e1 :: es) [] pos) (tE X.K w q fun e => (rs e).bd fun ts e1 => R.lf (bltV f ts) e1) := by
  have key : PE X (.Call (.Name (Str.ofString (bltN f)) p) (e1 :: es) [] pos) (tCB (bltR X.K f) (tL X.K w q rs)) := by
    have hR := bltR_ok hc hu f
    have hB := blt_boot f
    unfold bltU at hR hB
    cases hT : bltT f with
    | true =>
      rw [hT] at hR hB
      exact pe_callTy hR hg hm hB ha (blt_ne f).1 (blt_ne f).2 (starEach_cons hn) hpl
    | false =>
      rw [hT] at hR hB
      exact pe_callB hR hg hm hB ha (blt_ne f).1 (blt_ne f).2 (starEach_cons hn) hpl
  refine PE.imp key fun σ H Q h => ?_
  obtain ⟨F, P, ts, tv, env, sr, hq, h⟩ := h
  refine ⟨F, P, ts, tv, env, sr, hq, ?_⟩
  dsimp only at h ⊢
  cases ea : rs env with
  | bad => rw [ea] at h; exact h
  | exc c e => rw [ea] at h; exact Res.exc0 h fun z => z
  | ok us e1 =>
    rw [ea] at h
    intro F1 H1 x1 s1 vs hlen sr1
    obtain ⟨L, a, s⟩ := sr1.popL hlen
    simp only [R.bd_ok] at h
    cases ec : bltV f us with
    | none => rw [ec] at h; exact h.elim
    | some t =>
      rw [ec] at h
      exact bltR_res ec a s fun F' H' v x sm sr' => h F' H' (x1.trans x) (fun z => (s1 z).trans sm) v sr'
end TL
namespace TL
open PySem PySem.Spec L2
/-! ### methods of texts -/
def metN : Bm → Str
  | .split => "split" | .join => "join" | .find => "find" | .count => "count"
def metR (K : PySem.W.Frag) : Bm → V → List V → Hp → VK → Prop
  | .split => fun x xs H Q => ∃ a b, x = .str a ∧ xs = [.str b] ∧ (b.length == 0) = false ∧ a.length + 2 ≤ sizeLine ∧ rNewStrs (Txt.split a b) H Q
  | .find => fun x xs H Q => ∃ a b, x = .str a ∧ xs = [.str b] ∧ Q (.int (Txt.find a b)) H
  | .count => fun x xs H Q => ∃ a b, x = .str a ∧ xs = [.str b] ∧ Q (.int (Txt.count a b)) H
  | .join => fun x xs H Q => ∃ a p, ∃ ys : List Str, x = .str a ∧ xs = [.ref p] ∧ (SqL K H p (ys.map V.str) ∨ SqT K H p (ys.map V.str)) ∧ (ys.map (·.length)).sum + ys.length * a.length ≤ 16777216 ∧ Q (.str (Txt.join a ys)) H
theorem attrBase {o : Expr} {name : Str} {env : PySem.Env} (h : ∀ id p q, o ≠ .Call (.Name id p) [] [] q) : attributeBase o name env (eval o env) = eval o env := by
  unfold attributeBase
  split
  · exact absurd rfl (h _ _ _)
  · rfl
theorem pe_met {X : Cx} {m : Bm} {a b : Expr} {ta tb : TE} {apos pos : Pos} (ha : PE X a ta) (hb : PE X b tb) (hn : ∀ x p, b ≠ .Starred x p) (ho : ∀ id p q, a ≠ .Call (.Name id p) [] [] q) (hl : (apos.endLine == pos.line) = true) :
    PE X (.Call (.Attribute a (metN m) apos) [b] [] pos) (tM1 (metR X.K m) ta tb) := by
  have hs : starEach [b] X.env = [(false, eval b X.env)] := starEach_cons hn
  cases m
  case split => exact pe_m1 PySem.F.slot_str_split PySem.F.type_str_split mt_split ha hb hs (attrBase ho) hl
  case find => exact pe_m1 PySem.F.slot_str_find PySem.F.type_str_find mt_find ha hb hs (attrBase ho) hl
  case count => exact pe_m1 PySem.F.slot_str_count PySem.F.type_str_count mt_count ha hb hs (attrBase ho) hl
  case join => exact pe_m1 PySem.F.slot_str_join PySem.F.type_str_join mt_join ha hb hs (attrBase ho) hl
theorem so_met {X : Cx} {w : WC} {m : Bm} {a b : Expr} {apos pos : Pos} {qa qb : Bool} {ra rb : Ev → R TV} (ha : PE X a (tE X.K w qa ra)) (hb : PE X b (tE X.K w qb rb)) (hn : ∀ x p, b ≠ .Starred x p) (ho : ∀ id p q, a ≠ .Call (.Name id p) [] [] q)
    (hl : (apos.endLine == pos.line) = true) : PE X (.Call (.Attribute a (metN m) apos) [b] [] pos)
      (tE X.K w (qa && qb) fun e => (ra e).bd fun ta e1 => if isStr ta then (if qb || stable ta then (rb e1).bd fun tb e2 => R.lf (metV m ta tb) e2 else .bad) else .bad) := by
  refine PE.imp (pe_met ha hb hn ho hl) fun σ H Q h => ?_
  refine tG1 (pk := fun P ts tv => pkE X.K P ts tv σ Q) (fun z => (Bool.and_eq_true_iff.mp z).1) h fun F2 P H2 v1 ta ts tv e2 sr hq k => ?_
  have i1 := sr.rd1
  by_cases hs : isStr ta = true
  · rw [if_pos hs] at k
    have : ∃ z, rd ta = .str z := by
      unfold isStr at hs
      split at hs
      · exact ⟨_, by assumption⟩
      · cases hs
    obtain ⟨z, ez⟩ := this
    rw [ez] at i1
    cases i1
    refine ⟨⟨z, rfl⟩, ?_⟩
    by_cases hb : (qb || stable ta) = true
    · rw [if_pos hb] at k
      refine tG2 (pk := fun P ts tv => pkE X.K P ts tv σ Q) (fun z => (Bool.and_eq_true_iff.mp z).2) sr hq hb k fun F3 H3 v2 tb e3 sr3 k3 => ?_
      obtain ⟨L2, r2, s2⟩ := sr3.sx.pop
      obtain ⟨L1, r1, s1⟩ := s2.pop
      have i2 := r2.is sr3.fh
      cases ec : metV m ta tb with
      | none => rw [ec] at k3; exact k3.elim
      | some t =>
        rw [ec] at k3
        have s0 : SX X.K F3 P H3 ts tv σ e3 [] := s1.weak fun b => by simp
        unfold metV at ec
        rw [ez] at ec
        revert i2 ec
        generalize rd tb = d2
        intro i2 ec
        cases m
        case split =>
          cases i2 with
          | str y =>
            dsimp only at ec
            split at ec
            · rename_i hc
              have := Option.some.inj ec
              subst this
              refine ⟨z, y, rfl, rfl, hc.1, hc.2, fun p hp => ?_⟩
              have l : IsL X.K F3 ((Txt.split z y).map PyData.str) ((Txt.split z y).map V.str) := by
                generalize Txt.split z y = ys
                induction ys with
                | nil => exact .nil
                | cons y ys ih => exact .cons (.str y) ih
              have e4 : (Txt.split z y).map (fun z => O.fz (.str z)) = ((Txt.split z y).map PyData.str).map O.fz := by rw [List.map_map]; rfl
              rw [e4] at k3
              obtain ⟨sm, s5⟩ := SX.newL (L1 := []) (L := []) s0 (ROs.fzL l) hp
              exact k3 F3 _ (Ext.refl P F3) (fun _ => sm) _ s5.sr
            · cases ec
          | _ => cases ec
        case find =>
          cases i2 with
          | str y =>
            have := Option.some.inj ec
            subst this
            exact ⟨z, y, rfl, rfl, k3.here _ (s0.pushF (.int _)).sr⟩
          | _ => cases ec
        case count =>
          cases i2 with
          | str y =>
            have := Option.some.inj ec
            subst this
            exact ⟨z, y, rfl, rfl, k3.here _ (s0.pushF (.int _)).sr⟩
          | _ => cases ec
        case join =>
          cases i2 with
          | lst sq l =>
            dsimp only at ec
            split at ec
            · rename_i ys hy
              split at ec
              · rename_i hc
                have := Option.some.inj ec
                subst this
                have e5 := strs_of l hy
                subst e5
                exact ⟨z, _, ys, rfl, rfl, .inl sq, hc, k3.here _ (s0.pushF (.str _)).sr⟩
              · cases ec
            · cases ec
          | _ => cases ec
    · rw [if_neg hb] at k; exact k.elim
  · rw [if_neg hs] at k; exact k.elim
/-! ### calls -/
/-- an argument as it lies on the way to a call -/
def tvA : AV → TV
  | .f d => fl d
  | .b d => .brw (O1 d)
  | .io o => .own o
def slA : AV → SL
  | .f d => .own (.fz d)
  | .b d => .par d
  | .io o => .own o
def isF : AV → Bool
  | .io _ => false
  | _ => true
/-- a def's promise -/
def spK (K : PySem.W.Frag) (cad : Nat → Addr) (c : CF) (id : Nat) : Sp := fun vs H Q E => ∃ F P as, vs.length = as.length ∧ SR K F P H [] [] (vs.map some) (as.map fun a => some (slA a)) ∧ match c id as with
  | .ok r outs => ∀ F' H' v, Ext P F F' → SR K F' P H' [v] [.own r] (vs.map some) (outs.map (Option.map SL.own)) → Q v H'
  | .exc x outs => ∀ F' H', Ext P F F' → SR K F' P H' [] [] (vs.map some) (outs.map (Option.map SL.own)) → E (.ref (cad x)) none H'
  | .bad => False
theorem shallow_O1 {K : PySem.W.Frag} {F H : Hp} (e : Same F H) {o : O} {d : D} {v : V} (h : shallow o = some d) (r : RV K F H o v) : RV K F H (O1 d) v := by
  cases o with
  | fz d' =>
    cases h
    cases r with
    | fz i => exact O1.of e i
  | lst os =>
    obtain ⟨ds, h1, h2⟩ := Option.map_eq_some_iff.mp h
    subst h2
    have := fzAll_eq h1
    subst this
    exact r
  | tup os => cases h
  | dct kvs =>
    obtain ⟨ds, h1, h2⟩ := Option.map_eq_some_iff.mp h
    subst h2
    have := fzAllK_eq h1
    subst this
    have eu : ∀ es : List (Key × D), unK (es.map fun p => (keyD p.1, p.2)) = some es := fun es => by
      induction es with
      | nil => rfl
      | cons p es ih => simp only [List.map_cons, unK, keyOf_keyD, ih]
    show RV K F H (match unK _ with | some es => .dct (fzK es) | none => .fz _) v
    rw [eu]
    exact r
  | dtp _ => cases h
  | ins _ _ => cases h
theorem AS.ofAT {K : PySem.W.Frag} {F H : Hp} : ∀ {as : List AV} {vs : List V} {L : List Addr}, AT K F H vs (as.map tvA) L → (∀ a ∈ as, isF a = true) → AS K F H H (vs.map some) (as.map fun a => some (slA a)) [] ∧ L = []
  | [], _, _, .nil, _ => ⟨.nil, rfl⟩
  | .f d :: as, _, _, .cons r l, h => by
    obtain ⟨a, b⟩ := AS.ofAT l fun x hx => h x (by simp [hx])
    cases r with
    | own r => cases r with
      | fz i => exact ⟨AS.cons (L1 := []) (L2 := []) (.own (.fz i)) a, by rw [b]; rfl⟩
  | .b d :: as, _, _, .cons r l, h => by
    obtain ⟨a, b⟩ := AS.ofAT l fun x hx => h x (by simp [hx])
    cases r with
    | brw r => exact ⟨AS.cons (L1 := []) (L2 := []) (.par r) a, by rw [b]; rfl⟩
  | .io o :: as, _, _, .cons r l, h => by simpa [isF] using h (.io o) (by simp)
theorem AS.ofIsL {K : PySem.W.Frag} {F P H : Hp} : ∀ {dl : List D} {dvs : List V}, IsL K F dl dvs → AS K F P H (dvs.map some) (dl.map fun d => some (slA (.f d))) []
  | _, _, .nil => .nil
  | _, _, .cons i l => AS.cons (L1 := []) (L2 := []) (.own (.fz i)) (AS.ofIsL l)
/-- behind a call that changed nothing of ours: everything that stood stands -/
theorem SX.after {K : PySem.W.Frag} {F F' H H' : Hp} {P : Hp} {ts : List V} {tv : List TV} {σ : St} {env : Ev} (s : SX K F P H ts tv σ env []) (x : Ext H F F') {r : O} {v : V} {rest : St} {outs : Ev} (c : SR K F' H H' [v] [.own r] rest outs) :
    Ext P F F' ∧ Same H H' ∧ SR K F' P H' (v :: ts) (.own r :: tv) σ env := by
  have sm : Same H H' := c.ph
  refine ⟨⟨x.up, fun b o h1 h2 => ?_⟩, sm, ?_⟩
  · have := x.new b o h1 h2
    cases q : P b with
    | none => rfl
    | some u => rw [s.ph b u q] at this; cases this
  · obtain ⟨L1, r1, s1⟩ := c.sx.pop
    obtain ⟨M1, M2, a, b, g⟩ := s.ex
    have tr : ∀ b ∈ M1 ++ M2, ∃ u, H b = some u := fun c hc => by
      rcases List.mem_append.mp hc with h | h
      · exact a.trk c h
      · exact b.trk c h
    have nL : ∀ b ∈ L1, H b = none := fun b hb => s1.fP (by simp [hb])
    refine SX.sr (L := []) (SX.push (L1 := L1) ⟨⟨M1, M2, a.same x.up sm, b.same x.up sm, ?_⟩, c.fh, s.ph.trans sm, fun b hb => s1.trk b (by simpa using hb)⟩ r1)
    have g1 : Good F' H L1 := by
      obtain ⟨N1, N2, _, _, g'⟩ := s1.ex
      exact g'.sub fun b => by simp only [List.count_append]; omega
    refine ⟨fun b => ?_, fun b hb => ?_, fun b hb => ?_⟩
    · simp only [List.append_nil, List.nil_append] at g ⊢
      have h1 := g1.one b
      have h2 := g.one b
      rw [List.count_append]
      by_cases hb : b ∈ L1
      · have : b ∉ M1 ++ M2 := fun hm => by
          obtain ⟨u, hu⟩ := tr b hm
          rw [nL b hb] at hu; cases hu
        rw [List.count_eq_zero_of_not_mem this]; omega
      · rw [List.count_eq_zero_of_not_mem hb]; omega
    · simp only [List.append_nil, List.nil_append] at hb g
      rcases List.mem_append.mp hb with h | h
      · exact g1.fF b h
      · cases q : F' b with
        | none => rfl
        | some o =>
          have := x.new b o q (g.fF b h)
          obtain ⟨u, hu⟩ := tr b h
          rw [hu] at this; cases this
    · simp only [List.append_nil, List.nil_append] at hb g
      rcases List.mem_append.mp hb with h | h
      · cases q : P b with
        | none => rfl
        | some u =>
          have := nL b h
          rw [s.ph b u q] at this; cases this
      · exact g.fP b h
theorem SX.afterX {K : PySem.W.Frag} {F F' H H' : Hp} {P : Hp} {ts : List V} {tv : List TV} {σ : St} {env : Ev} (s : SX K F P H ts tv σ env []) (x : Ext H F F') {rest : St} {outs : Ev} (c : SR K F' H H' [] [] rest outs) :
    Ext P F F' ∧ Same H H' ∧ SR K F' P H' ts tv σ env := by
  have c' : SR K F' H H' [.non] [.own (.fz .none)] rest outs := (c.sx.pushF .non).sr
  obtain ⟨a, b, d⟩ := s.after x c'
  exact ⟨a, b, d.drop1⟩
/-! ### all frozen for a while -/
mutual
theorem RO.plain {K : PySem.W.Frag} {F F' H : Hp} : ∀ {o : O} {v : V} {L : List Addr}, plainO o = true → RO K F H o v L → RO K F' H o v L
  | _, _, _, h, .fz i => by
    cases i with
    | non => exact .fz .non
    | bl b => exact .fz (.bl b)
    | int i => exact .fz (.int i)
    | str x => exact .fz (.str x)
    | lst _ _ => cases h
    | tup _ _ _ => cases h
    | dct _ _ => cases h
    | dtp _ _ => cases h
    | ins _ => cases h
    | exc => cases h
  | _, _, _, h, .lst q l => .lst q (ROs.plain (by simpa only [plainO] using h) l)
  | _, _, _, h, .tup q l => .tup q (ROs.plain (by simpa only [plainO] using h) l)
  | _, _, _, h, .dct q l => by simp [plainO] at h
  | _, _, _, h, .dtp q l => by simp [plainO] at h
  | _, _, _, h, .ins q g l => by simp [plainO] at h
theorem ROs.plain {K : PySem.W.Frag} {F F' H : Hp} : ∀ {o : List O} {v : List V} {L : List Addr}, plainO.plainOs o = true → ROs K F H o v L → ROs K F' H o v L
  | _, _, _, _, .nil => .nil
  | _, _, _, h, .cons r l => by
    simp only [plainO.plainOs, Bool.and_eq_true] at h
    exact .cons (RO.plain h.1 r) (ROs.plain h.2 l)
end
theorem AS.frzE {K : PySem.W.Frag} {F P H : Hp} (e : Same F H) (p : Same P H) : ∀ {σ : St} {env : Ev} {L : List Addr}, AS K F P H σ env L → AS K H H H σ (TL.frzE env) []
  | _, _, _, .nil => .nil
  | _, _, _, .skip l => .skip (l.frzE e p)
  | _, _, _, .cons (s := s) r l => by
    have ih := l.frzE e p
    cases r with
    | own r =>
      rename_i o
      by_cases h : noIns o = true
      · have e1 : frz1 (some (.own o)) = some (.own (.fz (toD o))) := if_pos h
        show AS K H H H _ (frz1 (some (.own o)) :: _) []
        rw [e1]
        exact AS.cons (L1 := []) (L2 := []) (.own (.fz (r.is e))) ih
      · have e1 : frz1 (some (.own o)) = none := if_neg h
        show AS K H H H _ (frz1 (some (.own o)) :: _) []
        rw [e1]
        exact .skip ih
    | par r => exact AS.cons (L1 := []) (L2 := []) (.par (r.same e p)) ih
/-- the state, all of it frozen -/
theorem SR.frzE {K : PySem.W.Frag} {F P H : Hp} {ts : List V} {tv : List TV} {σ : St} {env : Ev} (s : SR K F P H ts tv σ env) : SR K H H H [] [] σ (TL.frzE env) := by
  obtain ⟨L1, L2, a, b, g⟩ := s.ex
  exact ⟨⟨[], [], .nil, b.frzE s.fh s.ph, ⟨fun b => by simp, fun b hb => by simp at hb, fun b hb => by simp at hb⟩⟩, Same.refl H, Same.refl H⟩
/-- .. and back -/
theorem SR.unfrz {K : PySem.W.Frag} {F P H F' H' : Hp} {ts : List V} {tv : List TV} {σ : St} {env e1 : Ev} {o : O} {v : V} (s : SR K F P H ts tv σ env) (hp : plainO o = true) (c : SR K F' H H' [v] [.own o] σ e1) : Same H H' ∧ SR K F P H' (v :: ts) (.own o :: tv) σ env := by
  have sm : Same H H' := c.ph
  obtain ⟨L1, r1, s1⟩ := c.sx.pop
  have nL : ∀ b ∈ L1, H b = none := fun b hb => s1.fP (by simp [hb])
  cases r1 with
  | own r1 =>
    have r2 : RO K F H' o v L1 := r1.plain hp
    have g1 : Good F H L1 := by
      obtain ⟨N1, N2, _, _, g'⟩ := s1.ex
      refine ⟨fun b => Nat.le_trans ?_ (g'.one b), fun b hb => ?_, nL⟩
      · simp only [List.count_append]; omega
      · cases q : F b with
        | none => rfl
        | some u => have := s.fh b u q; rw [nL b hb] at this; cases this
    have c' : SR K F H H' [v] [.own o] [] [] := ⟨⟨L1, [], by simpa using AT.cons (L2 := []) (.own r2) .nil, .nil, by simpa using g1⟩, s.fh.trans sm, sm⟩
    exact ⟨sm, (SX.after s.sx (Ext.refl H F) c').2.2⟩
theorem SR.grow {K : PySem.W.Frag} {F P H H' : Hp} {ts : List V} {tv : List TV} {σ : St} {env : Ev} (s : SR K F P H ts tv σ env) (e : Same H H') : SR K F P H' ts tv σ env := (s.sx.grow e).sr
theorem so_dp {X : Cx} {w : WC} {e : Expr} {q : Bool} {ra : Ev → R TV} (ha : PE X e (tE X.K w q ra)) : PE X e (tE X.K w true fun e => dpR e (ra (frzE e))) := by
  refine PE.imp ha fun σ H Q h => ?_
  obtain ⟨F, P, ts, tv, env, sr, hq, h⟩ := h
  refine ⟨H, H, [], [], frzE env, sr.frzE, .inr (fun t ht => by cases ht), ?_⟩
  dsimp only at h
  cases er : ra (frzE env) with
  | bad => rw [er] at h; exact h
  | exc c e1 =>
    rw [er] at h
    exact fun F' H' x s sr' => h F H' (Ext.refl P F) (fun _ => sr'.ph) (sr.grow sr'.ph)
  | ok t e1 =>
    rw [er] at h
    intro F' H' x s v sr'
    cases t with
    | brw o => exact h.elim
    | own o =>
      by_cases hp : plainO o = true
      · have h2 : Res X.K w true F P H ts tv σ (pkE X.K P ts tv σ Q) (.ok (.own o) env) := by
          have : dpR env (.ok (.own o) e1) = .ok (.own o) env := if_pos hp
          rw [this] at h; exact h
        obtain ⟨sm, s2⟩ := sr.unfrz hp sr'
        exact h2 F H' (Ext.refl P F) (fun _ => sm) v s2
      · have : dpR env (.ok (.own o) e1) = .bad := if_neg hp
        rw [this] at h
        exact h.elim
theorem so_dpT {X : Cx} {w : WC} {e : Expr} {q : Bool} {ra : Ev → R TV} (ha : PT X e (tB X.K w q fun e => (ra e).bd boolT)) : PT X e (tB X.K w true fun e => (dpR e (ra (frzE e))).bd boolT) := by
  refine PT.imp ha fun σ H Q h => ?_
  obtain ⟨F, P, ts, tv, env, sr, hq, h⟩ := h
  refine ⟨H, H, [], [], frzE env, sr.frzE, .inr (fun t ht => by cases ht), ?_⟩
  dsimp only at h ⊢
  cases er : ra (frzE env) with
  | bad => rw [er] at h; exact h
  | exc c e1 =>
    rw [er] at h
    exact fun F' H' x s sr' => h F H' (Ext.refl P F) (fun _ => sr'.ph) (sr.grow sr'.ph)
  | ok t e1 =>
    rw [er] at h
    cases t with
    | brw o => exact h.elim
    | own o =>
      rcases boolT_cases (.own o) e1 with ⟨k, hk⟩ | hk
      · have ho : o = .fz (.bool k) := by
          unfold boolT at hk
          split at hk
          · rename_i b hb; cases hb; cases hk; rfl
          · cases hk
        subst ho
        intro F' H' x s sr'
        exact h F H' (Ext.refl P F) (fun _ => sr'.ph) (sr.grow sr'.ph)
      · exfalso
        by_cases hp : plainO o = true
        · have : dpR env (.ok (.own o) e1) = .ok (.own o) env := if_pos hp
          rw [this] at h
          simp only [R.bd_ok] at h
          have hk2 : boolT (.own o) env = .bad := by
            unfold boolT at hk ⊢
            split at hk
            · cases hk
            · rfl
          rw [hk2] at h
          exact h.elim
        · have : dpR env (.ok (.own o) e1) = .bad := if_neg hp
          rw [this] at h
          exact h.elim
/-- f(e, ..): nothing of ours is changed -/
theorem so_call {X : Cx} {w : WC} {c : CF} {id : Nat} {k : Nat} {f : Addr} {fd : FuncData} {ps : List Str} {x : Str} {p pos : Pos} {e1 : Expr} {es : List Expr} {q : Bool} {ra : Ev → R (List AV)} {dl : List D} {dvs : List V} {ds : List Value}
    (Fo : FnOk X.prog X.w X.K X.mg X.base (L2.CX X.prog X.w) k f fd ps (spK X.K w.cad c id)) (hr : Room k X.A) (hg : Gl X x) (hm : X.mg x = some (.ref f)) (hk : PySem.W.keepIn X.K (.ref f) = true) (hb : Binds X.K fd ps ds) (hd : Vals dvs ds)
    (hdl : ∀ F, IsL X.K F dl dvs) (tk : Takes X w.W) (hn : ∀ x p, e1 ≠ .Starred x p) (hdb : (x == ("__debug__" : Str)) = false) (hpl : (backTo pos (starEach es X.env)).any (·.1) = false)
    (ha : PA X (e1 :: es) (tL X.K w q fun e => (ra e).bd fun as e1 => .ok (as.map tvA) e1)) (hF : ∀ e as e', ra e = .ok as e' → ∀ a ∈ as, isF a = true) :
    PE X (.Call (.Name x p) (e1 :: es) [] pos) (tE X.K w q fun e => (ra e).bd fun avs e1 => match c id (avs ++ dl.map .f) with
      | .ok r _ => .ok (.own r) e1
      | .exc x _ => .exc x e1
      | .bad => .bad) := by
  -- the call's reading with the wish at the caller's slots
  have key : PE X (.Call (.Name x p) (e1 :: es) [] pos) (fun σ H Q => tL X.K w q (fun e => (ra e).bd fun as e1 => .ok (as.map tvA) e1) σ H fun vs H1 => spK X.K w.cad c id (vs ++ dvs) H1 Q (fun cls d H => w.W cls d σ H)) := by
    refine ⟨fun pins s σ H Q I h => ?_⟩
    refine wpAny_Call_Name_kw (ld_glob I hg hm ?_ hdb)
    refine PySem.W.callWith_K (h₀ := X.base) I.ok.mod.kin hk (thn (ha.run pos pins s σ H _ I h) fun us s1 ⟨vs, H1, I1, r, qq⟩ => ⟨I1.kIn, ?_⟩) (starEach_cons hn) hpl
    have r2 : Vals (vs ++ dvs) (us ++ ds) := r.append hd
    have hl : (us ++ ds).length = ps.length := by rw [← r2.length]; exact Fo.len _ _ _ _ qq
    refine wpAny_call (codeAny_mono (Fo.run X.A X.stack s1 H1 ⟨us, []⟩ (us ++ ds) (vs ++ dvs) Q (fun cls d H => w.W cls d σ H) hr I1.env0 (hb s1 us I1.kIn hl) r2 qq) fun r s' hq => ?_)
    cases r with
    | error e => exact tk e s' (XE.of_call I1 (fun _ _ _ h => h) hq)
    | ok fl =>
      cases fl with
      | ret u => exact I1.after hq
      | next => exact False.elim hq
      | brk => exact False.elim hq
      | cont => exact False.elim hq
  refine PE.imp key fun σ H Q h => ?_
  obtain ⟨F, P, ts, tv, env, sr, hq, h⟩ := h
  refine ⟨F, P, ts, tv, env, sr, hq, ?_⟩
  dsimp only at h ⊢
  cases ea : ra env with
  | bad => rw [ea] at h; exact h
  | exc c e => rw [ea] at h; exact Res.exc0 h fun z => z
  | ok as e1 =>
    rw [ea] at h
    intro F1 H1 x1 s1 vs hlen sr1
    obtain ⟨L, a, s⟩ := sr1.popL hlen
    obtain ⟨b, eL⟩ := AS.ofAT a (hF _ _ _ ea)
    subst eL
    simp only [R.bd_ok] at h
    have hd2 : AS X.K F1 H1 H1 (dvs.map some) (dl.map fun d => some (slA (.f d))) [] := AS.ofIsL (hdl F1)
    have happ : ∀ {a b : St} {c d : Ev}, AS X.K F1 H1 H1 a c [] → AS X.K F1 H1 H1 b d [] → AS X.K F1 H1 H1 (a ++ b) (c ++ d) [] := by
      intro a b c d h1 h2
      have : ∀ {a : St} {c : Ev} {L : List Addr}, AS X.K F1 H1 H1 a c L → AS X.K F1 H1 H1 (a ++ b) (c ++ d) (L ++ []) := by
        intro a c L h
        induction h with
        | nil => exact h2
        | skip _ ih => exact .skip ih
        | cons r _ ih => rw [List.append_assoc]; exact .cons r ih
      exact this h1
    have hlen2 : vs.length = as.length := by simpa using hlen
    have hlen3 : dvs.length = dl.length := (hdl F1).length.symm
    refine ⟨F1, H1, as ++ dl.map .f, by simp [hlen2, hlen3], ⟨⟨[], [], .nil, ?_, ⟨fun b => by simp, fun b hb => by simp at hb, fun b hb => by simp at hb⟩⟩, sr1.fh, Same.refl H1⟩, ?_⟩
    · have := happ b hd2
      simpa [Function.comp_def] using this
    · cases ec : c id (as ++ dl.map .f) with
      | bad => rw [ec] at h; exact h
      | ok r outs =>
        rw [ec] at h
        intro F' H' v x' c'
        obtain ⟨y1, y2, y3⟩ := s.after x' c'
        exact h F' H' (x1.trans y1) (fun z => (s1 z).trans y2) v y3
      | exc n outs =>
        rw [ec] at h
        intro F' H' x' c'
        obtain ⟨y1, y2, y3⟩ := s.afterX x' c'
        exact h F' H' (x1.trans y1) (fun z => (s1 z).trans y2) y3
end TL
namespace TL
open PySem PySem.Spec L2
/-! ### targets -/
/-- the pinned slots stay -/
def PF (pins : List Nat) (σ σ' : St) : Prop := ∀ i ∈ pins, σ'[i]? = σ[i]?
theorem PF.refl (pins : List Nat) (σ : St) : PF pins σ σ := fun _ _ => rfl
theorem PF.trans {pins : List Nat} {a b c : St} (h : PF pins a b) (g : PF pins b c) : PF pins a c := fun i hi => (g i hi).trans (h i hi)
def gT (K : PySem.W.Frag) (pins : List Nat) (t : Tg) : TG := fun v σ H Q => ∃ F P ts tv env o e', SR K F P H (v :: ts) (.own o :: tv) σ env ∧ asgT pins t o env = some e' ∧ ∀ σ', SR K F P H ts tv σ' e' → PF pins σ σ' → Pq σ env σ' e' → Q σ' H
def gTs (K : PySem.W.Frag) (pins : List Nat) (ts : List Tg) : TGs := fun vs σ H Q => ∃ F P us tv env os e', SR K F P H (vs ++ us) (os.map .own ++ tv) σ env ∧ vs.length = os.length ∧ asgTs pins ts os env = some e' ∧ ∀ σ', SR K F P H us tv σ' e' → PF pins σ σ' → Pq σ env σ' e' → Q σ' H
theorem PG.imp {X : Cx} {e : Expr} {t t' : TG} (h : PG X e t) (k : ∀ v σ H Q, t' v σ H Q → t v σ H Q) : PG X e t' :=
  ⟨fun pins s σ H v u Q I r x => h.run pins s σ H v u Q I r (k v σ H Q x)⟩
theorem PGs.imp {X : Cx} {e : List Expr} {t t' : TGs} (h : PGs X e t) (k : ∀ v σ H Q, t' v σ H Q → t v σ H Q) : PGs X e t' :=
  ⟨fun pins s σ H v u Q I r x => h.run pins s σ H v u Q I r (k v σ H Q x)⟩
theorem PG.or {X : Cx} {e : Expr} {t t' : TG} (h : PG X e t) (h' : PG X e t') : PG X e fun v σ H Q => t v σ H Q ∨ t' v σ H Q :=
  ⟨fun pins s σ H v u Q I r x => by
    rcases x with x | x
    · exact h.run pins s σ H v u Q I r x
    · exact h'.run pins s σ H v u Q I r x⟩
section
variable {X : Cx} {pins : List Nat}
theorem nm_conv {K : PySem.W.Frag} {i : Nat} {v : V} {σ : St} {H : Hp} {Q : St → Hp → Prop} (h : gT K pins (.nm i) v σ H Q) : gName i v σ H Q := by
  obtain ⟨F, P, ts, tv, env, o, e', sr, ha, k⟩ := h
  show Q (σ.set i (some v)) H
  simp only [asgT] at ha
  split at ha
  · cases ha
  · rename_i hp
    simp only [Bool.or_eq_true, decide_eq_true_eq, not_or] at hp
    have := Option.some.inj ha
    subst this
    obtain ⟨L1, r, s⟩ := sr.sx.pop
    cases r with
    | own r =>
      have s2 := s.drop i
      have hn : (env.set i none)[i]? = some none := by rw [List.getElem?_set_self (by omega)]
      have s3 := SX.put (L1 := L1) s2 hn (.own r)
      rw [List.set_set] at s3
      refine k _ s3.sr (fun j hj => ?_) ⟨by simp, fun j d hj => ?_⟩
      · rw [List.getElem?_set_ne]
        intro e
        subst e
        simp only [List.contains_iff_mem] at hp
        exact hp.1 hj
      · by_cases e : i = j
        · subst e
          rw [List.getElem?_set_self (by omega)] at hj
          cases hj
        · rw [List.getElem?_set_ne e] at hj ⊢
          exact ⟨hj, rfl⟩
theorem so_nm {i : Nat} {x : Str} {pos : Pos} (hN : X.N.Nodup) (hi : X.N[i]? = some x) (hx : Loc X.env.scope x) (hf : X.fn x = true ∨ X.env.scope.names.lookup x = some .local) : PG X (.Name x pos) (gT X.K pins (.nm i)) := by
  refine PG.imp (pg_name hN hi hx hf) fun v σ H Q h => nm_conv h
theorem so_gnil : PGs X [] (gTs X.K pins []) := by
  refine PGs.imp pgs_nil fun vs σ H Q h => ?_
  obtain ⟨F, P, us, tv, env, os, e', sr, hl, ha, k⟩ := h
  cases os with
  | cons o os => simp [asgTs] at ha
  | nil =>
    have : vs = [] := by simpa using hl
    subst this
    simp only [asgTs, Option.some.injEq] at ha
    subst ha
    exact ⟨rfl, k σ sr (PF.refl _ _) (Pq.refl _ _)⟩
theorem so_gcons {e : Expr} {es : List Expr} {t : Tg} {ts : List Tg} (h1 : PG X e (gT X.K pins t)) (h2 : PGs X es (gTs X.K pins ts))
    (hs : (assignEach (e :: es) X.env).map (·.2) = assign e X.env :: (assignEach es X.env).map (·.2)) : PGs X (e :: es) (gTs X.K pins (t :: ts)) := by
  refine PGs.imp (pgs_cons h1 h2 hs) fun vs σ H Q h => ?_
  obtain ⟨F, P, us, tv, env, os, e', sr, hl, ha, k⟩ := h
  cases os with
  | nil => simp [asgTs] at ha
  | cons o os =>
    cases vs with
    | nil => simp at hl
    | cons v vs =>
      simp only [asgTs] at ha
      split at ha
      · rename_i e1 h3
        exact ⟨v, vs, rfl, F, P, vs ++ us, os.map .own ++ tv, env, o, e1, by simpa using sr, h3, fun σ1 sr1 p1 q1 => ⟨F, P, us, tv, e1, os, e', sr1, by simpa using hl, ha, fun σ2 sr2 p2 q2 => k σ2 sr2 (p1.trans p2) (q1.trans q2)⟩⟩
      · cases ha
theorem fz_ros {K : PySem.W.Frag} {F H : Hp} : ∀ {ds : List D} {vs : List V}, IsL K F ds vs → AT K F H vs ((ds.map O.fz).map .own) []
  | _, _, .nil => .nil
  | _, _, .cons i l => AT.cons (L1 := []) (L2 := []) (.own (.fz i)) (fz_ros l)
theorem ros_at {K : PySem.W.Frag} {F H : Hp} : ∀ {os : List O} {vs : List V} {L : List Addr}, ROs K F H os vs L → AT K F H vs (os.map .own) L
  | _, _, _, .nil => .nil
  | _, _, _, .cons r l => .cons (.own r) (ros_at l)
theorem SX.pushs {K : PySem.W.Frag} {F P H : Hp} {σ : St} {env : Ev} : ∀ {vs : List V} {us : List TV} {ts : List V} {tv : List TV} {L1 L : List Addr}, AT K F H vs us L1 → SX K F P H ts tv σ env (L1 ++ L) → SX K F P H (vs ++ ts) (us ++ tv) σ env L
  | _, _, _, _, _, _, .nil, s => s
  | _, _, ts, tv, _, L, .cons (L1 := M1) (L2 := M2) r a, s => by
    have s1 := SX.pushs (L := M1 ++ L) a (s.weak fun b => by simp only [List.count_append]; omega)
    exact SX.push (L1 := M1) s1 r
theorem so_tp {es : List Expr} {kk : Nat} {pos : Pos} {ts : List Tg} (hc : X.calm = true) (h : PGs X es (gTs X.K pins ts)) (hn : (assignEach es X.env).length = ts.length) (hst : (assignEach es X.env).findIdx? (·.1) = none)
    (hlen : ∀ os e e', asgTs pins ts os e = some e' → os.length = ts.length) : PG X (.Tuple es kk pos) (gT X.K pins (.tp ts)) := by
  refine PG.imp (PG.or (pg_tup (n := ts.length) hc h hn hst) (pg_lst (n := ts.length) hc h hn hst)) fun v σ H Q h => ?_
  obtain ⟨F, P, us, tv, env, o, e', sr, ha, k⟩ := h
  obtain ⟨L1, r, s⟩ := sr.sx.pop
  cases r with
  | own r =>
    cases r with
    | fz i =>
      cases i with
      | tup sq _ l =>
        simp only [asgT] at ha
        have hl := hlen _ _ _ ha
        refine .inl ⟨_, _, rfl, Same.sqT sr.fh sq, by rw [← l.length]; simpa using hl, F, P, us, tv, env, _, e', ?_, by simpa using l.length.symm, ha, k⟩
        exact (SX.pushs (L := []) (fz_ros l) (s.weak fun b => by simp)).sr
      | lst sq l =>
        simp only [asgT] at ha
        have hl := hlen _ _ _ ha
        refine .inr ⟨_, _, rfl, sr.fh.seq sq, by rw [← l.length]; simpa using hl, F, P, us, tv, env, _, e', ?_, by simpa using l.length.symm, ha, k⟩
        exact (SX.pushs (L := []) (fz_ros l) (s.weak fun b => by simp)).sr
      | _ => simp [asgT] at ha
    | tup q l =>
      simp only [asgT] at ha
      have hl := hlen _ _ _ ha
      refine .inl ⟨_, _, rfl, .inl (.inl q), by rw [← l.length]; exact hl, F, P, us, tv, env, _, e', ?_, l.length.symm, ha, k⟩
      exact (SX.pushs (L := []) (ros_at l) (s.weak fun b => by simp only [List.count_append, List.count_cons]; omega)).sr
    | lst q l => simp [asgT] at ha
    | dct q l => simp [asgT] at ha
    | dtp q l => simp [asgT] at ha
    | ins q g l => simp [asgT] at ha
end
/-! ### what is walked -/
/-- an item that comes: it stands as it stood, or a new pair -/
def YD (K : PySem.W.Frag) (F : Hp) (d : D) (H : Hp) (x : V) (H' : Hp) : Prop :=
  (H' = H ∧ Is K F d x) ∨ ∃ T a b da db, x = .ref T ∧ H T = none ∧ H' = upd H T (.tup [a, b]) ∧ d = .tuple [da, db] ∧ Is K F da a ∧ Is K F db b
theorem YD.sx {K : PySem.W.Frag} {F P H H' : Hp} {ts : List V} {tv : List TV} {σ : St} {env : Ev} {d : D} {x : V} (y : YD K F d H x H') (s : SX K F P H ts tv σ env []) :
    ∃ F', Ext P F F' ∧ Same H H' ∧ SX K F' P H' ts tv σ env [] ∧ Is K F' d x := by
  rcases y with ⟨rfl, i⟩ | ⟨T, a, b, da, db, rfl, hT, rfl, rfl, i1, i2⟩
  · exact ⟨F, Ext.refl P F, Same.refl _, s, i⟩
  · obtain ⟨sm, s1⟩ := SX.newT (L1 := []) (L := []) (os := [.fz da, .fz db]) s (ROs.cons (L1 := []) (L2 := []) (.fz i1) (ROs.cons (L1 := []) (L2 := []) (.fz i2) .nil)) hT
    obtain ⟨L1, r, s2⟩ := s1.pop
    obtain ⟨x1, s3⟩ := SX.frz (L1 := L1) (L := []) s2
    cases r with
    | own r => exact ⟨_, x1, sm, s3, r.frz x1.up fun b hb => wid_in hb⟩
theorem YD.sx' {K : PySem.W.Frag} {F P H H' : Hp} {ts : List V} {tv : List TV} {σ : St} {env : Ev} {d : D} {x : V} (y : YD K F d H x H') (s : SX K F P H ts tv σ env []) :
    ∃ F', Ext P F F' ∧ Same H H' ∧ SX K F' P H' ts tv σ env [] ∧ Is K F' d x := y.sx s
theorem YD.mono {K : PySem.W.Frag} {F F' H H' : Hp} {d : D} {x : V} (e : Same F F') (y : YD K F d H x H') : YD K F' d H x H' := by
  rcases y with ⟨h, i⟩ | ⟨T, a, b, da, db, h1, h2, h3, h4, i1, i2⟩
  · exact .inl ⟨h, i.mono e⟩
  · exact .inr ⟨T, a, b, da, db, h1, h2, h3, h4, i1.mono e, i2.mono e⟩
/-- the walk's reading, by the sources' values -/
def WR (K : PySem.W.Frag) (k : Ik) (vs : List V) (H1 : Hp) (R : It → Hp → Prop) : Prop := match k with
  | .sq => (∃ a, vs = [.ref a] ∧ (∃ xs, SqL K H1 a xs) ∧ R (Itl K a) H1) ∨ (∃ a, vs = [.ref a] ∧ (∃ xs, SqT K H1 a xs) ∧ R (Itt K a) H1) ∨ ∃ z, vs = [.str z] ∧ R (Its z) H1
  | .rng => (∃ j : Int, vs = [.int j] ∧ -(2 ^ 62) ≤ j ∧ j < 2 ^ 62 ∧ R (Itr 0 j.toNat) H1) ∨ (∃ i j : Int, vs = [.int i, .int j] ∧ (-(2 ^ 62) ≤ i ∧ i < 2 ^ 62 ∧ -(2 ^ 62) ≤ j ∧ j < 2 ^ 62) ∧ R (Itr i (j - i).toNat) H1) ∨ ∃ i j : Int, vs = [.int i, .int j, .int (-1)] ∧ (-(2 ^ 62) ≤ i ∧ i < 2 ^ 62 ∧ -(2 ^ 62) ≤ j ∧ j < 2 ^ 62) ∧ R (Itc i (-1) (i - j).toNat) H1
  | .enm => ∃ a xs, vs = [.ref a] ∧ SqL K H1 a xs ∧ R (Ite K a) H1
  | .zip => ∃ a b xs ys, vs = [.ref a, .ref b] ∧ SqL K H1 a xs ∧ SqL K H1 b ys ∧ R (Itz K a b) H1
inductive RVl (K : PySem.W.Frag) (F M : Hp) : List D → List V → Prop
  | nil : RVl K F M [] []
  | cons {d : D} {ds : List D} {v : V} {vs : List V} : RV K F M (O1 d) v → RVl K F M ds vs → RVl K F M (d :: ds) (v :: vs)
theorem RV.lst1 {K : PySem.W.Frag} {F M : Hp} {ds : List D} {v : V} (r : RV K F M (O1 (.list ds)) v) : ∃ a xs, v = .ref a ∧ SqL K M a xs ∧ IsL K F ds xs := by
  have r : RV K F M (.lst (ds.map .fz)) v := r
  cases r with
  | lst s l => exact ⟨_, _, rfl, s, RVs.ofFz l⟩
theorem rngL_len (lo : Int) (n : Nat) : (rngL lo n).length = n := by unfold rngL; simp
theorem rngL_get (lo : Int) (n i : Nat) (h : i < n) : (rngL lo n)[i]? = some (.int (lo + i)) := by unfold rngL; simp [h]
theorem rngD_len (lo : Int) (n : Nat) : (rngD lo n).length = n := by unfold rngD; simp
theorem rngD_get (lo : Int) (n i : Nat) (h : i < n) : (rngD lo n)[i]? = some (.int (lo - i)) := by unfold rngD; simp [h]
theorem enumL_len : ∀ (ds : List D) (k : Nat), (enumL ds k).length = ds.length
  | [], _ => rfl
  | _ :: r, k => by simp [enumL, enumL_len r]
theorem enumL_get : ∀ (ds : List D) (k i : Nat) (d : D), ds[i]? = some d → (enumL ds k)[i]? = some (.tuple [.int ((k + i : Nat) : Int), d])
  | [], _, _, _, h => by simp at h
  | x :: r, k, 0, d, h => by simp at h; subst h; simp [enumL]
  | x :: r, k, i + 1, d, h => by
    have := enumL_get r (k + 1) i d (by simpa using h)
    simp only [enumL, List.getElem?_cons_succ, this]
    rw [show k + 1 + i = k + (i + 1) by omega]
theorem zipL_len : ∀ (a b : List D), (zipL a b).length = min a.length b.length
  | [], b => by simp [zipL]
  | _ :: _, [] => by simp [zipL]
  | x :: a, y :: b => by simp [zipL, zipL_len a b] <;> omega
theorem zipL_get : ∀ (a b : List D) (i : Nat) (x y : D), a[i]? = some x → b[i]? = some y → (zipL a b)[i]? = some (.tuple [x, y])
  | [], _, _, _, _, h, _ => by simp at h
  | _ :: _, [], _, _, _, _, h => by simp at h
  | u :: a, v :: b, 0, x, y, h1, h2 => by simp at h1 h2; subst h1 h2; simp [zipL]
  | u :: a, v :: b, i + 1, x, y, h1, h2 => by
    simp only [zipL, List.getElem?_cons_succ]
    exact zipL_get a b i x y (by simpa using h1) (by simpa using h2)
/-- while M stands the walk goes through the items of xs -/
theorem walk_ok {K : PySem.W.Frag} {F M H1 : Hp} {k : Ik} {ds : List D} {vs : List V} {xs : List D} {R : It → Hp → Prop} (h : walkD k ds = some xs) (rep : RVl K F M ds vs) (hM : Same M H1) (hF : Same F H1)
    (hR : ∀ J Y, Walk J xs.length (fun H => Same M H ∧ Same F H) Y → (∀ i H x H', i < xs.length → Same M H → Same F H → Y i H x H' → ∃ d, xs[i]? = some d ∧ YD K F d H x H') → R J H1) : WR K k vs H1 R := by
  have isAt : ∀ {es : List D} {zs : List V} {i : Nat} {x : V}, IsL K F es zs → zs[i]? = some x → ∃ d, es[i]? = some d ∧ Is K F d x := by
    intro es zs i x l e
    have hi : i < zs.length := (List.getElem?_eq_some_iff.mp e).1
    have hi2 : i < es.length := by rw [l.length]; exact hi
    obtain ⟨v, h1, h2⟩ := l.get (List.getElem?_eq_getElem hi2)
    rw [e] at h1; cases h1
    exact ⟨_, List.getElem?_eq_getElem hi2, h2⟩
  unfold walkD at h
  split at h
  case h_1 =>
    rename_i d
    cases rep with
    | cons r rep =>
      cases rep
      cases d with
      | list es =>
        simp only [seqD, Option.some.injEq] at h
        subst h
        obtain ⟨a, zs, rfl, s, l⟩ := r.lst1
        refine .inl ⟨a, rfl, ⟨zs, hM.seq s⟩, hR _ _ ((l.length ▸ walk_list (K := K) (a := a) (xs := zs)).mono (G' := fun H => Same M H ∧ Same F H) (fun H g => g.1.seq s) (Y' := YAt zs) fun i H x H' _ _ y => y) fun i H x H' hi g1 g2 y => ?_⟩
        obtain ⟨d, e1, e2⟩ := isAt l y.2
        exact ⟨d, e1, .inl ⟨y.1, e2⟩⟩
      | tuple es =>
        simp only [seqD, Option.some.injEq] at h
        subst h
        have r : RV K F M (.fz (.tuple es)) _ := r
        cases r with
        | fz i =>
          cases i with
          | @tup a zs _ s tk l =>
            refine .inr (.inl ⟨a, rfl, ⟨zs, Same.sqT hF s⟩, hR _ _ ((l.length ▸ walk_tup (K := K) (a := a) (xs := zs)).mono (G' := fun H => Same M H ∧ Same F H) (fun H g => Same.sqT g.2 s) (Y' := YAt zs) fun i H x H' _ _ y => y) fun i H x H' hi g1 g2 y => ?_⟩)
            obtain ⟨d, e1, e2⟩ := isAt l y.2
            exact ⟨d, e1, .inl ⟨y.1, e2⟩⟩
      | str z =>
        simp only [seqD, Option.some.injEq] at h
        subst h
        have r : RV K F M (.fz (.str z)) _ := r
        cases r with
        | fz i =>
          cases i
          have w := (walk_str (z := z)).mono (G' := fun H => Same M H ∧ Same F H) (fun H g => trivial) (Y' := fun i H v H' => H' = H ∧ ∃ c, z.cps[i]? = some c ∧ v = .str ⟨#[c]⟩) fun i H x H' _ _ y => y
          have hl : (z.cps.toList.map sgn).length = z.cps.size := by simp
          refine .inr (.inr ⟨z, rfl, hR _ _ (by rw [hl]; exact w) fun i H x H' hi g1 g2 y => ?_⟩)
          obtain ⟨e, c, e1, e2⟩ := y
          subst e2
          exact ⟨sgn c, by simp [e1], .inl ⟨e, .str _⟩⟩
      | _ => simp [seqD] at h
  case h_2 =>
    rename_i n
    cases rep with
    | cons r rep =>
      cases rep
      split at h
      · rename_i hn
        have := Option.some.inj h
        subst this
        have r : RV K F M (.fz (.int n)) _ := r
        cases r with
        | fz i =>
          cases i
          unfold rngOk at hn
          simp only [Bool.and_eq_true, decide_eq_true_eq] at hn
          refine .inl ⟨n, rfl, hn.1, hn.2, hR _ _ (by rw [rngL_len]; exact walk_range.mono (G' := fun H => Same M H ∧ Same F H) (fun _ _ => trivial) fun i H x H' _ _ y => y) fun i H x H' hi g1 g2 y => ?_⟩
          rw [rngL_len] at hi
          obtain ⟨e1, e2⟩ := y
          subst e2
          exact ⟨_, rngL_get 0 n.toNat i hi, .inl ⟨e1, .int _⟩⟩
      · cases h
  case h_3 =>
    rename_i n m
    cases rep with
    | cons r rep =>
      cases rep with
      | cons r2 rep =>
        cases rep
        split at h
        · rename_i hn
          have := Option.some.inj h
          subst this
          have r : RV K F M (.fz (.int n)) _ := r
          have r2 : RV K F M (.fz (.int m)) _ := r2
          cases r with
          | fz i =>
            cases i
            cases r2 with
            | fz i =>
              cases i
              unfold rngOk at hn
              simp only [Bool.and_eq_true, decide_eq_true_eq] at hn
              refine .inr (.inl ⟨n, m, rfl, ⟨hn.1.1, hn.1.2, hn.2.1, hn.2.2⟩, hR _ _ (by rw [rngL_len]; exact walk_range.mono (G' := fun H => Same M H ∧ Same F H) (fun _ _ => trivial) fun i H x H' _ _ y => y) fun i H x H' hi g1 g2 y => ?_⟩)
              rw [rngL_len] at hi
              obtain ⟨e1, e2⟩ := y
              subst e2
              exact ⟨_, rngL_get n (m - n).toNat i hi, .inl ⟨e1, .int _⟩⟩
        · cases h
  case h_4 =>
    rename_i n m c
    cases rep with
    | cons r rep =>
      cases rep with
      | cons r2 rep =>
        cases rep with
        | cons r3 rep =>
          cases rep
          split at h
          · rename_i hn
            have := Option.some.inj h
            subst this
            have r : RV K F M (.fz (.int n)) _ := r
            have r2 : RV K F M (.fz (.int m)) _ := r2
            have r3 : RV K F M (.fz (.int c)) _ := r3
            cases r with
            | fz i =>
              cases i
              cases r2 with
              | fz i =>
                cases i
                cases r3 with
                | fz i =>
                  cases i
                  unfold rngOk at hn
                  simp only [Bool.and_eq_true, decide_eq_true_eq] at hn
                  obtain ⟨⟨⟨n1, n2⟩, m1, m2⟩, rfl⟩ := hn
                  refine .inr (.inr ⟨n, m, rfl, ⟨n1, n2, m1, m2⟩, hR _ _ (by rw [rngD_len]; exact walk_rangeC.mono (G' := fun H => Same M H ∧ Same F H) (fun _ _ => trivial) fun i H x H' _ _ y => y) fun i H x H' hi g1 g2 y => ?_⟩)
                  rw [rngD_len] at hi
                  obtain ⟨e1, e2⟩ := y
                  subst e2
                  refine ⟨_, rngD_get n (n - m).toNat i hi, .inl ⟨e1, ?_⟩⟩
                  show Is K F (.int (n - (i : Int))) (.int (n + (i : Int) * -1))
                  rw [show n + (i : Int) * -1 = n - i by omega]
                  exact .int _
          · cases h
  case h_5 =>
    rename_i d
    cases rep with
    | cons r rep =>
      cases rep
      obtain ⟨es, h1, h2⟩ := Option.map_eq_some_iff.mp h
      subst h2
      cases d <;> simp [lstD] at h1
      subst h1
      obtain ⟨a, zs, rfl, s, l⟩ := r.lst1
      refine ⟨a, zs, rfl, hM.seq s, hR _ _ (by rw [enumL_len, l.length]; exact walk_enum.mono (G' := fun H => Same M H ∧ Same F H) (fun H g => g.1.seq s) fun i H x H' _ _ y => y) fun i H x H' hi g1 g2 y => ?_⟩
      obtain ⟨T, x1, y1, e1, e2, e3, e4, e5⟩ := y
      obtain ⟨d, f1, f2⟩ := isAt l e5
      refine ⟨_, enumL_get _ 0 i d f1, .inr ⟨T, x1, y1, _, d, e1, e2, e3, rfl, ?_, f2⟩⟩
      have := Option.some.inj e4
      subst this
      rw [Nat.zero_add]
      exact .int _
  case h_6 =>
    rename_i d1 d2
    cases rep with
    | cons r rep =>
      cases rep with
      | cons r2 rep =>
        cases rep
        split at h
        · rename_i es fs h1 h2
          have := Option.some.inj h
          subst this
          cases d1 <;> simp [lstD] at h1
          subst h1
          cases d2 <;> simp [lstD] at h2
          subst h2
          obtain ⟨a, zs, rfl, s, l⟩ := r.lst1
          obtain ⟨a2, zs2, rfl, s2, l2⟩ := r2.lst1
          refine ⟨a, a2, zs, zs2, rfl, hM.seq s, hM.seq s2, hR _ _ (by rw [zipL_len, l.length, l2.length]; exact (walk_zip rfl).mono (G' := fun H => Same M H ∧ Same F H) (fun H g => ⟨g.1.seq s, g.1.seq s2⟩) fun i H x H' _ _ y => y) fun i H x H' hi g1 g2 y => ?_⟩
          obtain ⟨T, x1, y1, e1, e2, e3, e4, e5⟩ := y
          obtain ⟨d, f1, f2⟩ := isAt l e4
          obtain ⟨d', f1', f2'⟩ := isAt l2 e5
          exact ⟨_, zipL_get _ _ i d d' f1 f1', .inr ⟨T, x1, y1, d, d', e1, e2, e3, rfl, f2, f2'⟩⟩
        · cases h
  case h_7 => cases h
end TL
namespace TL
open PySem PySem.Spec L2
/-- what a slot lends stands elsewhere, too -/
theorem AS.repar {K : PySem.W.Frag} {F P P' H : Hp} : ∀ {σ : St} {env : Ev} {M : List Addr}, AS K F P' H σ env M → (∀ (i : Nat) d v, env[i]? = some (some (.par d)) → σ[i]? = some (some v) → RV K F P (O1 d) v) → AS K F P H σ env M
  | _, _, _, .nil, _ => .nil
  | _, _, _, .skip l, k => .skip (l.repar fun i d v a b => k (i + 1) d v (by simpa using a) (by simpa using b))
  | _, _, _, .cons r l, k => by
    refine .cons ?_ (l.repar fun i d v a b => k (i + 1) d v (by simpa using a) (by simpa using b))
    cases r with
    | own r => exact .own r
    | par r => exact .par (k 0 _ _ rfl rfl)
theorem AS.back2 {K : PySem.W.Frag} {F F' P P' H H' : Hp} {σ σ' : St} {env env' : Ev} {L M : List Addr} (a : AS K F P H σ env L) (up : Same F F') (b : AS K F' P' H' σ' env' M) (k : Pq σ env σ' env') : AS K F' P H' σ' env' M :=
  b.repar fun i d v e1 e2 => by
    obtain ⟨h1, h2⟩ := k.2 i d e1
    obtain ⟨u, _, _, g1, g2, _⟩ := a.take h1
    rw [h2, g1] at e2
    cases e2
    cases g2 with
    | par r => exact r.same up fun _ _ x => x
/-- the temporaries laid aside -/
theorem SX.hide {K : PySem.W.Frag} {F P H : Hp} {ts : List V} {tv : List TV} {σ : St} {env : Ev} (s : SX K F P H ts tv σ env []) :
    ∃ P', Same P P' ∧ SX K F P' H [] [] σ env [] ∧ ∀ F' H' ts2 tv2 σ' env', Ext P' F F' → Same H H' → Pq σ env σ' env' → SR K F' P' H' ts2 tv2 σ' env' → Ext P F F' ∧ SR K F' P H' (ts2 ++ ts) (tv2 ++ tv) σ' env' := by
  obtain ⟨L1, L2, a, b, g⟩ := s.ex
  have g1 : ∀ b ∈ L1, P b = none := fun b hb => g.fP b (by simp [hb])
  have gF : ∀ b ∈ L1, F b = none := fun b hb => g.fF b (by simp [hb])
  refine ⟨wid P H L1, wid_same g1, ⟨⟨[], L2, .nil, ?_, ?_⟩, s.fh, wid_sub s.ph, fun b hb => by simp at hb⟩, fun F' H' ts2 tv2 σ' env' x sm pq sr => ?_⟩
  · have : ∀ {vs : St} {es : Ev} {L : List Addr}, AS K F P H vs es L → AS K F (wid P H L1) H vs es L := by
      intro vs es L h
      induction h with
      | nil => exact .nil
      | skip _ ih => exact .skip ih
      | cons r _ ih =>
        refine .cons ?_ ih
        cases r with
        | own r => exact .own r
        | par r => exact .par (r.same (fun _ _ x => x) (wid_same g1))
    exact this b
  · refine ⟨fun c => ?_, fun c hc => g.fF c (by simpa using .inr hc), fun c hc => ?_⟩
    · have := g.one c
      simp only [List.nil_append, List.count_append] at this ⊢
      omega
    · have h1 := g.one c
      have h2 := List.count_pos_iff.mpr hc
      simp only [List.nil_append, List.count_append] at h1 h2
      rw [wid_out fun h => by have := List.count_pos_iff.mpr h; omega]
      exact g.fP c (by simpa using .inr hc)
  · have tr : ∀ b ∈ L1, ∃ u, H b = some u := a.trk
    refine ⟨⟨x.up, fun b o h1 h2 => ?_⟩, ?_⟩
    · have := x.new b o h1 h2
      by_cases hb : b ∈ L1
      · exact g1 b hb
      · rw [wid_out hb] at this; exact this
    · obtain ⟨M1, M2, a', b', g'⟩ := sr.ex
      have app : ∀ {vs : List V} {us : List TV} {M : List Addr}, AT K F' H' vs us M → AT K F' H' (vs ++ ts) (us ++ tv) (M ++ L1) := by
        intro vs us M h
        induction h with
        | nil => exact a.same x.up sm
        | cons r _ ih => rw [List.append_assoc]; exact .cons r ih
      have b2 : AS K F' P H' σ' env' M2 := b.back2 x.up b' pq
      refine ⟨⟨_, _, app a', b2, ⟨fun c => ?_, fun c hc => ?_, fun c hc => ?_⟩⟩, sr.fh, s.ph.trans sm⟩
      · have h1 := g'.one c
        have h2 := g.one c
        simp only [List.nil_append, List.count_append] at h1 h2 ⊢
        by_cases hc : c ∈ L1
        · have : c ∉ M1 ++ M2 := fun hm => by
            have := g'.fP c hm
            rw [wid_in hc] at this
            obtain ⟨u, hu⟩ := tr c hc
            rw [hu] at this; cases this
          have h3 := List.count_eq_zero_of_not_mem this
          rw [List.count_append] at h3
          omega
        · have h3 := List.count_eq_zero_of_not_mem hc
          omega
      · rcases List.mem_append.mp hc with hc | hc
        · rcases List.mem_append.mp hc with hc | hc
          · exact g'.fF c (by simp [hc])
          · cases q : F' c with
            | none => rfl
            | some u =>
              have := x.new c u q (gF c hc)
              rw [wid_in hc] at this
              obtain ⟨u, hu⟩ := tr c hc
              rw [hu] at this; cases this
        · exact g'.fF c (by simp [hc])
      · have un : ∀ c, wid P H L1 c = none → P c = none := fun c h => by
          by_cases hb : c ∈ L1
          · exact g1 c hb
          · rw [wid_out hb] at h; exact h
        rcases List.mem_append.mp hc with hc | hc
        · rcases List.mem_append.mp hc with hc | hc
          · exact un c (g'.fP c (by simp [hc]))
          · exact g1 c hc
        · exact un c (g'.fP c (by simp [hc]))
/-! ### wiping, restoring slots -/
section
variable {K : PySem.W.Frag} {F P H : Hp}
/-- other values in empty slots -/
theorem AS.reσ : ∀ {σ' : St} {env : Ev} {L : List Addr}, AS K F P H σ' env L → ∀ σ : St, σ'.length = σ.length → (∀ i : Nat, σ'[i]? = σ[i]? ∨ env[i]? = some none) → AS K F P H σ env L
  | _, _, _, .nil, σ, hl, _ => by
    have : σ = [] := List.length_eq_zero_iff.mp hl.symm
    subst this; exact .nil
  | _, _, _, .skip l, σ, hl, k => by
    cases σ with
    | nil => simp at hl
    | cons x σ => exact .skip (l.reσ σ (by simpa using hl) fun i => by simpa using k (i + 1))
  | _, _, _, .cons (v := v) r l, σ, hl, k => by
    cases σ with
    | nil => simp at hl
    | cons x σ =>
      have h0 : x = some v := by
        have := k 0
        simp at this
        exact this.symm
      subst h0
      exact .cons r (l.reσ σ (by simpa using hl) fun i => by simpa using k (i + 1))
/-- flat or lent things in empty slots -/
theorem AS.reE : ∀ {σ : St} {env : Ev} {L : List Addr}, AS K F P H σ env L → ∀ env' : Ev, env.length = env'.length →
    (∀ i : Nat, env'[i]? = env[i]? ∨ (env[i]? = some none ∧ ∀ s, env'[i]? = some (some s) → ∃ v, σ[i]? = some (some v) ∧ RL K F P H s v [])) → AS K F P H σ env' L
  | _, _, _, .nil, e, hl, _ => by
    have : e = [] := List.length_eq_zero_iff.mp hl.symm
    subst this; exact .nil
  | _, _, _, .skip (x := x) l, e, hl, k => by
    cases e with
    | nil => simp at hl
    | cons o e =>
      have ih := l.reE e (by simpa using hl) fun i => by simpa using k (i + 1)
      cases o with
      | none => exact .skip ih
      | some s =>
        rcases k 0 with h | ⟨_, h⟩
        · simp at h
        · obtain ⟨v, h1, h2⟩ := h s rfl
          simp at h1
          subst h1
          exact AS.cons (L1 := []) h2 ih
  | _, _, _, .cons (s := s) r l, e, hl, k => by
    cases e with
    | nil => simp at hl
    | cons o e =>
      have ih := l.reE e (by simpa using hl) fun i => by simpa using k (i + 1)
      have h0 : o = some s := by
        rcases k 0 with h | ⟨h, _⟩
        · simpa using h
        · simp at h
      subst h0
      exact .cons r ih
end
theorem wipe_len (σ : St) (own : List Nat) : (wipe σ own).length = σ.length := wipe_length σ own
theorem wipeE_len (e : Ev) : ∀ own : List Nat, (wipeE e own).length = e.length
  | [] => rfl
  | i :: is => by unfold wipeE; rw [List.length_set, wipeE_len e is]
theorem restore_len (e0 e : Ev) : ∀ own : List Nat, (restore e0 e own).length = e.length
  | [] => rfl
  | i :: is => by unfold restore; rw [List.length_set, restore_len e0 e is]
theorem wipeE_in (e : Ev) : ∀ {own : List Nat} {i : Nat}, i ∈ own → i < e.length → (wipeE e own)[i]? = some none
  | [], _, h, _ => by simp at h
  | j :: is, i, h, hl => by
    unfold wipeE
    by_cases hj : j = i
    · subst hj; rw [List.getElem?_set_self (by rw [wipeE_len]; exact hl)]
    · rw [List.getElem?_set_ne hj]
      exact wipeE_in e (by rcases List.mem_cons.mp h with e | h; exact absurd e.symm hj; exact h) hl
theorem wipeE_out (e : Ev) : ∀ {own : List Nat} {i : Nat}, i ∉ own → (wipeE e own)[i]? = e[i]?
  | [], _, _ => rfl
  | j :: is, i, h => by
    unfold wipeE
    simp only [List.mem_cons, not_or] at h
    rw [List.getElem?_set_ne (Ne.symm h.1)]
    exact wipeE_out e h.2
theorem restore_in (e0 e : Ev) : ∀ {own : List Nat} {i : Nat}, i ∈ own → i < e.length → (restore e0 e own)[i]? = some (e0[i]?.getD none)
  | [], _, h, _ => by simp at h
  | j :: is, i, h, hl => by
    unfold restore
    by_cases hj : j = i
    · subst hj; rw [List.getElem?_set_self (by rw [restore_len]; exact hl)]
    · rw [List.getElem?_set_ne hj]
      exact restore_in e0 e (by rcases List.mem_cons.mp h with e | h; exact absurd e.symm hj; exact h) hl
theorem restore_out (e0 e : Ev) : ∀ {own : List Nat} {i : Nat}, i ∉ own → (restore e0 e own)[i]? = e[i]?
  | [], _, _ => rfl
  | j :: is, i, h => by
    unfold restore
    simp only [List.mem_cons, not_or] at h
    rw [List.getElem?_set_ne (Ne.symm h.1)]
    exact restore_out e0 e h.2
theorem wipe_out' {σ : St} : ∀ {own : List Nat} {i : Nat}, i ∉ own → (wipe σ own)[i]? = σ[i]? := fun h => wipe_out h
/-- wiped slots, wiped state -/
theorem SX.wipe {K : PySem.W.Frag} {F P H : Hp} {ts : List V} {tv : List TV} {σ : St} {env : Ev} {L : List Addr} (s : SX K F P H ts tv σ env L) : ∀ own : List Nat, SX K F P H ts tv (L2.wipe σ own) (wipeE env own) L
  | [] => s
  | i :: is => by
    have ih := s.wipe is
    have h := ih.drop i
    by_cases hi : i < (wipeE env is).length
    · exact h.any (i := i) none (by rw [List.getElem?_set_self hi])
    · have e : (L2.wipe σ is).set i none = L2.wipe σ is := List.set_eq_of_length_le (by rw [ih.len]; omega)
      show SX K F P H ts tv ((L2.wipe σ is).set i none) ((wipeE env is).set i none) L
      rw [e]; exact h
/-- the slots as they were -/
theorem SX.unwipe {K : PySem.W.Frag} {F F' P H H' : Hp} {ts ts' : List V} {tv tv' : List TV} {σ : St} {e1 e2 : Ev} {L L' : List Addr} {own : List Nat} (s : SX K F P H ts tv σ e1 L) (up : Same F F') (sm : Same H H') (fo : freeOwn e1 own = true)
    (t : SX K F' P H' ts' tv' (L2.wipe σ own) (wipeE e2 own) L') (hl : e2.length = e1.length) : SX K F' P H' ts' tv' σ (restore e1 e2 own) L' := by
  obtain ⟨M1, M2, a, b, g⟩ := t.ex
  obtain ⟨N1, N2, a0, b0, g0⟩ := s.ex
  have b1 : AS K F' P H' σ (wipeE e2 own) M2 := b.reσ σ (wipe_len σ own) fun i => by
    by_cases hi : i ∈ own
    · by_cases hl2 : i < e2.length
      · exact .inr (wipeE_in e2 hi hl2)
      · refine .inl ?_
        have h1 : σ.length ≤ i := by rw [b0.length, ← hl]; omega
        rw [List.getElem?_eq_none h1, List.getElem?_eq_none (by rw [wipe_len]; exact h1)]
    · exact .inl (wipe_out hi)
  have b2 : AS K F' P H' σ (restore e1 e2 own) M2 := b1.reE _ (by rw [wipeE_len, restore_len]) fun i => by
    by_cases hi : i ∈ own
    · by_cases hl2 : i < e2.length
      · refine .inr ⟨wipeE_in e2 hi hl2, fun s hs => ?_⟩
        rw [restore_in e1 e2 hi hl2] at hs
        have hs' : e1[i]? = some (some s) := by
          cases q : e1[i]? with
          | none => rw [q] at hs; simp at hs
          | some o => rw [q] at hs; simpa using hs
        obtain ⟨v, L1, L2, g1, g2, _⟩ := b0.take hs'
        refine ⟨v, g1, ?_⟩
        have fo' := List.all_eq_true.mp fo i hi
        rw [hs'] at fo'
        cases g2 with
        | par r => exact .par (r.same up fun _ _ x => x)
        | own r =>
          cases r with
          | fz i => exact .own (.fz (i.mono up))
          | lst _ _ => simp at fo'
          | tup _ _ => simp at fo'
          | dct _ _ => simp at fo'
          | dtp _ _ => simp at fo'
          | ins _ _ _ => simp at fo'
      · refine .inl ?_
        rw [List.getElem?_eq_none (by rw [restore_len]; omega), List.getElem?_eq_none (by rw [wipeE_len]; omega)]
    · exact .inl (by rw [restore_out e1 e2 hi, wipeE_out e2 hi])
  exact ⟨⟨M1, M2, a, b2, g⟩, t.fh, t.ph, t.trk⟩
end TL
namespace TL
open PySem PySem.Spec L2
theorem PTs.imp {X : Cx} {e : List Expr} {t t' : TT} (h : PTs X e t) (k : ∀ σ H Q, t' σ H Q → t σ H Q) : PTs X e t' :=
  ⟨fun pins s σ H Q I x => h.run pins s σ H Q I (k σ H Q x)⟩
theorem PI.imp {X : Cx} {tg e : Expr} {t t' : TI} (h : PI X tg e t) (k : ∀ σ H Q, t' σ H Q → t σ H Q) : PI X tg e t' :=
  ⟨fun pins s σ H Q I x => h.run pins s σ H Q I (k σ H Q x)⟩
theorem so_cnd0 {X : Cx} {w : WC} {ev : Ev → R TV} : PTs X [] (tB X.K w true fun e => cnd .nul (ev e) e) := by
  refine PTs.imp pts_nil fun σ H Q h => ?_
  obtain ⟨F, P, ts, tv, env, sr, hq, h⟩ := h
  exact h.here sr
theorem lcGo_len {turn : D → Ev → R (Option O)} : ∀ {ds : List D} {acc os : List O} {e e' : Ev}, lcGo turn ds acc e = .ok os e' → acc.length ≤ os.length
  | [], acc, os, e, e', h => by
    simp only [lcGo] at h
    cases h
    exact Nat.le_refl _
  | d :: ds, acc, os, e, e', h => by
    simp only [lcGo] at h
    cases ht : turn d e with
    | bad => rw [ht] at h; cases h
    | exc c e => rw [ht] at h; cases h
    | ok o e1 =>
      rw [ht] at h
      simp only [R.bd_ok] at h
      cases o with
      | none => exact lcGo_len h
      | some o =>
        have := lcGo_len h
        simp at this
        omega
theorem compl_mem {own : List Nat} {n i : Nat} (h1 : i < n) (h2 : i ∉ own) : i ∈ compl own n := by
  unfold compl
  rw [List.mem_filter]
  exact ⟨List.mem_range.mpr h1, by simpa using h2⟩
theorem set_ext {σ τ : St} {own : List Nat} (hl : σ.length = τ.length) (h : ∀ i : Nat, i ∉ own → σ[i]? = τ[i]?) : L2.wipe σ own = L2.wipe τ own := by
  apply List.ext_getElem?
  intro i
  have wi : ∀ (ρ : St), i ∈ own → i < ρ.length → (L2.wipe ρ own)[i]? = some none := by
    intro ρ
    clear h
    induction own with
    | nil => intro h; simp at h
    | cons j is ih =>
      intro h hlt
      show ((L2.wipe ρ is).set j none)[i]? = some none
      by_cases hj : j = i
      · subst hj; rw [List.getElem?_set_self (by rw [wipe_len]; exact hlt)]
      · rw [List.getElem?_set_ne hj]
        exact ih (by rcases List.mem_cons.mp h with e | h; exact absurd e.symm hj; exact h) hlt
  by_cases hi : i ∈ own
  · by_cases hlt : i < σ.length
    · rw [wi σ hi hlt, wi τ hi (by omega)]
    · rw [List.getElem?_eq_none (by rw [wipe_len]; omega), List.getElem?_eq_none (by rw [wipe_len]; omega)]
  · rw [wipe_out hi, wipe_out hi]; exact h i hi
theorem AT.rvl {K : PySem.W.Frag} {F H : Hp} (e : Same F H) : ∀ {us : List TV} {vs : List V} {L : List Addr} {ds : List D}, AT K F H vs us L → us.mapM srcD = some ds → RVl K F H ds vs
  | _, _, _, _, .nil, h => by simp at h; subst h; exact .nil
  | _, _, _, _, .cons (t := t) (ts := ts) r l, h => by
    rw [List.mapM_cons] at h
    cases h1 : srcD t with
    | none => rw [h1] at h; cases h
    | some d =>
      cases h2 : ts.mapM srcD with
      | none => rw [h1, h2] at h; cases h
      | some es =>
        rw [h1, h2] at h
        cases h
        exact .cons (shallow_O1 e h1 r.view) (AT.rvl e l h2)
theorem so_bad {X : Cx} {w : WC} {e : Expr} {q : Bool} {r : Ev → R TV} (h : ∀ e, r e = .bad) : PE X e (tE X.K w q r) :=
  ⟨fun pins s σ H Q I x => by
    obtain ⟨F, P, ts, tv, env, sr, hq, x⟩ := x
    rw [h] at x
    exact x.elim⟩
mutual
theorem asgT_len {pins : List Nat} : ∀ {t : Tg} {o : O} {e e' : Ev}, asgT pins t o e = some e' → e'.length = e.length
  | .nm i, o, e, e', h => by
    simp only [asgT] at h
    split at h
    · cases h
    · have := Option.some.inj h
      subst this
      simp
  | .tp ts, .fz (.tuple ds), e, e', h => asgTs_len (t := ts) (by simpa only [asgT] using h)
  | .tp ts, .fz (.list ds), e, e', h => asgTs_len (t := ts) (by simpa only [asgT] using h)
  | .tp ts, .tup os, e, e', h => asgTs_len (t := ts) (by simpa only [asgT] using h)
  | .tp ts, .fz .none, e, e', h => by simp [asgT] at h
  | .tp ts, .fz (.bool _), e, e', h => by simp [asgT] at h
  | .tp ts, .fz (.int _), e, e', h => by simp [asgT] at h
  | .tp ts, .fz (.str _), e, e', h => by simp [asgT] at h
  | .tp ts, .fz (.dict _), e, e', h => by simp [asgT] at h
  | .tp ts, .lst _, e, e', h => by simp [asgT] at h
  | .tp ts, .dct _, e, e', h => by simp [asgT] at h
  | .tp ts, .dtp _, e, e', h => by simp [asgT] at h
  | .tp ts, .ins _ _, e, e', h => by simp [asgT] at h
theorem asgTs_len {pins : List Nat} : ∀ {t : List Tg} {o : List O} {e e' : Ev}, asgTs pins t o e = some e' → e'.length = e.length
  | [], [], e, e', h => by simp only [asgTs, Option.some.injEq] at h; rw [h]
  | t :: ts, o :: os, e, e', h => by
    simp only [asgTs] at h
    split at h
    · rename_i e1 h1
      rw [asgTs_len (t := ts) h, asgT_len (t := t) h1]
    · cases h
  | [], _ :: _, _, _, h => by simp [asgTs] at h
  | _ :: _, [], _, _, h => by simp [asgTs] at h
end
/-- one turn of a comprehension -/
def turnL (own : List Nat) (t : Tg) (rc : Ev → R Bool) (ro : Ev → R O) : D → Ev → R (Option O) := fun d e => match asgT (compl own (wipeE e own).length) t (.fz d) (wipeE e own) with
  | none => .bad
  | some e1 => (rc e1).bd fun b e2 => if b then (ro e2).bd fun o e3 => .ok (some o) e3 else .ok none e2
def resL (own : List Nat) (t : Tg) (k : Ik) (rs : Ev → R (List TV)) (rc : Ev → R Bool) (ro : Ev → R O) (e : Ev) : R TV := noExc ((rs e).bd fun ts e1 => if freeOwn e1 own then match ts.mapM srcD with
      | none => .bad
      | some ds => match walkD k ds with
        | none => .bad
        | some xs => (lcGo (turnL own t rc ro) xs [] e1).bd fun os e2 => if os.length ≤ sizeLine then .ok (.own (.lst os)) (restore e1 e2 own) else .bad
    else .bad)
/-- what a comprehension's reading asks, by the interpreter's -/
theorem lc_conv {K : PySem.W.Frag} {w : WC} {slots : List Nat} {t : Tg} {k : Ik} {rs : Ev → R (List TV)} {rc : Ev → R Bool} {ro : Ev → R O} {σ : St} {H : Hp} {Q : VK} {n : Nat} (hσ : σ.length = n) (h : tE K w true (resL slots t k rs rc ro) σ H Q)
    (hpar : ∀ xs acc e os e', lcGo (turnL slots t rc ro) xs acc e = .ok os e' → ∀ (i : Nat) d, i ∉ slots → e'[i]? = some (some (.par d)) → e[i]? = some (some (.par d))) :
    tLc (fun σ H R => tL K w true rs σ H fun vs H1 => WR K k vs H1 R) (gT K (compl slots n) t) (tB K ⟨fun _ _ _ _ => False, w.cad⟩ true rc) (tE K ⟨fun _ _ _ _ => False, w.cad⟩ true fun e => oT (ro e)) slots σ H Q := by
  obtain ⟨F, P, ts, tv, env, sr, hq, h⟩ := h
  show tL K w true rs σ H fun vs H1 => WR K k vs H1 _
  refine ⟨F, P, ts, tv, env, sr, .inl rfl, ?_⟩
  unfold resL at h
  cases ea : rs env with
  | bad => rw [ea] at h; exact h
  | exc c e => rw [ea] at h; exact h.elim
  | ok us e1 =>
    rw [ea] at h
    intro F1 H1 x1 s1 vs hlen sr1
    have h := Res.base h x1 s1
    obtain ⟨L, a, s0⟩ := sr1.popL hlen
    have s0 : SX K F1 P H1 ts tv σ e1 [] := s0.weak fun b => by simp
    simp only [R.bd_ok] at h
    by_cases fo1 : freeOwn e1 slots = true
    · rw [if_pos fo1] at h
      cases em : us.mapM srcD with
      | none => rw [em] at h; exact h.elim
      | some ds =>
        rw [em] at h
        dsimp only at h
        cases ew : walkD k ds with
        | none => rw [ew] at h; exact h.elim
        | some xs =>
          rw [ew] at h
          dsimp only at h
          cases eg : lcGo (turnL slots t rc ro) xs [] e1 with
          | bad => rw [eg] at h; exact h.elim
          | exc c e => rw [eg] at h; exact h.elim
          | ok osf ef =>
            rw [eg] at h
            simp only [R.bd_ok] at h
            by_cases hz : osf.length ≤ sizeLine
            · rw [if_pos hz] at h
              obtain ⟨P', pp, sh, back⟩ := s0.hide
              refine walk_ok ew (a.rvl s0.fh em) (Same.refl H1) s0.fh fun J Y wk hy => ?_
              intro D hD
              have he1 : e1.length = n := by rw [← hσ]; exact s0.len.symm
              -- the invariant
              refine lc_it wk (fun i H => ∃ F' acc e, Ext P' F1 F' ∧ Same H1 H ∧ SR K F' P' H [.ref D] [.own (.lst acc)] (L2.wipe σ slots) (wipeE e slots) ∧ e.length = e1.length ∧ lcGo (turnL slots t rc ro) (xs.drop i) acc e = .ok osf ef) ?_ ?_ ?_ ?_
              · obtain ⟨sm, s3⟩ := SX.newL (L1 := []) (L := []) sh ROs.nil hD
                exact ⟨F1, [], e1, Ext.refl _ _, sm, (s3.wipe slots).sr, rfl, by simpa using eg⟩
              · rintro i H _ ⟨F', acc, e, y1, y2, y3, _, _⟩
                exact ⟨y2, y1.up.trans y3.fh⟩
              · rintro i x H H' hi ⟨F', acc, e, y1, y2, y3, y4, y5⟩ y
                obtain ⟨d, hd, yd⟩ := hy i H x H' hi y2 (y1.up.trans y3.fh) y
                have hdrop : xs.drop i = d :: xs.drop (i + 1) := by
                  have hlt : i < xs.length := hi
                  rw [List.drop_eq_getElem_cons hlt]
                  rw [List.getElem?_eq_getElem hlt] at hd
                  rw [Option.some.inj hd]
                rw [hdrop] at y5
                simp only [lcGo] at y5
                obtain ⟨F2, z1, z2, s4, hid⟩ := (yd.mono y1.up).sx y3.sx
                -- the turn
                unfold turnL at y5
                cases ha : asgT (compl slots (wipeE e slots).length) t (.fz d) (wipeE e slots) with
                | none => rw [ha] at y5; cases y5
                | some e2 =>
                  rw [ha] at y5
                  dsimp only at y5
                  have hpins : compl slots n = compl slots (wipeE e slots).length := by rw [wipeE_len, y4, he1]
                  rw [hpins]
                  refine ⟨F2, P', [.ref D], [.own (.lst acc)], wipeE e slots, .fz d, e2, (s4.pushF hid).sr, ha, fun σ2 sr5 pf _ => ?_⟩
                  have hσ2 : σ2.length = σ.length := by
                    have l1 := sr5.sx.len
                    have l2 := s4.len
                    have l3 : e2.length = (wipeE e slots).length := by
                      have asl : ∀ (t : Tg) (o : O) (e e' : Ev), asgT (compl slots (wipeE e slots).length) t o e = some e' → True := fun _ _ _ _ _ => trivial
                      exact asgT_len ha
                    rw [wipe_len] at l2
                    omega
                  refine ⟨?_, ?_⟩
                  · have : L2.wipe σ2 slots = L2.wipe σ slots := set_ext hσ2 fun j hj => by
                      by_cases hlt : j < (wipeE e slots).length
                      · have := pf j (compl_mem hlt hj)
                        rw [wipe_out hj] at this
                        exact this
                      · have hlt2 : (wipeE e slots).length = σ.length := by rw [wipeE_len, y4, he1, hσ]
                        rw [List.getElem?_eq_none (by omega), List.getElem?_eq_none (by omega)]
                    exact this
                  · -- the test
                    refine ⟨F2, P', [.ref D], [.own (.lst acc)], e2, sr5, .inl rfl, ?_⟩
                    cases hb : rc e2 with
                    | bad => rw [hb] at y5; cases y5
                    | exc c e => rw [hb] at y5; cases y5
                    | ok b e3 =>
                      rw [hb] at y5
                      simp only [R.bd_ok] at y5
                      intro F3 H3 x3 sm3 sr6
                      have wipedσ : ∀ {F H : Hp} {ts : List V} {tv : List TV} {e : Ev}, SR K F P' H ts tv σ2 e → SR K F P' H ts tv (L2.wipe σ slots) (wipeE e slots) ∧ e.length = e1.length := fun {F H ts tv e} sr => by
                        have e1' : L2.wipe σ2 slots = L2.wipe σ slots := set_ext hσ2 fun j hj => by
                          by_cases hlt : j < (wipeE e slots).length
                          · have hlt' : j < (wipeE e2 slots).length := by
                              have l1 := sr.sx.len
                              have l2 := sr5.sx.len
                              rw [wipeE_len] at hlt ⊢
                              omega
                            have h3 : e2.length = (wipeE e2 slots).length := (wipeE_len _ _).symm
                            have h4 := asgT_len ha
                            have := pf j (compl_mem (by omega) hj)
                            rw [wipe_out hj] at this
                            exact this
                          · have l1 := sr.sx.len
                            rw [wipeE_len] at hlt
                            rw [List.getElem?_eq_none (by omega), List.getElem?_eq_none (by omega)]
                        have := (sr.sx.wipe slots).sr
                        rw [e1'] at this
                        refine ⟨this, ?_⟩
                        have l1 := sr.sx.len
                        omega
                      cases b with
                      | false =>
                        refine iteF ?_
                        simp only [Bool.false_eq_true, if_false] at y5
                        obtain ⟨w1, w2⟩ := wipedσ sr6
                        exact ⟨F3, acc, e3, y1.trans (z1.trans x3), y2.trans (z2.trans (sm3 rfl)), w1, w2, y5⟩
                      | true =>
                        refine iteT ?_
                        simp only [if_true] at y5
                        refine ⟨F3, P', [.ref D], [.own (.lst acc)], e3, sr6, .inl rfl, ?_⟩
                        show Res K _ true F3 P' H3 [.ref D] [.own (.lst acc)] σ2 _ (oT (ro e3))
                        cases ho : ro e3 with
                        | bad => rw [ho] at y5; cases y5
                        | exc c e => rw [ho] at y5; cases y5
                        | ok o e4 =>
                          rw [ho] at y5
                          simp only [R.bd_ok] at y5
                          intro F4 H4 x4 sm4 u sr7
                          obtain ⟨M1, r1, s7⟩ := sr7.sx.pop
                          obtain ⟨M2, r2, s8⟩ := s7.pop
                          cases r1 with
                          | own r1 =>
                            cases r2 with
                            | own r2 =>
                              cases r2 with
                              | lst q l =>
                                rename_i zs M3
                                have hlen1 := lcGo_len y5
                                simp only [List.length_append, List.length_singleton] at hlen1
                                refine ⟨zs, q, by rw [← l.length]; omega, ?_⟩
                                have s8' : SX K F4 P' H4 [] [] σ2 e4 (D :: (M3 ++ M1)) := s8.weak fun b => by
                                  simp only [List.cons_append, List.count_cons, List.count_append, List.append_nil]; omega
                                have dD : D ∉ M3 ++ M1 := s8'.dis
                                have s9 := s8'.write (o := .lst (zs ++ [u])) (fun t ht => by simp at ht)
                                have l2 : ROs K F4 (upd H4 D (.lst (zs ++ [u]))) (acc ++ [o]) (zs ++ [u]) (M3 ++ (M1 ++ [])) := (l.mono (Same.refl F4) fun b hb => upd_ne fun z => dD (by simp [← z, hb])).app (.cons (r1.mono (Same.refl F4) fun b hb => upd_ne fun z => dD (by simp [← z, hb])) .nil)
                                have s10 : SX K F4 P' (upd H4 D (.lst (zs ++ [u]))) [.ref D] [.own (.lst (acc ++ [o]))] σ2 e4 [] := SX.push (L1 := D :: (M3 ++ (M1 ++ []))) (by simpa using s9) (.own (.lst upd_same l2))
                                obtain ⟨w1, w2⟩ := wipedσ s10.sr
                                refine ⟨F4, acc ++ [o], e4, y1.trans (z1.trans (x3.trans x4)), ?_, w1, w2, y5⟩
                                have sm5 : Same H1 H4 := y2.trans (z2.trans ((sm3 rfl).trans (sm4 rfl)))
                                exact fun b v hb => by
                                  rw [upd_ne (ne_of_none hb hD)]
                                  exact sm5 b v hb
              · rintro H ⟨F', acc, e, y1, y2, y3, y4, y5⟩
                rw [List.drop_length] at y5
                simp only [lcGo] at y5
                cases y5
                have pq : Pq σ e1 (L2.wipe σ slots) (wipeE ef slots) := ⟨wipe_len σ slots, fun i d hi => by
                  have hin : i ∉ slots := fun hm => by
                    by_cases hlt : i < ef.length
                    · rw [wipeE_in ef hm hlt] at hi; cases hi
                    · rw [List.getElem?_eq_none (by rw [wipeE_len]; omega)] at hi; cases hi
                  rw [wipeE_out ef hin] at hi
                  exact ⟨hpar _ _ _ _ _ eg i d hin hi, wipe_out hin⟩⟩
                obtain ⟨g1, g2⟩ := back F' H _ _ _ _ y1 y2 pq y3
                exact h F' H g1 (fun _ => y2) (.ref D) (SX.unwipe s0 g1.up y2 fo1 g2.sx y4).sr
            · rw [if_neg hz] at h; exact h.elim
    · rw [if_neg fo1] at h; exact h.elim
theorem so_lc {X : Cx} {w : WC} {elt tg iter : Expr} {ifs : List Expr} {scope : Scope} {own : List (Str × Nat)} {pos : Pos} {t : Tg} {k : Ik} {rs : Ev → R (List TV)} {rc : Ev → R Bool} {ro : Ev → R O} (hc : X.calm = true) (hN : X.N.Nodup)
    (hi : PI X tg iter fun σ H R => tL X.K w true rs σ H fun vs H1 => WR X.K k vs H1 R) (ok : BlkOk X.N X.env.scope scope own)
    (hg : ∀ (pins : List Nat) (s : Shared) (H : Hp) (C : Addr) (cl : List (Str × Addr)) (fp : List Addr), PG (X.blk s H scope (compEnvC scope cl C X.env) fp) tg (gT X.K pins t))
    (ht : ∀ (s : Shared) (H : Hp) (C : Addr) (cl : List (Str × Addr)) (fp : List Addr), PTs (X.blk s H scope (compEnvC scope cl C X.env) fp) ifs (tB X.K ⟨fun _ _ _ _ => False, w.cad⟩ true rc))
    (he : ∀ (s : Shared) (H : Hp) (C : Addr) (cl : List (Str × Addr)) (fp : List Addr), PE (X.blk s H scope (compEnvC scope cl C X.env) fp) elt (tE X.K ⟨fun _ _ _ _ => False, w.cad⟩ true fun e => oT (ro e)))
    (hs : ∀ x, foldedSetIterable iter X.env x = pure x)
    (hpar : ∀ xs acc e os e', lcGo (turnL (own.map (·.2)) t rc ro) xs acc e = .ok os e' → ∀ (i : Nat) d, i ∉ own.map (·.2) → e'[i]? = some (some (.par d)) → e[i]? = some (some (.par d))) :
    PE X (.ListComp elt [⟨tg, iter, ifs, 0⟩] scope pos) (tE X.K w true (resL (own.map (·.2)) t k rs rc ro)) := by
  have P0 := pe_lc (pos := pos) hc hN hi ok (hg (compl (own.map (·.2)) X.N.length)) ht he hs
  exact ⟨fun pins s σ H Q I h => P0.run pins s σ H Q I (lc_conv I.len h hpar)⟩
end TL
namespace TL
open PySem PySem.Spec L2
theorem PS.imp {X : Cx} {e : Stmt} {t t' : TS} (h : PS X e t) (k : ∀ D σ H, t' D σ H → t D σ H) : PS X e t' :=
  ⟨fun pins s σ H D I x => h.run pins s σ H D I (k D σ H x)⟩
theorem PSs.imp {X : Cx} {e : List Stmt} {t t' : TS} (h : PSs X e t) (k : ∀ D σ H, t' D σ H → t D σ H) : PSs X e t' :=
  ⟨fun pins s σ H D I x => h.run pins s σ H D I (k D σ H x)⟩
def RPs {α : Type} (e : Ev) : R α → Prop
  | .ok _ e' => Ps e e'
  | .exc _ e' => Ps e e'
  | .bad => True
section
variable (K : PySem.W.Frag) (w : WC) (pins : List Nat)
def flS (F' P H' : Hp) (ts : List V) (tv : List TV) (σ' : St) (e : Ev) (D : Ends) : Fl → Prop
  | .nx => SR K F' P H' ts tv σ' e → D.nx σ' H'
  | .brk => SR K F' P H' ts tv σ' e → D.bk σ' H'
  | .cont => SR K F' P H' ts tv σ' e → D.ct σ' H'
  | .ret o => ∀ v, SR K F' P H' (v :: ts) (.own o :: tv) σ' e → D.rt v H'
def ResS (F P H : Hp) (ts : List V) (tv : List TV) (σ : St) (env : Ev) (D : Ends) : R Fl → Prop
  | .ok fl e => ∀ F' H' σ', Ext P F F' → PF pins σ σ' → Pq σ env σ' e → flS K F' P H' ts tv σ' e D fl
  | .exc c e => ∀ F' H' σ', Ext P F F' → PF pins σ σ' → Pq σ env σ' e → SR K F' P H' ts tv σ' e → w.W (.ref (w.cad c)) none σ' H'
  | .bad => False
def tS (r : Ev → R Fl) : TS := fun D σ H => ∃ F P ts tv env, SR K F P H ts tv σ env ∧ (∀ t ∈ tv, stable t = true) ∧ ResS K w pins F P H ts tv σ env D (r env)
end
section
variable {K : PySem.W.Frag} {w : WC} {pins : List Nat} {F F1 P H H1 : Hp} {ts : List V} {tv : List TV} {σ σ1 : St} {env env1 : Ev} {D : Ends} {q : Bool}
theorem ResS.base {r : R Fl} (h : ResS K w pins F P H ts tv σ env D r) (x : Ext P F F1) (p : PF pins σ σ1) (q : Pq σ env σ1 env1) : ResS K w pins F1 P H1 ts tv σ1 env1 D r := by
  cases r with
  | ok a e => exact fun F' H' σ' x' p' q' => h F' H' σ' (x.trans x') (p.trans p') (q.trans q')
  | exc c e => exact fun F' H' σ' x' p' q' => h F' H' σ' (x.trans x') (p.trans p') (q.trans q')
  | bad => exact h
/-- an expression within a statement -/
theorem tS1 {α : Type} {pk : Hp → Hp → Ev → α → Prop} {ra : R α} {f : α → Ev → R Fl} (hps : RPs env ra) (h : ResS K w pins F P H ts tv σ env D (ra.bd f))
    (k : ∀ a e F1 H1, ra = .ok a e → Ext P F F1 → ResS K w pins F1 P H1 ts tv σ e D (f a e) → pk F1 H1 e a) : Res K w q F P H ts tv σ pk ra := by
  cases ra with
  | bad => exact h
  | exc c e => exact fun F' H' x s sr => h F' H' σ x (PF.refl _ _) (Ps.pq hps) sr
  | ok a e => exact fun F1 H1 x s => k a e F1 H1 rfl x (ResS.base h x (PF.refl _ _) (Ps.pq hps))
theorem ResS.next {e : Ev} (h : ResS K w pins F P H ts tv σ env D (.ok .nx e)) (p : PF pins σ σ1) (q : Pq σ env σ1 e) (s : SR K F P H1 ts tv σ1 e) : D.nx σ1 H1 := h F H1 σ1 (Ext.refl P F) p q s
end
theorem oT_ps {e : Ev} {r : R O} (h : RPs e r) : RPs e (oT r) := by cases r <;> exact h
section
variable {X : Cx} {w : WC} {pins : List Nat}
/-- target = value, by the value's reading -/
theorem asg_conv {q : Bool} {t : Tg} {ro : Ev → R O} {te : TE} {g : TG} {D : Ends} {σ : St} {H : Hp} (hg : ∀ v σ H Q, gT X.K pins t v σ H Q → g v σ H Q) (hps : ∀ e, RPs e (ro e))
    (ht : ∀ Q, tE X.K w q (fun e => oT (ro e)) σ H Q → te σ H Q) (h : tS X.K w pins (fun e => (ro e).bd fun o e1 => (R.lf (asgT pins t o e1) e1).bd fun e2 _ => .ok .nx e2) D σ H) :
    tAsg te g D σ H := by
  obtain ⟨F, P, ts, tv, env, sr, hq, h⟩ := h
  refine ht _ ⟨F, P, ts, tv, env, sr, .inr hq, ?_⟩
  have h2 : ResS X.K w pins F P H ts tv σ env D ((oT (ro env)).bd fun tt e1 => match tt with
      | .own o => (R.lf (asgT pins t o e1) e1).bd fun e2 _ => .ok .nx e2
      | _ => .bad) := by
    unfold oT
    rw [bd_bd]
    exact h
  refine tS1 (oT_ps (hps env)) h2 fun tt e1 F1 H1 er x k => ?_
  intro v sr1
  cases tt with
  | brw o => exact k.elim
  | own o =>
    dsimp only at k
    cases ha : asgT pins t o e1 with
    | none => rw [ha] at k; exact k.elim
    | some e2 =>
      rw [ha] at k
      simp only [R.lf_some, R.bd_ok] at k
      exact hg _ _ _ _ ⟨F1, P, ts, tv, e1, o, e2, sr1, ha, fun σ' sr2 pf pq => k.next pf pq sr2⟩
theorem so_asg {q : Bool} {t : Tg} {ro : Ev → R O} {tg e : Expr} {pos : Pos} (he : PE X e (tE X.K w q fun e => oT (ro e))) (hg : PG X tg (gT X.K pins t)) (hps : ∀ e, RPs e (ro e))
    (hs : swapsWithSole [tg] e pos.line X.env = pure false) (hw : swappedStores [tg] e X.env = pure none) (h1 : (assignEach [tg] X.env).map (·.2) = [assign tg X.env]) :
    PS X (.Assign [tg] e pos) (tS X.K w pins fun e => (ro e).bd fun o e1 => (R.lf (asgT pins t o e1) e1).bd fun e2 _ => .ok .nx e2) :=
  PS.imp (ps_asg he hg hs hw h1) fun D σ H h => asg_conv (fun _ _ _ _ z => z) hps (fun Q x => x) h
theorem so_expr {q : Bool} {r : Ev → R TV} {e : Expr} {pos : Pos} (he : PE X e (tE X.K w q r)) (hps : ∀ e, RPs e (r e)) (hs : swapsWith e none pos.line X.env = pure false) :
    PS X (.Expr e pos) (tS X.K w pins fun e => (r e).fl) := by
  refine PS.imp (ps_expr he hs) fun D σ H h => ?_
  obtain ⟨F, P, ts, tv, env, sr, hq, h⟩ := h
  refine ⟨F, P, ts, tv, env, sr, .inr hq, ?_⟩
  unfold R.fl at h
  exact tS1 (hps env) h fun tt e1 F1 H1 er x k v sr1 => k.next (PF.refl _ _) (Pq.refl _ _) sr1.drop1
theorem so_ret {q : Bool} {ro : Ev → R O} {e : Expr} {pos : Pos} (he : PE X e (tE X.K w q fun e => oT (ro e))) (hps : ∀ e, RPs e (ro e)) :
    PS X (.Return (some e) pos) (tS X.K w pins fun e => (ro e).bd fun o e1 => .ok (.ret o) e1) := by
  refine PS.imp (ps_ret he) fun D σ H h => ?_
  obtain ⟨F, P, ts, tv, env, sr, hq, h⟩ := h
  refine ⟨F, P, ts, tv, env, sr, .inr hq, ?_⟩
  have h2 : ResS X.K w pins F P H ts tv σ env D ((oT (ro env)).bd fun tt e1 => match tt with
      | .own o => .ok (.ret o) e1
      | _ => .bad) := by
    unfold oT
    rw [bd_bd]
    exact h
  refine tS1 (oT_ps (hps env)) h2 fun tt e1 F1 H1 er x k v sr1 => ?_
  cases tt with
  | brw o => exact k.elim
  | own o => exact k F1 H1 σ (Ext.refl _ _) (PF.refl _ _) (Pq.refl _ _) v sr1
theorem so_retN {pos : Pos} : PS X (.Return none pos) (tS X.K w pins fun e => .ok (.ret (.fz .none)) e) := by
  refine PS.imp ps_retN fun D σ H h => ?_
  obtain ⟨F, P, ts, tv, env, sr, hq, h⟩ := h
  exact h F H σ (Ext.refl _ _) (PF.refl _ _) (Pq.refl _ _) _ (sr.sx.pushF .non).sr
theorem so_nil : PSs X [] (tS X.K w pins fun e => .ok .nx e) := by
  refine PSs.imp pss_nil fun D σ H h => ?_
  obtain ⟨F, P, ts, tv, env, sr, hq, h⟩ := h
  exact h.next (PF.refl _ _) (Pq.refl _ _) sr
theorem so_pass {pos : Pos} : PS X (.Pass pos) (tS X.K w pins fun e => .ok .nx e) := by
  refine PS.imp ps_pass fun D σ H h => ?_
  obtain ⟨F, P, ts, tv, env, sr, hq, h⟩ := h
  exact h.next (PF.refl _ _) (Pq.refl _ _) sr
theorem so_brk {pos : Pos} : PS X (.Break pos) (tS X.K w pins fun e => .ok .brk e) := by
  refine PS.imp ps_break fun D σ H h => ?_
  obtain ⟨F, P, ts, tv, env, sr, hq, h⟩ := h
  exact h F H σ (Ext.refl _ _) (PF.refl _ _) (Pq.refl _ _) sr
theorem so_cont {pos : Pos} : PS X (.Continue pos) (tS X.K w pins fun e => .ok .cont e) := by
  refine PS.imp ps_continue fun D σ H h => ?_
  obtain ⟨F, P, ts, tv, env, sr, hq, h⟩ := h
  exact h F H σ (Ext.refl _ _) (PF.refl _ _) (Pq.refl _ _) sr
/-- s1; s2 .. -/
theorem so_seq {st : Stmt} {rest : List Stmt} {r1 r2 : Ev → R Fl} (h1 : PS X st (tS X.K w pins r1)) (h2 : PSs X rest (tS X.K w pins r2)) :
    PSs X (st :: rest) (tS X.K w pins fun e => match r1 e with
      | .ok .nx e1 => r2 e1
      | r => r) := by
  refine PSs.imp (pss_cons h1 h2) fun D σ H h => ?_
  obtain ⟨F, P, ts, tv, env, sr, hq, h⟩ := h
  refine ⟨F, P, ts, tv, env, sr, hq, ?_⟩
  dsimp only at h
  cases e1 : r1 env with
  | bad => rw [e1] at h; exact h
  | exc c e => rw [e1] at h; exact h
  | ok fl e =>
    rw [e1] at h
    cases fl with
    | nx => exact fun F' H' σ' x p q s => ⟨F', P, ts, tv, e, s, hq, ResS.base h x p q⟩
    | brk => exact h
    | cont => exact h
    | ret o => exact h
theorem wipe_par : ∀ {J : List Nat} {e : Ev} {i : Nat} {d : D}, (wipeE e J)[i]? = some (some (.par d)) → e[i]? = some (some (.par d))
  | [], _, _, _, h => h
  | j :: J, e, i, d, h => by
    simp only [wipeE] at h
    by_cases hj : j = i
    · subst hj
      by_cases hl : j < (wipeE e J).length
      · rw [List.getElem?_set_self hl] at h; cases h
      · rw [List.getElem?_eq_none (by simpa using hl)] at h; cases h
    · rw [List.getElem?_set_ne hj] at h
      exact wipe_par h
theorem SR.wipe {K : PySem.W.Frag} {F P H : Hp} {ts : List V} {tv : List TV} {σ : St} {e : Ev} (s : SR K F P H ts tv σ e) : ∀ J : List Nat, SR K F P H ts tv σ (wipeE e J)
  | [] => s
  | j :: J => ((s.wipe J).sx.drop j).sr
theorem Pq.wipe {σ σ' : St} {env e : Ev} (J : List Nat) (q : Pq σ env σ' e) : Pq σ env σ' (wipeE e J) := ⟨q.1, fun i d h => q.2 i d (wipe_par h)⟩
theorem Pq.unwipe {σ σ' : St} {env e : Ev} {J : List Nat} (q : Pq σ (wipeE env J) σ' e) : Pq σ env σ' e := ⟨q.1, fun i d h => ⟨wipe_par (q.2 i d h).1, (q.2 i d h).2⟩⟩
theorem ResS.wipe {F P H : Hp} {ts : List V} {tv : List TV} {σ : St} {env : Ev} {D : Ends} {J : List Nat} : ∀ {r : R Fl}, ResS X.K w pins F P H ts tv σ env D (wipeR J r) → ResS X.K w pins F P H ts tv σ env D r
  | .bad, h => h
  | .exc c e, h => fun F' H' σ' x pf pq s => h F' H' σ' x pf (pq.wipe J) (s.wipe J)
  | .ok .nx e, h => fun F' H' σ' x pf pq s => h F' H' σ' x pf (pq.wipe J) (s.wipe J)
  | .ok .brk e, h => fun F' H' σ' x pf pq s => h F' H' σ' x pf (pq.wipe J) (s.wipe J)
  | .ok .cont e, h => fun F' H' σ' x pf pq s => h F' H' σ' x pf (pq.wipe J) (s.wipe J)
  | .ok (.ret o) e, h => fun F' H' σ' x pf pq v s => h F' H' σ' x pf (pq.wipe J) v (s.wipe J)
theorem ResS.unwipe {F P H : Hp} {ts : List V} {tv : List TV} {σ : St} {env : Ev} {D : Ends} {J : List Nat} : ∀ {r : R Fl}, ResS X.K w pins F P H ts tv σ env D r → ResS X.K w pins F P H ts tv σ (wipeE env J) D r
  | .bad, h => h
  | .exc c e, h => fun F' H' σ' x pf pq s => h F' H' σ' x pf pq.unwipe s
  | .ok _ e, h => fun F' H' σ' x pf pq => h F' H' σ' x pf pq.unwipe
theorem so_wip {st : Stmt} {r : Ev → R Fl} (J : List Nat) (h : PS X st (tS X.K w pins r)) : PS X st (tS X.K w pins fun e => wipeR J (r (wipeE e J))) := by
  refine PS.imp h fun D σ H h => ?_
  obtain ⟨F, P, ts, tv, env, sr, hst, h⟩ := h
  exact ⟨F, P, ts, tv, wipeE env J, sr.wipe J, hst, (ResS.wipe h).unwipe⟩
theorem so_blk {st : List Stmt} {r : Ev → R Fl} (J : List Nat) (h : PSs X st (tS X.K w pins r)) : PSs X st (tS X.K w pins fun e => wipeR J (r e)) := by
  refine PSs.imp h fun D σ H h => ?_
  obtain ⟨F, P, ts, tv, env, sr, hst, h⟩ := h
  exact ⟨F, P, ts, tv, env, sr, hst, ResS.wipe h⟩
theorem so_if {c : Expr} {a b : List Stmt} {pos : Pos} {q : Bool} {rc : Ev → R TV} {ra rb : Ev → R Fl} (hc : PT X c (tB X.K w q fun e => (rc e).bd boolT)) (ha : PSs X a (tS X.K w pins ra)) (hb : PSs X b (tS X.K w pins rb)) (hps : ∀ e, RPs e ((rc e).bd boolT)) :
    PS X (.If c a b pos) (tS X.K w pins fun e => (rc e).bd fun t e1 => (boolT t e1).bd fun k e1 => if k then ra e1 else rb e1) := by
  refine PS.imp (ps_if hc ha hb) fun D σ H h => ?_
  obtain ⟨F, P, ts, tv, env, sr, hq, h⟩ := h
  dsimp only at h
  rw [← bd_bd] at h
  refine ⟨F, P, ts, tv, env, sr, .inr hq, ?_⟩
  refine tS1 (hps env) h fun k e1 F1 H1 er x kk sr1 => ?_
  cases k with
  | true => exact iteT ⟨F1, P, ts, tv, e1, sr1, hq, kk⟩
  | false => exact iteF ⟨F1, P, ts, tv, e1, sr1, hq, kk⟩
end
end TL
namespace TL
open PySem PySem.Spec L2
theorem RPs.ok {α : Type} {e : Ev} {a : α} : RPs e (.ok a e) := Ps.refl e
theorem RPs.bad {α : Type} {e : Ev} : RPs e (.bad : R α) := True.intro
theorem RPs.lf {α : Type} {e : Ev} {a : Option α} : RPs e (R.lf a e) := by cases a <;> first | exact True.intro | exact Ps.refl e
theorem RPs.bd {α β : Type} {e : Ev} {r : R α} {f : α → Ev → R β} (h : RPs e r) (k : ∀ a e1, RPs e1 (f a e1)) : RPs e (r.bd f) := by
  cases r with
  | bad => exact True.intro
  | exc c e1 => exact h
  | ok a e1 =>
    have := k a e1
    show RPs e (f a e1)
    revert this
    generalize f a e1 = z
    intro this
    cases z with
    | bad => exact True.intro
    | exc c e2 => exact Ps.trans h this
    | ok b e2 => exact Ps.trans h this
theorem RPs.ite {α : Type} {e : Ev} {c : Prop} [Decidable c] {a b : R α} (h : RPs e a) (k : RPs e b) : RPs e (if c then a else b) := by split <;> assumption
theorem boolT_ps {t : TV} {e : Ev} : RPs e (boolT t e) := by
  rcases boolT_cases t e with ⟨k, h⟩ | h <;> rw [h]
  · exact RPs.ok
  · exact True.intro
theorem stv_ps {x : E} {ev : R TV} {e : Ev} (h : RPs e ev) : RPs e (stv x ev e) := by
  by_cases hx : ∃ i, x = .var i
  · obtain ⟨i, rfl⟩ := hx
    unfold stv
    dsimp only
    split
    · exact RPs.ok
    · split
      · exact Ps.set fun d => by simp
      · exact True.intro
    · split
      · exact RPs.ok
      · exact True.intro
    · exact True.intro
  · have hx : ∀ i, x ≠ .var i := fun i e => hx ⟨i, e⟩
    have e1 : stv x ev e = ev.bd fun t e1 => match t with
      | .own o => .ok o e1
      | .brw (.fz d) => .ok (.fz d) e1
      | .brw _ => .bad := by cases x <;> first | rfl | exact absurd rfl (hx _)
    rw [e1]
    refine h.bd fun t e1 => ?_
    cases t with
    | own o => exact RPs.ok
    | brw o => cases o <;> first | exact RPs.ok | exact True.intro
theorem prt_ps {x : E} {ev : R TV} {e : Ev} (h : RPs e ev) : RPs e (prt x ev e) := by
  by_cases hx : x = .nul
  · subst hx; exact RPs.ok
  · have e1 : prt x ev e = ev.bd fun t e1 => match rd t with
      | .int i => .ok (some i) e1
      | _ => .bad := by cases x <;> first | rfl | exact absurd rfl hx
    rw [e1]
    exact h.bd fun t e1 => by split <;> first | exact RPs.ok | exact True.intro
theorem cnd_ps {x : E} {ev : R TV} {e : Ev} (h : RPs e ev) : RPs e (cnd x ev e) := by
  by_cases hx : x = .nul
  · subst hx; exact RPs.ok
  · have e1 : cnd x ev e = ev.bd boolT := by cases x <;> first | rfl | exact absurd rfl hx
    rw [e1]
    exact h.bd fun t e1 => boolT_ps
mutual
theorem asgT_ps {pins : List Nat} : ∀ {t : Tg} {o : O} {e e' : Ev}, asgT pins t o e = some e' → Ps e e'
  | .nm i, o, e, e', h => by
    simp only [asgT] at h
    split at h
    · cases h
    · have := Option.some.inj h
      subst this
      exact Ps.set fun d => by simp
  | .tp ts, .fz (.tuple ds), e, e', h => asgTs_ps (t := ts) (by simpa only [asgT] using h)
  | .tp ts, .fz (.list ds), e, e', h => asgTs_ps (t := ts) (by simpa only [asgT] using h)
  | .tp ts, .tup os, e, e', h => asgTs_ps (t := ts) (by simpa only [asgT] using h)
  | .tp ts, .fz .none, e, e', h => by simp [asgT] at h
  | .tp ts, .fz (.bool _), e, e', h => by simp [asgT] at h
  | .tp ts, .fz (.int _), e, e', h => by simp [asgT] at h
  | .tp ts, .fz (.str _), e, e', h => by simp [asgT] at h
  | .tp ts, .fz (.dict _), e, e', h => by simp [asgT] at h
  | .tp ts, .lst _, e, e', h => by simp [asgT] at h
  | .tp ts, .dct _, e, e', h => by simp [asgT] at h
  | .tp ts, .dtp _, e, e', h => by simp [asgT] at h
  | .tp ts, .ins _ _, e, e', h => by simp [asgT] at h
theorem asgTs_ps {pins : List Nat} : ∀ {t : List Tg} {o : List O} {e e' : Ev}, asgTs pins t o e = some e' → Ps e e'
  | [], [], e, e', h => by simp only [asgTs, Option.some.injEq] at h; rw [h]; exact Ps.refl _
  | t :: ts, o :: os, e, e', h => by
    simp only [asgTs] at h
    split at h
    · rename_i e1 h1
      exact Ps.trans (asgT_ps (t := t) h1) (asgTs_ps (t := ts) h)
    · cases h
  | [], _ :: _, _, _, h => by simp [asgTs] at h
  | _ :: _, [], _, _, h => by simp [asgTs] at h
end
theorem wipeE_ps (e : Ev) : ∀ own : List Nat, Ps e (wipeE e own)
  | [] => Ps.refl e
  | i :: is => Ps.trans (wipeE_ps e is) (Ps.set fun d => by simp)
theorem lcGo_ps {turn : D → Ev → R (Option O)} (h : ∀ d e, RPs e (turn d e)) : ∀ {ds : List D} {acc : List O} {e : Ev}, RPs e (lcGo turn ds acc e)
  | [], acc, e => RPs.ok
  | d :: ds, acc, e => by
    unfold lcGo
    refine (h d e).bd fun o e1 => ?_
    cases o with
    | none => exact lcGo_ps h
    | some o => exact lcGo_ps h
theorem turnL_ps {own : List Nat} {t : Tg} {rc : Ev → R Bool} {ro : Ev → R O} (h1 : ∀ e, RPs e (rc e)) (h2 : ∀ e, RPs e (ro e)) (d : D) (e : Ev) : RPs e (turnL own t rc ro d e) := by
  unfold turnL
  split
  · exact True.intro
  · rename_i e1 ha
    have p : Ps e e1 := Ps.trans (wipeE_ps e own) (asgT_ps ha)
    have q : RPs e1 ((rc e1).bd fun b e2 => if b then (ro e2).bd fun o e3 => .ok (some o) e3 else .ok none e2) := (h1 e1).bd fun b e2 => by
      split
      · exact (h2 e2).bd fun o e3 => RPs.ok
      · exact RPs.ok
    revert q
    generalize ((rc e1).bd fun b e2 => if b then (ro e2).bd fun o e3 => (R.ok (some o) e3 : R (Option O)) else .ok none e2) = z
    intro q
    cases z with
    | bad => exact True.intro
    | ok a b => exact Ps.trans p q
    | exc a b => exact Ps.trans p q
theorem restore_ps {e0 e : Ev} (h : Ps e0 e) : ∀ own : List Nat, Ps e0 (restore e0 e own)
  | [] => h
  | i :: is => fun j d x => by
    have ih := restore_ps h is
    unfold restore at x
    by_cases hj : i = j
    · subst hj
      by_cases hl : i < (restore e0 e is).length
      · rw [List.getElem?_set_self hl] at x
        have x := Option.some.inj x
        cases q : e0[i]? with
        | none => rw [q] at x; simp at x
        | some o => rw [q] at x; simp at x; rw [x]
      · rw [List.getElem?_eq_none (by rw [List.length_set]; omega)] at x; cases x
    · rw [List.getElem?_set_ne hj] at x
      exact ih j d x
theorem noExc_ps {α : Type} {e : Ev} {r : R α} (h : RPs e r) : RPs e (noExc r) := by cases r <;> first | exact h | exact True.intro
theorem resL_ps {own : List Nat} {t : Tg} {k : Ik} {rs : Ev → R (List TV)} {rc : Ev → R Bool} {ro : Ev → R O} (h0 : ∀ e, RPs e (rs e)) (h1 : ∀ e, RPs e (rc e)) (h2 : ∀ e, RPs e (ro e)) (e : Ev) : RPs e (resL own t k rs rc ro e) := by
  unfold resL
  refine noExc_ps ((h0 e).bd fun ts e1 => RPs.ite ?_ True.intro)
  split
  · exact True.intro
  · split
    · exact True.intro
    · rename_i xs _
      have q : RPs e1 (lcGo (turnL own t rc ro) xs [] e1) := lcGo_ps (turnL_ps h1 h2)
      revert q
      generalize lcGo (turnL own t rc ro) xs [] e1 = z
      intro q
      cases z with
      | bad => exact True.intro
      | exc c e2 => exact q
      | ok os e2 =>
        simp only [R.bd_ok]
        split
        · exact restore_ps q own
        · exact True.intro
theorem ioBack_ps : ∀ {ms : List Md} {es : List E} {os : List (Option O)} {e e' : Ev}, ioBack ms es os e = some e' → Ps e e'
  | [], [], [], e, e', h => by simp [ioBack] at h; rw [h]; exact Ps.refl _
  | .f :: ms, x :: es, o :: os, e, e', h => ioBack_ps (ms := ms) (es := es) (os := os) (by simpa [ioBack] using h)
  | .b :: ms, x :: es, o :: os, e, e', h => ioBack_ps (ms := ms) (es := es) (os := os) (by simpa [ioBack] using h)
  | .io :: ms, x :: es, some o :: os, e, e', h => by
    cases x <;> simp [ioBack] at h
    exact Ps.trans (Ps.set fun d => by simp) (ioBack_ps h)
  | .io :: ms, x :: es, none :: os, e, e', h => by simp [ioBack] at h
  | [], [], _ :: _, _, _, h => by simp [ioBack] at h
  | [], _ :: _, _, _, _, h => by simp [ioBack] at h
  | .f :: _, [], _, _, _, h => by simp [ioBack] at h
  | .b :: _, [], _, _, _, h => by simp [ioBack] at h
  | .io :: _, [], _, _, _, h => by simp [ioBack] at h
  | .f :: _, _ :: _, [], _, _, h => by simp [ioBack] at h
  | .b :: _, _ :: _, [], _, _, h => by simp [ioBack] at h
  | .io :: _, _ :: _, [], _, _, h => by simp [ioBack] at h
theorem lf_ps {e e1 : Ev} {r : Option Ev} {f : Ev → R TV} (h : ∀ e2, r = some e2 → RPs e (f e2)) : RPs e ((R.lf r e1).bd fun e2 _ => f e2) := by
  cases r with
  | none => exact True.intro
  | some e2 => exact h e2 rfl
mutual
theorem evalE_ps (cf : CF) : ∀ (x : E) (e : Ev), RPs e (evalE cf x e)
  | .nul, e => True.intro
  | .con d, e => RPs.ite RPs.ok True.intro
  | .var i, e => by
    unfold evalE
    split <;> first | exact RPs.ok | exact True.intro
  | .glb _ d, e => RPs.ok
  | .bin op a b, e => (evalE_ps cf a e).bd fun ta e1 => RPs.ite ((evalE_ps cf b e1).bd fun tb e2 => RPs.lf) True.intro
  | .neg a, e => (evalE_ps cf a e).bd fun ta e1 => by split <;> first | exact RPs.ok | exact True.intro
  | .fzn a, e => (evalE_ps cf a e).bd fun ta e1 => RPs.lf
  | .fzi a, e => (evalE_ps cf a e).bd fun ta e1 => RPs.lf
  | .dp a, e => by
    simp only [evalE]
    cases evalE cf a (frzE e) with
    | ok t e1 => cases t with
      | own o =>
        show RPs e (if plainO o = true then R.ok (TV.own o) e else .bad)
        exact RPs.ite (Ps.refl e) True.intro
      | brw o => exact True.intro
    | exc c e1 => exact Ps.refl e
    | bad => exact True.intro
  | .cmp op a b, e => (evalE_ps cf a e).bd fun ta e1 => RPs.ite ((evalE_ps cf b e1).bd fun tb e2 => RPs.lf) True.intro
  | .chn op op' a b c, e => RPs.ite ((evalE_ps cf a e).bd fun ta e1 => (evalE_ps cf b e1).bd fun tb e2 => RPs.lf.bd fun k e2 => RPs.ite ((evalE_ps cf c e2).bd fun tc e3 => RPs.lf) RPs.ok) True.intro
  | .and a b, e => (evalE_ps cf a e).bd fun ta e1 => boolT_ps.bd fun k e1 => RPs.ite (evalE_ps cf b e1) RPs.ok
  | .or a b, e => (evalE_ps cf a e).bd fun ta e1 => boolT_ps.bd fun k e1 => RPs.ite RPs.ok (evalE_ps cf b e1)
  | .not a, e => (evalE_ps cf a e).bd fun ta e1 => boolT_ps.bd fun k e1 => RPs.ok
  | .ite c a b, e => (evalE_ps cf c e).bd fun ta e1 => boolT_ps.bd fun k e1 => RPs.ite (evalE_ps cf a e1) (evalE_ps cf b e1)
  | .ix a b, e => (evalE_ps cf a e).bd fun ta e1 => RPs.ite ((evalE_ps cf b e1).bd fun tb e2 => RPs.lf) True.intro
  | .slc a lo hi, e => RPs.ite ((evalE_ps cf a e).bd fun ta e1 => (prt_ps (evalE_ps cf lo e1)).bd fun l e2 => (prt_ps (evalE_ps cf hi e2)).bd fun h e3 => RPs.lf) True.intro
  | .tup es, e => (evalSts_ps cf es e).bd fun os e1 => RPs.ok
  | .lst es, e => (evalSts_ps cf es e).bd fun os e1 => RPs.ok
  | .call id ms es dl, e => RPs.ite ((evalAs_ps cf ms es e).bd fun avs e1 => by split <;> first | exact Ps.refl _ | exact True.intro) True.intro
  | .cio id ms es, e => (evalFs_ps cf ms es e).bd fun fs e1 => by
    split
    · split
      · exact True.intro
      · split
        · exact lf_ps fun e2 h => ioBack_ps h
        · exact lf_ps fun e2 h => ioBack_ps h
        · exact True.intro
    · exact True.intro
  | .cfr id ms es, e => RPs.ite ((evalGs_ps cf ms es e).bd fun avs e1 => by split <;> first | exact Ps.refl _ | exact True.intro) True.intro
  | .blt f es, e => RPs.ite ((evalTs_ps cf es e).bd fun ts e1 => RPs.lf) True.intro
  | .isi a t, e => (evalE_ps cf a e).bd fun ta e1 => RPs.ite RPs.ok True.intro
  | .idx a b, e => (evalE_ps cf a e).bd fun ta e1 => RPs.ite (RPs.ite ((evalE_ps cf b e1).bd fun tb e2 => RPs.lf) True.intro) True.intro
  | .met m a b, e => (evalE_ps cf a e).bd fun ta e1 => RPs.ite (RPs.ite ((evalE_ps cf b e1).bd fun tb e2 => RPs.lf) True.intro) True.intro
  | .lc own t k src c elt, e => by
    have := resL_ps (own := own) (t := t) (k := k) (rs := fun e => evalTs cf src e) (rc := fun e => cnd c (evalE cf c e) e) (ro := fun e => stv elt (evalE cf elt e) e) (fun e => evalTs_ps cf src e) (fun e => cnd_ps (evalE_ps cf c e)) (fun e => stv_ps (evalE_ps cf elt e)) e
    unfold evalE
    by_cases hq : (quiets src && quiet c && quiet elt) = true
    · rw [if_pos hq]
      unfold resL at this
      exact this
    · rw [if_neg (by simp [hq])]
      exact True.intro
  | .dnk, e => RPs.ok
  | .dnt, e => RPs.ok
  | .din neg a b, e => (evalE_ps cf a e).bd fun ta e1 => RPs.ite ((evalE_ps cf b e1).bd fun tb e2 => RPs.lf) True.intro
  | .dix a b, e => (evalE_ps cf a e).bd fun ta e1 => RPs.ite ((evalE_ps cf b e1).bd fun tb e2 => RPs.lf) True.intro
  | .dgt a b c, e => RPs.ite ((evalE_ps cf a e).bd fun ta e1 => RPs.ite ((evalE_ps cf b e1).bd fun tb e2 => (evalE_ps cf c e2).bd fun tc e3 => RPs.lf) True.intro) True.intro
  | .dcp a, e => (evalE_ps cf a e).bd fun ta e1 => RPs.lf
  | .mv i, e => by
    unfold evalE
    split
    · exact Ps.set fun d => by simp
    · exact True.intro
theorem evalTs_ps (cf : CF) : ∀ (xs : List E) (e : Ev), RPs e (evalTs cf xs e)
  | [], e => RPs.ok
  | x :: xs, e => (evalE_ps cf x e).bd fun t e1 => (evalTs_ps cf xs e1).bd fun ts e2 => RPs.ok
theorem evalSts_ps (cf : CF) : ∀ (xs : List E) (e : Ev), RPs e (evalSts cf xs e)
  | [], e => RPs.ok
  | x :: xs, e => (stv_ps (evalE_ps cf x e)).bd fun t e1 => (evalSts_ps cf xs e1).bd fun ts e2 => RPs.ok
theorem evalAs_ps (cf : CF) : ∀ (ms : List Md) (xs : List E) (e : Ev), RPs e (evalAs cf ms xs e)
  | [], [], e => RPs.ok
  | .f :: ms, x :: xs, e => (stv_ps (evalE_ps cf x e)).bd fun o e1 => by
    split
    · exact (evalAs_ps cf ms xs e1).bd fun r e2 => RPs.ok
    · exact True.intro
  | .b :: ms, x :: xs, e => (evalE_ps cf x e).bd fun o e1 => by
    split
    · exact (evalAs_ps cf ms xs e1).bd fun r e2 => RPs.ok
    · exact True.intro
  | .io :: ms, x :: xs, e => by simp [evalAs, RPs]
  | [], _ :: _, e => by simp [evalAs, RPs]
  | .f :: _, [], e => by simp [evalAs, RPs]
  | .b :: _, [], e => by simp [evalAs, RPs]
  | .io :: _, [], e => by simp [evalAs, RPs]
theorem evalGs_ps (cf : CF) : ∀ (ms : List Md) (xs : List E) (e : Ev), RPs e (evalGs cf ms xs e)
  | [], [], e => RPs.ok
  | .f :: ms, x :: xs, e => (stv_ps (evalE_ps cf x e)).bd fun o e1 => by
    split
    · exact (evalGs_ps cf ms xs e1).bd fun r e2 => RPs.ok
    · exact True.intro
  | .io :: ms, x :: xs, e => (evalE_ps cf x e).bd fun o e1 => by
    split
    · exact (evalGs_ps cf ms xs e1).bd fun r e2 => RPs.ok
    · exact True.intro
  | .b :: ms, x :: xs, e => by simp [evalGs, RPs]
  | [], _ :: _, e => by simp [evalGs, RPs]
  | .f :: _, [], e => by simp [evalGs, RPs]
  | .b :: _, [], e => by simp [evalGs, RPs]
  | .io :: _, [], e => by simp [evalGs, RPs]
theorem evalFs_ps (cf : CF) : ∀ (ms : List Md) (xs : List E) (e : Ev), RPs e (evalFs cf ms xs e)
  | [], [], e => RPs.ok
  | .f :: ms, x :: xs, e => (stv_ps (evalE_ps cf x e)).bd fun o e1 => by
    split
    · exact (evalFs_ps cf ms xs e1).bd fun r e2 => RPs.ok
    · exact True.intro
  | .b :: ms, .var i :: xs, e => by
    simp only [evalFs]
    split
    · exact evalFs_ps cf ms xs e
    · exact True.intro
  | .io :: ms, .var i :: xs, e => by
    simp only [evalFs]
    split
    · exact evalFs_ps cf ms xs e
    · exact True.intro
  | .b :: ms, x :: xs, e => by cases x <;> first | exact True.intro | (simp only [evalFs]; split <;> first | exact evalFs_ps cf ms xs e | exact True.intro)
  | .io :: ms, x :: xs, e => by cases x <;> first | exact True.intro | (simp only [evalFs]; split <;> first | exact evalFs_ps cf ms xs e | exact True.intro)
  | [], _ :: _, e => by simp [evalFs, RPs]
  | .f :: _, [], e => by simp [evalFs, RPs]
  | .b :: _, [], e => by simp [evalFs, RPs]
  | .io :: _, [], e => by simp [evalFs, RPs]
end
end TL
namespace TL
open PySem PySem.Spec L2
section
variable {K : PySem.W.Frag} {F P H : Hp} {ts : List V} {tv : List TV} {σ : St} {env : Ev} {A L : List Addr}
theorem AS.up {P P1 : Hp} (e : Same P P1) : ∀ {σ : St} {env : Ev} {M : List Addr}, AS K F P H σ env M → AS K F P1 H σ env M
  | _, _, _, .nil => .nil
  | _, _, _, .skip l => .skip (l.up e)
  | _, _, _, .cons r l => by
    refine .cons ?_ (l.up e)
    cases r with
    | own r => exact .own r
    | par r => exact .par (r.same (fun _ _ x => x) e)
/-- loose addresses protected for a while -/
theorem SX.prot (s : SX K F P H ts tv σ env (A ++ L)) : SX K F (wid P H A) H ts tv σ env L ∧ Same P (wid P H A) ∧ (∀ b ∈ A, wid P H A b = H b) ∧
    (∀ F' H' ts' tv' σ' env', Ext (wid P H A) F F' → Pq σ env σ' env' → SR K F' (wid P H A) H' ts' tv' σ' env' → Ext P F F' ∧ SX K F' P H' ts' tv' σ' env' A ∧ ∀ b ∈ A, H' b = H b) := by
  have nP : ∀ b ∈ A, P b = none := fun b hb => s.fP (by simp [hb])
  have nF : ∀ b ∈ A, F b = none := fun b hb => s.fF (by simp [hb])
  have tr : ∀ b ∈ A, ∃ u, H b = some u := fun b hb => s.trk b (by simp [hb])
  have up : Same P (wid P H A) := wid_same nP
  obtain ⟨M1, M2, a, b, g⟩ := s.ex
  refine ⟨⟨⟨M1, M2, a, b.up up, ?_⟩, s.fh, wid_sub s.ph, fun b hb => s.trk b (by simp [hb])⟩, up, fun b hb => wid_in hb, fun F' H' ts' tv' σ' env' x pq sr => ?_⟩
  · have g2 : Good F P (L ++ (M1 ++ M2)) := g.sub fun b => by simp only [List.count_append]; omega
    refine ⟨g2.one, g2.fF, fun c hc => ?_⟩
    rw [wid_out fun h => ?_]
    · exact g2.fP c hc
    · have h1 := g.one c
      have h2 := List.count_pos_iff.mpr h
      have h3 := List.count_pos_iff.mpr hc
      simp only [List.append_assoc, List.count_append] at h1 h3
      omega
  · have un : ∀ c, wid P H A c = none → P c = none ∧ c ∉ A := fun c h => by
      by_cases hb : c ∈ A
      · rw [wid_in hb] at h
        obtain ⟨u, hu⟩ := tr c hb
        rw [hu] at h; cases h
      · rw [wid_out hb] at h; exact ⟨h, hb⟩
    have eqA : ∀ b ∈ A, H' b = H b := fun b hb => by
      obtain ⟨u, hu⟩ := tr b hb
      rw [hu]
      exact sr.ph b u (by rw [wid_in hb]; exact hu)
    obtain ⟨N1, N2, a', b', g'⟩ := sr.ex
    refine ⟨⟨x.up, fun b o h1 h2 => (un b (x.new b o h1 h2)).1⟩, ⟨⟨N1, N2, a', b.back2 x.up b' pq, ⟨fun c => ?_, fun c hc => ?_, fun c hc => ?_⟩⟩, sr.fh, up.trans sr.ph, fun b hb => ?_⟩, eqA⟩
    · have h1 := g'.one c
      have h2 := g.one c
      simp only [List.append_assoc, List.count_append] at h1 h2 ⊢
      by_cases hc : c ∈ A
      · have : c ∉ N1 ++ N2 := fun hm => (un c (g'.fP c hm)).2 hc
        have h3 := List.count_eq_zero_of_not_mem this
        rw [List.count_append] at h3
        omega
      · have h3 := List.count_eq_zero_of_not_mem hc
        omega
    · rcases List.mem_append.mp hc with hc | hc
      · cases q : F' c with
        | none => rfl
        | some u => exact absurd hc (un c (x.new c u q (nF c hc))).2
      · exact g'.fF c hc
    · rcases List.mem_append.mp hc with hc | hc
      · exact nP c hc
      · exact (un c (g'.fP c hc)).1
    · obtain ⟨u, hu⟩ := tr b hb
      exact ⟨u, (eqA b hb).trans hu⟩
/-- a view of a tree that is no frozen one -/
theorem shallow_nf {M : Hp} {o : O} {d : D} {v : V} (h : shallow o = some d) (nf : ∀ d', o ≠ .fz d') (r : RV K F M o v) : RV K F M (O1 d) v := by
  cases o with
  | fz d' => exact absurd rfl (nf d')
  | lst os =>
    obtain ⟨ds, h1, h2⟩ := Option.map_eq_some_iff.mp h
    subst h2
    have := fzAll_eq h1
    subst this
    exact r
  | tup os => cases h
  | dct kvs =>
    obtain ⟨ds, h1, h2⟩ := Option.map_eq_some_iff.mp h
    subst h2
    have := fzAllK_eq h1
    subst this
    have eu : ∀ es : List (Key × D), unK (es.map fun p => (keyD p.1, p.2)) = some es := fun es => by
      induction es with
      | nil => rfl
      | cons p es ih => simp only [List.map_cons, unK, keyOf_keyD, ih]
    show RV K F M (match unK _ with | some es => .dct (fzK es) | none => .fz _) v
    rw [eu]
    exact r
  | dtp _ => cases h
  | ins _ _ => cases h
/-- a slot lent -/
theorem SX.lend1 {i : Nat} {o : O} {d : D} (s : SX K F P H ts tv σ env L) (he : env[i]? = some (some (.own o))) (nf : ∀ d', o ≠ .fz d') (hs : shallow o = some d) :
    ∃ P1, Same P P1 ∧ (∃ v, σ[i]? = some (some v) ∧ RV K F P1 (O1 d) v) ∧ SX K F P1 H ts tv σ (env.set i (some (.par d))) L ∧
      ∀ F' H' ts' tv' σ' env', Ext P1 F F' → σ'[i]? = σ[i]? → env'.length = env.length → Pq σ (env.set i (some (.par d))) σ' env' → SR K F' P1 H' ts' tv' σ' env' →
        Ext P F F' ∧ SR K F' P H' ts' tv' σ' (env'.set i (some (.own o))) ∧ Pq σ env σ' (env'.set i (some (.own o))) := by
  obtain ⟨v, A, h1, h2, s1⟩ := s.take he
  have hi : i < env.length := (List.getElem?_eq_some_iff.mp he).1
  cases h2 with
  | own r =>
    obtain ⟨s2, up, inA, back⟩ := s1.prot
    have rp : RV K F (wid P H A) (O1 d) v := shallow_nf hs nf (r.mono (Same.refl F) inA).view
    have s3 := SX.back (L1 := []) (sl := .par d) s2 (by rw [List.getElem?_set_self hi]) h1 (.par rp)
    rw [List.set_set] at s3
    refine ⟨wid P H A, up, ⟨v, h1, rp⟩, s3, fun F' H' ts' tv' σ' env' x hσ hlen pq sr => ?_⟩
    have sr2 : SR K F' (wid P H A) H' ts' tv' σ' (env'.set i none) := (sr.sx.drop i).sr
    have pq2 : Pq σ (env.set i none) σ' (env'.set i none) := ⟨pq.1, fun j d' hj => by
      by_cases e : i = j
      · subst e
        by_cases hl : i < env'.length
        · rw [List.getElem?_set_self hl] at hj; cases hj
        · rw [List.getElem?_eq_none (by rw [List.length_set]; omega)] at hj; cases hj
      · rw [List.getElem?_set_ne e] at hj ⊢
        have := pq.2 j d' hj
        rw [List.getElem?_set_ne e] at this
        exact this⟩
    obtain ⟨y1, y2, y3⟩ := back F' H' ts' tv' σ' _ x pq2 sr2
    have y2 : SX K F' P H' ts' tv' σ' (env'.set i none) (A ++ []) := by rw [List.append_nil]; exact y2
    have s4 := SX.back (sl := .own o) y2 (by rw [List.getElem?_set_self (by omega)]) (hσ.trans h1) (.own (r.mono x.up y3))
    rw [List.set_set] at s4
    refine ⟨y1, s4.sr, pq.1, fun j d' hj => ?_⟩
    by_cases e : i = j
    · subst e
      rw [List.getElem?_set_self (by omega)] at hj; cases hj
    · rw [List.getElem?_set_ne e] at hj
      have := pq.2 j d' hj
      rw [List.getElem?_set_ne e] at this
      exact this
end
theorem lendBack_len : ∀ (l : List (Nat × O)) (e : Ev), (lendBack l e).length = e.length
  | [], _ => rfl
  | (i, o) :: r, e => by unfold lendBack; rw [List.length_set, lendBack_len r e]
/-- slots lent -/
theorem SX.lends {K : PySem.W.Frag} : ∀ {l : List (Nat × O)} {F P H : Hp} {ts : List V} {tv : List TV} {σ : St} {env env2 : Ev} {L : List Addr}, SX K F P H ts tv σ env L → lendE l env = some env2 → (l.map (·.1)).Nodup →
    (∀ p ∈ l, env[p.1]? = some (some (.own p.2)) ∧ ∀ d, p.2 ≠ .fz d) →
    ∃ P1, Same P P1 ∧ (∀ p ∈ l, ∀ d, shallow p.2 = some d → ∃ v, σ[p.1]? = some (some v) ∧ RV K F P1 (O1 d) v) ∧ SX K F P1 H ts tv σ env2 L ∧ env2.length = env.length ∧
      ∀ F' H' ts' tv' σ' env', Ext P1 F F' → PF (l.map (·.1)) σ σ' → env'.length = env.length → Pq σ env2 σ' env' → SR K F' P1 H' ts' tv' σ' env' →
        Ext P F F' ∧ SR K F' P H' ts' tv' σ' (lendBack l env') ∧ Pq σ env σ' (lendBack l env')
  | [], F, P, H, ts, tv, σ, env, env2, L, s, h, _, _ => by
    simp only [lendE, Option.some.injEq] at h
    subst h
    exact ⟨P, Same.refl P, fun p hp => by simp at hp, s, rfl, fun F' H' ts' tv' σ' env' x _ _ pq sr => ⟨x, sr, pq⟩⟩
  | (i, o) :: r, F, P, H, ts, tv, σ, env, env2, L, s, h, nd, hown => by
    simp only [lendE] at h
    cases hs : shallow o with
    | none => rw [hs] at h; cases h
    | some d =>
      rw [hs] at h
      dsimp only at h
      simp only [List.map_cons, List.nodup_cons] at nd
      obtain ⟨P1, u1, ⟨v, hv, rv⟩, s1, back1⟩ := s.lend1 (hown (i, o) (by simp)).1 (hown (i, o) (by simp)).2 hs
      obtain ⟨P2, u2, vs2, s2, hl2, back2⟩ := SX.lends (l := r) s1 h nd.2 fun p hp => by
        have hne : i ≠ p.1 := fun e => nd.1 (e ▸ List.mem_map_of_mem hp)
        rw [List.getElem?_set_ne hne]
        exact hown p (by simp [hp])
      rw [List.length_set] at hl2
      refine ⟨P2, u1.trans u2, fun p hp d' hd' => ?_, s2, hl2, fun F' H' ts' tv' σ' env' x pf hlen pq sr => ?_⟩
      · rcases List.mem_cons.mp hp with e | hp
        · subst e
          rw [hs] at hd'; cases hd'
          exact ⟨v, hv, rv.same (fun _ _ x => x) u2⟩
        · exact vs2 p hp d' hd'
      · obtain ⟨y1, y2, y3⟩ := back2 F' H' ts' tv' σ' env' x (fun j hj => pf j (by simp only [List.map_cons, List.mem_cons]; exact .inr hj)) (by rw [List.length_set]; exact hlen) pq sr
        exact back1 F' H' ts' tv' σ' _ y1 (pf i (by simp)) (by rw [lendBack_len]; exact hlen) y3 y2
theorem lentOf_own : ∀ {src : List E} {e : Ev}, ∀ p ∈ lentOf src e, e[p.1]? = some (some (.own p.2)) ∧ ∀ d, p.2 ≠ .fz d
  | [], e, p, hp => by simp [lentOf] at hp
  | x :: xs, e, p, hp => by
    by_cases hx : ∃ i, x = .var i
    · obtain ⟨i, rfl⟩ := hx
      simp only [lentOf] at hp
      split at hp
      · exact lentOf_own p hp
      · rename_i o h1 h2
        rcases List.mem_cons.mp hp with e | hp
        · subst e
          exact ⟨h2, fun d e => h1 d (by simpa using e)⟩
        · exact lentOf_own p hp
      · exact lentOf_own p hp
    · have : lentOf (x :: xs) e = lentOf xs e := by cases x <;> first | rfl | exact absurd ⟨_, rfl⟩ hx
      rw [this] at hp
      exact lentOf_own p hp
end TL
namespace TL
open PySem PySem.Spec L2
/-! ### sources: what a name holds is told, too -/
def lnk (x : E) (σ : St) (v : V) : Prop := ∀ i, x = .var i → σ[i]? = some (some v)
def lnks (σ : St) : List E → List V → Prop
  | x :: xs, v :: vs => lnk x σ v ∧ lnks σ xs vs
  | _, _ => True
section
variable (K : PySem.W.Frag) (w : WC)
def pkEs (x : E) (P : Hp) (ts : List V) (tv : List TV) (σ : St) (Q : VK) : Hp → Hp → Ev → TV → Prop := fun F' H' e t => ∀ v, lnk x σ v → SR K F' P H' (v :: ts) (t :: tv) σ e → Q v H'
def pkLs (xs : List E) (P : Hp) (ts : List V) (tv : List TV) (σ : St) (Q : List V → Hp → Prop) : Hp → Hp → Ev → List TV → Prop := fun F' H' e us => ∀ vs, vs.length = us.length → lnks σ xs vs → SR K F' P H' (vs.reverse ++ ts) (us.reverse ++ tv) σ e → Q vs H'
def tEs (x : E) (q : Bool) (r : Ev → R TV) : TE := fun σ H Q => tG K w q (fun P ts tv => pkEs K x P ts tv σ Q) r σ H
def tLs (xs : List E) (q : Bool) (r : Ev → R (List TV)) : TA := fun σ H Q => tG K w q (fun P ts tv => pkLs K xs P ts tv σ Q) r σ H
end
section
variable {X : Cx} {w : WC} {e : Expr} {es : List Expr} {qa qb : Bool}
theorem so_srcE {x : E} {ra : Ev → R TV} (hx : ∀ i, x ≠ .var i) (ha : PE X e (tE X.K w qa ra)) : PE X e (tEs X.K w x qa ra) := by
  refine PE.imp ha fun σ H Q h => ?_
  obtain ⟨F, P, ts, tv, env, sr, hq, h⟩ := h
  refine ⟨F, P, ts, tv, env, sr, hq, ?_⟩
  cases er : ra env with
  | bad => rw [er] at h; exact h
  | exc c e => rw [er] at h; exact h
  | ok t e =>
    rw [er] at h
    exact fun F' H' x s v s2 => h F' H' x s v (fun i hi => absurd hi (hx i)) s2
theorem so_srcV {i : Nat} {x : Str} {pos : Pos} (hN : X.N[i]? = some x) (hv : Vis X.env.scope x) (hd : (x == ("__debug__" : Str)) = false) (hcd : (x == ("__classdict__" : Str)) = false) :
    PE X (.Name x pos) (tEs X.K w (.var i) true fun e => match e[i]? with
      | some (some s) => .ok (rdSlot s) e
      | _ => .bad) := by
  refine PE.imp (pe_var hN hv hd hcd) fun σ H Q h => ?_
  obtain ⟨F, P, ts, tv, env, sr, hq, h⟩ := h
  dsimp only at h
  cases e : env[i]? with
  | none => simp only [e] at h; exact h.elim
  | some o =>
    cases o with
    | none => simp only [e] at h; exact h.elim
    | some s =>
      simp only [e] at h
      obtain ⟨v, L1, h1, h2⟩ := sr.sx.slot e
      exact ⟨v, h1, h.here v (fun j hj => by cases hj; exact h1) (SX.push (L1 := []) sr.sx (h2.rd sr.ph)).sr⟩
theorem so_nilS : PA X [] (tLs X.K w [] true fun e => .ok [] e) := by
  refine PA.imp pa_nil fun σ H Q h => ?_
  obtain ⟨F, P, ts, tv, env, sr, hq, h⟩ := h
  exact h.here [] rfl True.intro sr
theorem so_consS {x : E} {xs : List E} {ra : Ev → R TV} {rs : Ev → R (List TV)} (ha : PE X e (tEs X.K w x qa ra)) (hs : PA X es (tLs X.K w xs qb rs)) (hn : ∀ x p, e ≠ .Starred x p) (hqb : qb = true) :
    PA X (e :: es) (tLs X.K w (x :: xs) qa fun e => (ra e).bd fun t e1 => (rs e1).bd fun us e2 => .ok (t :: us) e2) := by
  refine PA.imp (pa_cons ha hs (starEach_cons hn)) fun σ H Q h => ?_
  obtain ⟨F, P, ts, tv, env, sr, hq, h⟩ := h
  dsimp only at h
  refine ⟨F, P, ts, tv, env, sr, hq, ?_⟩
  cases ea : ra env with
  | bad => rw [ea] at h; exact h
  | exc c e => rw [ea] at h; exact Res.exc0 h fun z => z
  | ok ta e1 =>
    rw [ea] at h
    intro F1 H1 x1 s1 v1 lk1 sr1
    have h := Res.base h x1 s1
    refine ⟨F1, P, v1 :: ts, ta :: tv, e1, sr1, .inl hqb, ?_⟩
    simp only [R.bd_ok] at h
    cases eb : rs e1 with
    | bad => rw [eb] at h; exact h
    | exc c e => rw [eb] at h; exact Res.exc1 h fun z => hqb
    | ok us e2 =>
      rw [eb] at h
      intro F2 H2 x2 s2 vs hl lk2 sr2
      refine h F2 H2 x2 (fun z => s2 hqb) (v1 :: vs) (by simp [hl]) ⟨lk1, lk2⟩ ?_
      simpa using sr2
end
/-- both maps -/
def both (P F : Hp) : Hp := fun b => match P b with
  | some o => some o
  | none => F b
theorem both_l {P F : Hp} : Same P (both P F) := fun b o h => by unfold both; rw [h]
theorem both_r {P F H : Hp} (a : Same P H) (b : Same F H) : Same F (both P F) := fun c o h => by
  unfold both
  cases q : P c with
  | none => exact h
  | some u =>
    have h1 := a c u q
    have h2 := b c o h
    rw [h1] at h2; exact h2
theorem both_h {P F H : Hp} (a : Same P H) (b : Same F H) : Same (both P F) H := fun c o h => by
  unfold both at h
  cases q : P c with
  | none => rw [q] at h; exact b c o h
  | some u => rw [q] at h; cases h; exact a c o q
theorem mem_lentOf : ∀ {src : List E} {e : Ev} {i : Nat} {o : O}, .var i ∈ src → e[i]? = some (some (.own o)) → (∀ d, o ≠ .fz d) → (i, o) ∈ lentOf src e
  | [], _, _, _, h, _, _ => by simp at h
  | x :: xs, e, i, o, h, he, nf => by
    rcases List.mem_cons.mp h with h | h
    · subst h
      unfold lentOf
      rw [he]
      cases o with
      | fz d => exact absurd rfl (nf d)
      | _ => exact List.mem_cons_self
    · have ih := mem_lentOf h he nf
      by_cases hx : ∃ j, x = .var j
      · obtain ⟨j, rfl⟩ := hx
        unfold lentOf
        split
        · exact ih
        · exact List.mem_cons_of_mem _ ih
        · exact ih
      · have : lentOf (x :: xs) e = lentOf xs e := by cases x <;> first | rfl | exact absurd ⟨_, rfl⟩ hx
        rw [this]; exact ih
theorem srcs_rv {K : PySem.W.Frag} {F1 P P2 H1 : Hp} {σ : St} {e1 : Ev} (hF : Same F1 H1) (h2 : Same P2 H1) (hP : Same P P2) :
    ∀ {src : List E} {us : List TV} {vs : List V} {ds : List D} {L : List Addr}, AT K F1 H1 vs us L → (∀ b ∈ L, P2 b = H1 b) → lnks σ src vs → srcsAt src us e1 = some ds →
      (∀ (i : Nat) s v, e1[i]? = some (some s) → σ[i]? = some (some v) → ∃ L, RL K F1 P H1 s v L) → (∀ (i : Nat) o, E.var i ∈ src → e1[i]? = some (some (.own o)) → (∀ d, o ≠ .fz d) → ∀ d, shallow o = some d → ∃ v, σ[i]? = some (some v) ∧ RV K F1 P2 (O1 d) v) →
      RVl K F1 (both P2 F1) ds vs
  | [], [], _, ds, _, .nil, _, _, h, _, _ => by simp [srcsAt] at h; subst h; exact .nil
  | [], _ :: _, _, _, _, _, _, _, h, _, _ => by simp [srcsAt] at h
  | _ :: _, [], _, _, _, _, _, _, h, _, _ => by simp [srcsAt] at h
  | x :: xs, t :: ts, v :: vs, ds, _, .cons (L1 := L1) (L2 := L2) r a, hL, lk, h, hsl, hln => by
    simp only [srcsAt] at h
    split at h
    · rename_i d ds' hd hds
      have := Option.some.inj h
      subst this
      have ih := srcs_rv hF h2 hP a (fun b hb => hL b (by simp [hb])) lk.2 hds hsl fun i o hm => hln i o (List.mem_cons_of_mem _ hm)
      refine .cons ?_ ih
      by_cases hx : ∃ i, x = .var i
      · obtain ⟨i, rfl⟩ := hx
        have hσ := lk.1 i rfl
        unfold srcAt at hd
        dsimp only at hd
        split at hd
        · rename_i o ho
          by_cases nf : ∃ d, o = .fz d
          · obtain ⟨d', rfl⟩ := nf
            cases hd
            obtain ⟨L, rl⟩ := hsl i _ v ho hσ
            cases rl with
            | own ro => cases ro with
              | fz i => exact O1.of (both_r h2 hF) i
          · obtain ⟨v', hv', rv⟩ := hln i o List.mem_cons_self ho (fun d e => nf ⟨d, e⟩) d hd
            rw [hσ] at hv'; cases hv'
            exact rv.same (fun _ _ x => x) both_l
        · rename_i d' ho
          cases hd
          obtain ⟨L, rl⟩ := hsl i _ v ho hσ
          cases rl with
          | par rp => exact rp.same (fun _ _ x => x) (hP.trans both_l)
        · cases hd
      · have e : srcAt x t e1 = if stable t then srcD t else none := by cases x <;> first | rfl | exact absurd ⟨_, rfl⟩ hx
        rw [e] at hd
        split at hd
        · cases r with
          | own r =>
            have r2 : RO K F1 (both P2 F1) _ _ _ := r.mono (Same.refl F1) fun b hb => by
              have := hL b (by simp [hb])
              obtain ⟨u, hu⟩ := r.trk b hb
              rw [hu] at this ⊢
              exact both_l b u this
            exact shallow_O1 (both_r h2 hF) hd r2.view
          | brw r =>
            cases r with
            | fz i => cases hd; exact O1.of (both_r h2 hF) i
            | lst _ _ => rename_i hst; simp [stable] at hst
            | tup _ _ => rename_i hst; simp [stable] at hst
            | dct _ _ => rename_i hst; simp [stable] at hst
            | dtp _ _ => rename_i hst; simp [stable] at hst
            | ins _ _ => rename_i hst; simp [stable] at hst
        · cases hd
    · cases h
/-! ### for -/
/-- what a for comes to, turn by turn -/
def turnF (pins : List Nat) (t : Tg) (rb : List Nat → Ev → R Fl) : D → Ev → R Fl := fun d e => match asgT pins t (.fz d) e with
  | none => .bad
  | some e' => rb pins e'
def resF (src : List E) (pins : List Nat) (t : Tg) (k : Ik) (rs : Ev → R (List TV)) (rb : List Nat → Ev → R Fl) (e : Ev) : R Fl := (rs e).bd fun ts e1 => match srcsAt src ts e1 with
  | none => .bad
  | some ds => match walkD k ds, lendE (lentOf src e1) e1 with
    | some xs, some e2 => if lentOk (lentOf src e1) pins then backR (lentOf src e1) (forGo (turnF ((lentOf src e1).map (·.1) ++ pins) t rb) xs e2) else .bad
    | _, _ => .bad
theorem so_for {X : Cx} {w : WC} {pins : List Nat} {src : List E} {tg iter : Expr} {body : List Stmt} {pos : Pos} {t : Tg} {k : Ik} {rs : Ev → R (List TV)} {rb : List Nat → Ev → R Fl} (hc : X.calm = true) (hp : PassesOwn (model X.prog X.w) X.A X.env X.xe)
    (hi : PI X tg iter fun σ H R => tLs X.K w src true rs σ H fun vs H1 => WR X.K k vs H1 R) (hg : ∀ pins, PG X tg (gT X.K pins t)) (hb : ∀ pins, PSs X body (tS X.K w pins (rb pins)))
    (hs : ∀ x, foldedSetIterable iter X.env x = pure x) (hps : ∀ e, RPs e (rs e)) : PS X (.For tg iter body [] pos) (tS X.K w pins (resF src pins t k rs rb)) := by
  have hg' : PG X tg fun v σ H Q => ∃ pins, gT X.K pins t v σ H Q := ⟨fun pn s σ H v u Q I r ⟨p, x⟩ => (hg p).run pn s σ H v u Q I r x⟩
  have hb' : PSs X body fun D σ H => ∃ pins, tS X.K w pins (rb pins) D σ H := ⟨fun pn s σ H D I ⟨p, x⟩ => (hb p).run pn s σ H D I x⟩
  refine PS.imp (ps_for hp hc hi hg' hb' hs) fun D σ H h => ?_
  obtain ⟨F, P, ts, tv, env, sr, hst, h⟩ := h
  show tLs X.K w src true rs σ H fun vs H1 => WR X.K k vs H1 _
  refine ⟨F, P, ts, tv, env, sr, .inl rfl, ?_⟩
  unfold resF at h
  refine tS1 (hps env) h fun us e1 F1 H1 er x kk => ?_
  intro vs hlen lk sr1
  obtain ⟨L, a, s⟩ := sr1.popL hlen
  cases ed : srcsAt src us e1 with
  | none => rw [ed] at kk; exact kk.elim
  | some ds =>
    rw [ed] at kk
    dsimp only at kk
    cases ew : walkD k ds with
    | none => rw [ew] at kk; exact kk.elim
    | some xs =>
      cases el : lendE (lentOf src e1) e1 with
      | none => rw [ew, el] at kk; exact kk.elim
      | some e2 =>
        rw [ew, el] at kk
        dsimp only at kk
        by_cases hlo : lentOk (lentOf src e1) pins = true
        · rw [if_pos hlo] at kk
          unfold lentOk at hlo
          simp only [Bool.and_eq_true, decide_eq_true_eq] at hlo
          have s' : SX X.K F1 P H1 ts tv σ e1 (L ++ []) := by rw [List.append_nil]; exact s
          obtain ⟨s2, u1, inL, back1⟩ := s'.prot
          obtain ⟨P2, u2, lv, s3, hl2, back2⟩ := SX.lends s2 el hlo.1 lentOf_own
          have hP2 : Same P2 H1 := s3.ph
          have rv := srcs_rv (P := P) (P2 := P2) s.fh hP2 (u1.trans u2) a (fun b hb => by
            obtain ⟨u, hu⟩ := a.trk b hb
            rw [hu]
            exact u2 b u (by rw [inL b hb, hu])) lk ed (fun i sl v h1 h2 => by
              obtain ⟨v', L', g1, g2⟩ := s.slot h1
              rw [h2] at g1; cases g1
              exact ⟨L', g2⟩) fun i o hm ho nf d hd => lv (i, o) (mem_lentOf hm ho nf) d hd
          generalize hpins : (lentOf src e1).map (·.1) ++ pins = pins' at kk
          generalize hgo : forGo (turnF pins' t rb) xs e2 = g at kk
          -- back to the state ahead of the loop
          have toP : ∀ {F' H' : Hp} {ts' : List V} {tv' : List TV} {σ' : St} {e' : Ev}, Ext P2 F1 F' → PF pins' σ σ' → Pq σ e2 σ' e' → SR X.K F' P2 H' ts' tv' σ' e' → Ext P F1 F' ∧ PF pins σ σ' ∧ Pq σ e1 σ' (lendBack (lentOf src e1) e') ∧ SR X.K F' P H' ts' tv' σ' (lendBack (lentOf src e1) e') := by
            intro F' H' ts' tv' σ' e' x' pf pq sr'
            have hl' : e'.length = e1.length := by
              have l1 := sr'.sx.len
              have l2 := s.len
              rw [← l1, pq.1, l2]
            obtain ⟨y1, y2, y3⟩ := back2 F' H' ts' tv' σ' e' x' (fun j hj => pf j (by rw [← hpins]; simp only [List.mem_append]; exact .inl hj)) hl' pq sr'
            obtain ⟨z1, z2, z3⟩ := back1 F' H' ts' tv' σ' _ y1 y3 y2
            exact ⟨z1, fun j hj => pf j (by rw [← hpins]; simp only [List.mem_append]; exact .inr hj), y3, z2.sr⟩
          refine walk_ok ew rv (both_h hP2 s.fh) s.fh fun J Y wk hy => ?_
          refine for_it (g := fun v σ H Q => ∃ pins, gT X.K pins t v σ H Q) (tb := fun D σ H => ∃ pins, tS X.K w pins (rb pins) D σ H) (D := D) (σ := σ) (H := H1) wk (fun i σ' H => ∃ F' e, Ext P2 F1 F' ∧ PF pins' σ σ' ∧ Pq σ e2 σ' e ∧ SR X.K F' P2 H ts tv σ' e ∧ forGo (turnF pins' t rb) (xs.drop i) e = g) ?_ ?_ ?_ ?_
          · exact ⟨F1, e2, Ext.refl _ _, PF.refl _ _, Pq.refl _ _, s3.sr, by simpa using hgo⟩
          · rintro i σ' H _ ⟨F', e, y1, y2, y3, y4, _⟩
            exact ⟨both_h y4.ph (y1.up.trans y4.fh), y1.up.trans y4.fh⟩
          · rintro i x σ' H H' hi ⟨F', e, y1, y2, y3, y4, y5⟩ y
            obtain ⟨d, hd, yd⟩ := hy i H x H' hi (both_h y4.ph (y1.up.trans y4.fh)) (y1.up.trans y4.fh) y
            have hdrop : xs.drop i = d :: xs.drop (i + 1) := by
              have hlt : i < xs.length := hi
              rw [List.drop_eq_getElem_cons hlt]
              rw [List.getElem?_eq_getElem hlt] at hd
              rw [Option.some.inj hd]
            rw [hdrop] at y5
            simp only [forGo] at y5
            obtain ⟨F2, z1, z2, s4, hid⟩ := (yd.mono y1.up).sx' y4.sx
            unfold turnF at y5
            cases ha : asgT pins' t (.fz d) e with
            | none => rw [ha] at y5; subst y5; exact kk.elim
            | some e' =>
              rw [ha] at y5
              dsimp only at y5
              refine ⟨pins', F2, P2, ts, tv, e, .fz d, e', (s4.pushF hid).sr, ha, fun σ2 sr5 pf5 pq5 => ⟨pins', F2, P2, ts, tv, e', sr5, hst, ?_⟩⟩
              have x5 := y1.trans z1
              have pf6 := y2.trans pf5
              have pq6 := y3.trans pq5
              cases eb : rb pins' e' with
              | bad => rw [eb] at y5; subst y5; exact kk.elim
              | exc c e3 =>
                rw [eb] at y5
                subst y5
                intro F3 H3 σ3 x3 pf3 pq3 sr3
                obtain ⟨q1, q2, q3, q4⟩ := toP (x5.trans x3) (pf6.trans pf3) (pq6.trans pq3) sr3
                exact kk F3 H3 σ3 q1 q2 q3 q4
              | ok fl e3 =>
                rw [eb] at y5
                intro F3 H3 σ3 x3 pf3 pq3
                cases fl with
                | nx => exact fun sr3 => ⟨F3, e3, x5.trans x3, pf6.trans pf3, pq6.trans pq3, sr3, y5⟩
                | cont => exact fun sr3 => ⟨F3, e3, x5.trans x3, pf6.trans pf3, pq6.trans pq3, sr3, y5⟩
                | brk =>
                  intro sr3
                  dsimp only at y5
                  subst y5
                  obtain ⟨q1, q2, q3, q4⟩ := toP (x5.trans x3) (pf6.trans pf3) (pq6.trans pq3) sr3
                  exact kk F3 H3 σ3 q1 q2 q3 q4
                | ret o =>
                  intro v sr3
                  dsimp only at y5
                  subst y5
                  obtain ⟨q1, q2, q3, q4⟩ := toP (x5.trans x3) (pf6.trans pf3) (pq6.trans pq3) sr3
                  exact kk F3 H3 σ3 q1 q2 q3 v q4
          · rintro σ' H ⟨F', e, y1, y2, y3, y4, y5⟩
            rw [List.drop_length] at y5
            simp only [forGo] at y5
            subst y5
            obtain ⟨q1, q2, q3, q4⟩ := toP y1 y2 y3 y4
            exact kk F' H σ' q1 q2 q3 q4
        · rw [if_neg hlo] at kk; exact kk.elim
end TL
namespace TL
open PySem PySem.Spec L2
/-! ### while, raise, op= -/
section
variable {X : Cx} {w : WC} {pins : List Nat}
theorem so_while {c : Expr} {body : List Stmt} {pos : Pos} {q : Bool} {rc : Ev → R Bool} {rb : Ev → R Fl} {n : Nat} (hp : PassesOwn (model X.prog X.w) X.A X.env X.xe) (hc : PT X c (tB X.K w q rc)) (hb : PSs X body (tS X.K w pins rb)) (hps : ∀ e, RPs e (rc e)) :
    PS X (.While c body [] pos) (tS X.K w pins (whileGo rc rb n)) := by
  refine PS.imp (ps_while hp hc hb) fun D σ H h => ?_
  obtain ⟨F, P, ts, tv, env, sr, hst, h⟩ := h
  generalize hg : whileGo rc rb n env = g at h
  refine ⟨fun m σ' H => ∃ F' e, Ext P F F' ∧ PF pins σ σ' ∧ Pq σ env σ' e ∧ SR X.K F' P H ts tv σ' e ∧ whileGo rc rb m e = g, ⟨n, F, env, Ext.refl _ _, PF.refl _ _, Pq.refl _ _, sr, hg⟩, ?_⟩
  rintro m σ' H' ⟨F', e, y1, y2, y3, y4, y5⟩
  have hk : ResS X.K w pins F' P H' ts tv σ' e D g := ResS.base h y1 y2 y3
  cases m with
  | zero => simp only [whileGo] at y5; subst y5; exact hk.elim
  | succ m =>
    simp only [whileGo] at y5
    refine ⟨F', P, ts, tv, e, y4, .inr hst, ?_⟩
    rw [← y5] at hk
    refine tS1 (hps e) hk fun k e1 F1 H1 er x kk => ?_
    intro sr1
    rw [er] at y5
    simp only [R.bd_ok] at y5
    have qq : Pq σ' e σ' e1 := by
      have := hps e
      rw [er] at this
      exact Ps.pq this
    cases k with
    | false =>
      simp only [Bool.false_eq_true, if_false] at kk
      exact iteF (kk.next (PF.refl _ _) (Pq.refl _ _) sr1)
    | true =>
      simp only [if_true] at kk y5
      refine iteT ⟨fun σ' H => ∃ F' e, Ext P F F' ∧ PF pins σ σ' ∧ Pq σ env σ' e ∧ SR X.K F' P H ts tv σ' e ∧ whileGo rc rb m e = g, fun σ' H' z => ⟨m, Nat.lt_succ_self m, z⟩, F1, P, ts, tv, e1, sr1, hst, ?_⟩
      cases eb : rb e1 with
      | bad => rw [eb] at kk; exact kk
      | exc c e => rw [eb] at kk; exact kk
      | ok fl e2 =>
        rw [eb] at kk y5
        intro F2 H2 σ2 x2 p2 q2
        cases fl with
        | nx => exact fun sr2 => ⟨F2, e2, y1.trans (x.trans x2), y2.trans p2, y3.trans (qq.trans q2), sr2, y5⟩
        | cont => exact fun sr2 => ⟨F2, e2, y1.trans (x.trans x2), y2.trans p2, y3.trans (qq.trans q2), sr2, y5⟩
        | brk => exact kk F2 H2 σ2 x2 p2 q2
        | ret o => exact kk F2 H2 σ2 x2 p2 q2
theorem so_raise {C : Addr} {x m : Str} {j : Nat} {p p2 pos pos' : Pos} {c : Nat} (hc : X.calm = true) (tk : Takes X w.W) (hC : w.cad c = C) (hm : PMk X (.Call (.Name x p) [.Constant (.str m) j p2] [] pos) (fun _ H Q => Q (.ref C) none H)) :
    PS X (.Raise (some (.Call (.Name x p) [.Constant (.str m) j p2] [] pos)) none pos') (tS X.K w pins fun e => .exc c e) := by
  refine PS.imp (ps_raise hc tk hm) fun D σ H h => ?_
  obtain ⟨F, P, ts, tv, env, sr, hst, h⟩ := h
  have := h F H σ (Ext.refl _ _) (PF.refl _ _) (Pq.refl _ _) sr
  rw [hC] at this
  exact this
def augR (op : Operator) : TIp := match op with
  | .Add => ipI fun i j => i + j
  | .Sub => ipI fun i j => i - j
  | _ => fun _ _ _ _ => False
theorem augR_ok (op : Operator) : PIp X op (augR op) := by
  cases op
  case Add => exact ip_add
  case Sub => exact ip_sub
  all_goals (intro pins s σ H x y v u Q I rx ry h; exact h.elim)
theorem so_aug {i : Nat} {x : Str} {e : Expr} {op : Operator} {pos pos' : Pos} {q : Bool} {r : Ev → R TV} (hN : X.N.Nodup) (hi : X.N[i]? = some x) (hx : Loc X.env.scope x) (hf : X.fn x = true ∨ X.env.scope.names.lookup x = some .local) (he : PE X e (tE X.K w q r)) (hps : ∀ e, RPs e (r e)) (hp : pins.contains i = false) :
    PS X (.AugAssign (.Name x pos') op e pos) (tS X.K w pins fun e => match intAt e i with
      | some a => (r e).bd fun t e1 => match augV op a (rd t) with
        | some d => .ok .nx (e1.set i (some (.own (.fz (.int d)))))
        | none => .bad
      | none => .bad) := by
  refine PS.imp (ps_aug hN hi hx he (augR_ok op) hf) fun D σ H h => ?_
  obtain ⟨F, P, ts, tv, env, sr, hst, h⟩ := h
  dsimp only at h
  cases ea : intAt env i with
  | none => rw [ea] at h; exact h.elim
  | some a =>
    rw [ea] at h
    dsimp only at h
    have ea2 : env[i]? = some (some (.own (.fz (.int a)))) := by
      unfold intAt at ea
      split at ea
      · rename_i h1
        cases ea
        exact h1
      · cases ea
    have hσ : σ[i]? = some (some (.int a)) := by
      obtain ⟨v, L1, h1, h2⟩ := sr.sx.slot ea2
      cases h2 with
      | own r => cases r with
        | fz z => cases z; exact h1
    refine ⟨_, hσ, F, P, ts, tv, env, sr, .inr hst, ?_⟩
    refine tS1 (hps env) h fun t e1 F1 H1 er x kk => ?_
    intro v sr1
    have iv := sr1.rd1
    have hl : i < e1.length := by
      have l1 := sr1.sx.len
      have : i < σ.length := (List.getElem?_eq_some_iff.mp hσ).1
      omega
    have fin : ∀ d : Int, ResS X.K w pins F1 P H1 ts tv σ e1 D (.ok .nx (e1.set i (some (.own (.fz (.int d)))))) → D.nx (σ.set i (some (.int d))) H1 := fun d k => by
      have s2 := (sr1.drop1.sx.drop i)
      have s3 := SX.put (L1 := []) (L := []) (sl := .own (.fz (.int d))) s2 (by rw [List.getElem?_set_self hl]) (.own (.fz (.int d)))
      rw [List.set_set] at s3
      refine k.next (fun j hj => ?_) ⟨by simp, fun j d' hj => ?_⟩ s3.sr
      · rw [List.getElem?_set_ne]
        intro e
        subst e
        simp [hj] at hp
      · by_cases e : i = j
        · subst e; rw [List.getElem?_set_self hl] at hj; cases hj
        · rw [List.getElem?_set_ne e] at hj ⊢; exact ⟨hj, rfl⟩
    revert kk iv
    generalize rd t = d
    intro kk iv
    cases op <;> first | exact kk.elim | (cases iv <;> first | exact kk.elim | exact ⟨_, _, rfl, rfl, fin _ kk⟩)
end
/-! ### paths -/
inductive AtP (H : Hp) : V → List Int → V → Prop
  | nil {v : V} : AtP H v [] v
  | cons {a : Addr} {xs : List V} {k : Int} {π : List Int} {u v : V} : H a = some (.lst xs) ∨ H a = some (.tup xs) → atI xs k = some u → AtP H u π v → AtP H (.ref a) (k :: π) v
theorem AtP.det {H : Hp} : ∀ {π : List Int} {v a b : V}, AtP H v π a → AtP H v π b → a = b
  | [], _, _, _, .nil, .nil => rfl
  | _ :: _, _, _, _, .cons h1 h2 h3, .cons g1 g2 g3 => by
    have e : ∀ {a : Addr} {xs ys : List V}, (H a = some (.lst xs) ∨ H a = some (.tup xs)) → (H a = some (.lst ys) ∨ H a = some (.tup ys)) → xs = ys := by
      intro a xs ys h g
      rcases h with h | h <;> rcases g with g | g <;> rw [h] at g <;> cases g <;> rfl
    have := e h1 g1
    subst this
    rw [h2] at g2; cases g2
    exact AtP.det h3 g3
theorem AtP.same {H H' : Hp} (e : Same H H') : ∀ {π : List Int} {v a : V}, AtP H v π a → AtP H' v π a
  | [], _, _, .nil => .nil
  | _ :: _, _, _, .cons h1 h2 h3 => .cons (h1.imp (e _ _) (e _ _)) h2 (h3.same e)
theorem AtP.snoc {H : Hp} : ∀ {π : List Int} {v u x : V} {k : Int}, AtP H v π u → AtP H u [k] x → AtP H v (π ++ [k]) x
  | [], _, _, _, _, .nil, h => h
  | _ :: _, _, _, _, _, .cons h1 h2 h3, h => .cons h1 h2 (h3.snoc h)
section
variable {K : PySem.W.Frag} {F H : Hp}
theorem ROs.focus : ∀ {os : List O} {xs : List V} {L : List Addr} {j : Nat} {o : O}, ROs K F H os xs L → os[j]? = some o → ∃ (u : V) (L1 L2 : List Addr), xs[j]? = some u ∧ RO K F H o u L1 ∧ (∀ b, L.count b = L1.count b + L2.count b) ∧
    ∀ (F' H' : Hp) (o' : O) (L1' : List Addr), Same F F' → (∀ b ∈ L2, H' b = H b) → RO K F' H' o' u L1' → ∃ L', ROs K F' H' (os.set j o') xs L' ∧ ∀ b, L'.count b = L1'.count b + L2.count b
  | _, _, _, _, _, .nil, h => by simp at h
  | _, _, _, 0, _, .cons (L1 := L1) (L2 := L2) r l, h => by
    simp at h
    subst h
    exact ⟨_, L1, L2, rfl, r, fun b => List.count_append, fun F' H' o' L1' e k r' => ⟨_, .cons r' (l.mono e k), fun b => List.count_append⟩⟩
  | _, _, _, j + 1, _, .cons (L1 := M1) (L2 := M2) r l, h => by
    obtain ⟨u, L1, L2, h1, h2, h3, h4⟩ := l.focus (j := j) (by simpa using h)
    refine ⟨u, L1, M1 ++ L2, by simpa using h1, h2, fun b => ?_, fun F' H' o' L1' e k r' => ?_⟩
    · have := h3 b; simp only [List.count_append]; omega
    · obtain ⟨L', g1, g2⟩ := h4 F' H' o' L1' e (fun b hb => k b (by simp [hb])) r'
      refine ⟨M1 ++ L', .cons (r.mono e fun b hb => k b (by simp [hb])) g1, fun b => ?_⟩
      have := g2 b; simp only [List.count_append]; omega
/-- a subtree by its path -/
theorem RO.focus : ∀ {π : List Int} {o sub : O} {v : V} {L : List Addr}, RO K F H o v L → subO π o = some sub → ∃ (v' : V) (Ls Lr : List Addr), AtP H v π v' ∧ RO K F H sub v' Ls ∧ (∀ b, L.count b = Ls.count b + Lr.count b) ∧
    ∀ (F' H' : Hp) (f : O → Option O) (sub' : O) (Ls' : List Addr), f sub = some sub' → Same F F' → (∀ b ∈ Lr, H' b = H b) → RO K F' H' sub' v' Ls' → ∃ o' L', modO π f o = some o' ∧ RO K F' H' o' v L' ∧ ∀ b, L'.count b = Ls'.count b + Lr.count b
  | [], o, sub, v, L, r, h => by
    simp only [subO, Option.some.injEq] at h
    subst h
    exact ⟨v, L, [], .nil, r, fun b => by simp, fun F' H' f sub' Ls' hf e k r' => ⟨sub', Ls', hf, r', fun b => by simp⟩⟩
  | k :: π, .lst os, sub, _, _, .lst (a := a) (xs := xs) (L := L) q l, h => by
    simp only [subO] at h
    cases hk : atI os k with
    | none => rw [hk] at h; cases h
    | some o1 =>
      rw [hk] at h
      unfold L2.atI at hk
      cases hj : ixN os.length k with
      | none => rw [hj] at hk; cases hk
      | some j =>
        rw [hj] at hk
        have hk : os[j]? = some o1 := hk
        obtain ⟨u, M1, M2, g1, g2, g3, g4⟩ := l.focus hk
        obtain ⟨v', Ls, Lr, f1, f2, f3, f4⟩ := g2.focus (π := π) h
        have hat : atI xs k = some u := by unfold L2.atI; rw [← l.length, hj]; exact g1
        refine ⟨v', Ls, a :: (Lr ++ M2), .cons (.inl q) hat f1, f2, fun b => ?_, fun F' H' f sub' Ls' hf e kk r' => ?_⟩
        · have := g3 b; have := f3 b; simp only [List.count_cons, List.count_append]; omega
        · obtain ⟨o', L', e1, e2, e3⟩ := f4 F' H' f sub' Ls' hf e (fun b hb => kk b (by simp [hb])) r'
          obtain ⟨L'', e4, e5⟩ := g4 F' H' o' L' e (fun b hb => kk b (by simp [hb])) e2
          refine ⟨.lst (os.set j o'), a :: L'', ?_, .lst ((kk a (by simp)).trans q) e4, fun b => ?_⟩
          · simp only [modO, hj, hk, e1, Option.map_some]
          · have := e3 b; have := e5 b; simp only [List.count_cons, List.count_append]; omega
  | k :: π, .tup os, sub, _, _, .tup (a := a) (xs := xs) (L := L) q l, h => by
    simp only [subO] at h
    cases hk : atI os k with
    | none => rw [hk] at h; cases h
    | some o1 =>
      rw [hk] at h
      unfold L2.atI at hk
      cases hj : ixN os.length k with
      | none => rw [hj] at hk; cases hk
      | some j =>
        rw [hj] at hk
        have hk : os[j]? = some o1 := hk
        obtain ⟨u, M1, M2, g1, g2, g3, g4⟩ := l.focus hk
        obtain ⟨v', Ls, Lr, f1, f2, f3, f4⟩ := g2.focus (π := π) h
        have hat : atI xs k = some u := by unfold L2.atI; rw [← l.length, hj]; exact g1
        refine ⟨v', Ls, a :: (Lr ++ M2), .cons (.inr q) hat f1, f2, fun b => ?_, fun F' H' f sub' Ls' hf e kk r' => ?_⟩
        · have := g3 b; have := f3 b; simp only [List.count_cons, List.count_append]; omega
        · obtain ⟨o', L', e1, e2, e3⟩ := f4 F' H' f sub' Ls' hf e (fun b hb => kk b (by simp [hb])) r'
          obtain ⟨L'', e4, e5⟩ := g4 F' H' o' L' e (fun b hb => kk b (by simp [hb])) e2
          refine ⟨.tup (os.set j o'), a :: L'', ?_, .tup ((kk a (by simp)).trans q) e4, fun b => ?_⟩
          · simp only [modO, hj, hk, e1, Option.map_some]
          · have := e3 b; have := e5 b; simp only [List.count_cons, List.count_append]; omega
  | _ :: _, .fz _, _, _, _, _, h => by simp [subO] at h
  | _ :: _, .dct _, _, _, _, _, h => by simp [subO] at h
  | _ :: _, .dtp _, _, _, _, _, h => by simp [subO] at h
  | _ :: _, .ins _ _, _, _, _, _, h => by simp [subO] at h
end
end TL
namespace TL
open PySem PySem.Spec L2
section
variable (K : PySem.W.Frag) (w : WC)
def pkPa (P : Hp) (ts : List V) (tv : List TV) (σ : St) (Q : VK) : Hp → Hp → Ev → Nat × List Int → Prop := fun F' H' e r => ∀ v v0, σ[r.1]? = some (some v0) → AtP H' v0 r.2 v → SR K F' P H' ts tv σ e → Q v H'
def tPa (r : Ev → R (Nat × List Int)) : TE := fun σ H Q => tG K w true (fun P ts tv => pkPa K P ts tv σ Q) r σ H
end
theorem AtP.split {H : Hp} : ∀ {π : List Int} {v x : V} {k : Int}, AtP H v (π ++ [k]) x → ∃ u, AtP H v π u ∧ AtP H u [k] x
  | [], v, _, _, h => ⟨v, .nil, h⟩
  | _ :: _, _, _, _, .cons h1 h2 h3 => by
    obtain ⟨u, g1, g2⟩ := h3.split
    exact ⟨u, .cons h1 h2 g1, g2⟩
theorem ownAt_eq {e : Ev} {i : Nat} {o : O} (h : ownAt e i = some o) : e[i]? = some (some (.own o)) := by
  unfold ownAt at h
  split at h
  · rename_i h1
    cases h
    exact h1
  · cases h
theorem subAt_eq {e : Ev} {i : Nat} {π : List Int} {sub : O} (h : subAt e i π = some sub) : ∃ o, e[i]? = some (some (.own o)) ∧ subO π o = some sub := by
  unfold subAt at h
  cases ho : ownAt e i with
  | none => rw [ho] at h; cases h
  | some o => rw [ho] at h; exact ⟨o, ownAt_eq ho, h⟩
section
variable {X : Cx} {w : WC} {pins : List Nat}
theorem so_paV {i : Nat} {x : Str} {pos : Pos} (hN : X.N[i]? = some x) (hv : Vis X.env.scope x) (hd : (x == ("__debug__" : Str)) = false) (hcd : (x == ("__classdict__" : Str)) = false) :
    PE X (.Name x pos) (tPa X.K w fun e => match ownAt e i with
      | some _ => .ok (i, []) e
      | none => .bad) := by
  refine PE.imp (pe_var hN hv hd hcd) fun σ H Q h => ?_
  obtain ⟨F, P, ts, tv, env, sr, hq, h⟩ := h
  dsimp only at h
  cases e : ownAt env i with
  | none => rw [e] at h; exact h.elim
  | some o =>
    rw [e] at h
    obtain ⟨v, L1, h1, h2⟩ := sr.sx.slot (ownAt_eq e)
    exact ⟨v, h1, h.here v v h1 .nil sr⟩
theorem so_paI {o b : Expr} {pos : Pos} {rp : Ev → R (Nat × List Int)} {rb : Ev → R TV} (ho : PE X o (tPa X.K w rp)) (hb : PE X b (tE X.K w true rb)) (hp : ∀ l h s p, b ≠ .Slice l h s p) :
    PE X (.Subscript o b pos) (tPa X.K w fun e => (rp e).bd fun r e1 => (rb e1).bd fun t e2 => match rd t with
      | .int k => match subAt e2 r.1 (r.2 ++ [k]) with
        | some _ => .ok (r.1, r.2 ++ [k]) e2
        | none => .bad
      | _ => .bad) := by
  refine PE.imp (pe_ix ix_seq ho hb (plainIx hp)) fun σ H Q h => ?_
  obtain ⟨F, P, ts, tv, env, sr, hq, h⟩ := h
  dsimp only at h
  refine ⟨F, P, ts, tv, env, sr, hq, ?_⟩
  cases ea : rp env with
  | bad => rw [ea] at h; exact h
  | exc c e => rw [ea] at h; exact Res.exc0 h fun z => z
  | ok r e1 =>
    rw [ea] at h
    intro F1 H1 x1 s1 v1 v0 hσ hat sr1
    have h := Res.base h x1 s1
    simp only [R.bd_ok] at h
    refine ⟨F1, P, ts, tv, e1, sr1, .inl rfl, ?_⟩
    cases eb : rb e1 with
    | bad => rw [eb] at h; exact h
    | exc c e => rw [eb] at h; exact Res.exc0 h fun z => z
    | ok t e2 =>
      rw [eb] at h
      intro F2 H2 x2 s2 v2 sr2
      have h := Res.base h x2 s2
      simp only [R.bd_ok] at h
      have iv := sr2.rd1
      have sr3 := sr2.drop1
      cases hrd : rd t with
      | int k =>
        rw [hrd] at h iv
        cases iv
        dsimp only at h
        cases hs : subAt e2 r.1 (r.2 ++ [k]) with
        | none => rw [hs] at h; exact h.elim
        | some sub =>
          rw [hs] at h
          obtain ⟨o1, h1, h2⟩ := subAt_eq hs
          obtain ⟨u0, L, g1, g2⟩ := sr3.sx.slot h1
          rw [hσ] at g1; cases g1
          cases g2 with
          | own ro =>
            obtain ⟨v', Ls, Lr, f1, f2, f3, f4⟩ := ro.focus h2
            obtain ⟨u, k1, k2⟩ := f1.split
            have e : u = v1 := k1.det (hat.same (s2 rfl))
            subst e
            have fin : Q v' H2 := h.here v' v0 hσ f1 sr3
            cases k2 with
            | cons q1 q2 q3 =>
              cases q3
              rcases q1 with q1 | q1
              · exact .inl ⟨_, _, _, _, rfl, rfl, .inl (.inl q1), q2, fin⟩
              · exact .inr (.inl ⟨_, _, _, _, rfl, rfl, .inl (.inl q1), q2, fin⟩)
      | _ => rw [hrd] at h; exact h.elim
/-- a part of a slot's tree rewritten: a list at address a -/
theorem SX.mod {K : PySem.W.Frag} {F P H : Hp} {ts : List V} {tv : List TV} {σ : St} {env : Ev} {L : List Addr} {i : Nat} {π : List Int} {o : O} {os os' : List O} {v0 v : V} {f : O → Option O} (s : SX K F P H ts tv σ env L) (st : ∀ t ∈ tv, stable t = true)
    (ho : env[i]? = some (some (.own o))) (hsub : subO π o = some (.lst os)) (hf : f (.lst os) = some (.lst os')) (hσ : σ[i]? = some (some v0)) (hat : AtP H v0 π v) :
    ∃ a xs M, v = .ref a ∧ H a = some (.lst xs) ∧ ROs K F H os xs M ∧ ∀ xs' M' L', (∀ b, M'.count b + L'.count b ≤ M.count b + L.count b) → ROs K F H os' xs' M' →
      ∃ o', modO π f o = some o' ∧ SX K F P (upd H a (.lst xs')) ts tv σ (env.set i (some (.own o'))) L' := by
  obtain ⟨u0, A, h1, h2, s1⟩ := s.take ho
  rw [hσ] at h1; cases h1
  have hi : i < env.length := (List.getElem?_eq_some_iff.mp ho).1
  cases h2 with
  | own ro =>
    obtain ⟨v', Ls, Lr, f1, f2, f3, f4⟩ := ro.focus hsub
    have e := hat.det f1
    subst e
    cases f2 with
    | lst q l =>
      rename_i a xs M
      refine ⟨a, xs, M, rfl, q, l, fun xs' M' L' hc ro' => ?_⟩
      have s2 : SX K F P H ts tv σ (env.set i none) (a :: (M' ++ (Lr ++ L'))) := s1.weak fun b => by
        have := f3 b; have := hc b
        simp only [List.count_cons, List.count_append] at *
        omega
      have dis : ∀ b ∈ M' ++ (Lr ++ L'), b ≠ a := fun b hb z => s2.dis (z ▸ hb)
      have s3 := s2.write st (o := .lst xs')
      have ro2 : RO K F (upd H a (.lst xs')) (.lst os') (.ref a) (a :: M') := .lst upd_same (ro'.mono (Same.refl F) fun b hb => upd_ne (dis b (by simp [hb])))
      obtain ⟨o', L'', e1, e2, e3⟩ := f4 F (upd H a (.lst xs')) f (.lst os') (a :: M') hf (Same.refl F) (fun b hb => upd_ne (dis b (by simp [hb]))) ro2
      refine ⟨o', e1, ?_⟩
      have s4 : SX K F P (upd H a (.lst xs')) ts tv σ (env.set i none) (L'' ++ L') := s3.weak fun b => by
        have := e3 b
        simp only [List.count_cons, List.count_append] at *
        omega
      have s5 := SX.back (sl := .own o') s4 (by rw [List.getElem?_set_self hi]) hσ (.own e2)
      rw [List.set_set] at s5
      exact s5
theorem modAt_ps {e e' : Ev} {i : Nat} {π : List Int} {f : O → Option O} (h : modAt e i π f = some e') : Ps e e' ∧ e'.length = e.length := by
  unfold modAt at h
  split at h
  · obtain ⟨o', h1, h2⟩ := Option.map_eq_some_iff.mp h
    subst h2
    exact ⟨Ps.set fun d => by simp, by simp⟩
  · cases h
theorem modO_sub : ∀ {π : List Int} {f : O → Option O} {o o' : O}, modO π f o = some o' → ∃ sub sub', subO π o = some sub ∧ f sub = some sub'
  | [], f, o, o', h => ⟨o, o', rfl, h⟩
  | k :: π, f, .lst os, o', h => by
    simp only [modO] at h
    split at h
    · rename_i j hj
      split at h
      · rename_i o1 ho
        obtain ⟨o2, h1, h2⟩ := Option.map_eq_some_iff.mp h
        obtain ⟨sub, sub', g1, g2⟩ := modO_sub h1
        refine ⟨sub, sub', ?_, g2⟩
        simp only [subO, L2.atI, hj, Option.bind_some, ho]
        exact g1
      · cases h
    · cases h
  | k :: π, f, .tup os, o', h => by
    simp only [modO] at h
    split at h
    · rename_i j hj
      split at h
      · rename_i o1 ho
        obtain ⟨o2, h1, h2⟩ := Option.map_eq_some_iff.mp h
        obtain ⟨sub, sub', g1, g2⟩ := modO_sub h1
        refine ⟨sub, sub', ?_, g2⟩
        simp only [subO, L2.atI, hj, Option.bind_some, ho]
        exact g1
      · cases h
    · cases h
  | _ :: _, _, .fz _, _, h => by simp [modO] at h
  | _ :: _, _, .dct _, _, h => by simp [modO] at h
  | _ :: _, _, .dtp _, _, h => by simp [modO] at h
  | _ :: _, _, .ins _ _, _, h => by simp [modO] at h
theorem modAt_sub {e e' : Ev} {i : Nat} {π : List Int} {f : O → Option O} (h : modAt e i π f = some e') : ∃ o o' sub sub', e[i]? = some (some (.own o)) ∧ subO π o = some sub ∧ f sub = some sub' ∧ modO π f o = some o' ∧ e' = e.set i (some (.own o')) := by
  unfold modAt at h
  split at h
  · rename_i o ho
    obtain ⟨o', h1, h2⟩ := Option.map_eq_some_iff.mp h
    obtain ⟨sub, sub', g1, g2⟩ := modO_sub h1
    exact ⟨o, o', sub, sub', ownAt_eq ho, g1, g2, h1, h2.symm⟩
  · cases h
/-- an expression within a statement, by what it keeps -/
theorem tS1q {K : PySem.W.Frag} {q : Bool} {F P H : Hp} {ts : List V} {tv : List TV} {σ : St} {env : Ev} {D : Ends} {α : Type} {pk : Hp → Hp → Ev → α → Prop} {ra : R α} {f : α → Ev → R Fl} (hps : RPs env ra) (h : ResS K w pins F P H ts tv σ env D (ra.bd f))
    (k : ∀ a e F1 H1, ra = .ok a e → Ext P F F1 → (q = true → Same H H1) → ResS K w pins F1 P H1 ts tv σ e D (f a e) → pk F1 H1 e a) : Res K w q F P H ts tv σ pk ra := by
  cases ra with
  | bad => exact h
  | exc c e => exact fun F' H' x s sr => h F' H' σ x (PF.refl _ _) (Ps.pq hps) sr
  | ok a e => exact fun F1 H1 x s => k a e F1 H1 rfl x s (ResS.base h x (PF.refl _ _) (Ps.pq hps))
/-- path.append(e) -/
theorem so_app {o e : Expr} {apos cpos pos : Pos} {rp : Ev → R (Nat × List Int)} {ro : Ev → R O} (hp : PE X o (tPa X.K w rp)) (he : PE X e (tE X.K w true fun e => oT (ro e))) (hn : ∀ x p, e ≠ .Starred x p) (hno : ∀ id p q, o ≠ .Call (.Name id p) [] [] q) (hl : (apos.endLine == cpos.line) = true)
    (hps : ∀ e, RPs e (rp e)) (hps2 : ∀ e, RPs e (ro e)) :
    PS X (.Expr (.Call (.Attribute o "append" apos) [e] [] cpos) pos) (tS X.K w pins fun e => (rp e).bd fun r e1 => if isLst (subAt e1 r.1 r.2) then (ro e1).bd fun x e2 => (R.lf (modAt e2 r.1 r.2 (appF x)) e2).bd fun e3 _ => .ok .nx e3 else .bad) := by
  have hs1 : starEach [e] X.env = [(false, eval e X.env)] := starEach_cons hn
  have key := pe_bm PySem.F.plainAttrs_list PySem.F.slot_list_append PySem.F.type_list_append mt_append (apos := apos) (cpos := cpos) hp (pa_cons he pa_nil (starEach_cons hn)) (attrBase hno) (by rw [hs1]; rfl) hl (starEach_cons hn) (by rfl)
  refine PS.imp (ps_expr key (by rfl)) fun D σ H h => ?_
  obtain ⟨F, P, ts, tv, env, sr, hst, h⟩ := h
  refine ⟨F, P, ts, tv, env, sr, .inr hst, ?_⟩
  refine tS1 (hps env) h fun r e1 F1 H1 er x1 k1 => ?_
  intro v v0 hσ hat sr1
  by_cases hL : isLst (subAt e1 r.1 r.2) = true
  · rw [if_pos hL] at k1
    have hty : tyV X.K "list" v H1 := by
      cases hsub : subAt e1 r.1 r.2 with
      | none => rw [hsub] at hL; cases hL
      | some sub =>
        rw [hsub] at hL
        cases sub with
        | lst os =>
          obtain ⟨o1, g1, g2⟩ := subAt_eq hsub
          obtain ⟨u0, L, g3, g4⟩ := sr1.sx.slot g1
          rw [hσ] at g3; cases g3
          cases g4 with
          | own ro =>
            obtain ⟨v', Ls, Lr, f1, f2, _⟩ := ro.focus g2
            have e := hat.det f1
            subst e
            cases f2 with
            | lst q l => exact .inl ⟨rfl, _, .inl (.inl q)⟩
        | _ => cases hL
    refine ⟨hty, F1, P, ts, tv, e1, sr1, .inr hst, ?_⟩
    have h2 : ResS X.K w pins F1 P H1 ts tv σ e1 D ((oT (ro e1)).bd fun tt e2 => match tt with
        | .own x => (R.lf (modAt e2 r.1 r.2 (appF x)) e2).bd fun e3 _ => .ok .nx e3
        | _ => .bad) := by
      unfold oT
      rw [bd_bd]
      exact k1
    refine tS1q (q := true) (pk := pkE X.K P ts tv σ _) (oT_ps (hps2 e1)) h2 fun tt e2 F2 H2 er2 x2 s2 k2 => ?_
    intro u sr2
    cases tt with
    | brw o => exact k2.elim
    | own ox =>
      dsimp only at k2
      cases hm : modAt e2 r.1 r.2 (appF ox) with
      | none => rw [hm] at k2; exact k2.elim
      | some e3 =>
        rw [hm] at k2
        simp only [R.lf_some, R.bd_ok] at k2
        obtain ⟨o1, o1', sub, sub', g1, g2, g3, g4, g5⟩ := modAt_sub hm
        obtain ⟨Lx, rx, sx⟩ := sr2.sx.pop
        cases rx with
        | own rx =>
        cases sub with
        | lst os =>
          simp only [appF] at g3
          split at g3
          · rename_i hlen
            cases g3
            obtain ⟨a, xs, M, q1, q2, q3, q4⟩ := SX.mod (f := appF ox) (os' := os ++ [ox]) sx hst g1 g2 (by simp only [appF]; rw [if_pos hlen]) hσ (hat.same (s2 rfl))
            have dis : ∀ b, (M ++ Lx).count b + ([] : List Addr).count b ≤ M.count b + (Lx ++ []).count b := fun b => by simp [List.count_append]
            obtain ⟨o', p1, p2⟩ := q4 (xs ++ [u]) (M ++ Lx) [] dis (by simpa using q3.app (.cons rx .nil))
            rw [g4] at p1
            cases p1
            refine ⟨a, xs, u, q1, rfl, q2, q3.length ▸ hlen, ?_⟩
            exact k2.next (PF.refl _ _) (Ps.pq (modAt_ps hm).1) (g5 ▸ p2.sr)
          · cases g3
        | _ => cases g3
  · rw [if_neg hL] at k1; exact k1.elim
end
end TL
namespace TL
open PySem PySem.Spec L2
theorem ROs.setv {K : PySem.W.Frag} {F H : Hp} : ∀ {os : List O} {xs : List V} {M : List Addr} {j : Nat} {o : O} {v : V} {L : List Addr}, ROs K F H os xs M → RO K F H o v L → ∃ M', ROs K F H (os.set j o) (xs.set j v) M' ∧ ∀ b, M'.count b ≤ M.count b + L.count b
  | _, _, _, _, _, _, _, .nil, r => ⟨[], .nil, fun b => by simp⟩
  | _, _, _, 0, _, _, L, .cons (L1 := L1) (L2 := L2) q l, r => ⟨L ++ L2, .cons r l, fun b => by simp only [List.count_append]; omega⟩
  | _, _, _, j + 1, _, _, _, .cons (L1 := L1) (L2 := L2) q l, r => by
    obtain ⟨M', h1, h2⟩ := l.setv (j := j) r
    exact ⟨L1 ++ M', .cons q h1, fun b => by have := h2 b; simp only [List.count_append]; omega⟩
/-- a part of a statement, a value kept as a temporary -/
theorem tS1t {K : PySem.W.Frag} {w : WC} {pins : List Nat} {q : Bool} {F P H : Hp} {ts : List V} {tv : List TV} {v : V} {t : TV} {σ : St} {env : Ev} {D : Ends} {α : Type} {pk : Hp → Hp → Ev → α → Prop} {ra : R α} {f : α → Ev → R Fl} (hps : RPs env ra) (h : ResS K w pins F P H ts tv σ env D (ra.bd f))
    (k : ∀ a e F1 H1, ra = .ok a e → Ext P F F1 → (q = true → Same H H1) → ResS K w pins F1 P H1 ts tv σ e D (f a e) → pk F1 H1 e a) : Res K w q F P H (v :: ts) (t :: tv) σ pk ra := by
  cases ra with
  | bad => exact h
  | exc c e => exact fun F' H' x s sr => h F' H' σ x (PF.refl _ _) (Ps.pq hps) sr.drop1
  | ok a e => exact fun F1 H1 x s => k a e F1 H1 rfl x s (ResS.base h x (PF.refl _ _) (Ps.pq hps))
section
variable {X : Cx} {w : WC} {pins : List Nat}
/-- path[i] = e -/
theorem so_setix {o b e : Expr} {p1 pos : Pos} {qe : Bool} {ro : Ev → R O} {rp : Ev → R (Nat × List Int)} {rb : Ev → R TV} (he : PE X e (tE X.K w qe fun e => oT (ro e))) (hp : PE X o (tPa X.K w rp)) (hb : PE X b (tE X.K w true rb))
    (ha : ∀ v, assign (.Subscript o b p1) X.env v = (do
      let ov ← holding [v] (eval o X.env)
      let iv ← holding [v, ov] (eval b X.env)
      standAt p1
      holding [v, ov, iv] (setItem ov iv v)
      release [v, ov, iv] []))
    (hs : swapsWithSole [.Subscript o b p1] e pos.line X.env = pure false) (hw : swappedStores [.Subscript o b p1] e X.env = pure none) (h1 : (assignEach [.Subscript o b p1] X.env).map (·.2) = [assign (.Subscript o b p1) X.env])
    (ps1 : ∀ e, RPs e (ro e)) (ps2 : ∀ e, RPs e (rp e)) (ps3 : ∀ e, RPs e (rb e)) :
    PS X (.Assign [.Subscript o b p1] e pos) (tS X.K w pins fun e => (ro e).bd fun x e1 => (rp e1).bd fun r e2 => (rb e2).bd fun t e3 => match rd t with
      | .int k => (R.lf (modAt e3 r.1 r.2 (setF k x)) e3).bd fun e4 _ => .ok .nx e4
      | _ => .bad) := by
  refine PS.imp (ps_asg he (pg_sub hp hb set_list ha) hs hw h1) fun D σ H h => ?_
  obtain ⟨F, P, ts, tv, env, sr, hst, h⟩ := h
  refine ⟨F, P, ts, tv, env, sr, .inr hst, ?_⟩
  have h2 : ResS X.K w pins F P H ts tv σ env D ((oT (ro env)).bd fun tt e1 => match tt with
      | .own x => (rp e1).bd fun r e2 => (rb e2).bd fun t e3 => match rd t with
        | .int k => (R.lf (modAt e3 r.1 r.2 (setF k x)) e3).bd fun e4 _ => .ok .nx e4
        | _ => .bad
      | _ => .bad) := by
    unfold oT
    rw [bd_bd]
    exact h
  refine tS1 (oT_ps (ps1 env)) h2 fun tt e1 F1 H1 er1 x1 k1 => ?_
  intro v sr1
  cases tt with
  | brw o => exact k1.elim
  | own ox =>
    dsimp only at k1
    have st1 : ∀ t ∈ (TV.own ox :: tv), stable t = true := fun t ht => by
      rcases List.mem_cons.mp ht with z | z
      · rw [z]; rfl
      · exact hst t z
    refine ⟨F1, P, v :: ts, .own ox :: tv, e1, sr1, .inl rfl, ?_⟩
    refine tS1t (q := true) (ps2 e1) k1 fun r e2 F2 H2 er2 x2 s2 k2 => ?_
    intro u u0 hσ hat sr2
    refine ⟨F2, P, v :: ts, .own ox :: tv, e2, sr2, .inl rfl, ?_⟩
    refine tS1t (q := true) (ps3 e2) k2 fun t e3 F3 H3 er3 x3 s3 k3 => ?_
    intro iv sr3
    have ii := sr3.rd1
    have sr4 := sr3.drop1
    revert k3 ii
    generalize rd t = d
    intro k3 ii
    cases ii with
    | int k =>
      dsimp only at k3
      cases hm : modAt e3 r.1 r.2 (setF k ox) with
      | none => rw [hm] at k3; exact k3.elim
      | some e4 =>
        rw [hm] at k3
        simp only [R.lf_some, R.bd_ok] at k3
        obtain ⟨o1, o1', sub, sub', g1, g2, g3, g4, g5⟩ := modAt_sub hm
        obtain ⟨Lx, rx, sx⟩ := sr4.sx.pop
        cases rx with
        | own rx =>
        cases sub with
        | lst os =>
          simp only [setF] at g3
          obtain ⟨j, hj, hj2⟩ := Option.map_eq_some_iff.mp g3
          subst hj2
          obtain ⟨a, xs, M, q1, q2, q3, q4⟩ := SX.mod (f := setF k ox) (os' := os.set j ox) sx hst g1 g2 (by simp only [setF, hj, Option.map_some]) hσ (hat.same (s3 rfl))
          obtain ⟨M', m1, m2⟩ := q3.setv (j := j) rx
          obtain ⟨o', p1, p2⟩ := q4 (xs.set j v) M' [] (fun b => by have := m2 b; simp only [List.count_append, List.count_nil] at *; omega) m1
          rw [g4] at p1
          cases p1
          refine ⟨a, xs, k, j, q1, rfl, q2, by rw [← q3.length]; exact hj, ?_⟩
          exact k3.next (PF.refl _ _) (Ps.pq (modAt_ps hm).1) (g5 ▸ p2.sr)
        | _ => cases g3
    | _ => exact k3.elim
end
theorem ROs.erase {K : PySem.W.Frag} {F H : Hp} : ∀ {os : List O} {xs : List V} {M : List Addr} {j : Nat}, ROs K F H os xs M → ∃ M', ROs K F H (os.eraseIdx j) (xs.eraseIdx j) M' ∧ ∀ b, M'.count b ≤ M.count b
  | _, _, _, _, .nil => ⟨[], .nil, fun b => by simp⟩
  | _, _, _, 0, .cons (L1 := L1) (L2 := L2) q l => ⟨L2, l, fun b => by simp only [List.count_append]; omega⟩
  | _, _, _, j + 1, .cons (L1 := L1) (L2 := L2) q l => by
    obtain ⟨M', h1, h2⟩ := l.erase (j := j)
    exact ⟨L1 ++ M', .cons q h1, fun b => by have := h2 b; simp only [List.count_append]; omega⟩
section
variable {X : Cx} {w : WC} {pins : List Nat}
theorem lst_ty {K : PySem.W.Frag} {F P H : Hp} {ts : List V} {tv : List TV} {σ : St} {e : Ev} {r : Nat × List Int} {v v0 : V} (sr : SR K F P H ts tv σ e) (hσ : σ[r.1]? = some (some v0)) (hat : AtP H v0 r.2 v) (hL : isLst (subAt e r.1 r.2) = true) : tyV K "list" v H := by
  cases hsub : subAt e r.1 r.2 with
  | none => rw [hsub] at hL; cases hL
  | some sub =>
    rw [hsub] at hL
    cases sub with
    | lst os =>
      obtain ⟨o1, g1, g2⟩ := subAt_eq hsub
      obtain ⟨u0, L, g3, g4⟩ := sr.sx.slot g1
      rw [hσ] at g3; cases g3
      cases g4 with
      | own ro =>
        obtain ⟨v', Ls, Lr, f1, f2, _⟩ := ro.focus g2
        have e := hat.det f1
        subst e
        cases f2 with
        | lst q l => exact .inl ⟨rfl, _, .inl (.inl q)⟩
    | _ => cases hL
/-- path.clear() -/
theorem so_clr {o : Expr} {apos cpos pos : Pos} {rp : Ev → R (Nat × List Int)} (hp : PE X o (tPa X.K w rp)) (hno : ∀ id p q, o ≠ .Call (.Name id p) [] [] q) (hl : (apos.endLine == cpos.line) = true) (hps : ∀ e, RPs e (rp e)) :
    PS X (.Expr (.Call (.Attribute o "clear" apos) [] [] cpos) pos) (tS X.K w pins fun e => (rp e).bd fun r e1 => (R.lf (modAt e1 r.1 r.2 clrF) e1).bd fun e2 _ => .ok .nx e2) := by
  have key := pe_bm0 PySem.F.plainAttrs_list PySem.F.slot_list_clear PySem.F.type_list_clear mt_clear (apos := apos) (cpos := cpos) hp (attrBase hno) hl
  refine PS.imp (ps_expr key (by rfl)) fun D σ H h => ?_
  obtain ⟨F, P, ts, tv, env, sr, hst, h⟩ := h
  refine ⟨F, P, ts, tv, env, sr, .inr hst, ?_⟩
  refine tS1 (hps env) h fun r e1 F1 H1 er x1 k1 => ?_
  intro v v0 hσ hat sr1
  cases hm : modAt e1 r.1 r.2 clrF with
  | none => rw [hm] at k1; exact k1.elim
  | some e3 =>
    rw [hm] at k1
    simp only [R.lf_some, R.bd_ok] at k1
    obtain ⟨o1, o1', sub, sub', g1, g2, g3, g4, g5⟩ := modAt_sub hm
    cases sub with
    | lst os =>
      simp only [clrF] at g3
      cases g3
      have hL : isLst (subAt e1 r.1 r.2) = true := by
        have h1 : ownAt e1 r.1 = some o1 := by simp only [ownAt, g1]
        have h2 : subAt e1 r.1 r.2 = some (.lst os) := by simp only [subAt, h1, Option.bind_some, g2]
        rw [h2]; rfl
      refine ⟨lst_ty sr1 hσ hat hL, ?_⟩
      obtain ⟨a, xs, M, q1, q2, q3, q4⟩ := SX.mod (f := clrF) (os' := []) sr1.sx hst g1 g2 rfl hσ hat
      obtain ⟨o', p1, p2⟩ := q4 [] [] [] (fun b => by simp) .nil
      rw [g4] at p1
      cases p1
      refine ⟨a, xs, q1, rfl, q2, ?_⟩
      exact k1.next (PF.refl _ _) (Ps.pq (modAt_ps hm).1) (g5 ▸ p2.sr)
    | _ => simp [clrF] at g3
/-- path.pop(i) -/
theorem so_popi {o e : Expr} {apos cpos pos : Pos} {rp : Ev → R (Nat × List Int)} {rb : Ev → R TV} (hp : PE X o (tPa X.K w rp)) (he : PE X e (tE X.K w true rb)) (hn : ∀ x p, e ≠ .Starred x p) (hno : ∀ id p q, o ≠ .Call (.Name id p) [] [] q) (hl : (apos.endLine == cpos.line) = true)
    (hps : ∀ e, RPs e (rp e)) (hps2 : ∀ e, RPs e (rb e)) :
    PS X (.Expr (.Call (.Attribute o "pop" apos) [e] [] cpos) pos) (tS X.K w pins fun e => (rp e).bd fun r e1 => if isLst (subAt e1 r.1 r.2) then (rb e1).bd fun t e2 => match rd t with
      | .int k => (R.lf (modAt e2 r.1 r.2 (popiF k)) e2).bd fun e3 _ => .ok .nx e3
      | _ => .bad
    else .bad) := by
  have hs1 : starEach [e] X.env = [(false, eval e X.env)] := starEach_cons hn
  have key := pe_bm PySem.F.plainAttrs_list PySem.F.slot_list_pop PySem.F.type_list_pop mt_popAt (apos := apos) (cpos := cpos) hp (pa_cons he pa_nil (starEach_cons hn)) (attrBase hno) (by rw [hs1]; rfl) hl (starEach_cons hn) (by rfl)
  refine PS.imp (ps_expr key (by rfl)) fun D σ H h => ?_
  obtain ⟨F, P, ts, tv, env, sr, hst, h⟩ := h
  refine ⟨F, P, ts, tv, env, sr, .inr hst, ?_⟩
  refine tS1 (hps env) h fun r e1 F1 H1 er x1 k1 => ?_
  intro v v0 hσ hat sr1
  by_cases hL : isLst (subAt e1 r.1 r.2) = true
  · rw [if_pos hL] at k1
    refine ⟨lst_ty sr1 hσ hat hL, F1, P, ts, tv, e1, sr1, .inr hst, ?_⟩
    refine tS1q (q := true) (pk := pkE X.K P ts tv σ _) (hps2 e1) k1 fun tt e2 F2 H2 er2 x2 s2 k2 => ?_
    intro u sr2
    have ii := sr2.rd1
    have sr3 := sr2.drop1
    revert k2 ii
    generalize rd tt = d
    intro k2 ii
    cases ii with
    | int k =>
      dsimp only at k2
      cases hm : modAt e2 r.1 r.2 (popiF k) with
      | none => rw [hm] at k2; exact k2.elim
      | some e3 =>
        rw [hm] at k2
        simp only [R.lf_some, R.bd_ok] at k2
        obtain ⟨o1, o1', sub, sub', g1, g2, g3, g4, g5⟩ := modAt_sub hm
        cases sub with
        | lst os =>
          have g3' := g3
          simp only [popiF] at g3
          split at g3
          · rename_i hlen
            obtain ⟨j, hj, hj2⟩ := Option.map_eq_some_iff.mp g3
            subst hj2
            obtain ⟨a, xs, M, q1, q2, q3, q4⟩ := SX.mod (f := popiF k) (os' := os.eraseIdx j) sr3.sx hst g1 g2 g3' hσ (hat.same (s2 rfl))
            obtain ⟨M', m1, m2⟩ := q3.erase (j := j)
            obtain ⟨o', p1, p2⟩ := q4 (xs.eraseIdx j) M' [] (fun b => by have := m2 b; simp only [List.count_nil]; omega) m1
            rw [g4] at p1
            cases p1
            have hlx := q3.length
            obtain ⟨z1, z2, z3, z4⟩ := ixN_seq (by rw [← hlx]; exact hj : ixN xs.length k = some j)
            have hsz : sizeLine = 16777216 := rfl
            have hy : ∃ y, xs[j]? = some y := ⟨_, List.getElem?_eq_getElem z2⟩
            obtain ⟨y, hy⟩ := hy
            refine ⟨a, xs, k, j, y, q1, rfl, q2, by omega, by omega, z1, hy, ?_⟩
            exact k2.next (PF.refl _ _) (Ps.pq (modAt_ps hm).1) (g5 ▸ p2.sr)
          · cases g3
        | _ => simp [popiF] at g3
    | _ => exact k2.elim
  · rw [if_neg hL] at k1; exact k1.elim
end
/-! ### the last item taken out -/
theorem ROs.last {K : PySem.W.Frag} {F H : Hp} : ∀ (os : List O) {xs : List V} {M : List Addr} {o : O}, ROs K F H os xs M → os.getLast? = some o → ∃ (y : V) (M1 M2 : List Addr), xs[xs.length - 1]? = some y ∧ ROs K F H os.dropLast xs.dropLast M1 ∧ RO K F H o y M2 ∧ ∀ b, M.count b = M1.count b + M2.count b := by
  intro os
  induction os with
  | nil => intro xs M o _ h; cases h
  | cons o1 os ih =>
    intro xs M o r h
    cases r with
    | cons r l =>
      rename_i v vs L1 L2
      cases os with
      | nil =>
        cases l
        cases h
        exact ⟨v, [], L1, rfl, .nil, r, fun b => by simp⟩
      | cons o2 os2 =>
        have h : (o2 :: os2).getLast? = some o := by rw [List.getLast?_cons_cons] at h; exact h
        obtain ⟨y, M1, M2, h1, h2, h3, h4⟩ := ih l h
        cases l with
        | cons r2 l2 =>
          refine ⟨y, L1 ++ M1, M2, ?_, .cons r h2, h3, fun b => ?_⟩
          · simpa using h1
          · have := h4 b
            simp only [List.count_append] at *
            omega
def popR (r : R (Nat × List Int)) : R O := r.bd fun r e1 => match topO e1 r.1 r.2 with
  | none => .bad
  | some o => (R.lf (modAt e1 r.1 r.2 popF) e1).bd fun e2 _ => .ok o e2
theorem popR_ps {e : Ev} {r : R (Nat × List Int)} (h : RPs e r) : RPs e (popR r) := by
  unfold popR
  refine h.bd fun r e1 => ?_
  cases topO e1 r.1 r.2 with
  | none => exact True.intro
  | some o =>
    dsimp only
    cases hm : modAt e1 r.1 r.2 popF with
    | none => exact True.intro
    | some e2 => exact (modAt_ps hm).1
section
variable {X : Cx} {w : WC} {pins : List Nat}
/-- path.pop() -/
theorem so_pop {o : Expr} {apos cpos : Pos} {rp : Ev → R (Nat × List Int)} (hp : PE X o (tPa X.K w rp)) (hno : ∀ id p q, o ≠ .Call (.Name id p) [] [] q) (hl : (apos.endLine == cpos.line) = true) :
    PE X (.Call (.Attribute o "pop" apos) [] [] cpos) (tE X.K w false fun e => oT (popR (rp e))) := by
  have key := pe_bm0 PySem.F.plainAttrs_list PySem.F.slot_list_pop PySem.F.type_list_pop mt_pop (apos := apos) (cpos := cpos) hp (attrBase hno) hl
  refine PE.imp key fun σ H Q h => ?_
  obtain ⟨F, P, ts, tv, env, sr, hq, h⟩ := h
  have hst : ∀ t ∈ tv, stable t = true := hq.resolve_left (by simp)
  refine ⟨F, P, ts, tv, env, sr, .inl rfl, ?_⟩
  dsimp only at h
  cases er : rp env with
  | bad => rw [er] at h; exact h
  | exc c e => rw [er] at h; exact fun F' H' x s sr' => h F' H' x (fun z => by cases z) sr'
  | ok r e1 =>
    rw [er] at h
    intro F1 H1 x1 s1 v v0 hσ hat sr1
    have h := Res.base (H1 := H1) h x1 (fun z => by cases z)
    simp only [popR, R.bd_ok] at h
    cases ht : topO e1 r.1 r.2 with
    | none => rw [ht] at h; exact h.elim
    | some ox =>
      rw [ht] at h
      dsimp only at h
      cases hm : modAt e1 r.1 r.2 popF with
      | none => rw [hm] at h; exact h.elim
      | some e3 =>
        rw [hm] at h
        obtain ⟨o1, o1', sub, sub', g1, g2, g3, g4, g5⟩ := modAt_sub hm
        have hown : ownAt e1 r.1 = some o1 := by simp only [ownAt, g1]
        cases sub with
        | lst os =>
          have hlast : os.getLast? = some ox := by
            unfold topO at ht
            rw [hown] at ht
            dsimp only at ht
            rw [g2] at ht
            exact ht
          simp only [popF] at g3
          split at g3
          · cases g3
          · rename_i hne
            cases g3
            have hL : isLst (subAt e1 r.1 r.2) = true := by
              have h2 : subAt e1 r.1 r.2 = some (.lst os) := by simp only [subAt, hown, Option.bind_some, g2]
              rw [h2]; rfl
            refine ⟨lst_ty sr1 hσ hat hL, ?_⟩
            obtain ⟨u0, A, k1, k2, s2⟩ := sr1.sx.take g1
            rw [hσ] at k1; cases k1
            have hi : r.1 < e1.length := (List.getElem?_eq_some_iff.mp g1).1
            cases k2 with
            | own ro =>
              obtain ⟨v', Ls, Lr, f1, f2, f3, f4⟩ := ro.focus g2
              have e := hat.det f1
              subst e
              cases f2 with
              | lst q l =>
                rename_i a xs M
                obtain ⟨y, M1, M2, l1, l2, l3, l4⟩ := ROs.last os l hlast
                have s3 : SX X.K F1 P H1 ts tv σ (e1.set r.1 none) (a :: (M1 ++ (Lr ++ M2))) := s2.weak fun b => by
                  have := f3 b; have := l4 b
                  simp only [List.count_cons, List.count_append, List.count_nil] at *
                  omega
                have dis : ∀ b ∈ M1 ++ (Lr ++ M2), b ≠ a := fun b hb z => s3.dis (z ▸ hb)
                have s4 := s3.write hst (o := .lst xs.dropLast)
                have up : ∀ b ∈ M1 ++ (Lr ++ M2), upd H1 a (.lst xs.dropLast) b = H1 b := fun b hb => upd_ne (dis b hb)
                have ro2 : RO X.K F1 (upd H1 a (.lst xs.dropLast)) (.lst os.dropLast) (.ref a) (a :: M1) := .lst upd_same (l2.mono (Same.refl F1) fun b hb => up b (by simp [hb]))
                have hpf : popF (.lst os) = some (.lst os.dropLast) := if_neg hne
                obtain ⟨o', L'', p1, p2, p3⟩ := f4 F1 (upd H1 a (.lst xs.dropLast)) popF (.lst os.dropLast) (a :: M1) hpf (Same.refl F1) (fun b hb => up b (by simp [hb])) ro2
                rw [g4] at p1
                cases p1
                have s5 : SX X.K F1 P (upd H1 a (.lst xs.dropLast)) ts tv σ (e1.set r.1 none) (L'' ++ M2) := s4.weak fun b => by
                  have := p3 b
                  simp only [List.count_cons, List.count_append] at *
                  omega
                have s6 := SX.back (sl := .own o1') s5 (by rw [List.getElem?_set_self hi]) hσ (.own p2)
                rw [List.set_set] at s6
                have s7 : SX X.K F1 P (upd H1 a (.lst xs.dropLast)) ts tv σ (e1.set r.1 (some (.own o1'))) (M2 ++ []) := by rw [List.append_nil]; exact s6
                have s8 := SX.push s7 (.own (l3.mono (Same.refl F1) fun b hb => up b (by simp [hb])))
                refine ⟨a, xs, y, rfl, rfl, q, l1, ?_⟩
                rw [g5] at h
                exact h F1 _ (Ext.refl P F1) (fun z => by cases z) y s8.sr
        | _ => simp [popF] at g3
/-- t = path.pop() -/
theorem so_asgPop {t : Tg} {o tg : Expr} {apos cpos pos : Pos} {rp : Ev → R (Nat × List Int)} (hp : PE X o (tPa X.K w rp)) (hno : ∀ id p q, o ≠ .Call (.Name id p) [] [] q) (hl : (apos.endLine == cpos.line) = true) (hg : PG X tg (gT X.K pins t)) (hps : ∀ e, RPs e (rp e))
    (hs : swapsWithSole [tg] (.Call (.Attribute o "pop" apos) [] [] cpos) pos.line X.env = pure false) (hw : swappedStores [tg] (.Call (.Attribute o "pop" apos) [] [] cpos) X.env = pure none) (h1 : (assignEach [tg] X.env).map (·.2) = [assign tg X.env]) :
    PS X (.Assign [tg] (.Call (.Attribute o "pop" apos) [] [] cpos) pos) (tS X.K w pins fun e => (popR (rp e)).bd fun o e1 => (R.lf (asgT pins t o e1) e1).bd fun e2 _ => .ok .nx e2) :=
  so_asg (so_pop hp hno hl) hg (fun e => popR_ps (hps e)) hs hw h1
/-- what a slot owns is frozen ahead of a statement -/
theorem so_frz {st : Stmt} {r : Ev → R Fl} (i : Nat) (h : PS X st (tS X.K w pins r)) : PS X st (tS X.K w pins fun e => match e[i]? with
    | some (some (.own o)) => if noIns o then r (e.set i (some (.own (.fz (toD o))))) else .bad
    | _ => .bad) := by
  refine PS.imp h fun D σ H hh => ?_
  obtain ⟨F, P, ts, tv, env, sr, hst, k⟩ := hh
  dsimp only at k
  split at k
  · rename_i o he
    split at k
    · obtain ⟨v, L1, h1, h2, s1⟩ := sr.sx.take he
      have hi : i < env.length := (List.getElem?_eq_some_iff.mp he).1
      cases h2 with
      | own ro =>
        obtain ⟨x, s2⟩ := s1.frz
        have s3 := SX.back (L1 := []) (sl := .own (.fz (toD o))) s2 (by rw [List.getElem?_set_self hi]) h1 (.own (.fz (ro.frz x.up fun b hb => wid_in hb)))
        rw [List.set_set] at s3
        exact ⟨_, P, ts, tv, _, s3.sr, hst, ResS.base k x (PF.refl _ _) (Ps.set fun d => by simp).pq⟩
    · exact k.elim
  · exact k.elim
/-! ### a part of a tree under a name -/
def aliX (i : Nat) (pins : List Nat) (rp : Ev → R (Nat × List Int)) (rb : List Nat → Ev → R Fl) (e : Ev) : R Fl := (rp e).bd fun r e1 => match ownAt e1 r.1 with
  | none => .bad
  | some o => match subO r.2 o with
    | none => .bad
    | some sub => if !pins.contains i && decide (i < e1.length) && decide (i ≠ r.1) then aliR i r o (rb (i :: r.1 :: pins) ((e1.set r.1 none).set i (some (.own sub)))) else .bad
theorem so_ali {i : Nat} {y : Str} {o : Expr} {py pos : Pos} {rp : Ev → R (Nat × List Int)} {rest : List Stmt} {rb : List Nat → Ev → R Fl} (hN : X.N.Nodup) (hi : X.N[i]? = some y) (hx : Loc X.env.scope y) (hf : X.fn y = true ∨ X.env.scope.names.lookup y = some .local)
    (hp : PE X o (tPa X.K w rp)) (hps : ∀ e, RPs e (rp e)) (hb : ∀ pins, PSs X rest (tS X.K w pins (rb pins))) (hs : swapsWithSole [.Name y py] o pos.line X.env = pure false) (hw : swappedStores [.Name y py] o X.env = pure none) :
    PSs X (.Assign [.Name y py] o pos :: rest) (tS X.K w pins (aliX i pins rp rb)) := by
  have hb' : PSs X rest fun D σ H => ∃ pins, tS X.K w pins (rb pins) D σ H := ⟨fun pn s σ H D I ⟨p, x⟩ => (hb p).run pn s σ H D I x⟩
  refine PSs.imp (pss_cons (ps_asg hp (pg_name hN hi hx hf) hs hw rfl) hb') fun D σ H h => ?_
  show tPa X.K w rp σ H fun v H1 => ∃ pins, tS X.K w pins (rb pins) D (σ.set i (some v)) H1
  obtain ⟨F, P, ts, tv, env, sr, hst, h⟩ := h
  refine ⟨F, P, ts, tv, env, sr, .inl rfl, ?_⟩
  unfold aliX at h
  refine tS1 (hps env) h fun r e1 F1 H1 er x k => ?_
  intro v v0 hσ hat sr1
  cases ho : ownAt e1 r.1 with
  | none => rw [ho] at k; exact k.elim
  | some ow =>
    rw [ho] at k
    dsimp only at k
    cases hsb : subO r.2 ow with
    | none => rw [hsb] at k; exact k.elim
    | some sub =>
      rw [hsb] at k
      dsimp only at k
      by_cases hc : (!pins.contains i && decide (i < e1.length) && decide (i ≠ r.1)) = true
      · rw [if_pos hc] at k
        simp only [Bool.and_eq_true, Bool.not_eq_true', decide_eq_true_eq] at hc
        obtain ⟨⟨c1, c2⟩, c3⟩ := hc
        have c1 : i ∉ pins := fun z => by
          have : pins.contains i = true := List.contains_iff_mem.mpr z
          rw [c1] at this; cases this
        have hr : r.1 < e1.length := (List.getElem?_eq_some_iff.mp (ownAt_eq ho)).1
        obtain ⟨u0, A, g1, g2, s1⟩ := sr1.sx.take (ownAt_eq ho)
        rw [hσ] at g1; cases g1
        cases g2 with
        | own ro =>
          obtain ⟨v', Ls, Lr, f1, f2, f3, f4⟩ := ro.focus hsb
          have e := hat.det f1
          subst e
          have s2 : SX X.K F1 P H1 ts tv σ (e1.set r.1 none) (Lr ++ Ls) := s1.weak fun b => by
            have := f3 b
            simp only [List.count_append, List.count_nil] at *
            omega
          obtain ⟨s3, up, inA, back⟩ := s2.prot
          have s4 : SX X.K F1 (wid P H1 Lr) H1 ts tv σ ((e1.set r.1 none).set i none) (Ls ++ []) := by rw [List.append_nil]; exact s3.drop i
          have s5 := SX.put (sl := .own sub) s4 (i := i) (by rw [List.getElem?_set_self (by rw [List.length_set]; exact c2)]) (.own (f2.mono (Same.refl F1) fun _ _ => rfl))
          rw [List.set_set] at s5
          have hlen : σ.length = e1.length := sr1.sx.len
          have hsi : (σ.set i (some v))[i]? = some (some v) := List.getElem?_set_self (by omega)
          have hsr : (σ.set i (some v))[r.1]? = some (some v0) := by rw [List.getElem?_set_ne c3]; exact hσ
          -- back to the whole tree
          have fin : ∀ {F' H' : Hp} {ts' : List V} {tv' : List TV} {σ' : St} {e' e2 : Ev}, Ext (wid P H1 Lr) F1 F' → PF (i :: r.1 :: pins) (σ.set i (some v)) σ' → Pq (σ.set i (some v)) ((e1.set r.1 none).set i (some (.own sub))) σ' e' → SR X.K F' (wid P H1 Lr) H' ts' tv' σ' e' → aliB i r ow e' = some e2 →
              Ext P F1 F' ∧ PF pins σ σ' ∧ Pq σ e1 σ' e2 ∧ SR X.K F' P H' ts' tv' σ' e2 := by
            intro F' H' ts' tv' σ' e' e2 x' pf pq sr' ha
            unfold aliB at ha
            split at ha
            · rename_i o' he'
              obtain ⟨o2, m1, m2⟩ := Option.map_eq_some_iff.mp ha
              have pq2 : Pq σ (e1.set r.1 none) σ' e' := by
                refine ⟨by have := pq.1; rw [List.length_set] at this; exact this, fun j d hj => ?_⟩
                have hji : i ≠ j := fun z => by subst z; rw [he'] at hj; cases hj
                obtain ⟨z1, z2⟩ := pq.2 j d hj
                rw [List.getElem?_set_ne hji] at z1 z2
                exact ⟨z1, z2⟩
              obtain ⟨y1, y2, y3⟩ := back F' H' ts' tv' σ' e' x' pq2 sr'
              obtain ⟨v1, L1, q1, q2, q3⟩ := y2.take he'
              have hv1 : σ'[i]? = some (some v) := (pf i (by simp)).trans hsi
              rw [hv1] at q1; cases q1
              have hv0 : σ'[r.1]? = some (some v0) := (pf r.1 (by simp)).trans hsr
              have hl' : e'.length = e1.length := by
                have l1 := sr'.sx.len
                have l2 := pq2.1
                omega
              cases q2 with
              | own q2 =>
                obtain ⟨o3, L'', p1, p2, p3⟩ := f4 F' H' (fun _ => some o') o' L1 rfl y1.up y3 q2
                rw [m1] at p1
                cases p1
                have t1 : SX X.K F' P H' ts' tv' σ' ((e'.set i none).set r.1 none) (L'' ++ []) := (q3.drop r.1).weak fun b => by
                  have := p3 b
                  simp only [List.count_append, List.count_nil] at *
                  omega
                have t2 := SX.back (sl := .own o2) t1 (by rw [List.getElem?_set_self (by rw [List.length_set]; omega)]) hv0 (.own p2)
                rw [List.set_set] at t2
                rw [m2] at t2
                refine ⟨y1, fun j hj => ?_, ⟨pq2.1, fun j d hj => ?_⟩, t2.sr⟩
                · have hji : i ≠ j := fun z => c1 (z ▸ hj)
                  have := pf j (by simp [hj])
                  rw [List.getElem?_set_ne hji] at this
                  exact this
                · rw [← m2] at hj
                  have hjr : r.1 ≠ j := fun z => by
                    subst z
                    rw [List.getElem?_set_self (by rw [List.length_set]; omega)] at hj; cases hj
                  rw [List.getElem?_set_ne hjr] at hj
                  have hji : i ≠ j := fun z => by
                    subst z
                    rw [List.getElem?_set_self (by omega)] at hj; cases hj
                  rw [List.getElem?_set_ne hji] at hj
                  obtain ⟨z1, z2⟩ := pq2.2 j d hj
                  rw [List.getElem?_set_ne hjr] at z1
                  exact ⟨z1, z2⟩
            · cases ha
          refine ⟨i :: r.1 :: pins, F1, wid P H1 Lr, ts, tv, _, s5.sr, hst, ?_⟩
          cases eb : rb (i :: r.1 :: pins) ((e1.set r.1 none).set i (some (.own sub))) with
          | bad => rw [eb] at k; exact k.elim
          | exc c e3 =>
            rw [eb] at k
            unfold aliR at k
            cases ha : aliB i r ow e3 with
            | none => dsimp only at k; rw [ha] at k; exact k.elim
            | some e2 =>
              dsimp only at k; rw [ha] at k
              intro F3 H3 σ3 x3 pf3 pq3 sr3
              obtain ⟨z1, z2, z3, z4⟩ := fin x3 pf3 pq3 sr3 ha
              exact k F3 H3 σ3 z1 z2 z3 z4
          | ok fl e3 =>
            rw [eb] at k
            unfold aliR at k
            cases ha : aliB i r ow e3 with
            | none => dsimp only at k; rw [ha] at k; exact k.elim
            | some e2 =>
              dsimp only at k; rw [ha] at k
              intro F3 H3 σ3 x3 pf3 pq3
              cases fl with
              | nx =>
                intro sr3
                obtain ⟨z1, z2, z3, z4⟩ := fin x3 pf3 pq3 sr3 ha
                exact k F3 H3 σ3 z1 z2 z3 z4
              | brk =>
                intro sr3
                obtain ⟨z1, z2, z3, z4⟩ := fin x3 pf3 pq3 sr3 ha
                exact k F3 H3 σ3 z1 z2 z3 z4
              | cont =>
                intro sr3
                obtain ⟨z1, z2, z3, z4⟩ := fin x3 pf3 pq3 sr3 ha
                exact k F3 H3 σ3 z1 z2 z3 z4
              | ret ox =>
                intro vr sr3
                obtain ⟨z1, z2, z3, z4⟩ := fin x3 pf3 pq3 sr3 ha
                exact k F3 H3 σ3 z1 z2 z3 vr z4
      · rw [if_neg hc] at k; exact k.elim
end
end TL
namespace TL
open PySem PySem.Spec L2
/-! ### parts of the text -/
def unCon : Expr → Option Const
  | .Constant c _ _ => some c
  | _ => none
theorem unCon_eq {e : Expr} {c : Const} (h : unCon e = some c) : ∃ k p, e = .Constant c k p := by
  unfold unCon at h; split at h <;> first | (cases h; exact ⟨_, _, rfl⟩) | cases h
def unName : Expr → Option Str
  | .Name x _ => some x
  | _ => none
theorem unName_eq {e : Expr} {c : Str} (h : unName e = some c) : ∃ p, e = .Name c p := by
  unfold unName at h; split at h <;> first | (cases h; exact ⟨_, rfl⟩) | cases h
def unBin : Expr → Option (Expr × Operator × Expr)
  | .BinOp a o b _ => some (a, o, b)
  | _ => none
theorem unBin_eq {e a b : Expr} {o : Operator} (h : unBin e = some (a, o, b)) : ∃ p, e = .BinOp a o b p := by
  unfold unBin at h; split at h <;> first | (cases h; exact ⟨_, rfl⟩) | cases h
def unUn : Expr → Option (UnaryOp × Expr)
  | .UnaryOp o a _ => some (o, a)
  | _ => none
theorem unUn_eq {e a : Expr} {o : UnaryOp} (h : unUn e = some (o, a)) : ∃ p, e = .UnaryOp o a p := by
  unfold unUn at h; split at h <;> first | (cases h; exact ⟨_, rfl⟩) | cases h
def unCmp : Expr → Option (Expr × CmpOp × Expr)
  | .Compare a [o] [b] _ => some (a, o, b)
  | _ => none
theorem unCmp_eq {e a b : Expr} {o : CmpOp} (h : unCmp e = some (a, o, b)) : ∃ p, e = .Compare a [o] [b] p := by
  unfold unCmp at h; split at h <;> first | (cases h; exact ⟨_, rfl⟩) | cases h
def unChn : Expr → Option (Expr × CmpOp × Expr × CmpOp × Expr)
  | .Compare a [o, q] [b, c] _ => some (a, o, b, q, c)
  | _ => none
theorem unChn_eq {e a b c : Expr} {o q : CmpOp} (h : unChn e = some (a, o, b, q, c)) : ∃ p, e = .Compare a [o, q] [b, c] p := by
  unfold unChn at h; split at h <;> first | (cases h; exact ⟨_, rfl⟩) | cases h
/-- and, or: the first part, the rest as one -/
def unBool : Expr → Option (BoolOp × Expr × Expr)
  | .BoolOp o (a :: b :: r) p => some (o, a, match r with
    | [] => b
    | _ => .BoolOp o (b :: r) p)
  | _ => none
theorem unBool_eq {e a b : Expr} {o : BoolOp} (h : unBool e = some (o, a, b)) : (∃ p, e = .BoolOp o [a, b] p) ∨ ∃ x y r p, e = .BoolOp o (a :: x :: y :: r) p ∧ b = .BoolOp o (x :: y :: r) p := by
  unfold unBool at h
  split at h
  · rename_i o' a' b' r p
    cases r with
    | nil => cases h; exact .inl ⟨_, rfl⟩
    | cons y r => cases h; exact .inr ⟨_, _, _, _, rfl, rfl⟩
  · cases h
def unIf : Expr → Option (Expr × Expr × Expr)
  | .IfExp c a b _ => some (c, a, b)
  | _ => none
theorem unIf_eq {e a b c : Expr} (h : unIf e = some (c, a, b)) : ∃ p, e = .IfExp c a b p := by
  unfold unIf at h; split at h <;> first | (cases h; exact ⟨_, rfl⟩) | cases h
def isSlc : Expr → Bool
  | .Slice .. => true
  | _ => false
def unSub : Expr → Option (Expr × Expr)
  | .Subscript a b _ => if isSlc b then none else some (a, b)
  | _ => none
theorem unSub_eq {e a b : Expr} (h : unSub e = some (a, b)) : (∃ p, e = .Subscript a b p) ∧ ∀ l h s p, b ≠ .Slice l h s p := by
  unfold unSub at h
  split at h
  · split at h
    · cases h
    · rename_i hb
      cases h
      exact ⟨⟨_, rfl⟩, fun l h s p e => by subst e; exact hb rfl⟩
  · cases h
def unSlc : Expr → Option (Expr × Option Expr × Option Expr)
  | .Subscript a (.Slice l h none _) _ => some (a, l, h)
  | _ => none
theorem unSlc_eq {e a : Expr} {l h : Option Expr} (hh : unSlc e = some (a, l, h)) : ∃ p q, e = .Subscript a (.Slice l h none q) p := by
  unfold unSlc at hh; split at hh <;> first | (cases hh; exact ⟨_, _, rfl⟩) | cases hh
def unTup : Expr → Option (List Expr)
  | .Tuple es _ _ => some es
  | _ => none
theorem unTup_eq {e : Expr} {c : List Expr} (h : unTup e = some c) : ∃ k p, e = .Tuple c k p := by
  unfold unTup at h; split at h <;> first | (cases h; exact ⟨_, _, rfl⟩) | cases h
def unLst : Expr → Option (List Expr)
  | .List es _ => some es
  | _ => none
theorem unLst_eq {e : Expr} {c : List Expr} (h : unLst e = some c) : ∃ p, e = .List c p := by
  unfold unLst at h; split at h <;> first | (cases h; exact ⟨_, rfl⟩) | cases h
/-- a call of a name, with an argument -/
def unCall : Expr → Option (Str × Expr × List Expr)
  | .Call (.Name x _) (a :: as) [] _ => some (x, a, as)
  | _ => none
theorem unCall_eq {e a : Expr} {x : Str} {as : List Expr} (h : unCall e = some (x, a, as)) : ∃ p q, e = .Call (.Name x p) (a :: as) [] q := by
  unfold unCall at h; split at h <;> first | (cases h; exact ⟨_, _, rfl⟩) | cases h
def isNC : Expr → Bool
  | .Call (.Name _ _) [] [] _ => true
  | _ => false
/-- a method's call, one argument -/
def unMet : Expr → Option (Expr × Str × Expr)
  | .Call (.Attribute a m ap) [b] [] p => if (ap.endLine == p.line) && !isNC a then some (a, m, b) else none
  | _ => none
theorem unMet_eq {e a b : Expr} {m : Str} (h : unMet e = some (a, m, b)) : ∃ p q, e = .Call (.Attribute a m p) [b] [] q ∧ (p.endLine == q.line) = true ∧ ∀ id p q, a ≠ .Call (.Name id p) [] [] q := by
  unfold unMet at h
  split at h
  · split at h
    · rename_i hc
      cases h
      rw [Bool.and_eq_true_iff] at hc
      exact ⟨_, _, rfl, hc.1, fun id p q e => by subst e; simp [isNC] at hc⟩
    · cases h
  · cases h
/-- d.get(k, x) -/
def unGet : Expr → Option (Expr × Expr × Expr)
  | .Call (.Attribute a m ap) [b, c] [] p => if (ap.endLine == p.line) && !isNC a && decide (m = "get") then some (a, b, c) else none
  | _ => none
theorem unGet_eq {e a b c : Expr} (h : unGet e = some (a, b, c)) : ∃ p q, e = .Call (.Attribute a "get" p) [b, c] [] q ∧ (p.endLine == q.line) = true ∧ ∀ id p q, a ≠ .Call (.Name id p) [] [] q := by
  unfold unGet at h
  split at h
  · split at h
    · rename_i hc
      cases h
      simp only [Bool.and_eq_true, decide_eq_true_eq] at hc
      obtain ⟨⟨h1, h2⟩, rfl⟩ := hc
      exact ⟨_, _, rfl, h1, fun id p q e => by subst e; simp [isNC] at h2⟩
    · cases h
  · cases h
def isD0 : Expr → Bool
  | .Dict [] [] _ => true
  | _ => false
theorem isD0_eq {e : Expr} (h : isD0 e = true) : ∃ p, e = .Dict [] [] p := by
  unfold isD0 at h; split at h <;> first | exact ⟨_, rfl⟩ | cases h
def dinOp (neg : Bool) : CmpOp := if neg then .NotIn else .In
def unLc : Expr → Option (Expr × Expr × Expr × List Expr × Scope)
  | .ListComp elt [⟨tg, it, ifs, 0⟩] sc _ => some (elt, tg, it, ifs, sc)
  | _ => none
theorem unLc_eq {e a b c : Expr} {i : List Expr} {s : Scope} (h : unLc e = some (a, b, c, i, s)) : ∃ p, e = .ListComp a [⟨b, c, i, 0⟩] s p := by
  unfold unLc at h; split at h <;> first | (cases h; exact ⟨_, rfl⟩) | cases h
def nst : Expr → Bool
  | .Starred .. => false
  | _ => true
theorem nst_ne {e : Expr} (h : nst e = true) : ∀ x p, e ≠ .Starred x p := fun x p z => by subst z; cases h
def isSet : Expr → Bool
  | .Set .. => true
  | _ => false
theorem folded_id {e : Expr} {env : PySem.Env} (h : isSet e = false) : ∀ x, foldedSetIterable e env x = pure x := fun x => by
  unfold foldedSetIterable
  cases e <;> first | rfl | cases h
def isTup : Expr → Bool
  | .Tuple .. => true
  | _ => false
mutual
def beqD : D → D → Bool
  | .none, .none => true
  | .bool a, .bool b => a == b
  | .int a, .int b => decide (a = b)
  | .str a, .str b => decide (a = b)
  | .list a, .list b => beqDs a b
  | .tuple a, .tuple b => beqDs a b
  | .dict a, .dict b => beqDk a b
  | _, _ => false
def beqDs : List D → List D → Bool
  | [], [] => true
  | a :: as, b :: bs => beqD a b && beqDs as bs
  | _, _ => false
def beqDk : List (D × D) → List (D × D) → Bool
  | [], [] => true
  | (a, c) :: as, (b, d) :: bs => beqD a b && beqD c d && beqDk as bs
  | _, _ => false
end
mutual
theorem beqD_eq : ∀ {a b : D}, beqD a b = true → a = b
  | .none, b, h => by cases b <;> simp [beqD] at h <;> rfl
  | .bool a, b, h => by cases b <;> simp [beqD] at h; rw [h]
  | .int a, b, h => by cases b <;> simp [beqD] at h; rw [h]
  | .str a, b, h => by cases b <;> simp [beqD] at h; rw [h]
  | .list a, b, h => by cases b <;> simp [beqD] at h; rw [beqDs_eq h]
  | .tuple a, b, h => by cases b <;> simp [beqD] at h; rw [beqDs_eq h]
  | .dict a, b, h => by cases b <;> simp [beqD] at h; rw [beqDk_eq h]
theorem beqDs_eq : ∀ {a b : List D}, beqDs a b = true → a = b
  | [], b, h => by cases b <;> simp [beqDs] at h <;> rfl
  | a :: as, b, h => by
    cases b with
    | nil => simp [beqDs] at h
    | cons b bs =>
      simp only [beqDs, Bool.and_eq_true] at h
      rw [beqD_eq h.1, beqDs_eq h.2]
theorem beqDk_eq : ∀ {a b : List (D × D)}, beqDk a b = true → a = b
  | [], b, h => by cases b <;> simp [beqDk] at h <;> rfl
  | (a, c) :: as, b, h => by
    cases b with
    | nil => simp [beqDk] at h
    | cons b bs =>
      obtain ⟨b, d⟩ := b
      simp only [beqDk, Bool.and_eq_true] at h
      rw [beqD_eq h.1.1, beqD_eq h.1.2, beqDk_eq h.2]
end
/-! ### what is known of the names -/
structure MC where
  N : List Str
  sc : Scope
  inf : Bool
  nm : Nat → Option Str
  fre : List Str
  gls : List (Str × D)
  exs : Nat → Option Str
  dfl : Nat → Option D
  sub : Nat → List Nat
/-- the defaults that a call leaves to the def -/
def dflB (m : MC) (id : Nat) (dl : List D) : Bool := match dl with
  | [] => true
  | [d] => match m.dfl id with
    | some d' => beqD d d'
    | none => false
  | _ => false
def glB (m : MC) (x : Str) : Bool := decide (m.sc.names.lookup x = some .globalImplicit) && !(x == ("__debug__" : Str))
def visB (m : MC) (i : Nat) (x : Str) : Bool := decide (m.N[i]? = some x) && (match m.sc.names.lookup x with
  | some .local => true
  | some .cell => true
  | some .free => true
  | _ => false) && !(x == ("__debug__" : Str)) && !(x == ("__classdict__" : Str))
def locB (m : MC) (i : Nat) (x : Str) : Bool := decide (m.N[i]? = some x) && (match m.sc.names.lookup x with
  | some .local => true
  | some .cell => m.inf
  | _ => false)
def freB (m : MC) (x : Str) : Bool := glB m x && m.fre.contains x
def conB (d : D) (c : Const) : Bool := match d, c with
  | .none, .none => true
  | .bool a, .bool b => a == b
  | .int a, .int b => decide (a = b)
  | .str a, .str b => decide (a = b)
  | _, _ => false
def MC.blk (m : MC) (sc : Scope) : MC := { m with sc := relS sc m.sc, inf := false }
def ownN (m : MC) (own : List Nat) : List (Str × Nat) := own.map fun i => ((m.N[i]?).getD "", i)
theorem ownN_snd (m : MC) (own : List Nat) : (ownN m own).map (·.2) = own := by
  unfold ownN; rw [List.map_map]
  induction own with
  | nil => rfl
  | cons i r ih => simp only [List.map_cons, ih, Function.comp]
/-! ### targets -/
mutual
def matchT : Tg → MC → Expr → Bool
  | .nm i, m, e => match unName e with
    | some x => locB m i x
    | none => false
  | .tp ts, m, e => match unTup e with
    | some es => matchTs ts m es
    | none => false
def matchTs : List Tg → MC → List Expr → Bool
  | [], _, [] => true
  | t :: ts, m, e :: es => matchT t m e && nst e && matchTs ts m es
  | _, _, _ => false
end
/-- what an iteration is over -/
def itArgs (k : Ik) (tg iter : Expr) : Option (List Expr) := match k with
  | .sq => if isSet iter then none else some [iter]
  | .rng => match unCall iter with
    | some (x, a, as) => if decide (x = "range") && decide (as.length ≤ 2) then some (a :: as) else none
    | none => none
  | .enm => match unCall iter with
    | some (x, a, as) => if decide (x = "enumerate") && decide (as.length = 0) && isTup tg then some (a :: as) else none
    | none => none
  | .zip => match unCall iter with
    | some (x, a, as) => if decide (x = "zip") && decide (as.length = 1) && isTup tg then some (a :: as) else none
    | none => none
def itFre (k : Ik) (m : MC) : Bool := match k with
  | .sq => true
  | .rng => freB m "range"
  | .enm => freB m "enumerate"
  | .zip => freB m "zip"
/-- what may stand as a test -/
def tstOk : E → Bool
  | .and a b => tstOk a && tstOk b
  | .or a b => tstOk a && tstOk b
  | .not a => tstOk a
  | .ite _ _ _ => false
  | _ => true
/-- what may be frozen as it is told -/
def fznOk : Expr → Bool
  | .Call .. => true
  | .Tuple .. => true
  | .BinOp .. => true
  | .List .. => true
  | .Subscript .. => true
  | _ => false
/-- what may be read with all frozen -/
def dpOk : Expr → Bool
  | .Call .. => true
  | .Compare .. => true
  | _ => false
def isNul : E → Bool
  | .nul => true
  | _ => false
def bsNone : List Md → Bool
  | [] => true
  | .io :: _ => false
  | _ :: r => bsNone r
mutual
def matchE : E → MC → Expr → Bool
  | .con d, m, e => match unCon e with
    | some c => conB d c
    | none => false
  | .var i, m, e => match unName e with
    | some x => visB m i x
    | none => false
  | .glb x d, m, e => match unName e with
    | some y => decide (x = y) && glB m x && m.gls.any fun p => decide (p.1 = x) && beqD p.2 d
    | none => false
  | .bin op a b, m, e => match unBin e with
    | some (x, o, y) => decide (o = op) && matchE a m x && matchE b m y
    | none => false
  | .fzn a, m, e => fznOk e && matchE a m e
  | .fzi a, m, e => fznOk e && matchE a m e
  | .dp a, m, e => dpOk e && tstOk a && matchE a m e
  | .neg a, m, e => match unUn e with
    | some (o, x) => decide (o = .USub) && matchE a m x
    | none => false
  | .cmp op a b, m, e => match unCmp e with
    | some (x, o, y) => decide (o = op) && !behindInMarks op y && matchE a m x && matchE b m y
    | none => false
  | .chn op op' a b c, m, e => match unChn e with
    | some (x, o, y, q, z) => decide (o = op) && decide (q = op') && !lastMarks [o, q] [y, z] && matchE a m x && matchE b m y && matchE c m z
    | none => false
  | .and a b, m, e => match unBool e with
    | some (o, x, y) => decide (o = .And) && matchE a m x && matchE b m y
    | none => false
  | .or a b, m, e => match unBool e with
    | some (o, x, y) => decide (o = .Or) && matchE a m x && matchE b m y
    | none => false
  | .not a, m, e => match unUn e with
    | some (o, x) => decide (o = .Not) && matchE a m x
    | none => false
  | .ite c a b, m, e => match unIf e with
    | some (z, x, y) => tstOk c && matchE c m z && matchE a m x && matchE b m y
    | none => false
  | .ix a b, m, e => match unSub e with
    | some (x, y) => matchE a m x && matchE b m y
    | none => false
  | .slc a lo hi, m, e => match unSlc e with
    | some (x, l, h) => matchE a m x && (match l with
        | none => isNul lo
        | some y => !isNul lo && matchE lo m y) && (match h with
        | none => isNul hi
        | some y => !isNul hi && matchE hi m y)
    | none => false
  | .tup es, m, e => match unTup e with
    | some xs => decide (es.length ≤ 1000) && matchL es m xs
    | none => false
  | .lst es, m, e => match unLst e with
    | some xs => decide (es.length ≤ 1000) && matchL es m xs
    | none => false
  | .call id ms es dl, m, e => match unCall e with
    | some (x, a, as) => decide (m.nm id = some x) && glB m x && dflB m id dl && matchL es m (a :: as)
    | none => false
  | .cio id ms es, m, e => match unCall e with
    | some (x, a, as) => decide (m.nm id = some x) && glB m x && matchL es m (a :: as)
    | none => false
  | .cfr id ms es, m, e => match unCall e with
    | some (x, a, as) => decide (m.nm id = some x) && glB m x && matchL es m (a :: as)
    | none => false
  | .blt f es, m, e => match unCall e with
    | some (x, a, as) => decide (x = Str.ofString (bltN f)) && freB m x && matchL es m (a :: as)
    | none => false
  | .isi a t, m, e => match unCall e with
    | some (x, y, [z]) => decide (x = "isinstance") && freB m x && (match unName z with
        | some z => decide (z = Str.ofString (askN t)) && freB m z
        | none => false) && nst y && matchE a m y
    | _ => false
  | .met b x y, m, e => match unMet e with
    | some (u, z, v) => decide (z = metN b) && nst v && matchE x m u && matchE y m v
    | none => false
  | .idx x y, m, e => match unMet e with
    | some (u, z, v) => decide (z = "index") && nst v && matchE x m u && matchE y m v
    | none => false
  | .lc own t k src c elt, m, e => match unLc e with
    | some (el, tg, it, ifs, sc) => (match itArgs k tg it with
        | some args => itFre k m && matchL src m args
        | none => false) && !isSet it && blkC m.N m.sc sc (ownN m own) && matchT t (m.blk sc) tg && (match ifs with
        | [] => isNul c
        | [z] => !isNul c && tstOk c && matchE c (m.blk sc) z
        | _ => false) && matchE elt (m.blk sc) el
    | none => false
  | .dnk, _, e => isD0 e
  | .dnt, _, e => isD0 e
  | .din neg a b, m, e => match unCmp e with
    | some (x, o, y) => decide (o = dinOp neg) && !behindInMarks (dinOp neg) y && matchE a m x && matchE b m y
    | none => false
  | .dix a b, m, e => match unSub e with
    | some (x, y) => matchE a m x && matchE b m y
    | none => false
  | .dgt a b c, m, e => match unGet e with
    | some (x, y, z) => nst y && nst z && matchE a m x && matchE b m y && matchE c m z
    | none => false
  | .mv i, m, e => match unName e with
    | some x => visB m i x
    | none => false
  | .dcp a, m, e => match unCall e with
    | some (x, y, []) => decide (x = "dict") && freB m x && nst y && matchE a m y
    | _ => false
  | _, _, _ => false
def matchL : List E → MC → List Expr → Bool
  | [], _, [] => true
  | x :: xs, m, e :: es => matchE x m e && nst e && matchL xs m es
  | _, _, _ => false
end
end TL
namespace TL
open PySem PySem.Spec L2
/-- what is known of the classes, of a raised one -/
structure HC (m : MC) (w : WC) (X : Cx) (c : Nat) : Prop where
  C : ExcC X.K (w.cad c)
  ve : PySem.W.kitOne X.K (.ref (w.cad c)) (.type "ValueError") = some true
  cl : ∀ n y, m.exs n = some y → X.mg y = some (.ref (w.cad n)) ∧ PySem.W.kitOne X.K (.ref (w.cad c)) (.ref (w.cad n)) = some ((m.sub n).contains c)
  ex : ∀ n y, m.exs n = some y → PySem.W.exmOne X.K (.ref (w.cad c)) (.ref (w.cad n)) = some ((m.sub n).contains c)
/-- a context of which so much is known -/
structure XC (m : MC) (cf : CF) (w : WC) (X : Cx) : Prop where
  N : X.N = m.N
  nd : m.N.Nodup
  sc : X.env.scope = m.sc
  cm : X.calm = true
  fn : m.inf = true → ∀ x, X.fn x = true
  un : X.A.units + 64 < cLine
  fre : ∀ x ∈ m.fre, X.mg x = none
  gls : ∀ p ∈ m.gls, ∃ v u, X.mg p.1 = some u ∧ RelV v u ∧ ∀ F, Is X.K F p.2 v
  tk : Takes X w.W
  exc : ∀ c x, m.exs c = some x → X.mg x = some (.ref (w.cad c)) ∧ PySem.W.excIn X.K (w.cad c) He.veBase "ValueError.__new__" = true ∧ PySem.W.keepIn X.K (.ref (w.cad c)) = true ∧ PySem.W.subIn X.K (.ref (w.cad c)) (.type "BaseException") = some true ∧ PySem.W.typeIn X.K (.ref (w.cad c)) = some (.type "type")
  hx : ∀ c y, m.exs c = some y → HC m w X c
  call : ∀ id x, m.nm id = some x → ∃ k f fd ps, FnOk X.prog X.w X.K X.mg X.base (L2.CX X.prog X.w) k f fd ps (spK X.K w.cad cf id) ∧ Room k X.A ∧ X.mg x = some (.ref f) ∧ PySem.W.keepIn X.K (.ref f) = true ∧ Binds X.K fd ps [] ∧ ∀ d, m.dfl id = some d → ∃ v u, Vals [v] [u] ∧ (∀ F, Is X.K F d v) ∧ Binds X.K fd ps [u]
section
variable {m : MC} {cf : CF} {w : WC} {X : Cx}
theorem XC.blk (x : XC m cf w X) {sc : Scope} (s : Shared) (H : Hp) (C : Addr) (cl : List (Str × Addr)) (fp : List Addr) :
    XC (m.blk sc) cf ⟨fun _ _ _ _ => False, w.cad⟩ (X.blk s H sc (compEnvC sc cl C X.env) fp) :=
  ⟨x.N, x.nd, by rw [MC.blk, ← x.sc]; rfl, x.cm, fun h => (by cases h), x.un, x.fre, x.gls, takes0, fun c y h => x.exc c y h, fun c y h => let z := x.hx c y h; ⟨z.C, z.ve, z.cl, z.ex⟩, fun id y h => x.call id y h⟩
theorem XC.gl (x : XC m cf w X) {y : Str} (h : glB m y = true) : Gl X y ∧ (y == ("__debug__" : Str)) = false := by
  unfold glB at h
  simp only [Bool.and_eq_true, decide_eq_true_eq, Bool.not_eq_true'] at h
  refine ⟨?_, h.2⟩
  show X.env.scope.names.lookup y = _
  rw [x.sc]
  exact h.1
theorem XC.free (x : XC m cf w X) {y : Str} (h : freB m y = true) : Gl X y ∧ X.mg y = none := by
  unfold freB at h
  simp only [Bool.and_eq_true, List.contains_iff_mem] at h
  exact ⟨(x.gl h.1).1, x.fre y h.2⟩
theorem XC.vis (x : XC m cf w X) {i : Nat} {y : Str} (h : visB m i y = true) : X.N[i]? = some y ∧ Vis X.env.scope y ∧ (y == ("__debug__" : Str)) = false ∧ (y == ("__classdict__" : Str)) = false := by
  unfold visB at h
  simp only [Bool.and_eq_true, decide_eq_true_eq, Bool.not_eq_true'] at h
  obtain ⟨⟨⟨h1, h2⟩, h3⟩, h4⟩ := h
  refine ⟨by rw [x.N]; exact h1, ?_, h3, h4⟩
  rw [x.sc]
  split at h2 <;> first | exact .inl (by assumption) | exact .inr (.inl (by assumption)) | exact .inr (.inr (by assumption)) | cases h2
theorem XC.loc (x : XC m cf w X) {i : Nat} {y : Str} (h : locB m i y = true) : X.N[i]? = some y ∧ Loc X.env.scope y ∧ (X.fn y = true ∨ X.env.scope.names.lookup y = some .local) := by
  unfold locB at h
  simp only [Bool.and_eq_true, decide_eq_true_eq] at h
  obtain ⟨h1, h2⟩ := h
  refine ⟨by rw [x.N]; exact h1, ?_⟩
  rw [x.sc]
  split at h2
  · rename_i hl
    exact ⟨.inl hl, .inr hl⟩
  · rename_i hl
    exact ⟨.inr hl, .inl (x.fn h2 y)⟩
  · cases h2
theorem assignEach_len {env : PySem.Env} : ∀ {es : List Expr}, (assignEach es env).length = es.length
  | [] => rfl
  | e :: es => by cases e <;> simp [assignEach, assignEach_len (es := es)]
theorem assignEach_cons {env : PySem.Env} {e : Expr} {es : List Expr} (h : nst e = true) : assignEach (e :: es) env = (false, assign e env) :: assignEach es env := by
  cases e <;> first | rfl | cases h
theorem matchTs_nst {env : PySem.Env} : ∀ {ts : List Tg} {es : List Expr}, matchTs ts m es = true → (assignEach es env).findIdx? (·.1) = none ∧ es.length = ts.length
  | [], [], _ => ⟨rfl, rfl⟩
  | t :: ts, e :: es, h => by
    simp only [matchTs, Bool.and_eq_true] at h
    obtain ⟨h1, h2⟩ := matchTs_nst (env := env) h.2
    rw [assignEach_cons h.1.2]
    refine ⟨?_, by simp [h2]⟩
    rw [List.findIdx?_cons]
    simp [h1]
  | [], _ :: _, h => by simp [matchTs] at h
  | _ :: _, [], h => by simp [matchTs] at h
theorem asgTs_lens {pins : List Nat} : ∀ {ts : List Tg} {os : List O} {e e' : Ev}, asgTs pins ts os e = some e' → os.length = ts.length
  | [], [], _, _, _ => rfl
  | t :: ts, o :: os, e, e', h => by
    simp only [asgTs] at h
    split at h
    · simp [asgTs_lens h]
    · cases h
  | [], _ :: _, _, _, h => by simp [asgTs] at h
  | _ :: _, [], _, _, h => by simp [asgTs] at h
mutual
theorem snd_T : ∀ (t : Tg) {m : MC} {e : Expr} {w : WC} {X : Cx} (pins : List Nat), matchT t m e = true → XC m cf w X → PG X e (gT X.K pins t)
  | .nm i, m, e, w, X, pins, h, x => by
    simp only [matchT] at h
    split at h
    · rename_i y hu
      obtain ⟨p, rfl⟩ := unName_eq hu
      obtain ⟨h1, h2, h3⟩ := x.loc h
      exact so_nm (by rw [x.N]; exact x.nd) h1 h2 h3
    · cases h
  | .tp ts, m, e, w, X, pins, h, x => by
    simp only [matchT] at h
    split at h
    · rename_i es hu
      obtain ⟨k, p, rfl⟩ := unTup_eq hu
      obtain ⟨h1, h2⟩ := matchTs_nst (env := X.env) h
      exact so_tp x.cm (snd_Ts ts pins h x) (by rw [assignEach_len]; exact h2) h1 fun os e e' q => asgTs_lens q
    · cases h
theorem snd_Ts : ∀ (ts : List Tg) {m : MC} {es : List Expr} {w : WC} {X : Cx} (pins : List Nat), matchTs ts m es = true → XC m cf w X → PGs X es (gTs X.K pins ts)
  | [], m, [], w, X, pins, h, x => so_gnil
  | t :: ts, m, e :: es, w, X, pins, h, x => by
    simp only [matchTs, Bool.and_eq_true] at h
    exact so_gcons (snd_T t pins h.1.1 x) (snd_Ts ts pins h.2 x) (by rw [assignEach_cons h.1.2]; rfl)
  | [], _, _ :: _, _, _, _, h, _ => by simp [matchTs] at h
  | _ :: _, _, [], _, _, _, h, _ => by simp [matchTs] at h
end
/-! ### iterations -/
theorem pi_sqP {tg l : Expr} {te : TE} (hl : PE X l te) : PI X tg l fun σ H R => te σ H fun v H1 => WR X.K .sq [v] H1 R := by
  refine ⟨fun pins s σ H R I h => ?_⟩
  refine thn (hl.run pins s σ H _ I h) fun u s1 h1 => ?_
  obtain ⟨y, H1, I1, r1, q⟩ := h1
  have fp0 : ∀ b ∈ [s1.heap.objs.size], FpOk X pins H1 b := fun b hb => by
    rw [List.mem_singleton.mp hb]
    exact I1.fpOk (Nat.le_refl _) (I1.hok.fresh (Nat.le_refl _))
  rcases q with ⟨a, e1, ⟨xs, sq⟩, hR⟩ | ⟨a, e1, ⟨xs, sq⟩, hR⟩ | ⟨z, e1, hR⟩
  · have e2 : y = .ref a := (List.cons.inj e1).1
    subst e2; cases r1
    obtain ⟨its, rv, hp, hz⟩ := I1.list sq
    refine wpAny_pyIter_list hp.isList ⟨s1.heap.objs.size, [s1.heap.objs.size], _, _, H1, rfl, ?_, turn_list a _, ⟨_, Heap.get?_push_size _ rfl, rfl, rfl⟩, fp0, hR⟩
    exact I1.kept (t' := s1.toks) fun b o e => Heap.get?_push_of_some _ e
  · have e2 : y = .ref a := (List.cons.inj e1).1
    subst e2; cases r1
    obtain ⟨its, rv, hp, hz⟩ := I1.tuple sq
    have hp : s1.heap.IsTuple a its.toArray := hp
    refine wpAny_pyIter_tuple hp ⟨s1.heap.objs.size, [s1.heap.objs.size], _, _, H1, rfl, ?_, turn_tuple a _, ⟨_, Heap.get?_push_size _ rfl, rfl, rfl⟩, fp0, hR⟩
    exact I1.kept (t' := s1.toks) fun b o e => Heap.get?_push_of_some _ e
  · have e2 : y = .str z := (List.cons.inj e1).1
    subst e2
    obtain ⟨t, rfl⟩ := r1
    cases hA : z.cps.all (· < 128) with
    | true => exact wpAny_pyIter_ascii hA (pi_one (tk := s1.toks) I1 _ (turn_str _ z t "str_ascii_iterator" (.inl rfl)) ⟨_, Heap.get?_push_size _ rfl, rfl, rfl⟩ hR)
    | false => exact wpAny_pyIter_wide hA (pi_one (tk := s1.toks) I1 _ (turn_str _ z t "str_iterator" (.inr rfl)) ⟨_, Heap.get?_push_size _ rfl, rfl, rfl⟩ hR)
theorem PI.imp' {tg e : Expr} {t t' : TI} (h : PI X tg e t) (k : ∀ σ H Q, t' σ H Q → t σ H Q) : PI X tg e t' := PI.imp h k
theorem backTo_false {pos : Pos} {env : PySem.Env} : ∀ {es : List Expr}, (∀ e ∈ es, nst e = true) → (backTo pos (starEach es env)).any (·.1) = false := by
  intro es h
  have : ∀ es : List Expr, (∀ e ∈ es, nst e = true) → (starEach es env).any (·.1) = false := by
    intro es
    induction es with
    | nil => intro _; rfl
    | cons e es ih =>
      intro h
      rw [starEach_cons (nst_ne (h e (by simp)))]
      simp [ih fun z hz => h z (by simp [hz])]
  have h1 := this es h
  unfold backTo
  simpa using h1
/-- lists of one, of two -/
theorem WR.rng1 {K : PySem.W.Frag} {vs : List V} {H : Hp} {R : It → Hp → Prop} (hl : vs.length = 1) (h : WR K .rng vs H R) : ∃ j : Int, vs = [.int j] ∧ -(2 ^ 62) ≤ j ∧ j < 2 ^ 62 ∧ R (Itr 0 j.toNat) H := by
  rcases h with h | ⟨i, j, e, _⟩ | ⟨i, j, e, _⟩
  · exact h
  · subst e; cases hl
  · subst e; cases hl
theorem WR.rng2 {K : PySem.W.Frag} {vs : List V} {H : Hp} {R : It → Hp → Prop} (hl : vs.length = 2) (h : WR K .rng vs H R) : ∃ i j : Int, vs = [.int i, .int j] ∧ (-(2 ^ 62) ≤ i ∧ i < 2 ^ 62 ∧ -(2 ^ 62) ≤ j ∧ j < 2 ^ 62) ∧ R (Itr i (j - i).toNat) H := by
  rcases h with ⟨j, e, _⟩ | h | ⟨i, j, e, _⟩
  · subst e; cases hl
  · exact h
  · subst e; cases hl
theorem WR.rng3 {K : PySem.W.Frag} {vs : List V} {H : Hp} {R : It → Hp → Prop} (hl : vs.length = 3) (h : WR K .rng vs H R) : ∃ (i j c : Int) (n : Nat), vs = [.int i, .int j, .int c] ∧ RgC i j c n ∧ R (Itc i c n) H := by
  rcases h with ⟨j, e, _⟩ | ⟨i, j, e, _⟩ | ⟨i, j, e, ⟨a, b, c, d⟩, q⟩
  · subst e; cases hl
  · subst e; cases hl
  · exact ⟨i, j, -1, _, e, RgC.neg a b c d, q⟩
/-- over the arguments as one likes to read them; tA their reading, of n values -/
theorem pi_args {k : Ik} {tg iter : Expr} {args : List Expr} {tA : TA} (hk : k ≠ .sq) (h : itArgs k tg iter = some args) (hf : itFre k m = true) (x : XC m cf w X) (hn : ∀ e ∈ args, nst e = true)
    (ha : PA X args tA) (hlen : ∀ σ H (Q Q' : List V → Hp → Prop), (∀ vs H1, vs.length = args.length → Q vs H1 → Q' vs H1) → tA σ H Q → tA σ H Q') :
    PI X tg iter fun σ H R => tA σ H fun vs H1 => WR X.K k vs H1 R := by
  cases k with
  | sq => exact absurd rfl hk
  | rng =>
    simp only [itArgs] at h
    split at h
    · rename_i y a as hu
      obtain ⟨p, q, rfl⟩ := unCall_eq hu
      split at h
      · rename_i hc
        simp only [Bool.and_eq_true, decide_eq_true_eq] at hc
        obtain ⟨rfl, hc⟩ := hc
        cases h
        obtain ⟨hg, hm⟩ := x.free hf
        cases as with
        | nil => exact PI.imp (pi_range1 hg hm ha (starEach_cons (nst_ne (hn a (by simp))))) fun σ H R h => hlen σ H _ _ (fun vs H1 l z => WR.rng1 l z) h
        | cons b r =>
          cases r with
          | nil =>
            have hb : starEach [b] X.env = [(false, eval b X.env)] := starEach_cons (nst_ne (hn b (by simp)))
            exact PI.imp (pi_range2 hg hm ha (by rw [starEach_cons (nst_ne (hn a (by simp))), hb]) hb) fun σ H R h => hlen σ H _ _ (fun vs H1 l z => WR.rng2 l z) h
          | cons c r =>
            cases r with
            | nil =>
              have hb : starEach [b, c] X.env = [(false, eval b X.env), (false, eval c X.env)] := by
                rw [starEach_cons (nst_ne (hn b (by simp))), starEach_cons (nst_ne (hn c (by simp)))]
                rfl
              refine PI.imp (pi_range3 hg hm ha (starEach_cons (nst_ne (hn a (by simp)))) (backTo_false fun z hz => hn z (by simp only [List.mem_cons] at hz ⊢; exact .inr hz))) fun σ H R h => hlen σ H _ _ (fun vs H1 l z => WR.rng3 l z) h
            | cons _ _ => simp at hc
      · cases h
    · cases h
  | enm =>
    simp only [itArgs] at h
    split at h
    · rename_i y a as hu
      obtain ⟨p, q, rfl⟩ := unCall_eq hu
      split at h
      · rename_i hc
        simp only [Bool.and_eq_true, decide_eq_true_eq] at hc
        obtain ⟨⟨rfl, hc⟩, ht⟩ := hc
        cases h
        have := List.length_eq_zero_iff.mp hc
        subst this
        obtain ⟨hg, hm⟩ := x.free hf
        cases tg <;> first | exact pi_enum hg hm ha (starEach_cons (nst_ne (hn a (by simp)))) | cases ht
      · cases h
    · cases h
  | zip =>
    simp only [itArgs] at h
    split at h
    · rename_i y a as hu
      obtain ⟨p, q, rfl⟩ := unCall_eq hu
      split at h
      · rename_i hc
        simp only [Bool.and_eq_true, decide_eq_true_eq] at hc
        obtain ⟨⟨rfl, hc⟩, ht⟩ := hc
        cases h
        obtain ⟨b, rfl⟩ := List.length_eq_one_iff.mp hc
        obtain ⟨hg, hm⟩ := x.free hf
        have hb : starEach [b] X.env = [(false, eval b X.env)] := starEach_cons (nst_ne (hn b (by simp)))
        cases tg <;> first | exact pi_zip hg hm ha (starEach_cons (nst_ne (hn a (by simp)))) (by rw [hb]; rfl) | cases ht
      · cases h
    · cases h
theorem matchL_nst : ∀ {es : List E} {xs : List Expr}, matchL es m xs = true → (∀ e ∈ xs, nst e = true) ∧ xs.length = es.length
  | [], [], _ => ⟨fun e he => by simp at he, rfl⟩
  | x :: xs, e :: es, h => by
    simp only [matchL, Bool.and_eq_true] at h
    obtain ⟨h1, h2⟩ := matchL_nst h.2
    refine ⟨fun z hz => ?_, by simp [h2]⟩
    rcases List.mem_cons.mp hz with e | hz
    · rw [e]; exact h.1.2
    · exact h1 z hz
  | [], _ :: _, h => by simp [matchL] at h
  | _ :: _, [], h => by simp [matchL] at h
end
end TL
namespace TL
open PySem PySem.Spec L2
theorem evalTs_len {cf : CF} : ∀ {es : List E} {e e' : Ev} {us : List TV}, evalTs cf es e = .ok us e' → us.length = es.length
  | [], e, e', us, h => by simp only [evalTs] at h; cases h; rfl
  | x :: xs, e, e', us, h => by
    simp only [evalTs] at h
    cases h1 : evalE cf x e with
    | ok t e1 =>
      rw [h1] at h
      simp only [R.bd_ok] at h
      cases h2 : evalTs cf xs e1 with
      | ok ts e2 => rw [h2] at h; cases h; simp [evalTs_len h2]
      | exc c e2 => rw [h2] at h; cases h
      | bad => rw [h2] at h; cases h
    | exc c e1 => rw [h1] at h; cases h
    | bad => rw [h1] at h; cases h
theorem evalSts_len {cf : CF} : ∀ {es : List E} {e e' : Ev} {us : List O}, evalSts cf es e = .ok us e' → us.length = es.length
  | [], e, e', us, h => by simp only [evalSts] at h; cases h; rfl
  | x :: xs, e, e', us, h => by
    simp only [evalSts] at h
    cases h1 : stv x (evalE cf x e) e with
    | ok t e1 =>
      rw [h1] at h
      simp only [R.bd_ok] at h
      cases h2 : evalSts cf xs e1 with
      | ok ts e2 => rw [h2] at h; cases h; simp [evalSts_len h2]
      | exc c e2 => rw [h2] at h; cases h
      | bad => rw [h2] at h; cases h
    | exc c e1 => rw [h1] at h; cases h
    | bad => rw [h1] at h; cases h
theorem evalAs_F {cf : CF} : ∀ {ms : List Md} {es : List E} {e e' : Ev} {us : List AV}, evalAs cf ms es e = .ok us e' → ∀ a ∈ us, isF a = true
  | [], [], e, e', us, h => by simp only [evalAs] at h; cases h; intro a ha; simp at ha
  | .f :: ms, x :: xs, e, e', us, h => by
    simp only [evalAs] at h
    cases h1 : stv x (evalE cf x e) e with
    | ok t e1 =>
      rw [h1] at h
      simp only [R.bd_ok] at h
      cases h3 : frzO t with
      | none => rw [h3] at h; cases h
      | some d =>
        rw [h3] at h
        dsimp only at h
        cases h2 : evalAs cf ms xs e1 with
        | ok ts e2 =>
          rw [h2] at h; cases h
          intro a ha
          rcases List.mem_cons.mp ha with e | ha
          · rw [e]; rfl
          · exact evalAs_F h2 a ha
        | exc c e2 => rw [h2] at h; cases h
        | bad => rw [h2] at h; cases h
    | exc c e1 => rw [h1] at h; cases h
    | bad => rw [h1] at h; cases h
  | .b :: ms, x :: xs, e, e', us, h => by
    simp only [evalAs] at h
    cases h1 : evalE cf x e with
    | ok t e1 =>
      rw [h1] at h
      simp only [R.bd_ok] at h
      cases h3 : shallow (tvO t) with
      | none => rw [h3] at h; cases h
      | some d =>
        rw [h3] at h
        dsimp only at h
        cases h2 : evalAs cf ms xs e1 with
        | ok ts e2 =>
          rw [h2] at h; cases h
          intro a ha
          rcases List.mem_cons.mp ha with e | ha
          · rw [e]; rfl
          · exact evalAs_F h2 a ha
        | exc c e2 => rw [h2] at h; cases h
        | bad => rw [h2] at h; cases h
    | exc c e1 => rw [h1] at h; cases h
    | bad => rw [h1] at h; cases h
  | .io :: _, _ :: _, _, _, _, h => by simp [evalAs] at h
  | [], _ :: _, _, _, _, h => by simp [evalAs] at h
  | _ :: _, [], _, _, _, h => by simp [evalAs] at h
section
variable {X : Cx} {w : WC} {e : Expr} {es : List Expr} {q : Bool}
/-- a frozen argument -/
theorem so_argF {ro : Ev → R O} (h : PE X e (tE X.K w q fun e => oT (ro e))) : PE X e (tE X.K w q fun e => (ro e).bd fun o e1 => match frzO o with
    | some d => .ok (fl d) e1
    | none => .bad) := by
  refine PE.imp h fun σ H Q h => ?_
  refine tG1 (f := fun t e1 => match t with
    | .own o => (match frzO o with
      | some d => R.ok (fl d) e1
      | none => .bad)
    | _ => .bad) (pk := fun P ts tv => pkE X.K P ts tv σ Q) (fun z => z) ?_ fun F2 P H2 v1 ta ts tv e2 sr hq k => ?_
  · obtain ⟨F, P, ts, tv, env, sr, hq, h⟩ := h
    refine ⟨F, P, ts, tv, env, sr, hq, ?_⟩
    unfold oT
    dsimp only
    rw [bd_bd]
    exact h
  · cases ta with
    | brw o => exact k.elim
    | own o =>
      dsimp only at k
      unfold frzO at k
      by_cases hn : noIns o = true
      · rw [if_pos hn] at k
        obtain ⟨L1, r, s⟩ := sr.sx.pop
        cases r with
        | own r =>
          obtain ⟨x, s2⟩ := s.frz
          have i : Is X.K (wid F2 H2 L1) (toD o) v1 := r.frz x.up (fun b hb => wid_in hb)
          exact k _ H2 x (fun _ => Same.refl _) v1 (s2.pushF i).sr
      · rw [if_neg hn] at k; exact k.elim
theorem RV.sh {K : PySem.W.Frag} {F H : Hp} (e : Same F H) {o : O} {d : D} {v : V} (h : shallow o = some d) (r : RV K F H o v) : RV K F H (O1 d) v := by
  by_cases nf : ∃ d', o = .fz d'
  · obtain ⟨d', rfl⟩ := nf
    cases h
    cases r with
    | fz i =>
      have := O1.of e i
      exact this
  · exact shallow_nf h (fun d' e => nf ⟨d', e⟩) r
/-- a lent argument -/
theorem so_argB {ra : Ev → R TV} (h : PE X e (tE X.K w q ra)) : PE X e (tE X.K w q fun e => (ra e).bd fun t e1 => match shallow (tvO t) with
    | some d => .ok (.brw (O1 d)) e1
    | none => .bad) := by
  refine PE.imp h fun σ H Q h => ?_
  refine tG1 (pk := fun P ts tv => pkE X.K P ts tv σ Q) (fun z => z) h fun F2 P H2 v1 ta ts tv e2 sr hq k => ?_
  cases hs : shallow (tvO ta) with
  | none => rw [hs] at k; exact k.elim
  | some d =>
    rw [hs] at k
    obtain ⟨L1, r, s⟩ := sr.sx.pop
    have i := RV.sh sr.fh hs r.view
    exact k.here v1 (SX.push (L1 := []) (s.weak (L' := []) fun b => by simp) (.brw i)).sr
/-- from an expression to a test -/
theorem so_he (h1 : ∀ o a p, e ≠ .UnaryOp o a p) (h2 : ∀ o a p, e ≠ .BoolOp o a p) (h3 : ∀ a b c p, e ≠ .IfExp a b c p) (h4 : ∀ a b c p, e ≠ .Compare a b c p) :
    ∀ whole, isTrue e X.env whole = (do let v ← whole; standAt e.pos; holding [v] (truthy v)) := fun whole => by
  cases e <;> first | rfl | exact absurd rfl (h1 _ _ _) | exact absurd rfl (h2 _ _ _) | exact absurd rfl (h3 _ _ _ _) | exact absurd rfl (h4 _ _ _ _)
end
/-- an expression read, as a test too -/
structure Snd (X : Cx) (w : WC) (cf : CF) (ir : E) (e : Expr) : Prop where
  pe : PE X e (tE X.K w (quiet ir) (evalE cf ir))
  pt : tstOk ir = true → PT X e (tB X.K w (quiet ir) fun e => (evalE cf ir e).bd boolT)
  pw : tstOk ir = true → ∀ op vs p, e = .BoolOp op vs p → PW X e (tB X.K w (quiet ir) fun e => (evalE cf ir e).bd boolT)
section
variable {X : Cx} {w : WC} {cf : CF} {ir : E} {e : Expr}
theorem Snd.of (pe : PE X e (tE X.K w (quiet ir) (evalE cf ir))) (h1 : ∀ o a p, e ≠ .UnaryOp o a p) (h2 : ∀ o a p, e ≠ .BoolOp o a p) (h3 : ∀ a b c p, e ≠ .IfExp a b c p) (h4 : ∀ a b c p, e ≠ .Compare a b c p) : Snd X w cf ir e :=
  ⟨pe, fun _ => so_test pe (so_he h1 h2 h3 h4), fun _ op vs p z => absurd z (h2 _ _ _)⟩
theorem Snd.st (s : Snd X w cf ir e) {m : MC} (x : XC m cf w X) (h : matchE ir m e = true) : PE X e (tE X.K w (quiet ir) fun e => oT (stv ir (evalE cf ir e) e)) := by
  by_cases hv : ∃ i, ir = .var i
  · obtain ⟨i, rfl⟩ := hv
    simp only [matchE] at h
    split at h
    · rename_i y hu
      obtain ⟨p, rfl⟩ := unName_eq hu
      obtain ⟨h1, h2, h3, h4⟩ := x.vis h
      exact so_stvV h1 h2 h3 h4
    · cases h
  · exact so_stv (fun i z => hv ⟨i, z⟩) s.pe
theorem pe_1 {t : TE} {op : BoolOp} {p : Pos} (h : PE X e t) : PE X (.BoolOp op [e] p) t := by
  refine ⟨fun pins s σ H Q I x => ?_⟩
  exact h.run pins s σ H Q I x
end
/-! ### dicts -/
inductive IsP (K : PySem.W.Frag) (F : Hp) {κ : Type} : List (κ × D) → List (κ × V) → Prop
  | nil : IsP K F [] []
  | cons {k : κ} {d : D} {ds : List (κ × D)} {v : V} {vs : List (κ × V)} : Is K F d v → IsP K F ds vs → IsP K F ((k, d) :: ds) ((k, v) :: vs)
section
variable {K : PySem.W.Frag} {F F' H : Hp} {κ : Type}
theorem IsP.length : ∀ {ds : List (κ × D)} {vs : List (κ × V)}, IsP K F ds vs → ds.length = vs.length
  | _, _, .nil => rfl
  | _, _, .cons _ l => by simp [IsP.length l]
def OIs (K : PySem.W.Frag) (F : Hp) : Option D → Option V → Prop
  | none, o => o = none
  | some d, o => ∃ x, o = some x ∧ Is K F d x
theorem IsP.val [DecidableEq κ] : ∀ {ds : List (κ × D)} {vs : List (κ × V)}, IsP K F ds vs → ∀ k, OIs K F (valK ds k) (valV vs k)
  | _, _, .nil, k => rfl
  | _, _, .cons (k := j) h l, k => by
    by_cases e : j = k
    · subst e
      simp only [valK, valV, List.find?_cons, decide_true, Option.map_some]
      exact ⟨_, rfl, h⟩
    · have := l.val k
      simp only [valK, valV, List.find?_cons, e, decide_false] at this ⊢
      exact this
theorem RVk.isP : ∀ {es : List (Key × D)} {kvs : List (Key × V)}, RVk K F H (fzK es) kvs → IsP K F es kvs
  | [], _, .nil => .nil
  | (k, d) :: es, _, .cons h l => by
    cases h with
    | fz i => exact .cons i (RVk.isP l)
theorem IsK.isP : ∀ {ds : List (D × D)} {kvs : List (Key × V)} {es : List (Key × D)}, IsK K F ds kvs → TL.unK ds = some es → IsP K F es kvs
  | _, _, es, .nil, h => by simp [TL.unK] at h; subst h; exact .nil
  | _, _, es, .cons (k := k) (d := d) (ds := ds) i l, h => by
    simp only [TL.unK, keyOf_keyD] at h
    cases hu : TL.unK ds with
    | none => rw [hu] at h; cases h
    | some r =>
      rw [hu] at h
      cases h
      exact .cons i (IsK.isP l hu)
theorem keyD_map_inj : ∀ {a b : List Key}, a.map keyD = b.map keyD → a = b
  | [], [], _ => rfl
  | [], _ :: _, h => by simp at h
  | _ :: _, [], h => by simp at h
  | a :: as, b :: bs, h => by
    simp only [List.map_cons, List.cons.injEq] at h
    rw [keyD_inj h.1, keyD_map_inj h.2]
theorem IsT.isP : ∀ {ds : List (List Key × D)} {kvs : List (List Key × V)}, IsT K F (ds.map tkD) kvs → IsP K F ds kvs
  | [], _, .nil => .nil
  | (k, d) :: ds, kvs, h => by
    rw [List.map_cons] at h
    generalize e : tkD (k, d) = p at h
    cases h with
    | cons i l =>
      simp only [tkD, Prod.mk.injEq, PyData.tuple.injEq] at e
      obtain ⟨e1, rfl⟩ := e
      have := keyD_map_inj e1
      subst this
      exact .cons i (IsT.isP l)
theorem IsP.isT : ∀ {ds : List (List Key × D)} {kvs : List (List Key × V)}, IsP K F ds kvs → IsT K F (ds.map tkD) kvs
  | _, _, .nil => .nil
  | _, _, .cons h l => .cons h (IsP.isT l)
theorem IsP.mono (e : Same F F') : ∀ {ds : List (κ × D)} {vs : List (κ × V)}, IsP K F ds vs → IsP K F' ds vs
  | _, _, .nil => .nil
  | _, _, .cons h l => .cons (h.mono e) (l.mono e)
theorem IsP.rok : ∀ {ds : List (Key × D)} {vs : List (Key × V)}, IsP K F ds vs → ROk K F H (fzK ds) vs []
  | _, _, .nil => .nil
  | _, _, .cons h l => ROk.cons (L1 := []) (L2 := []) (.fz h) (IsP.rok l)
theorem key_u {d : D} {k : Key} {u : V} (h : keyOf d = some k) (i : Is K H d u) : u = kV k := by
  rw [keyOf_eq h] at i
  cases k with
  | inl j => cases i; rfl
  | inr z => cases i; rfl
theorem keysL_u : ∀ {ds : List D} {ks : List Key} {us : List V}, keysL ds = some ks → IsL K H ds us → us = ks.map kV
  | [], ks, _, h, .nil => by simp [keysL] at h; subst h; rfl
  | d :: ds, ks, _, h, .cons i l => by
    simp only [keysL] at h
    cases h1 : keyOf d with
    | none => rw [h1] at h; cases h
    | some k =>
      cases h2 : keysL ds with
      | none => rw [h1, h2] at h; cases h
      | some r =>
        rw [h1, h2] at h
        cases h
        rw [key_u h1 i, keysL_u h2 l]; rfl
theorem keys_u {d : D} {ks : List Key} {u : V} (h : keysOf d = some ks) (i : Is K H d u) : ∃ b, u = .ref b ∧ H b = some (.tup (ks.map kV)) := by
  unfold keysOf at h
  split at h
  · rename_i j r
    obtain ⟨ks', h1, h2⟩ := Option.map_eq_some_iff.mp h
    subst h2
    cases i with
    | tup s tk l =>
      cases l with
      | cons i l =>
        cases i
        have e := keysL_u h1 l
        subst e
        exact ⟨_, rfl, tk _ _ rfl⟩
  · cases h
theorem dicK_ok (e : Same F H) {t : TV} {v : V} {L : List Addr} {es : List (Key × D)} (r : RT K F H t v L) (h : dicK t = some es) : ∃ a kvs, v = .ref a ∧ Rd H a (.dK kvs) ∧ IsP K F es kvs := by
  have fz : ∀ {d : D}, Is K F d v → (match O.fz d with
      | .dct kvs => fzAllK kvs
      | .fz (.dict ds) => TL.unK ds
      | _ => none) = some es → ∃ a kvs, v = .ref a ∧ Rd H a (.dK kvs) ∧ IsP K F es kvs := fun {d} i h => by
    cases i with
    | dct q l => exact ⟨_, _, rfl, Same.rd e q, l.isP h⟩
    | dtp q l => exact absurd h (by simp [TL.unK, keyOf])
    | ins q => exact absurd h (by simp [TL.unK, keyOf])
    | _ => cases h
  cases r with
  | own r =>
    cases r with
    | fz i => exact fz i h
    | dct q l =>
      have h : fzAllK _ = some es := h
      have := fzAllK_eq h
      subst this
      exact ⟨_, _, rfl, .inl q, (ROk.view l).isP⟩
    | _ => cases h
  | brw r =>
    cases r with
    | fz i => exact fz i h
    | dct q l =>
      have h : fzAllK _ = some es := h
      have := fzAllK_eq h
      subst this
      exact ⟨_, _, rfl, q, l.isP⟩
    | _ => cases h
theorem dicT_ok {t : TV} {v : V} {L : List Addr} {es : List (List Key × D)} (r : RT K F H t v L) (h : dicT t = some es) : ∃ a kvs, v = .ref a ∧ Rd H a (.dT kvs) ∧ IsP K F es kvs := by
  cases r with
  | own r =>
    cases r with
    | dtp q l =>
      cases h
      exact ⟨_, _, rfl, .inl q, l.isP⟩
    | _ => cases h
  | brw r =>
    cases r with
    | dtp q l =>
      cases h
      exact ⟨_, _, rfl, q, l.isP⟩
    | _ => cases h
/-- what a dict holds at a key -/
theorem dLook_ok (e : Same F H) {t : TV} {v u : V} {L : List Addr} {k : D} {r : Option D} (rt : RT K F H t v L) (i : Is K H k u) (h : dLook t k = some r) :
    ∃ a o, v = .ref a ∧ IsD H a ∧ DGet H a u o ∧ OIs K F r o := by
  unfold dLook at h
  split at h
  · rename_i es k' h1 h2
    cases h
    obtain ⟨a, kvs, rfl, q, l⟩ := dicK_ok e rt h1
    exact ⟨a, valV kvs k', rfl, .inl ⟨_, q⟩, .inl ⟨kvs, k', q, key_u h2 i, rfl⟩, l.val k'⟩
  · split at h
    · rename_i es ks h1 h2
      cases h
      obtain ⟨a, kvs, rfl, q, l⟩ := dicT_ok rt h1
      obtain ⟨b, rfl, hb⟩ := keys_u h2 i
      exact ⟨a, valV kvs ks, rfl, .inr ⟨_, q⟩, .inr ⟨kvs, ks, b, q, rfl, hb, rfl⟩, l.val ks⟩
    · cases h
end
section
variable {X : Cx} {w : WC} {a b c : Expr} {pos apos cpos : Pos} {qa qb qc : Bool} {ra rb rc : Ev → R TV}
theorem so_dnk : PE X (.Dict [] [] pos) (tE X.K w true fun e => .ok (.own (.dct [])) e) := by
  refine PE.imp pe_dnewK fun σ H Q h => ?_
  obtain ⟨F, P, ts, tv, env, sr, hq, h⟩ := h
  intro p hp
  have e : Same H (upd H p (.dK [])) := upd_sameH hp
  exact h F _ (Ext.refl P F) (fun _ => e) _ (SX.push (L1 := [p]) (L := []) (sr.sx.new hp) (.own (.dct upd_same .nil))).sr
theorem so_dnt : PE X (.Dict [] [] pos) (tE X.K w true fun e => .ok (.own (.dtp [])) e) := by
  refine PE.imp pe_dnewT fun σ H Q h => ?_
  obtain ⟨F, P, ts, tv, env, sr, hq, h⟩ := h
  intro p hp
  have e : Same H (upd H p (.dT [])) := upd_sameH hp
  exact h F _ (Ext.refl P F) (fun _ => e) _ (SX.push (L1 := [p]) (L := []) (sr.sx.new hp) (.own (.dtp upd_same .nil))).sr
theorem so_dix (hu : X.A.units + 64 < cLine) (ha : PE X a (tE X.K w qa ra)) (hb : PE X b (tE X.K w qb rb)) (hs : NoSl b) :
    PE X (.Subscript a b pos) (tE X.K w (qa && qb) fun e => (ra e).bd fun ta e1 => if qb || stable ta then (rb e1).bd fun tb e2 => R.lf ((dLook ta (rd tb)).bind fun r => r.map fl) e2 else .bad) := by
  refine PE.imp (pe_dget (by omega) ha hb hs) fun σ H Q h => ?_
  refine tE2 h fun F2 P H2 v1 v2 ta tb ts tv e2 sr k => ?_
  obtain ⟨L1, r1, s1⟩ := sr.sx.pop
  obtain ⟨L2, r2, s2⟩ := s1.pop
  cases e : dLook ta (rd tb) with
  | none => rw [e] at k; exact k.elim
  | some r =>
    rw [e] at k
    obtain ⟨p, o, ev, _, g, hr⟩ := dLook_ok sr.fh r2 (r1.is sr.fh) e
    cases r with
    | none => exact k.elim
    | some d =>
      obtain ⟨x, rfl, ix⟩ := hr
      exact ⟨p, x, ev, g, k.here x (SX.pushF s2 ix).sr⟩
theorem din_core {neg : Bool} {σ : St} {H2 F2 P : Hp} {v1 v2 : V} {ta tb : TV} {ts : List V} {tv : List TV} {e2 : Ev} {q : Bool} {Q : VK} (sr : SR X.K F2 P H2 (v2 :: v1 :: ts) (tb :: ta :: tv) σ e2)
    (k : Res X.K w q F2 P H2 ts tv σ (pkE X.K P ts tv σ Q) (R.lf ((dLookN tb (rd ta)).map fun r => fl (.bool (if neg then !r.isSome else r.isSome))) e2)) :
    (∃ p o, v2 = .ref p ∧ DGet H2 p v1 o ∧ Q (.bl (if neg then !o.isSome else o.isSome)) H2) ∨ ∃ p kvs, v2 = .ref p ∧ v1 = .non ∧ Rd H2 p (.dK kvs) ∧ Q (.bl neg) H2 := by
  obtain ⟨L1, r1, s1⟩ := sr.sx.pop
  obtain ⟨L2, r2, s2⟩ := s1.pop
  cases e : dLookN tb (rd ta) with
  | none => rw [e] at k; exact k.elim
  | some r =>
    rw [e] at k
    have i2 := r2.is sr.fh
    by_cases hz : rd ta = .none
    · rw [hz] at e i2
      have e : (dicK tb).map (fun _ => (none : Option D)) = some r := e
      cases i2
      obtain ⟨es, h1, rfl⟩ := Option.map_eq_some_iff.mp e
      obtain ⟨a, kvs, rfl, q, _⟩ := dicK_ok sr.fh r1 h1
      refine .inr ⟨a, kvs, rfl, rfl, q, ?_⟩
      have k2 := k.here _ (SX.pushF s2 (.bl _)).sr
      cases neg <;> exact k2
    · have e : dLook tb (rd ta) = some r := by
        rw [← e]
        unfold dLookN
        split
        · rename_i h; exact absurd h hz
        · rfl
      obtain ⟨p, o, ev, _, g, hr⟩ := dLook_ok sr.fh r1 i2 e
      have he : r.isSome = o.isSome := by
        cases r with
        | none => rw [show o = none from hr]; rfl
        | some d => obtain ⟨x, rfl, _⟩ := hr; rfl
      refine .inl ⟨p, o, ev, g, ?_⟩
      rw [← he]
      exact k.here _ (SX.pushF s2 (.bl _)).sr
theorem pc_dinB {neg : Bool} {ty td : TE} (hu : X.A.units + 64 < cLine) (hi : PE X a ty) (ho : PE X b td) : PC X (dinOp neg) a b (fun σ H Q => ty σ H fun y H1 => td σ H1 fun x H2 => (∃ p o, x = .ref p ∧ DGet H2 p y o ∧ Q (.bl (if neg then !o.isSome else o.isSome)) H2) ∨ ∃ p kvs, x = .ref p ∧ y = .non ∧ Rd H2 p (.dK kvs) ∧ Q (.bl neg) H2) := by
  cases neg with
  | true => exact pc_dnotinN (by omega) hi ho
  | false => exact pc_dinN (by omega) hi ho
theorem so_din {neg : Bool} (hu : X.A.units + 64 < cLine) (hm : behindInMarks (dinOp neg) b = false) (ha : PE X a (tE X.K w qa ra)) (hb : PE X b (tE X.K w qb rb)) :
    PE X (.Compare a [dinOp neg] [b] pos) (tE X.K w (qa && qb) fun e => (ra e).bd fun ta e1 => if qb || stable ta then (rb e1).bd fun tb e2 => R.lf ((dLookN tb (rd ta)).map fun r => fl (.bool (if neg then !r.isSome else r.isSome))) e2 else .bad) := by
  refine PE.imp (pe_cmp (pc_dinB hu ha hb) hm) fun σ H Q h => ?_
  exact tE2 h fun F2 P H2 v1 v2 ta tb ts tv e2 sr k => din_core sr k
theorem so_dinT {neg : Bool} (hu : X.A.units + 64 < cLine) (hm : behindInMarks (dinOp neg) b = false) (ha : PE X a (tE X.K w qa ra)) (hb : PE X b (tE X.K w qb rb)) :
    PT X (.Compare a [dinOp neg] [b] pos) (tB X.K w (qa && qb) fun e => ((ra e).bd fun ta e1 => if qb || stable ta then (rb e1).bd fun tb e2 => R.lf ((dLookN tb (rd ta)).map fun r => fl (.bool (if neg then !r.isSome else r.isSome))) e2 else .bad).bd boolT) := by
  refine PT.imp (pt_cmp (pc_dinB hu ha hb) hm) fun σ H Q h => ?_
  obtain ⟨F, P, ts, tv, env, sr, hq, h⟩ := h
  dsimp only at h
  refine tE2 (f := fun ta tb e2 => R.lf ((dLookN tb (rd ta)).map fun r => fl (.bool (if neg then !r.isSome else r.isSome))) e2) (Q := fun x H' => ∃ k, x = .bl k ∧ Q k H') ⟨F, P, ts, tv, env, sr, hq, ?_⟩ fun F2 P H2 v1 v2 ta tb ts tv e2 sr k => ?_
  · exact Res.ofBool h
  · exact din_core sr k
theorem isDt_ok {K : PySem.W.Frag} {F H : Hp} (e : Same F H) {t : TV} {v : V} {L : List Addr} (r : RT K F H t v L) (h : isDt t = true) : ∃ a, v = .ref a ∧ IsD H a := by
  unfold isDt at h
  cases h1 : dicK t with
  | some es =>
    obtain ⟨a, kvs, rfl, q, _⟩ := dicK_ok e r h1
    exact ⟨a, rfl, .inl ⟨_, q⟩⟩
  | none =>
    cases h2 : dicT t with
    | some es =>
      obtain ⟨a, kvs, rfl, q, _⟩ := dicT_ok r h2
      exact ⟨a, rfl, .inr ⟨_, q⟩⟩
    | none => rw [h1, h2] at h; cases h
theorem so_dgt (hu : X.A.units + 64 < cLine) (ha : PE X a (tE X.K w true ra)) (hb : PE X b (tE X.K w true rb)) (hc : PE X c (tE X.K w true rc)) (nb : ∀ x p, b ≠ .Starred x p) (nc : ∀ x p, c ≠ .Starred x p) (ho : ∀ id p q, a ≠ .Call (.Name id p) [] [] q)
    (hl : (apos.endLine == cpos.line) = true) :
    PE X (.Call (.Attribute a "get" apos) [b, c] [] cpos) (tE X.K w true fun e => (ra e).bd fun ta e1 => if isDt ta then (rb e1).bd fun tb e2 => (rc e2).bd fun tc e3 => R.lf ((dLook ta (rd tb)).map fun r => orT r tc) e3 else .bad) := by
  have hs : starEach [b, c] X.env = [(false, eval b X.env), (false, eval c X.env)] := by
    rw [starEach_cons nb, show starEach [c] X.env = [(false, eval c X.env)] from starEach_cons nc]
  have hbt : backTo cpos (starEach [b, c] X.env) = [(false, eval b X.env), (false, eval c X.env)] := by rw [hs]; rfl
  refine PE.imp (pe_dget2 (by omega) ha hb hc ⟨attrBase ho, by rw [hbt]; rfl, hl, hbt⟩) fun σ H Q h => ?_
  refine tE1 h fun F1 P H1 v1 ta ts tv e1 sr1 hq k1 => ?_
  by_cases hd : isDt ta = true
  · rw [if_pos hd] at k1
    obtain ⟨L0, r0, s0⟩ := sr1.sx.pop
    obtain ⟨p, ep, hp⟩ := isDt_ok sr1.fh r0 hd
    refine ⟨p, ep, hp, F1, P, v1 :: ts, ta :: tv, e1, sr1, .inl rfl, ?_⟩
    cases eb : rb e1 with
    | bad => rw [eb] at k1; exact k1
    | exc x e => rw [eb] at k1; exact Res.exc1 k1 fun z => z
    | ok tb e2 =>
      rw [eb] at k1
      intro F2 H2 x2 s2 v2 sr2
      have k2 := k1.base x2 s2
      simp only [R.bd_ok] at k2
      refine ⟨F2, P, v2 :: v1 :: ts, tb :: ta :: tv, e2, sr2, .inl rfl, ?_⟩
      cases ec : rc e2 with
      | bad => rw [ec] at k2; exact k2
      | exc x e => rw [ec] at k2; exact Res.exc1 (Res.exc1 (pk' := pkE X.K P (v1 :: ts) (ta :: tv) σ Q) k2 fun z => z) fun z => z
      | ok tc e3 =>
        rw [ec] at k2
        intro F3 H3 x3 s3 v3 sr3
        have k3 := k2.base x3 s3
        simp only [R.bd_ok] at k3
        obtain ⟨L3, r3, t3⟩ := sr3.sx.pop
        obtain ⟨L2, r2, t2⟩ := t3.pop
        obtain ⟨L1, r1, t1⟩ := t2.pop
        cases el : dLook ta (rd tb) with
        | none => rw [el] at k3; exact k3.elim
        | some r =>
          rw [el] at k3
          obtain ⟨p', o, ev, _, g, hr⟩ := dLook_ok sr3.fh r1 (r2.is sr3.fh) el
          rw [ep] at ev
          cases ev
          refine ⟨o, g, ?_⟩
          cases r with
          | none =>
            rw [show o = none from hr]
            exact k3.here _ (SX.push (L1 := L3) (L := []) (t1.weak fun b => by simp only [List.count_append]; omega) r3).sr
          | some d =>
            obtain ⟨x, rfl, ix⟩ := hr
            exact k3.here _ (SX.pushF (L := []) (t1.weak fun b => by simp) ix).sr
  · rw [if_neg hd] at k1; exact k1.elim
theorem call_dcopy : CallR X (.type "dict") (fun xs H Q => ∃ (a : Addr) (kvs : List (Key × V)), xs = [.ref a] ∧ Rd H a (.dK kvs) ∧ ∀ p, H p = none → Q (.ref p) (upd H p (.dK kvs))) := by
  intro pins s σ H xs us Q I r q
  obtain ⟨a, kvs, ex, hq, q⟩ := q
  subst ex
  rw [Vals.ref1 r]
  exact d_copyOf I hq fun p s' hp I' => ⟨.ref p, _, I', rfl, q p hp⟩
theorem so_dcp {p : Pos} (hg : Gl X "dict") (hm : X.mg "dict" = none) (na : ∀ x p, a ≠ .Starred x p) (ha : PE X a (tE X.K w qa ra)) :
    PE X (.Call (.Name "dict" p) [a] [] pos) (tE X.K w qa fun e => (ra e).bd fun ta e1 => R.lf ((dicK ta).map fun es => .own (.dct (fzK es))) e1) := by
  refine PE.imp (pe_callTy call_dcopy hg hm (by decide +kernel) (pa_cons ha pa_nil (starEach_cons na)) (by decide) (by decide) (starEach_cons na) (by rfl)) fun σ H Q h => ?_
  refine tE1 h fun F2 P H2 v1 ta ts tv e2 sr hq k => ?_
  cases ed : dicK ta with
  | none => rw [ed] at k; exact k.elim
  | some es =>
    rw [ed] at k
    obtain ⟨L0, r0, s0⟩ := sr.sx.pop
    obtain ⟨b, kvs, rfl, q, l⟩ := dicK_ok sr.fh r0 ed
    refine ⟨b, kvs, rfl, q, fun p hp => ?_⟩
    have e : Same H2 (upd H2 p (.dK kvs)) := upd_sameH hp
    exact k F2 _ (Ext.refl P F2) (fun _ => e) _ (SX.push (L1 := [p]) (L := []) ((s0.weak (L' := []) fun b => by simp).new hp) (.own (.dct upd_same l.rok))).sr
end
/-! ### calls that change lists of the caller's slots -/
inductive ArgV (K : PySem.W.Frag) (F : Hp) (σ : St) : List Md → List E → List D → List V → Prop
  | nil : ArgV K F σ [] [] [] []
  | f {ms : List Md} {x : E} {es : List E} {d : D} {ds : List D} {v : V} {vs : List V} : Is K F d v → ArgV K F σ ms es ds vs → ArgV K F σ (.f :: ms) (x :: es) (d :: ds) (v :: vs)
  | b {ms : List Md} {i : Nat} {es : List E} {ds : List D} {v : V} {vs : List V} : σ[i]? = some (some v) → ArgV K F σ ms es ds vs → ArgV K F σ (.b :: ms) (.var i :: es) ds (v :: vs)
  | io {ms : List Md} {i : Nat} {es : List E} {ds : List D} {v : V} {vs : List V} : σ[i]? = some (some v) → ArgV K F σ ms es ds vs → ArgV K F σ (.io :: ms) (.var i :: es) ds (v :: vs)
theorem ArgV.mono {K : PySem.W.Frag} {F F' : Hp} {σ : St} (e : Same F F') : ∀ {ms : List Md} {es : List E} {ds : List D} {vs : List V}, ArgV K F σ ms es ds vs → ArgV K F' σ ms es ds vs
  | _, _, _, _, .nil => .nil
  | _, _, _, _, .f h l => .f (h.mono e) (ArgV.mono e l)
  | _, _, _, _, .b h l => .b h (ArgV.mono e l)
  | _, _, _, _, .io h l => .io h (ArgV.mono e l)
def pkF (K : PySem.W.Frag) (P : Hp) (ts : List V) (tv : List TV) (σ : St) (ms : List Md) (es : List E) (Q : List V → Hp → Prop) : Hp → Hp → Ev → List D → Prop := fun F' H' e ds => ∀ vs, ArgV K F' σ ms es ds vs → SR K F' P H' ts tv σ e → Q vs H'
def tF (K : PySem.W.Frag) (w : WC) (r : Ev → R (List D)) (ms : List Md) (es : List E) : TA := fun σ H Q => ∃ F P ts tv env, SR K F P H ts tv σ env ∧ (∀ t ∈ tv, stable t = true) ∧ Res K w false F P H ts tv σ (pkF K P ts tv σ ms es Q) (r env)
section
variable {X : Cx} {w : WC} {e : Expr} {es : List Expr} {ms : List Md} {xs : List E}
theorem so_fnil : PA X [] (tF X.K w (fun e => .ok [] e) [] []) := by
  refine PA.imp pa_nil fun σ H Q h => ?_
  obtain ⟨F, P, ts, tv, env, sr, hst, h⟩ := h
  exact h F H (Ext.refl P F) (fun _ => Same.refl H) [] .nil sr
theorem so_ff {q : Bool} {ra : Ev → R D} {rs : Ev → R (List D)} {x : E} (ha : PE X e (tE X.K w q fun e => (ra e).bd fun d e1 => .ok (fl d) e1)) (hs : PA X es (tF X.K w rs ms xs)) (hn : ∀ x p, e ≠ .Starred x p) :
    PA X (e :: es) (tF X.K w (fun e => (ra e).bd fun d e1 => (rs e1).bd fun ds e2 => .ok (d :: ds) e2) (.f :: ms) (x :: xs)) := by
  refine PA.imp (pa_cons ha hs (starEach_cons hn)) fun σ H Q h => ?_
  obtain ⟨F, P, ts, tv, env, sr, hst, h⟩ := h
  refine ⟨F, P, ts, tv, env, sr, .inr hst, ?_⟩
  dsimp only at h ⊢
  cases ea : ra env with
  | bad => rw [ea] at h; exact h
  | exc c e1 => rw [ea] at h; exact Res.exc0 h fun z => nomatch z
  | ok d e1 =>
    rw [ea] at h
    intro F1 H1 x1 _ v sr1
    simp only [R.bd_ok] at h
    obtain ⟨L1, r, s⟩ := sr1.sx.pop
    cases r with
    | own r => cases r with
      | fz i =>
        have h1 := h.base x1 (H1 := H1) fun z => nomatch z
        refine ⟨F1, P, ts, tv, e1, s.sr, hst, ?_⟩
        cases eb : rs e1 with
        | bad => rw [eb] at h1; exact h1
        | exc c e2 => rw [eb] at h1; exact Res.exc0 h1 fun z => nomatch z
        | ok ds e2 =>
          rw [eb] at h1
          intro F2 H2 x2 s2 vs av sr2
          exact h1 F2 H2 x2 (fun z => nomatch z) (v :: vs) (.f (i.mono x2.up) av) sr2
theorem so_fv {k : Md} {rs : Ev → R (List D)} {i : Nat} {y : Str} {p : Pos} (hk : k = .b ∨ k = .io) (hN : X.N[i]? = some y) (hv : Vis X.env.scope y) (hd : (y == ("__debug__" : Str)) = false) (hcd : (y == ("__classdict__" : Str)) = false) (hs : PA X es (tF X.K w rs ms xs)) :
    PA X (.Name y p :: es) (tF X.K w (fun e => match e[i]? with
      | some (some _) => rs e
      | _ => .bad) (k :: ms) (.var i :: xs)) := by
  refine PA.imp (pa_cons (pe_var hN hv hd hcd) hs (starEach_cons (by intro x p; exact nofun))) fun σ H Q h => ?_
  obtain ⟨F, P, ts, tv, env, sr, hst, h⟩ := h
  dsimp only at h
  split at h
  · rename_i s e
    obtain ⟨v, L1, h1, h2⟩ := sr.sx.slot e
    refine ⟨v, h1, F, P, ts, tv, env, sr, hst, ?_⟩
    cases eb : rs env with
    | bad => rw [eb] at h; exact h
    | exc c e2 => rw [eb] at h; exact Res.exc0 h fun z => z
    | ok ds e2 =>
      rw [eb] at h
      intro F2 H2 x2 s2 vs av sr2
      refine h F2 H2 x2 (fun z => nomatch z) (v :: vs) ?_ sr2
      rcases hk with rfl | rfl
      · exact .b h1 av
      · exact .io h1 av
  · exact h.elim
end
/-! what is lent to such a call, and what comes back -/
inductive IOV (K : PySem.W.Frag) (F H : Hp) (σ : St) (env : Ev) : List Md → List E → List V → List AV → List Addr → Prop
  | nil : IOV K F H σ env [] [] [] [] []
  | f {ms : List Md} {x : E} {es : List E} {d : D} {v : V} {vs : List V} {as : List AV} {L : List Addr} : Is K F d v → IOV K F H σ env ms es vs as L → IOV K F H σ env (.f :: ms) (x :: es) (v :: vs) (.f d :: as) L
  | b {ms : List Md} {i : Nat} {es : List E} {d : D} {v : V} {vs : List V} {as : List AV} {L : List Addr} : σ[i]? = some (some v) → brwAt env i = some d → IOV K F H σ env ms es vs as L → IOV K F H σ env (.b :: ms) (.var i :: es) (v :: vs) (.b d :: as) L
  | io {ms : List Md} {i : Nat} {es : List E} {o : O} {v : V} {vs : List V} {as : List AV} {L1 L2 : List Addr} : σ[i]? = some (some v) → RO K F H o v L1 → IOV K F H σ env ms es vs as L2 → IOV K F H σ env (.io :: ms) (.var i :: es) (v :: vs) (.io o :: as) (L1 ++ L2)
theorem IOV.len {K : PySem.W.Frag} {F H : Hp} {σ : St} {env : Ev} : ∀ {ms : List Md} {es : List E} {vs : List V} {as : List AV} {L : List Addr}, IOV K F H σ env ms es vs as L → vs.length = as.length
  | _, _, _, _, _, .nil => rfl
  | _, _, _, _, _, .f _ l => by simp [l.len]
  | _, _, _, _, _, .b _ _ l => by simp [l.len]
  | _, _, _, _, _, .io _ _ l => by simp [l.len]
section
variable {K : PySem.W.Frag} {F P H : Hp} {ts : List V} {tv : List TV} {σ : St} {env : Ev}
theorem SX.lend (s : SX K F P H ts tv σ env []) : ∀ {ms : List Md} {es : List E} {fs : List D} {vs : List V} {avs : List AV}, ArgV K F σ ms es fs vs → (ioSlots ms es).Nodup → ioArgs ms es fs env = some avs →
    ∃ L, IOV K F H σ env ms es vs avs L ∧ SX K F P H ts tv σ (wipeE env (ioSlots ms es)) L
  | [], [], _, _, avs, .nil, _, h => by
    simp only [ioArgs, Option.some.injEq] at h
    subst h
    exact ⟨[], .nil, s⟩
  | .f :: ms, x :: es, d :: fs, v :: vs, avs, .f i av, hn, h => by
    simp only [ioArgs] at h
    obtain ⟨as, h1, h2⟩ := Option.map_eq_some_iff.mp h
    subst h2
    obtain ⟨L, g1, g2⟩ := SX.lend s av (by simpa only [ioSlots] using hn) h1
    exact ⟨L, .f i g1, by simpa only [ioSlots] using g2⟩
  | .b :: ms, .var i :: es, fs, v :: vs, avs, .b hσ av, hn, h => by
    simp only [ioArgs] at h
    split at h
    · rename_i d r hd hr
      cases h
      obtain ⟨L, g1, g2⟩ := SX.lend s av (by simpa only [ioSlots] using hn) hr
      exact ⟨L, .b hσ hd g1, by simpa only [ioSlots] using g2⟩
    · cases h
  | .io :: ms, .var i :: es, fs, v :: vs, avs, .io hσ av, hn, h => by
    simp only [ioArgs] at h
    split at h
    · rename_i o r ho hr
      cases h
      simp only [ioSlots, List.nodup_cons] at hn
      obtain ⟨L, g1, g2⟩ := SX.lend s av hn.2 hr
      have ho : env[i]? = some (some (.own o)) := by
        unfold ioAt at ho
        split at ho
        · rename_i o' e; cases ho; exact e
        · cases ho
      have hw : (wipeE env (ioSlots ms es))[i]? = some (some (.own o)) := by rw [wipeE_out env hn.1]; exact ho
      obtain ⟨v', L1, k1, k2, k3⟩ := g2.take hw
      rw [hσ] at k1
      cases k1
      cases k2 with
      | own r => exact ⟨L1 ++ L, .io hσ r g1, by simpa only [ioSlots, wipeE] using k3⟩
    · cases h
/-- protected at the call: all but what is lent -/
def lessH (H : Hp) (L : List Addr) : Hp := fun b => if b ∈ L then none else H b
theorem lessH_in {L : List Addr} {b : Addr} (h : b ∈ L) : lessH H L b = none := if_pos h
theorem lessH_out {L : List Addr} {b : Addr} (h : b ∉ L) : lessH H L b = H b := if_neg h
theorem IOV.as (s : SX K F P H ts tv σ env []) {Lt : List Addr} {js : List Nat} (s2 : SX K F P H ts tv σ (wipeE env js) Lt) : ∀ {ms : List Md} {es : List E} {vs : List V} {avs : List AV} {L : List Addr}, IOV K F H σ env ms es vs avs L → (∀ i ∈ bSlots ms es, i ∉ js) →
    AS K F (lessH H Lt) H (vs.map some) (avs.map fun a => some (slA a)) L
  | _, _, _, _, _, .nil, _ => .nil
  | _, _, _, _, _, .f i l, hb => AS.cons (L1 := []) (.own (.fz i)) (IOV.as s s2 l (by simpa only [bSlots] using hb))
  | _, _, _, _, _, .b (i := i) (d := d) hσ hd l, hb => by
    simp only [bSlots, List.mem_cons, forall_eq_or_imp] at hb
    refine AS.cons (L1 := []) (.par ?_) (IOV.as s s2 l hb.2)
    have same : Same F (lessH H Lt) := fun b u h => by
      rw [lessH_out fun z => by rw [s2.fF z] at h; cases h]
      exact s.fh b u h
    have sameP : Same P (lessH H Lt) := fun b u h => by
      rw [lessH_out fun z => by rw [s2.fP z] at h; cases h]
      exact s.ph b u h
    unfold brwAt at hd
    split at hd
    · rename_i o e
      have hw : (wipeE env js)[i]? = some (some (.own o)) := by rw [wipeE_out env hb.1]; exact e
      obtain ⟨v', L1, k1, k2, k3⟩ := s2.take hw
      rw [hσ] at k1
      cases k1
      cases k2 with
      | own r =>
        have r2 : RO K F (lessH H Lt) o _ L1 := r.mono (Same.refl F) fun b h => lessH_out (k3.disA h)
        exact shallow_O1 same hd r2.view
    · rename_i d' e
      cases hd
      have hw : (wipeE env js)[i]? = some (some (.par d)) := by rw [wipeE_out env hb.1]; exact e
      obtain ⟨v', L1, k1, k2, k3⟩ := s2.take hw
      rw [hσ] at k1
      cases k1
      cases k2 with
      | par r => exact r.same (Same.refl F) sameP
    · cases hd
  | _, _, _, _, _, .io _ r l, hb => .cons (.own r) (IOV.as s s2 l (by simpa only [bSlots] using hb))
theorem wipeE_set {e : Ev} {i : Nat} {x : Option SL} : ∀ {js : List Nat}, i ∉ js → wipeE (e.set i x) js = (wipeE e js).set i x
  | [], _ => rfl
  | j :: js, h => by
    simp only [List.mem_cons, not_or] at h
    simp only [wipeE]
    rw [wipeE_set h.2, List.set_comm _ _ h.1]
/-- the slots filled again -/
theorem SX.ioBack {F' P' H' : Hp} {ts' : List V} {tv' : List TV} : ∀ {ms : List Md} {es : List E} {vs : List V} {avs : List AV} {L : List Addr} {outs : List (Option O)} {N : List Addr} {e0 e e' : Ev}, IOV K F H σ env ms es vs avs L → AS K F' P' H' (vs.map some) (outs.map (Option.map SL.own)) N → (ioSlots ms es).Nodup →
    (∀ i ∈ ioSlots ms es, i < e0.length) → wipeE e (ioSlots ms es) = wipeE e0 (ioSlots ms es) → e = wipeE e (ioSlots ms es) → e0.length = e.length → TL.ioBack ms es outs e0 = some e' → ∀ {P2 : Hp}, SX K F' P2 H' ts' tv' σ e N → SX K F' P2 H' ts' tv' σ e' []
  | _, _, _, _, _, outs, N, e0, e, e', .nil, a, _, _, hw, he, _, hb, P2, s => by
    cases outs with
    | nil =>
      simp only [TL.ioBack, Option.some.injEq] at hb
      simp only [ioSlots, wipeE] at hw
      subst hb
      rw [← hw]
      exact s.weak fun b => by simp
    | cons _ _ => simp [TL.ioBack] at hb
  | _, _, _, _, _, outs, N, e0, e, e', .f i l, a, hn, hl, hw, he, hle, hb, P2, s => by
    cases outs with
    | nil => simp [TL.ioBack] at hb
    | cons o outs =>
      simp only [TL.ioBack] at hb
      simp only [ioSlots] at hn hl hw he
      cases o with
      | none =>
        cases a with
        | skip a => exact SX.ioBack l a hn hl hw he hle hb s
      | some o =>
        cases a with
        | cons r a => exact SX.ioBack l a hn hl hw he hle hb (s.weak fun b => by simp only [List.count_append]; omega)
  | _, _, _, _, _, outs, N, e0, e, e', .b h1 h2 l, a, hn, hl, hw, he, hle, hb, P2, s => by
    cases outs with
    | nil => simp [TL.ioBack] at hb
    | cons o outs =>
      simp only [TL.ioBack] at hb
      simp only [ioSlots] at hn hl hw he
      cases o with
      | none =>
        cases a with
        | skip a => exact SX.ioBack l a hn hl hw he hle hb s
      | some o =>
        cases a with
        | cons r a => exact SX.ioBack l a hn hl hw he hle hb (s.weak fun b => by simp only [List.count_append]; omega)
  | _, _, _, _, _, outs, N, e0, e, e', .io (ms := ms) (i := i) (es := es) hσ r0 l, a, hn, hl, hw, he, hle, hb, P2, s => by
    cases outs with
    | nil => simp [TL.ioBack] at hb
    | cons o outs =>
      cases o with
      | none => simp [TL.ioBack] at hb
      | some o =>
        simp only [TL.ioBack] at hb
        simp only [ioSlots, List.nodup_cons] at hn
        simp only [ioSlots, List.mem_cons, forall_eq_or_imp] at hl
        simp only [ioSlots, wipeE] at hw he
        cases a with
        | cons r a =>
          rename_i N1 N2
          have hi : i < e.length := by rw [← hle]; exact hl.1
          have h0 : e[i]? = some none := by
            rw [he, List.getElem?_set_self (by rw [wipeE_len]; exact hi)]
          have s1 := SX.back (L1 := N1) (L := N2) (sl := .own o) s h0 hσ (by cases r with | own r => exact .own r)
          have h1 : wipeE (e.set i (some (.own o))) (ioSlots ms es) = wipeE (e0.set i (some (.own o))) (ioSlots ms es) := by
            rw [wipeE_set hn.1, wipeE_set hn.1]
            have := congrArg (fun z : Ev => z.set i (some (.own o))) hw
            simpa only [List.set_set] using this
          have h2 : e.set i (some (.own o)) = wipeE (e.set i (some (.own o))) (ioSlots ms es) := by
            rw [wipeE_set hn.1]
            have := congrArg (fun z : Ev => z.set i (some (.own o))) he
            simpa only [List.set_set] using this
          exact SX.ioBack l a hn.2 (by simpa only [List.length_set] using hl.2) h1 h2 (by simpa only [List.length_set] using hle) hb s1
theorem IOV.lt : ∀ {ms : List Md} {es : List E} {fs : List D} {env : Ev} {avs : List AV}, ioArgs ms es fs env = some avs → ∀ i ∈ ioSlots ms es, i < env.length
  | [], [], _, _, _, _, i, h => by simp [ioSlots] at h
  | .f :: ms, x :: es, d :: fs, env, avs, h, i, hi => by
    simp only [ioArgs] at h
    obtain ⟨as, h1, h2⟩ := Option.map_eq_some_iff.mp h
    exact IOV.lt h1 i (by simpa only [ioSlots] using hi)
  | .b :: ms, .var j :: es, fs, env, avs, h, i, hi => by
    simp only [ioArgs] at h
    split at h
    · rename_i d r hd hr
      exact IOV.lt hr i (by simpa only [ioSlots] using hi)
    · cases h
  | .io :: ms, .var j :: es, fs, env, avs, h, i, hi => by
    simp only [ioArgs] at h
    split at h
    · rename_i o r ho hr
      simp only [ioSlots, List.mem_cons] at hi
      rcases hi with rfl | hi
      · unfold ioAt at ho
        split at ho
        · rename_i o' e; exact (List.getElem?_eq_some_iff.mp e).1
        · cases ho
      · exact IOV.lt hr i hi
    · cases h
  | .f :: _, _ :: _, [], _, _, h, _, _ => by simp [ioArgs] at h
  | [], _ :: _, _, _, _, _, i, h => by simp [ioSlots] at h
  | m :: _, [], _, _, _, _, i, h => by cases m <;> simp [ioSlots] at h
/-- behind such a call -/
theorem SX.afterIO {F' H' : Hp} {ms : List Md} {es : List E} {fs : List D} {vs : List V} {avs : List AV} {L : List Addr} {outs : List (Option O)} {e' : Ev} {r : O} {v : V} (s0 : SX K F P H ts tv σ env []) (st : ∀ t ∈ tv, stable t = true) (iv : IOV K F H σ env ms es vs avs L) (s : SX K F P H ts tv σ (wipeE env (ioSlots ms es)) L)
    (hn : (ioSlots ms es).Nodup) (hio : ioArgs ms es fs env = some avs) (hb : TL.ioBack ms es outs env = some e') (x : Ext (lessH H L) F F') (c : SR K F' (lessH H L) H' [v] [.own r] (vs.map some) (outs.map (Option.map SL.own))) :
    Ext P F F' ∧ SR K F' P H' (v :: ts) (.own r :: tv) σ e' := by
  have up : ∀ {b : Addr} {u : HO}, P b = some u → lessH H L b = some u := fun {b u} h => by
    rw [lessH_out fun z => by rw [s.fP z] at h; cases h]
    exact s.ph b u h
  refine ⟨⟨x.up, fun b o h1 h2 => ?_⟩, ?_⟩
  · have := x.new b o h1 h2
    cases q : P b with
    | none => rfl
    | some u => rw [up q] at this; cases this
  · obtain ⟨L1, r1, s1⟩ := c.sx.pop
    obtain ⟨N1, N2, an, asn, gn⟩ := s1.ex
    cases an
    obtain ⟨M1, M2, a, b, g⟩ := s.ex
    simp only [List.append_nil, List.nil_append] at gn
    have tr : ∀ c ∈ M1 ++ M2, ∃ u, H c = some u := fun c hc => by
      rcases List.mem_append.mp hc with h | h
      · exact a.trk c h
      · exact b.trk c h
    have ms' : ∀ c ∈ M1 ++ M2, ∃ u, lessH H L c = some u := fun c hc => by
      obtain ⟨u, hu⟩ := tr c hc
      refine ⟨u, ?_⟩
      rw [lessH_out fun z => g.dis z hc]
      exact hu
    have keep : ∀ c ∈ M1 ++ M2, H' c = H c := fun c hc => by
      obtain ⟨u, hu⟩ := ms' c hc
      obtain ⟨u', hu'⟩ := tr c hc
      have : lessH H L c = H c := lessH_out fun z => g.dis z hc
      rw [s1.ph c u hu, ← this, hu]
    have key : SX K F' P H' ts tv σ (wipeE env (ioSlots ms es)) (L1 ++ N2) := by
      refine ⟨⟨M1, M2, a.mono x.up st fun c hc => keep c (by simp [hc]), b.mono x.up fun c hc => keep c (by simp [hc]), ⟨fun c => ?_, fun c hc => ?_, fun c hc => ?_⟩⟩, s1.fh, fun c u h => s1.ph c u (up h), fun c hc => ?_⟩
      · have h1 := gn.one c
        have h2 := g.one c
        rw [List.count_append]
        rw [List.count_append] at h2
        by_cases hc : c ∈ L1 ++ N2
        · have : c ∉ M1 ++ M2 := fun hm => by
            obtain ⟨u, hu⟩ := ms' c hm
            rw [gn.fP c hc] at hu; cases hu
          rw [List.count_eq_zero_of_not_mem this]; omega
        · rw [List.count_eq_zero_of_not_mem hc]; omega
      · rcases List.mem_append.mp hc with h | h
        · exact gn.fF c h
        · cases q : F' c with
          | none => rfl
          | some o =>
            have := x.new c o q (g.fF c (List.mem_append_right _ h))
            obtain ⟨u, hu⟩ := ms' c h
            rw [hu] at this; cases this
      · rcases List.mem_append.mp hc with h | h
        · cases q : P c with
          | none => rfl
          | some u =>
            have := gn.fP c h
            rw [up q] at this; cases this
        · exact g.fP c (List.mem_append_right _ h)
      · rcases List.mem_append.mp hc with h | h
        · exact s1.trk c (by simpa using h)
        · exact asn.trk c h
    have k2 := SX.push (L1 := L1) (L := N2) key r1
    have hle : env.length = (wipeE env (ioSlots ms es)).length := (wipeE_len _ _).symm
    have hid : wipeE (wipeE env (ioSlots ms es)) (ioSlots ms es) = wipeE env (ioSlots ms es) := by
      apply List.ext_getElem?
      intro i
      by_cases hi : i ∈ ioSlots ms es
      · by_cases hl : i < env.length
        · rw [wipeE_in _ hi (by rw [wipeE_len]; exact hl), wipeE_in _ hi hl]
        · rw [List.getElem?_eq_none (by rw [wipeE_len, wipeE_len]; omega), List.getElem?_eq_none (by rw [wipeE_len]; omega)]
      · rw [wipeE_out _ hi]
    exact (SX.ioBack iv asn hn (fun i hi => IOV.lt hio i hi) hid hid.symm hle hb k2).sr
end
theorem so_cio {X : Cx} {w : WC} {c : CF} {id : Nat} {k : Nat} {f : Addr} {fd : FuncData} {ps : List Str} {x : Str} {p pos : Pos} {e1 : Expr} {es : List Expr} {ms : List Md} {xs : List E} {rf : Ev → R (List D)}
    (Fo : FnOk X.prog X.w X.K X.mg X.base (L2.CX X.prog X.w) k f fd ps (spK X.K w.cad c id)) (hr : Room k X.A) (hg : Gl X x) (hm : X.mg x = some (.ref f)) (hk : PySem.W.keepIn X.K (.ref f) = true) (hb : Binds X.K fd ps [])
    (tk : Takes X w.W) (hn : ∀ x p, e1 ≠ .Starred x p) (hdb : (x == ("__debug__" : Str)) = false) (hpl : (backTo pos (starEach es X.env)).any (·.1) = false)
    (ha : PA X (e1 :: es) (tF X.K w rf ms xs)) :
    PE X (.Call (.Name x p) (e1 :: es) [] pos) (tE X.K w false fun e => (rf e).bd fun fs e1 => if (ioSlots ms xs).Nodup ∧ (bSlots ms xs).all (fun i => !(ioSlots ms xs).contains i) then match ioArgs ms xs fs e1 with
      | none => .bad
      | some avs => match c id avs with
        | .ok r outs => (R.lf (ioBack ms xs outs e1) e1).bd fun e2 _ => .ok (.own r) e2
        | .exc x outs => (R.lf (ioBack ms xs outs e1) e1).bd fun e2 _ => .exc x e2
        | .bad => .bad
    else .bad) := by
  have key : PE X (.Call (.Name x p) (e1 :: es) [] pos) (fun σ H Q => tF X.K w rf ms xs σ H fun vs H1 => spK X.K w.cad c id vs H1 Q (fun cls d H => w.W cls d σ H)) := by
    refine ⟨fun pins s σ H Q I h => ?_⟩
    refine wpAny_Call_Name_kw (ld_glob I hg hm ?_ hdb)
    refine PySem.W.callWith_K (h₀ := X.base) I.ok.mod.kin hk (thn (ha.run pos pins s σ H _ I h) fun us s1 ⟨vs, H1, I1, r, qq⟩ => ⟨I1.kIn, ?_⟩) (starEach_cons hn) hpl
    have hl : us.length = ps.length := by rw [← r.length]; exact Fo.len _ _ _ _ qq
    have hb' := hb s1 us I1.kIn (by simpa using hl)
    rw [List.append_nil] at hb'
    refine wpAny_call (codeAny_mono (Fo.run X.A X.stack s1 H1 ⟨us, []⟩ us vs Q (fun cls d H => w.W cls d σ H) hr I1.env0 hb' r qq) fun r s' hq => ?_)
    cases r with
    | error e => exact tk e s' (XE.of_call I1 (fun _ _ _ h => h) hq)
    | ok fl =>
      cases fl with
      | ret u => exact I1.after hq
      | next => exact False.elim hq
      | brk => exact False.elim hq
      | cont => exact False.elim hq
  refine PE.imp key fun σ H Q h => ?_
  obtain ⟨F, P, ts, tv, env, sr, hq, h⟩ := h
  have hst : ∀ t ∈ tv, stable t = true := hq.elim (fun z => nomatch z) fun z => z
  refine ⟨F, P, ts, tv, env, sr, hst, ?_⟩
  dsimp only at h ⊢
  cases ea : rf env with
  | bad => rw [ea] at h; exact h
  | exc c e => rw [ea] at h; exact Res.exc0 h fun z => z
  | ok fs e1 =>
    rw [ea] at h
    intro F1 H1 x1 _ vs av sr1
    simp only [R.bd_ok] at h
    split at h
    · rename_i hc
      obtain ⟨hnd, hbs⟩ := hc
      split at h
      · exact h.elim
      · rename_i avs hio
        obtain ⟨L, iv, s⟩ := sr1.sx.lend av hnd hio
        have ha := iv.as sr1.sx s (fun i hi => by
          have := List.all_eq_true.mp hbs i hi
          simpa using this)
        have hlen := iv.len
        refine ⟨F1, lessH H1 L, avs, hlen, ⟨⟨[], L, .nil, ha, ?_⟩, sr1.fh, fun b u hu => ?_⟩, ?_⟩
        · obtain ⟨M1, M2, _, _, g⟩ := s.ex
          have g2 : Good F1 P L := g.sub fun b => by simp only [List.count_append]; omega
          exact ⟨g2.one, g2.fF, fun b hb => lessH_in hb⟩
        · by_cases hb : b ∈ L
          · rw [lessH_in hb] at hu; cases hu
          · rw [lessH_out hb] at hu; exact hu
        · cases ec : c id avs with
          | bad => rw [ec] at h; exact h
          | ok r outs =>
            rw [ec] at h
            dsimp only at h
            intro F' H' v x' c'
            cases eb : ioBack ms xs outs e1 with
            | none => rw [eb] at h; exact h.elim
            | some e2 =>
              rw [eb] at h
              obtain ⟨y1, y2⟩ := SX.afterIO sr1.sx hst iv s hnd hio eb x' c'
              exact h F' H' (x1.trans y1) (fun z => nomatch z) v y2
          | exc n outs =>
            rw [ec] at h
            dsimp only at h
            intro F' H' x' c'
            cases eb : ioBack ms xs outs e1 with
            | none => rw [eb] at h; exact h.elim
            | some e2 =>
              rw [eb] at h
              obtain ⟨y1, y2⟩ := SX.afterIO (v := .non) (r := .fz .none) sr1.sx hst iv s hnd hio eb x' (c'.sx.pushF .non).sr
              exact h F' H' (x1.trans y1) (fun z => nomatch z) y2.drop1
    · exact h.elim
/-- o.index(e), a list of plain items -/
theorem so_idx {X : Cx} {w : WC} {a b : Expr} {apos pos : Pos} {qa qb : Bool} {ra rb : Ev → R TV} (ha : PE X a (tE X.K w qa ra)) (hb : PE X b (tE X.K w qb rb)) (hn : ∀ x p, b ≠ .Starred x p) (ho : ∀ id p q, a ≠ .Call (.Name id p) [] [] q)
    (hl : (apos.endLine == pos.line) = true) : PE X (.Call (.Attribute a "index" apos) [b] [] pos)
      (tE X.K w (qa && qb) fun e => (ra e).bd fun ta e1 => if isLsD ta then (if qb || stable ta then (rb e1).bd fun tb e2 => R.lf (idxV ta tb) e2 else .bad) else .bad) := by
  have hs1 : starEach [b] X.env = [(false, eval b X.env)] := starEach_cons hn
  have key := pe_bm PySem.F.plainAttrs_list PySem.F.slot_list_index PySem.F.type_list_index mt_index (apos := apos) (cpos := pos) ha (pa_cons hb pa_nil (starEach_cons hn)) (attrBase ho) (by rw [hs1]; rfl) hl (starEach_cons hn) (by rfl)
  refine PE.imp key fun σ H Q h => ?_
  refine tG1 (pk := fun P ts tv => pkE X.K P ts tv σ Q) (fun z => (Bool.and_eq_true_iff.mp z).1) h fun F2 P H2 v1 ta ts tv e2 sr hq k => ?_
  have i1 := sr.rd1
  by_cases hs : isLsD ta = true
  · rw [if_pos hs] at k
    have : ∃ z, rd ta = .list z := by
      unfold isLsD at hs
      split at hs
      · exact ⟨_, by assumption⟩
      · cases hs
    obtain ⟨z, ez⟩ := this
    rw [ez] at i1
    cases i1 with
    | lst sq0 l0 =>
      refine ⟨.inl ⟨rfl, _, sq0⟩, ?_⟩
      by_cases hb : (qb || stable ta) = true
      · rw [if_pos hb] at k
        refine tG2 (pk := fun P ts tv => pkE X.K P ts tv σ Q) (fun z => (Bool.and_eq_true_iff.mp z).2) sr hq hb k fun F3 H3 v2 tb e3 sr3 k3 => ?_
        obtain ⟨L2, r2, s2⟩ := sr3.sx.pop
        obtain ⟨L1, r1, s1⟩ := s2.pop
        have i2 := r2.is sr3.fh
        have i3 := r1.is sr3.fh
        rw [ez] at i3
        cases ec : idxV ta tb with
        | none => rw [ec] at k3; exact k3.elim
        | some t =>
          rw [ec] at k3
          have s0 : SX X.K F3 P H3 ts tv σ e3 [] := s1.weak fun b => by simp
          unfold idxV at ec
          rw [ez] at ec
          obtain ⟨j, ej, et⟩ := Option.map_eq_some_iff.mp ec
          subst et
          unfold idxD at ej
          dsimp only at ej
          split at ej
          · rename_i hf
            simp only [Bool.and_eq_true] at hf
            obtain ⟨hj, hp, hno⟩ := List.findIdx?_eq_some_iff_getElem.mp ej
            cases i3 with
            | lst sq l =>
              obtain ⟨zv, hz1, hz2⟩ := l.get (List.getElem?_eq_getElem hj)
              have fa := List.all_eq_true.mp hf.1
              refine ⟨_, _, _, j, zv, rfl, rfl, sq, i2.flat hf.2, l.flat hf.1, hz1, ?_, fun m z' hm hz' => ?_, k3.here _ (s0.pushF (.int _)).sr⟩
              · rw [eqV_eqv hz2 i2 (fa _ (List.getElem_mem hj)) hf.2]; exact hp
              · obtain ⟨zv', hw1, hw2⟩ := l.get (List.getElem?_eq_getElem (by omega : m < z.length))
                rw [hz'] at hw1
                cases hw1
                rw [eqV_eqv hw2 i2 (fa _ (List.getElem_mem _)) hf.2]
                have := hno m hm
                simpa using this
          · cases ej
      · rw [if_neg hb] at k; exact k.elim
  · rw [if_neg hs] at k; exact k.elim
/-! calls with values made on the spot that the callee may change -/
def noB : AV → Bool
  | .b _ => false
  | _ => true
theorem AS.ofATg {K : PySem.W.Frag} {F P H : Hp} : ∀ {as : List AV} {vs : List V} {L : List Addr}, AT K F H vs (as.map tvA) L → (∀ a ∈ as, noB a = true) → AS K F P H (vs.map some) (as.map fun a => some (slA a)) L
  | [], _, _, .nil, _ => .nil
  | .f d :: as, _, _, .cons r l, h => by
    have a := AS.ofATg (P := P) l fun x hx => h x (by simp [hx])
    cases r with
    | own r => exact AS.cons (.own r) a
  | .b d :: as, _, _, .cons r l, h => by simpa [noB] using h (.b d) (by simp)
  | .io o :: as, _, _, .cons r l, h => by
    have a := AS.ofATg (P := P) l fun x hx => h x (by simp [hx])
    cases r with
    | own r => exact AS.cons (.own r) a
theorem evalGs_B {cf : CF} : ∀ {ms : List Md} {es : List E} {e e' : Ev} {us : List AV}, evalGs cf ms es e = .ok us e' → ∀ a ∈ us, noB a = true
  | [], [], e, e', us, h => by simp only [evalGs] at h; cases h; intro a ha; simp at ha
  | .f :: ms, x :: xs, e, e', us, h => by
    simp only [evalGs] at h
    cases h1 : stv x (evalE cf x e) e with
    | ok t e1 =>
      rw [h1] at h
      simp only [R.bd_ok] at h
      cases h3 : frzO t with
      | none => rw [h3] at h; cases h
      | some d =>
        rw [h3] at h
        dsimp only at h
        cases h2 : evalGs cf ms xs e1 with
        | ok ts e2 =>
          rw [h2] at h; cases h
          intro a ha
          rcases List.mem_cons.mp ha with e | ha
          · rw [e]; rfl
          · exact evalGs_B h2 a ha
        | exc c e2 => rw [h2] at h; cases h
        | bad => rw [h2] at h; cases h
    | exc c e1 => rw [h1] at h; cases h
    | bad => rw [h1] at h; cases h
  | .io :: ms, x :: xs, e, e', us, h => by
    simp only [evalGs] at h
    cases h1 : evalE cf x e with
    | ok t e1 =>
      rw [h1] at h
      simp only [R.bd_ok] at h
      cases t with
      | brw o => cases h
      | own o =>
        dsimp only at h
        cases h2 : evalGs cf ms xs e1 with
        | ok ts e2 =>
          rw [h2] at h; cases h
          intro a ha
          rcases List.mem_cons.mp ha with e | ha
          · rw [e]; rfl
          · exact evalGs_B h2 a ha
        | exc c e2 => rw [h2] at h; cases h
        | bad => rw [h2] at h; cases h
    | exc c e1 => rw [h1] at h; cases h
    | bad => rw [h1] at h; cases h
  | .b :: _, _ :: _, _, _, _, h => by simp [evalGs] at h
  | [], _ :: _, _, _, _, h => by simp [evalGs] at h
  | _ :: _, [], _, _, _, h => by simp [evalGs] at h
/-- an own value handed over -/
theorem so_argO {X : Cx} {w : WC} {e : Expr} {q : Bool} {ra : Ev → R TV} (h : PE X e (tE X.K w q ra)) : PE X e (tE X.K w q fun e => (ra e).bd fun t e1 => match t with
    | .own o => .ok (.own o) e1
    | .brw _ => .bad) := by
  refine PE.imp h fun σ H Q h => ?_
  refine tG1 (pk := fun P ts tv => pkE X.K P ts tv σ Q) (fun z => z) h fun F2 P H2 v1 ta ts tv e2 sr hq k => ?_
  cases ta with
  | brw o => exact k.elim
  | own o => exact k.here v1 sr
/-- behind such a call -/
theorem SX.afterT {K : PySem.W.Frag} {F P H F' H' : Hp} {ts : List V} {tv : List TV} {σ : St} {env : Ev} {L : List Addr} {r : O} {v : V} {rest : St} {outs : Ev} (st : ∀ t ∈ tv, stable t = true) (s : SX K F P H ts tv σ env L)
    (x : Ext (lessH H L) F F') (c : SR K F' (lessH H L) H' [v] [.own r] rest outs) :
    Ext P F F' ∧ SR K F' P H' (v :: ts) (.own r :: tv) σ env := by
  have up : ∀ {b : Addr} {u : HO}, P b = some u → lessH H L b = some u := fun {b u} h => by
    rw [lessH_out fun z => by rw [s.fP z] at h; cases h]
    exact s.ph b u h
  refine ⟨⟨x.up, fun b o h1 h2 => ?_⟩, ?_⟩
  · have := x.new b o h1 h2
    cases q : P b with
    | none => rfl
    | some u => rw [up q] at this; cases this
  · obtain ⟨L1, r1, s1⟩ := c.sx.pop
    obtain ⟨N1, N2, an, asn, gn⟩ := s1.ex
    cases an
    obtain ⟨M1, M2, a, b, g⟩ := s.ex
    simp only [List.append_nil, List.nil_append] at gn
    have tr : ∀ c ∈ M1 ++ M2, ∃ u, H c = some u := fun c hc => by
      rcases List.mem_append.mp hc with h | h
      · exact a.trk c h
      · exact b.trk c h
    have ms' : ∀ c ∈ M1 ++ M2, ∃ u, lessH H L c = some u := fun c hc => by
      obtain ⟨u, hu⟩ := tr c hc
      refine ⟨u, ?_⟩
      rw [lessH_out fun z => g.dis z hc]
      exact hu
    have keep : ∀ c ∈ M1 ++ M2, H' c = H c := fun c hc => by
      obtain ⟨u, hu⟩ := ms' c hc
      obtain ⟨u', hu'⟩ := tr c hc
      have : lessH H L c = H c := lessH_out fun z => g.dis z hc
      rw [s1.ph c u hu, ← this, hu]
    have key : SX K F' P H' ts tv σ env (L1 ++ N2) := by
      refine ⟨⟨M1, M2, a.mono x.up st fun c hc => keep c (by simp [hc]), b.mono x.up fun c hc => keep c (by simp [hc]), ⟨fun c => ?_, fun c hc => ?_, fun c hc => ?_⟩⟩, s1.fh, fun c u h => s1.ph c u (up h), fun c hc => ?_⟩
      · have h1 := gn.one c
        have h2 := g.one c
        rw [List.count_append]
        rw [List.count_append] at h2
        by_cases hc : c ∈ L1 ++ N2
        · have : c ∉ M1 ++ M2 := fun hm => by
            obtain ⟨u, hu⟩ := ms' c hm
            rw [gn.fP c hc] at hu; cases hu
          rw [List.count_eq_zero_of_not_mem this]; omega
        · rw [List.count_eq_zero_of_not_mem hc]; omega
      · rcases List.mem_append.mp hc with h | h
        · exact gn.fF c h
        · cases q : F' c with
          | none => rfl
          | some o =>
            have := x.new c o q (g.fF c (List.mem_append_right _ h))
            obtain ⟨u, hu⟩ := ms' c h
            rw [hu] at this; cases this
      · rcases List.mem_append.mp hc with h | h
        · cases q : P c with
          | none => rfl
          | some u =>
            have := gn.fP c h
            rw [up q] at this; cases this
        · exact g.fP c (List.mem_append_right _ h)
      · rcases List.mem_append.mp hc with h | h
        · exact s1.trk c (by simpa using h)
        · exact asn.trk c h
    exact ((SX.push (L1 := L1) (L := N2) key r1).weak (L' := []) fun b => by simp).sr
theorem so_cfr {X : Cx} {w : WC} {c : CF} {id : Nat} {k : Nat} {f : Addr} {fd : FuncData} {ps : List Str} {x : Str} {p pos : Pos} {e1 : Expr} {es : List Expr} {q : Bool} {ra : Ev → R (List AV)}
    (Fo : FnOk X.prog X.w X.K X.mg X.base (L2.CX X.prog X.w) k f fd ps (spK X.K w.cad c id)) (hr : Room k X.A) (hg : Gl X x) (hm : X.mg x = some (.ref f)) (hk : PySem.W.keepIn X.K (.ref f) = true) (hb : Binds X.K fd ps [])
    (tk : Takes X w.W) (hn : ∀ x p, e1 ≠ .Starred x p) (hdb : (x == ("__debug__" : Str)) = false) (hpl : (backTo pos (starEach es X.env)).any (·.1) = false)
    (ha : PA X (e1 :: es) (tL X.K w q fun e => (ra e).bd fun as e1 => .ok (as.map tvA) e1)) (hF : ∀ e as e', ra e = .ok as e' → ∀ a ∈ as, noB a = true) :
    PE X (.Call (.Name x p) (e1 :: es) [] pos) (tE X.K w false fun e => (ra e).bd fun avs e1 => match c id avs with
      | .ok r _ => .ok (.own r) e1
      | .exc x _ => .exc x e1
      | .bad => .bad) := by
  have key : PE X (.Call (.Name x p) (e1 :: es) [] pos) (fun σ H Q => tL X.K w q (fun e => (ra e).bd fun as e1 => .ok (as.map tvA) e1) σ H fun vs H1 => spK X.K w.cad c id vs H1 Q (fun cls d H => w.W cls d σ H)) := by
    refine ⟨fun pins s σ H Q I h => ?_⟩
    refine wpAny_Call_Name_kw (ld_glob I hg hm ?_ hdb)
    refine PySem.W.callWith_K (h₀ := X.base) I.ok.mod.kin hk (thn (ha.run pos pins s σ H _ I h) fun us s1 ⟨vs, H1, I1, r, qq⟩ => ⟨I1.kIn, ?_⟩) (starEach_cons hn) hpl
    have hl : us.length = ps.length := by rw [← r.length]; exact Fo.len _ _ _ _ qq
    have hb' := hb s1 us I1.kIn (by simpa using hl)
    rw [List.append_nil] at hb'
    refine wpAny_call (codeAny_mono (Fo.run X.A X.stack s1 H1 ⟨us, []⟩ us vs Q (fun cls d H => w.W cls d σ H) hr I1.env0 hb' r qq) fun r s' hq => ?_)
    cases r with
    | error e => exact tk e s' (XE.of_call I1 (fun _ _ _ h => h) hq)
    | ok fl =>
      cases fl with
      | ret u => exact I1.after hq
      | next => exact False.elim hq
      | brk => exact False.elim hq
      | cont => exact False.elim hq
  refine PE.imp key fun σ H Q h => ?_
  obtain ⟨F, P, ts, tv, env, sr, hq, h⟩ := h
  have hst : ∀ t ∈ tv, stable t = true := hq.elim (fun z => nomatch z) fun z => z
  refine ⟨F, P, ts, tv, env, sr, .inr hst, ?_⟩
  dsimp only at h ⊢
  cases ea : ra env with
  | bad => rw [ea] at h; exact h
  | exc c e => rw [ea] at h; exact Res.exc0 h fun z => nomatch z
  | ok as e1 =>
    rw [ea] at h
    intro F1 H1 x1 _ vs hlen sr1
    obtain ⟨L, a, s⟩ := sr1.popL hlen
    have b := AS.ofATg (P := lessH H1 L) a (hF _ _ _ ea)
    simp only [R.bd_ok] at h
    have hlen2 : vs.length = as.length := by simpa using hlen
    refine ⟨F1, lessH H1 L, as, hlen2, ⟨⟨[], L, .nil, b, ?_⟩, sr1.fh, fun b u hu => ?_⟩, ?_⟩
    · obtain ⟨M1, M2, _, _, g⟩ := s.ex
      have g2 : Good F1 P L := g.sub fun b => by simp only [List.count_append]; omega
      exact ⟨g2.one, g2.fF, fun b hb => lessH_in hb⟩
    · by_cases hb : b ∈ L
      · rw [lessH_in hb] at hu; cases hu
      · rw [lessH_out hb] at hu; exact hu
    · cases ec : c id as with
      | bad => rw [ec] at h; exact h
      | ok r outs =>
        rw [ec] at h
        intro F' H' v x' c'
        obtain ⟨y1, y2⟩ := s.afterT hst x' c'
        exact h F' H' (x1.trans y1) (fun z => nomatch z) v y2
      | exc n outs =>
        rw [ec] at h
        intro F' H' x' c'
        obtain ⟨y1, y2⟩ := s.afterT (v := .non) (r := .fz .none) hst x' (c'.sx.pushF .non).sr
        exact h F' H' (x1.trans y1) (fun z => nomatch z) y2.drop1
theorem tF_conv {X : Cx} {w : WC} {es : List Expr} {ms : List Md} {xs : List E} {r r' : Ev → R (List D)} (h : PA X es (tF X.K w r ms xs)) (hr : ∀ e, r' e = r e) : PA X es (tF X.K w r' ms xs) := by
  have : r' = r := funext hr
  subst this
  exact h
theorem tF_bad {X : Cx} {w : WC} {es : List Expr} {ms : List Md} {xs : List E} {r : Ev → R (List D)} (h : ∀ e, r e = .bad) : PA X es (tF X.K w r ms xs) :=
  ⟨fun pos pins s σ H Q I z => by
    obtain ⟨F, P, ts, tv, env, sr, hq, z⟩ := z
    rw [h] at z
    exact z.elim⟩
/-- what a slot owns, handed on -/
theorem so_mvE {X : Cx} {w : WC} {i : Nat} {x : Str} {pos : Pos} (hN : X.N[i]? = some x) (hv : Vis X.env.scope x) (hd : (x == ("__debug__" : Str)) = false) (hcd : (x == ("__classdict__" : Str)) = false) :
    PE X (.Name x pos) (tE X.K w true fun e => match e[i]? with
      | some (some (.own o)) => .ok (.own o) (e.set i none)
      | _ => .bad) := by
  refine PE.imp (pe_var hN hv hd hcd) fun σ H Q h => ?_
  obtain ⟨F, P, ts, tv, env, sr, hq, h⟩ := h
  dsimp only at h
  split at h
  · rename_i o e
    obtain ⟨v, L1, h1, h2, s⟩ := sr.sx.take e
    refine ⟨v, h1, ?_⟩
    cases h2 with
    | own r => exact h.here v (SX.push s (.own r)).sr
  · exact h.elim
end TL
namespace TL
open PySem PySem.Spec L2
theorem PA.conv {X : Cx} {w : WC} {es : List Expr} {q q' : Bool} {r r' : Ev → R (List TV)} (h : PA X es (tL X.K w q r)) (hq : q = q') (hr : ∀ e, r e = r' e) : PA X es (tL X.K w q' r') := by
  subst hq
  have : r = r' := funext hr
  subst this
  exact h
theorem PE.conv {X : Cx} {w : WC} {e : Expr} {q q' : Bool} {r r' : Ev → R TV} (h : PE X e (tE X.K w q r)) (hq : q = q') (hr : ∀ e, r e = r' e) : PE X e (tE X.K w q' r') := by
  subst hq
  have : r = r' := funext hr
  subst this
  exact h
theorem and3 {a b : Bool} (h : (a && b) = true) : a = true ∧ b = true := Bool.and_eq_true_iff.mp h
theorem lcGo_par {own : List Nat} {t : Tg} {rc : Ev → R Bool} {ro : Ev → R O} (h1 : ∀ e, RPs e (rc e)) (h2 : ∀ e, RPs e (ro e)) :
    ∀ xs acc e os e', lcGo (turnL own t rc ro) xs acc e = .ok os e' → ∀ (i : Nat) d, i ∉ own → e'[i]? = some (some (.par d)) → e[i]? = some (some (.par d)) := fun xs acc e os e' h i d _ z => by
  have q : RPs e (lcGo (turnL own t rc ro) xs acc e) := lcGo_ps (turnL_ps h1 h2)
  rw [h] at q
  exact q i d z
theorem pa_bad {X : Cx} {w : WC} {es : List Expr} {q : Bool} {r : Ev → R (List TV)} (h : ∀ e, r e = .bad) : PA X es (tL X.K w q r) :=
  ⟨fun pos pins s σ H Q I z => by
    obtain ⟨F, P, ts, tv, env, sr, hq, z⟩ := z
    rw [h] at z
    exact z.elim⟩
theorem tL.len {K : PySem.W.Frag} {w : WC} {cf : CF} {ir : List E} {n : Nat} (hn : ir.length = n) (σ : St) (H : Hp) (Q Q' : List V → Hp → Prop) (k : ∀ vs H1, vs.length = n → Q vs H1 → Q' vs H1) (h : tL K w true (fun e => evalTs cf ir e) σ H Q) : tL K w true (fun e => evalTs cf ir e) σ H Q' := by
  obtain ⟨F, P, ts, tv, env, sr, hq, h⟩ := h
  refine ⟨F, P, ts, tv, env, sr, hq, ?_⟩
  dsimp only at h ⊢
  cases e : evalTs cf ir env with
  | bad => rw [e] at h; exact h
  | exc c e1 => rw [e] at h; exact Res.exc0 h fun z => z
  | ok us e1 =>
    rw [e] at h
    intro F' H' x s vs hl sr'
    exact k vs H' (by rw [hl, evalTs_len e, hn]) (h F' H' x s vs hl sr')
/-- an iteration's reading -/
theorem sndI (cf : CF) (ir : List E) {m : MC} {k : Ik} {tg iter : Expr} {args : List Expr} {w : WC} {X : Cx} (ha : itArgs k tg iter = some args) (hf : itFre k m = true) (hL : matchL ir m args = true) (hq : quiets ir = true) (x : XC m cf w X)
    (hT : PA X args (tL X.K w true (evalTs cf ir))) (hE : ∀ s e, ir = [s] → matchL ir m [e] = true → Snd X w cf s e) :
    PI X tg iter fun σ H R => tL X.K w true (fun e => evalTs cf ir e) σ H fun vs H1 => WR X.K k vs H1 R := by
  obtain ⟨h1, h2⟩ := matchL_nst hL
  by_cases hk : k = .sq
  · subst hk
    simp only [itArgs] at ha
    split at ha
    · cases ha
    · cases ha
      obtain ⟨s, rfl⟩ := List.length_eq_one_iff.mp h2.symm
      have pe := (hE s iter rfl hL).pe
      have hs : quiet s = true := (and3 hq).1
      rw [hs] at pe
      refine PI.imp (pi_sqP pe) fun σ H R h => ?_
      obtain ⟨F, P, ts, tv, env, sr, hq', h⟩ := h
      refine ⟨F, P, ts, tv, env, sr, hq', ?_⟩
      simp only [evalTs] at h
      cases e : evalE cf s env with
      | bad => rw [e] at h; exact h
      | exc c e1 => rw [e] at h; exact Res.exc0 h fun z => z
      | ok t e1 =>
        rw [e] at h
        intro F' H' y z v sr'
        exact h F' H' y z [v] rfl sr'
  · exact pi_args hk ha hf x h1 hT fun σ H Q Q' k h => tL.len h2.symm σ H Q Q' k h
mutual
theorem snd (cf : CF) : ∀ (ir : E) {m : MC} {e : Expr} {w : WC} {X : Cx}, matchE ir m e = true → XC m cf w X → Snd X w cf ir e
  | .con d, m, e, w, X, h, x => by
    simp only [matchE] at h
    split at h
    · rename_i c hu
      obtain ⟨k, p, rfl⟩ := unCon_eq hu
      exact Snd.of (so_con h) (by intros; exact nofun) (by intros; exact nofun) (by intros; exact nofun) (by intros; exact nofun)
    · cases h
  | .var i, m, e, w, X, h, x => by
    simp only [matchE] at h
    split at h
    · rename_i y hu
      obtain ⟨p, rfl⟩ := unName_eq hu
      obtain ⟨h1, h2, h3, h4⟩ := x.vis h
      exact Snd.of (so_var h1 h2 h3 h4) (by intros; exact nofun) (by intros; exact nofun) (by intros; exact nofun) (by intros; exact nofun)
    · cases h
  | .glb y d, m, e, w, X, h, x => by
    simp only [matchE] at h
    split at h
    · rename_i z hu
      obtain ⟨p, rfl⟩ := unName_eq hu
      simp only [Bool.and_eq_true, decide_eq_true_eq, List.any_eq_true] at h
      obtain ⟨⟨rfl, hg⟩, g, hg1, hg2, hg3⟩ := h
      obtain ⟨g1, g2⟩ := x.gl hg
      obtain ⟨v, u, k1, k2, k3⟩ := x.gls g hg1
      rw [hg2] at k1
      rw [beqD_eq hg3] at k3
      exact Snd.of (so_glb g1 k1 k2 k3 g2) (by intros; exact nofun) (by intros; exact nofun) (by intros; exact nofun) (by intros; exact nofun)
    · cases h
  | .bin op a b, m, e, w, X, h, x => by
    simp only [matchE] at h
    split at h
    · rename_i a' o b' hu
      obtain ⟨p, rfl⟩ := unBin_eq hu
      simp only [Bool.and_eq_true, decide_eq_true_eq] at h
      obtain ⟨⟨rfl, h1⟩, h2⟩ := h
      exact Snd.of (so_bin (binR_ok _) (snd cf a h1 x).pe (snd cf b h2 x).pe fun F P H v1 v2 ta tb t ts tv σ e Q hb sr k => binR_res hb sr k) (by intros; exact nofun) (by intros; exact nofun) (by intros; exact nofun) (by intros; exact nofun)
    · cases h
  | .fzn a, m, e, w, X, h, x => by
    simp only [matchE, Bool.and_eq_true] at h
    have k := so_fzn (snd cf a h.2 x).pe
    have h1 := h.1
    cases e <;> first | (simp [fznOk] at h1; done) | exact Snd.of k (by intros; exact nofun) (by intros; exact nofun) (by intros; exact nofun) (by intros; exact nofun)
  | .fzi a, m, e, w, X, h, x => by
    simp only [matchE, Bool.and_eq_true] at h
    have k := so_fzi (snd cf a h.2 x).pe
    have h1 := h.1
    cases e <;> first | (simp [fznOk] at h1; done) | exact Snd.of k (by intros; exact nofun) (by intros; exact nofun) (by intros; exact nofun) (by intros; exact nofun)
  | .dp a, m, e, w, X, h, x => by
    simp only [matchE, Bool.and_eq_true] at h
    obtain ⟨⟨h1, h2⟩, h3⟩ := h
    have s := snd cf a h3 x
    exact ⟨so_dp s.pe, fun _ => so_dpT (s.pt h2), fun _ op vs p z => by subst z; cases h1⟩
  | .neg a, m, e, w, X, h, x => by
    simp only [matchE] at h
    split at h
    · rename_i o a' hu
      obtain ⟨p, rfl⟩ := unUn_eq hu
      simp only [Bool.and_eq_true, decide_eq_true_eq] at h
      obtain ⟨rfl, h1⟩ := h
      have k := so_neg (pos := p) (snd cf a h1 x).pe
      exact ⟨k, fun _ => so_test k (fun whole => rfl), fun _ op vs p z => by cases z⟩
    · cases h
  | .cmp op a b, m, e, w, X, h, x => by
    simp only [matchE] at h
    split at h
    · rename_i a' o b' hu
      obtain ⟨p, rfl⟩ := unCmp_eq hu
      simp only [Bool.and_eq_true, decide_eq_true_eq, Bool.not_eq_true'] at h
      obtain ⟨⟨⟨rfl, h0⟩, h1⟩, h2⟩ := h
      exact ⟨so_cmp (cmpR_ok x.un _) h0 (snd cf a h1 x).pe (snd cf b h2 x).pe fun H v1 v2 d1 d2 k Q hb i j q => cmpR_res hb i j q,
        fun _ => so_cmpT (cmpR_ok x.un _) h0 (snd cf a h1 x).pe (snd cf b h2 x).pe fun H v1 v2 d1 d2 k Q hb i j q => cmpR_res hb i j q, fun _ op vs p z => by cases z⟩
    · cases h
  | .chn op op' a b c, m, e, w, X, h, x => by
    simp only [matchE] at h
    split at h
    · rename_i a' o b' q c' hu
      obtain ⟨p, rfl⟩ := unChn_eq hu
      simp only [Bool.and_eq_true, decide_eq_true_eq, Bool.not_eq_true'] at h
      obtain ⟨⟨⟨⟨⟨rfl, rfl⟩, hm⟩, h1⟩, h2⟩, h3⟩ := h
      by_cases hq : (quiet a && quiet b && quiet c) = true
      · obtain ⟨q12, q3⟩ := and3 hq
        obtain ⟨q1, q2⟩ := and3 q12
        have ia := (snd cf a h1 x).pe
        have ib := (snd cf b h2 x).pe
        have ic := (snd cf c h3 x).pe
        rw [q1] at ia; rw [q2] at ib; rw [q3] at ic
        have ee : evalE cf (.chn o q a b c) = fun e => (evalE cf a e).bd fun ta e1 => (evalE cf b e1).bd fun tb e2 => (R.lf (cmpD o (rd ta) (rd tb)) e2).bd fun k e2 =>
            if k then (evalE cf c e2).bd fun tc e3 => R.lf ((cmpD q (rd tb) (rd tc)).map fun c => fl (.bool c)) e3 else .ok (fl (.bool false)) e2 := funext fun e => by
          simp only [evalE]
          rw [if_pos hq]
        have eq : quiet (.chn o q a b c) = true := hq
        have eq2 : ∀ e, evalE cf (.chn o q a b c) e = (evalE cf a e).bd fun ta e1 => (evalE cf b e1).bd fun tb e2 => (R.lf (cmpD o (rd ta) (rd tb)) e2).bd fun k e2 =>
            if k then (evalE cf c e2).bd fun tc e3 => R.lf ((cmpD q (rd tb) (rd tc)).map fun c => fl (.bool c)) e3 else .ok (fl (.bool false)) e2 := fun e => by rw [ee]
        refine ⟨?_, fun _ => ?_, fun _ op vs p z => by cases z⟩
        · rw [ee, eq]
          exact so_chn x.un hm ia ib ic
        · rw [eq]
          have e3 : (fun e => (evalE cf (.chn o q a b c) e).bd boolT) = fun e => ((evalE cf a e).bd fun ta e1 => (evalE cf b e1).bd fun tb e2 => (R.lf (cmpD o (rd ta) (rd tb)) e2).bd fun k e2 =>
            if k then (evalE cf c e2).bd fun tc e3 => R.lf ((cmpD q (rd tb) (rd tc)).map fun c => fl (.bool c)) e3 else .ok (fl (.bool false)) e2).bd boolT := funext fun e => by rw [eq2]
          rw [e3]
          exact st_chn x.un hm ia ib ic
      · have hb : ∀ e, evalE cf (.chn o q a b c) e = .bad := fun e => by
          simp only [evalE]
          rw [if_neg hq]
        refine ⟨so_bad hb, fun _ => ⟨fun pins s σ H Q I z => ?_⟩, fun _ op vs p z => by cases z⟩
        obtain ⟨F, P, ts, tv, env, sr, hqq, z⟩ := z
        dsimp only at z
        rw [hb] at z
        exact z.elim
    · cases h
  | .and a b, m, e, w, X, h, x => by
    simp only [matchE] at h
    split at h
    · rename_i o a' b' hu
      simp only [Bool.and_eq_true, decide_eq_true_eq] at h
      obtain ⟨⟨rfl, h1⟩, h2⟩ := h
      have ia := snd cf a h1 x
      have ib := snd cf b h2 x
      rcases unBool_eq hu with ⟨p, rfl⟩ | ⟨y, z, r, p, rfl, rfl⟩
      · have kw : tstOk (.and a b) = true → PW X (.BoolOp .And [a', b'] p) (tB X.K w (quiet (.and a b)) fun e => (evalE cf (.and a b) e).bd boolT) := fun ht => st_and (ia.pt (and3 ht).1) (pw_and1 (ib.pt (and3 ht).2))
        exact ⟨so_and ia.pe (pe_1 ib.pe), fun ht => (kw ht).pt, fun ht op vs p z => by cases z; exact kw ht⟩
      · have kw : tstOk (.and a b) = true → PW X (.BoolOp .And (a' :: y :: z :: r) p) (tB X.K w (quiet (.and a b)) fun e => (evalE cf (.and a b) e).bd boolT) := fun ht => st_and (ia.pt (and3 ht).1) (ib.pw (and3 ht).2 _ _ _ rfl)
        exact ⟨so_and ia.pe ib.pe, fun ht => (kw ht).pt, fun ht op vs p z => by cases z; exact kw ht⟩
    · cases h
  | .or a b, m, e, w, X, h, x => by
    simp only [matchE] at h
    split at h
    · rename_i o a' b' hu
      simp only [Bool.and_eq_true, decide_eq_true_eq] at h
      obtain ⟨⟨rfl, h1⟩, h2⟩ := h
      have ia := snd cf a h1 x
      have ib := snd cf b h2 x
      rcases unBool_eq hu with ⟨p, rfl⟩ | ⟨y, z, r, p, rfl, rfl⟩
      · have kw : tstOk (.or a b) = true → PW X (.BoolOp .Or [a', b'] p) (tB X.K w (quiet (.or a b)) fun e => (evalE cf (.or a b) e).bd boolT) := fun ht => st_or (ia.pt (and3 ht).1) (pw_or1 (ib.pt (and3 ht).2))
        exact ⟨so_or ia.pe (pe_1 ib.pe), fun ht => (kw ht).pt, fun ht op vs p z => by cases z; exact kw ht⟩
      · have kw : tstOk (.or a b) = true → PW X (.BoolOp .Or (a' :: y :: z :: r) p) (tB X.K w (quiet (.or a b)) fun e => (evalE cf (.or a b) e).bd boolT) := fun ht => st_or (ia.pt (and3 ht).1) (ib.pw (and3 ht).2 _ _ _ rfl)
        exact ⟨so_or ia.pe ib.pe, fun ht => (kw ht).pt, fun ht op vs p z => by cases z; exact kw ht⟩
    · cases h
  | .not a, m, e, w, X, h, x => by
    simp only [matchE] at h
    split at h
    · rename_i o a' hu
      obtain ⟨p, rfl⟩ := unUn_eq hu
      simp only [Bool.and_eq_true, decide_eq_true_eq] at h
      obtain ⟨rfl, h1⟩ := h
      have ia := snd cf a h1 x
      exact ⟨so_not ia.pe, fun ht => st_not (ia.pt ht), fun _ op vs p z => by cases z⟩
    · cases h
  | .ite c a b, m, e, w, X, h, x => by
    simp only [matchE] at h
    split at h
    · rename_i c' a' b' hu
      obtain ⟨p, rfl⟩ := unIf_eq hu
      simp only [Bool.and_eq_true, decide_eq_true_eq] at h
      obtain ⟨⟨⟨h0, h1⟩, h2⟩, h3⟩ := h
      exact ⟨so_ite ((snd cf c h1 x).pt h0) (snd cf a h2 x).pe (snd cf b h3 x).pe, fun ht => (by cases ht), fun _ op vs p z => (by cases z)⟩
    · cases h
  | .ix a b, m, e, w, X, h, x => by
    simp only [matchE] at h
    split at h
    · rename_i a' b' hu
      obtain ⟨⟨p, rfl⟩, hp⟩ := unSub_eq hu
      simp only [Bool.and_eq_true] at h
      exact Snd.of (so_ix (snd cf a h.1 x).pe (snd cf b h.2 x).pe hp) (by intros; exact nofun) (by intros; exact nofun) (by intros; exact nofun) (by intros; exact nofun)
    · cases h
  | .slc a lo hi, m, e, w, X, h, x => by
    simp only [matchE] at h
    split at h
    · rename_i a' l' h' hu
      obtain ⟨p, q, rfl⟩ := unSlc_eq hu
      simp only [Bool.and_eq_true] at h
      obtain ⟨⟨h1, h2⟩, h3⟩ := h
      refine Snd.of ?_ (by intros; exact nofun) (by intros; exact nofun) (by intros; exact nofun) (by intros; exact nofun)
      by_cases hq : (quiet lo && quiet hi) = true
      · obtain ⟨q1, q2⟩ := and3 hq
        have hl : PO X l' (tPt X.K w true fun e => prt lo (evalE cf lo e) e) := by
          cases l' with
          | none =>
            cases lo <;> first | exact so_nul | cases h2
          | some y =>
            simp only [Bool.and_eq_true, Bool.not_eq_true'] at h2
            have := so_prt (x := lo) (fun z => by subst z; exact absurd h2.1 (by decide)) (snd cf lo h2.2 x).pe
            rw [q1] at this
            exact this
        have hh : PO X h' (tPt X.K w true fun e => prt hi (evalE cf hi e) e) := by
          cases h' with
          | none =>
            cases hi <;> first | exact so_nul | cases h3
          | some y =>
            simp only [Bool.and_eq_true, Bool.not_eq_true'] at h3
            have := so_prt (x := hi) (fun z => by subst z; exact absurd h3.1 (by decide)) (snd cf hi h3.2 x).pe
            rw [q2] at this
            exact this
        refine PE.conv (so_slc (p2 := q) (pos := p) rfl rfl (snd cf a h1 x).pe hl hh) ?_ fun e => ?_
        · show quiet a = (quiet a && quiet lo && quiet hi)
          rw [q1, q2, Bool.and_true, Bool.and_true]
        · simp only [evalE]
          rw [if_pos hq]
      · exact so_bad fun e => by simp only [evalE]; rw [if_neg hq]
    · cases h
  | .tup es, m, e, w, X, h, x => by
    simp only [matchE] at h
    split at h
    · rename_i xs hu
      obtain ⟨k, p, rfl⟩ := unTup_eq hu
      simp only [Bool.and_eq_true, decide_eq_true_eq] at h
      have hl := (matchL_nst h.2).2
      exact Snd.of (so_tup (sndS cf es h.2 x) (by omega) fun e os e' q => by rw [evalSts_len q, hl]) (by intros; exact nofun) (by intros; exact nofun) (by intros; exact nofun) (by intros; exact nofun)
    · cases h
  | .lst es, m, e, w, X, h, x => by
    simp only [matchE] at h
    split at h
    · rename_i xs hu
      obtain ⟨p, rfl⟩ := unLst_eq hu
      simp only [Bool.and_eq_true, decide_eq_true_eq] at h
      have hl := (matchL_nst h.2).2
      exact Snd.of (so_lst (sndS cf es h.2 x) (by omega) fun e os e' q => by rw [evalSts_len q, hl]) (by intros; exact nofun) (by intros; exact nofun) (by intros; exact nofun) (by intros; exact nofun)
    · cases h
  | .call id ms es dl, m, e, w, X, h, x => by
    simp only [matchE] at h
    split at h
    · rename_i y a as hu
      obtain ⟨p, q, rfl⟩ := unCall_eq hu
      simp only [Bool.and_eq_true, decide_eq_true_eq] at h
      obtain ⟨⟨⟨hn, hg⟩, hd⟩, hL⟩ := h
      obtain ⟨hg, hdb⟩ := x.gl hg
      obtain ⟨k, f, fd, ps, Fo, hr, hm, hk, hb0, hb1⟩ := x.call id y hn
      have hst := (matchL_nst hL).1
      have hbs : ∃ (dvs : List V) (ds : List Value), Vals dvs ds ∧ (∀ F, IsL X.K F dl dvs) ∧ Binds X.K fd ps ds := by
        unfold dflB at hd
        split at hd
        · exact ⟨[], [], .nil, fun F => .nil, hb0⟩
        · split at hd
          · rename_i d d' hdf
            obtain ⟨v, u, k1, k2, k3⟩ := hb1 d' hdf
            rw [beqD_eq hd]
            exact ⟨[v], [u], k1, fun F => .cons (k2 F) .nil, k3⟩
          · cases hd
        · cases hd
      obtain ⟨dvs, ds, hv, hi, hb⟩ := hbs
      refine Snd.of ?_ (by intros; exact nofun) (by intros; exact nofun) (by intros; exact nofun) (by intros; exact nofun)
      by_cases hq : quiets es = true
      · have ha := sndA cf es ms hL hq x
        refine PE.conv (so_call (p := p) (pos := q) (dl := dl) Fo hr hg hm hk hb hv hi x.tk (nst_ne (hst a (by simp))) hdb (backTo_false fun z hz => hst z (by simp [hz])) ha fun e as e' q a ha => evalAs_F q a ha) ?_ fun e => ?_
        · show true = quiets es
          rw [hq]
        · simp only [evalE]
          rw [if_pos hq]
          all_goals
            cases evalAs cf ms es e with
            | ok avs e1 => simp only [R.bd_ok]; cases cf id (avs ++ List.map AV.f dl) <;> rfl
            | exc c e1 => rfl
            | bad => rfl
      · exact so_bad fun e => by simp only [evalE]; rw [if_neg hq]
    · cases h
  | .blt f es, m, e, w, X, h, x => by
    simp only [matchE] at h
    split at h
    · rename_i y a as hu
      obtain ⟨p, q, rfl⟩ := unCall_eq hu
      simp only [Bool.and_eq_true, decide_eq_true_eq] at h
      obtain ⟨⟨rfl, hf⟩, hL⟩ := h
      obtain ⟨hg, hm⟩ := x.free hf
      have hst := (matchL_nst hL).1
      refine Snd.of ?_ (by intros; exact nofun) (by intros; exact nofun) (by intros; exact nofun) (by intros; exact nofun)
      by_cases hq : quiets es = true
      · refine PE.conv (so_blt (p := p) (pos := q) x.cm x.un hg hm (nst_ne (hst a (by simp))) (backTo_false fun z hz => hst z (by simp [hz])) (sndT cf es hL hq x)) ?_ fun e => ?_
        · show true = quiets es
          rw [hq]
        · simp only [evalE]
          rw [if_pos hq]
      · exact so_bad fun e => by simp only [evalE]; rw [if_neg hq]
    · cases h
  | .isi a t, m, e, w, X, h, x => by
    simp only [matchE] at h
    split at h
    · rename_i y z u hu
      obtain ⟨p, q, rfl⟩ := unCall_eq hu
      simp only [Bool.and_eq_true, decide_eq_true_eq] at h
      obtain ⟨⟨⟨⟨rfl, hf⟩, hz⟩, hn⟩, ha⟩ := h
      split at hz
      · rename_i zz hu2
        obtain ⟨p2, rfl⟩ := unName_eq hu2
        simp only [Bool.and_eq_true, decide_eq_true_eq] at hz
        obtain ⟨rfl, hz⟩ := hz
        obtain ⟨hg, hm⟩ := x.free hf
        obtain ⟨hg2, hm2⟩ := x.free hz
        exact Snd.of (so_isi hg hm hg2 hm2 (nst_ne hn) (snd cf a ha x).pe) (by intros; exact nofun) (by intros; exact nofun) (by intros; exact nofun) (by intros; exact nofun)
      · cases hz
    · cases h
  | .met b a c, m, e, w, X, h, x => by
    simp only [matchE] at h
    split at h
    · rename_i u z v hu
      obtain ⟨p, q, rfl, hl, ho⟩ := unMet_eq hu
      simp only [Bool.and_eq_true, decide_eq_true_eq] at h
      obtain ⟨⟨⟨rfl, hn⟩, h1⟩, h2⟩ := h
      exact Snd.of (so_met (snd cf a h1 x).pe (snd cf c h2 x).pe (nst_ne hn) ho hl) (by intros; exact nofun) (by intros; exact nofun) (by intros; exact nofun) (by intros; exact nofun)
    · cases h
  | .idx a c, m, e, w, X, h, x => by
    simp only [matchE] at h
    split at h
    · rename_i u z v hu
      obtain ⟨p, q, rfl, hl, ho⟩ := unMet_eq hu
      simp only [Bool.and_eq_true, decide_eq_true_eq] at h
      obtain ⟨⟨⟨rfl, hn⟩, h1⟩, h2⟩ := h
      exact Snd.of (so_idx (snd cf a h1 x).pe (snd cf c h2 x).pe (nst_ne hn) ho hl) (by intros; exact nofun) (by intros; exact nofun) (by intros; exact nofun) (by intros; exact nofun)
    · cases h
  | .lc own t k src c elt, m, e, w, X, h, x => by
    simp only [matchE] at h
    split at h
    · rename_i el tg it ifs sc hu
      obtain ⟨p, rfl⟩ := unLc_eq hu
      simp only [Bool.and_eq_true, Bool.not_eq_true'] at h
      obtain ⟨⟨⟨⟨⟨hI, hs⟩, hb⟩, hT⟩, hc⟩, he⟩ := h
      refine Snd.of ?_ (by intros; exact nofun) (by intros; exact nofun) (by intros; exact nofun) (by intros; exact nofun)
      by_cases hq : (quiets src && quiet c && quiet elt) = true
      · obtain ⟨q12, q3⟩ := and3 hq
        obtain ⟨q1, q2⟩ := and3 q12
        have hi : PI X tg it fun σ H R => tL X.K w true (fun e => evalTs cf src e) σ H fun vs H1 => WR X.K k vs H1 R := by
          split at hI
          · rename_i args ha
            obtain ⟨hf, hL⟩ := and3 hI
            exact sndI cf src ha hf hL q1 x (sndT cf src hL q1 x) fun s e hsrc hL1 => sndH cf src hsrc hL1 x
          · cases hI
        have ok : BlkOk X.N X.env.scope sc (ownN m own) := by rw [x.N, x.sc]; exact blkOk_by hb
        have base := so_lc (pos := p) (w := w) (elt := el) (ifs := ifs) (rc := fun e => cnd c (evalE cf c e) e) (ro := fun e => stv elt (evalE cf elt e) e) x.cm (by rw [x.N]; exact x.nd) hi ok (fun pins s H C cl fp => snd_T t pins hT (x.blk s H C cl fp))
          (fun s H C cl fp => by
            cases ifs with
            | nil =>
              cases c <;> first | exact so_cnd0 | cases hc
            | cons z r =>
              cases r with
              | nil =>
                simp only [Bool.and_eq_true, Bool.not_eq_true'] at hc
                obtain ⟨⟨n1, n2⟩, n3⟩ := hc
                have := (snd cf c n3 (x.blk s H C cl fp)).pt n2
                rw [q2] at this
                refine pts_one ?_
                have e : (fun e => cnd c (evalE cf c e) e) = fun e => (evalE cf c e).bd boolT := funext fun e => by cases c <;> first | rfl | cases n1
                rw [e]
                exact this
              | cons _ _ => cases hc)
          (fun s H C cl fp => by
            have := (snd cf elt he (x.blk s H C cl fp)).st (x.blk s H C cl fp) he
            rw [q3] at this
            exact this)
          (folded_id hs) (lcGo_par (fun e => cnd_ps (evalE_ps cf c e)) fun e => stv_ps (evalE_ps cf elt e))
        rw [ownN_snd] at base
        refine PE.conv base ?_ fun e => ?_
        · exact hq.symm
        · simp only [evalE]
          rw [if_pos hq]
          rfl
      · exact so_bad fun e => by simp only [evalE]; rw [if_neg hq]
    · cases h
  | .nul, m, e, w, X, h, x => by simp [matchE] at h
  | .cfr id ms es, m, e, w, X, h, x => by
    simp only [matchE] at h
    split at h
    · rename_i y a as hu
      obtain ⟨p, q, rfl⟩ := unCall_eq hu
      simp only [Bool.and_eq_true, decide_eq_true_eq] at h
      obtain ⟨⟨hn, hg⟩, hL⟩ := h
      obtain ⟨hg, hdb⟩ := x.gl hg
      obtain ⟨k, f, fd, ps, Fo, hr, hm, hk, hb0, hb1⟩ := x.call id y hn
      have hst := (matchL_nst hL).1
      refine Snd.of ?_ (by intros; exact nofun) (by intros; exact nofun) (by intros; exact nofun) (by intros; exact nofun)
      by_cases hq : quiets es = true
      · have ha := sndG cf es ms hL hq x
        refine PE.conv (so_cfr (p := p) (pos := q) Fo hr hg hm hk hb0 x.tk (nst_ne (hst a (by simp))) hdb (backTo_false fun z hz => hst z (by simp [hz])) ha fun e as e' q a ha => evalGs_B q a ha) rfl fun e => ?_
        simp only [evalE]
        rw [if_pos hq]
        all_goals
          cases evalGs cf ms es e with
          | ok avs e1 => simp only [R.bd_ok]; cases cf id avs <;> rfl
          | exc c e1 => rfl
          | bad => rfl
      · exact so_bad fun e => by simp only [evalE]; rw [if_neg hq]
    · cases h
  | .cio id ms es, m, e, w, X, h, x => by
    simp only [matchE] at h
    split at h
    · rename_i y a as hu
      obtain ⟨p, q, rfl⟩ := unCall_eq hu
      simp only [Bool.and_eq_true, decide_eq_true_eq] at h
      obtain ⟨⟨hn, hg⟩, hL⟩ := h
      obtain ⟨hg, hdb⟩ := x.gl hg
      obtain ⟨k, f, fd, ps, Fo, hr, hm, hk, hb0, hb1⟩ := x.call id y hn
      have hst := (matchL_nst hL).1
      refine Snd.of ?_ (by intros; exact nofun) (by intros; exact nofun) (by intros; exact nofun) (by intros; exact nofun)
      refine PE.conv (so_cio (p := p) (pos := q) Fo hr hg hm hk hb0 x.tk (nst_ne (hst a (by simp))) hdb (backTo_false fun z hz => hst z (by simp [hz])) (sndF cf es ms hL x)) rfl fun e => ?_
      simp only [evalE]
      all_goals
        cases evalFs cf ms es e with
        | ok fs e1 =>
          simp only [R.bd_ok]
          split
          · cases ioArgs ms es fs e1 with
            | none => rfl
            | some avs =>
              dsimp only
              cases cf id avs <;> rfl
          · rfl
        | exc c e1 => rfl
        | bad => rfl
    · cases h
  | .dnk, m, e, w, X, h, x => by
    simp only [matchE] at h
    obtain ⟨p, rfl⟩ := isD0_eq h
    exact Snd.of so_dnk (by intros; exact nofun) (by intros; exact nofun) (by intros; exact nofun) (by intros; exact nofun)
  | .dnt, m, e, w, X, h, x => by
    simp only [matchE] at h
    obtain ⟨p, rfl⟩ := isD0_eq h
    exact Snd.of so_dnt (by intros; exact nofun) (by intros; exact nofun) (by intros; exact nofun) (by intros; exact nofun)
  | .din neg a b, m, e, w, X, h, x => by
    simp only [matchE] at h
    split at h
    · rename_i a' o b' hu
      obtain ⟨p, rfl⟩ := unCmp_eq hu
      simp only [Bool.and_eq_true, decide_eq_true_eq, Bool.not_eq_true'] at h
      obtain ⟨⟨⟨rfl, h0⟩, h1⟩, h2⟩ := h
      exact ⟨so_din x.un h0 (snd cf a h1 x).pe (snd cf b h2 x).pe, fun _ => so_dinT x.un h0 (snd cf a h1 x).pe (snd cf b h2 x).pe, fun _ op vs p z => by cases z⟩
    · cases h
  | .dix a b, m, e, w, X, h, x => by
    simp only [matchE] at h
    split at h
    · rename_i a' b' hu
      obtain ⟨⟨p, rfl⟩, hp⟩ := unSub_eq hu
      simp only [Bool.and_eq_true] at h
      exact Snd.of (so_dix x.un (snd cf a h.1 x).pe (snd cf b h.2 x).pe fun _ _ => by cases b' <;> first | rfl | exact absurd rfl (hp _ _ _ _)) (by intros; exact nofun) (by intros; exact nofun) (by intros; exact nofun) (by intros; exact nofun)
    · cases h
  | .dgt a b c, m, e, w, X, h, x => by
    simp only [matchE] at h
    split at h
    · rename_i a' b' c' hu
      obtain ⟨p, q, rfl, hl, ho⟩ := unGet_eq hu
      simp only [Bool.and_eq_true] at h
      obtain ⟨⟨⟨⟨nb, nc⟩, h1⟩, h2⟩, h3⟩ := h
      refine Snd.of ?_ (by intros; exact nofun) (by intros; exact nofun) (by intros; exact nofun) (by intros; exact nofun)
      by_cases hq : (quiet a && quiet b && quiet c) = true
      · obtain ⟨q12, q3⟩ := and3 hq
        obtain ⟨q1, q2⟩ := and3 q12
        have ia := (snd cf a h1 x).pe
        have ib := (snd cf b h2 x).pe
        have ic := (snd cf c h3 x).pe
        rw [q1] at ia; rw [q2] at ib; rw [q3] at ic
        refine PE.conv (so_dgt x.un ia ib ic (nst_ne nb) (nst_ne nc) ho hl) ?_ fun e => ?_
        · exact hq.symm
        · simp only [evalE]
          rw [if_pos hq]
      · exact so_bad fun e => by simp only [evalE]; rw [if_neg hq]
    · cases h
  | .mv i, m, e, w, X, h, x => by
    simp only [matchE] at h
    split at h
    · rename_i y hu
      obtain ⟨p, rfl⟩ := unName_eq hu
      obtain ⟨h1, h2, h3, h4⟩ := x.vis h
      refine Snd.of (PE.conv (so_mvE (i := i) h1 h2 h3 h4) rfl fun e => ?_) (by intros; exact nofun) (by intros; exact nofun) (by intros; exact nofun) (by intros; exact nofun)
      simp only [evalE]
      all_goals rfl
    · cases h
  | .dcp a, m, e, w, X, h, x => by
    simp only [matchE] at h
    split at h
    · rename_i y z hu
      obtain ⟨p, q, rfl⟩ := unCall_eq hu
      simp only [Bool.and_eq_true, decide_eq_true_eq] at h
      obtain ⟨⟨⟨rfl, hf⟩, hn⟩, h1⟩ := h
      obtain ⟨g1, g2⟩ := x.free hf
      exact Snd.of (so_dcp g1 g2 (nst_ne hn) (snd cf a h1 x).pe) (by intros; exact nofun) (by intros; exact nofun) (by intros; exact nofun) (by intros; exact nofun)
    · cases h
theorem sndT (cf : CF) : ∀ (ir : List E) {m : MC} {es : List Expr} {w : WC} {X : Cx}, matchL ir m es = true → quiets ir = true → XC m cf w X → PA X es (tL X.K w true (evalTs cf ir))
  | [], m, [], w, X, h, q, x => so_nilL
  | a :: as, m, e :: es, w, X, h, q, x => by
    simp only [matchL, Bool.and_eq_true] at h
    obtain ⟨q1, q2⟩ := and3 q
    have ha := (snd cf a h.1.1 x).pe
    rw [q1] at ha
    exact so_consL ha (sndT cf as h.2 q2 x) (nst_ne h.1.2) fun _ _ _ _ => rfl
  | [], m, _ :: _, w, X, h, q, x => by simp [matchL] at h
  | _ :: _, m, [], w, X, h, q, x => by simp [matchL] at h
theorem sndS (cf : CF) : ∀ (ir : List E) {m : MC} {es : List Expr} {w : WC} {X : Cx}, matchL ir m es = true → XC m cf w X → PA X es (tL X.K w (quiets ir) fun e => (evalSts cf ir e).bd fun os e1 => .ok (os.map .own) e1)
  | [], m, [], w, X, h, x => so_nilL
  | a :: as, m, e :: es, w, X, h, x => by
    simp only [matchL, Bool.and_eq_true] at h
    have ha := (snd cf a h.1.1 x).st x h.1.1
    refine PA.conv (so_consL ha (sndS cf as h.2 x) (nst_ne h.1.2) fun e t e' q => ?_) rfl fun e => ?_
    · cases hz : stv a (evalE cf a e) e with
      | ok o e1 => rw [hz] at q; cases q; simp [stable]
      | exc c e1 => rw [hz] at q; cases q
      | bad => rw [hz] at q; cases q
    · simp only [evalSts, oT]
      cases stv a (evalE cf a e) e with
      | ok o e1 =>
        simp only [R.bd_ok]
        cases evalSts cf as e1 <;> rfl
      | exc c e1 => rfl
      | bad => rfl
  | [], m, _ :: _, w, X, h, x => by simp [matchL] at h
  | _ :: _, m, [], w, X, h, x => by simp [matchL] at h
theorem sndA (cf : CF) : ∀ (ir : List E) (ms : List Md) {m : MC} {es : List Expr} {w : WC} {X : Cx}, matchL ir m es = true → quiets ir = true → XC m cf w X → PA X es (tL X.K w true fun e => (evalAs cf ms ir e).bd fun as e1 => .ok (as.map tvA) e1)
  | [], [], m, [], w, X, h, q, x => so_nilL
  | a :: as, .f :: ms, m, e :: es, w, X, h, q, x => by
    simp only [matchL, Bool.and_eq_true] at h
    obtain ⟨q1, q2⟩ := and3 q
    have ha := so_argF ((snd cf a h.1.1 x).st x h.1.1)
    rw [q1] at ha
    refine PA.conv (so_consL ha (sndA cf as ms h.2 q2 x) (nst_ne h.1.2) fun _ _ _ _ => rfl) rfl fun e => ?_
    simp only [evalAs]
    cases stv a (evalE cf a e) e with
    | ok o e1 =>
      simp only [R.bd_ok]
      cases frzO o with
      | none => rfl
      | some d =>
        simp only [R.bd_ok]
        cases evalAs cf ms as e1 <;> rfl
    | exc c e1 => rfl
    | bad => rfl
  | a :: as, .b :: ms, m, e :: es, w, X, h, q, x => by
    simp only [matchL, Bool.and_eq_true] at h
    obtain ⟨q1, q2⟩ := and3 q
    have ha := so_argB ((snd cf a h.1.1 x).pe)
    rw [q1] at ha
    refine PA.conv (so_consL ha (sndA cf as ms h.2 q2 x) (nst_ne h.1.2) fun _ _ _ _ => rfl) rfl fun e => ?_
    simp only [evalAs]
    cases evalE cf a e with
    | ok o e1 =>
      simp only [R.bd_ok]
      cases shallow (tvO o) with
      | none => rfl
      | some d =>
        simp only [R.bd_ok]
        cases evalAs cf ms as e1 <;> rfl
    | exc c e1 => rfl
    | bad => rfl
  | [], _ :: _, m, es, w, X, h, q, x => pa_bad fun e => by simp only [evalAs]; rfl
  | _ :: _, [], m, es, w, X, h, q, x => pa_bad fun e => by simp only [evalAs]; rfl
  | _ :: _, .io :: _, m, es, w, X, h, q, x => pa_bad fun e => by simp only [evalAs]; rfl
  | [], [], m, _ :: _, w, X, h, q, x => by simp [matchL] at h
  | _ :: _, .f :: _, m, [], w, X, h, q, x => by simp [matchL] at h
  | _ :: _, .b :: _, m, [], w, X, h, q, x => by simp [matchL] at h
theorem sndG (cf : CF) : ∀ (ir : List E) (ms : List Md) {m : MC} {es : List Expr} {w : WC} {X : Cx}, matchL ir m es = true → quiets ir = true → XC m cf w X → PA X es (tL X.K w true fun e => (evalGs cf ms ir e).bd fun as e1 => .ok (as.map tvA) e1)
  | [], [], m, [], w, X, h, q, x => so_nilL
  | a :: as, .f :: ms, m, e :: es, w, X, h, q, x => by
    simp only [matchL, Bool.and_eq_true] at h
    obtain ⟨q1, q2⟩ := and3 q
    have ha := so_argF ((snd cf a h.1.1 x).st x h.1.1)
    rw [q1] at ha
    refine PA.conv (so_consL ha (sndG cf as ms h.2 q2 x) (nst_ne h.1.2) fun _ _ _ _ => rfl) rfl fun e => ?_
    simp only [evalGs]
    cases stv a (evalE cf a e) e with
    | ok o e1 =>
      simp only [R.bd_ok]
      cases frzO o with
      | none => rfl
      | some d =>
        simp only [R.bd_ok]
        cases evalGs cf ms as e1 <;> rfl
    | exc c e1 => rfl
    | bad => rfl
  | a :: as, .io :: ms, m, e :: es, w, X, h, q, x => by
    simp only [matchL, Bool.and_eq_true] at h
    obtain ⟨q1, q2⟩ := and3 q
    have ha := so_argO ((snd cf a h.1.1 x).pe)
    rw [q1] at ha
    refine PA.conv (so_consL ha (sndG cf as ms h.2 q2 x) (nst_ne h.1.2) fun _ _ _ _ => rfl) rfl fun e => ?_
    simp only [evalGs]
    cases evalE cf a e with
    | ok o e1 =>
      simp only [R.bd_ok]
      cases o with
      | brw o => rfl
      | own o =>
        simp only [R.bd_ok]
        cases evalGs cf ms as e1 <;> rfl
    | exc c e1 => rfl
    | bad => rfl
  | [], _ :: _, m, es, w, X, h, q, x => pa_bad fun e => by simp only [evalGs]; rfl
  | _ :: _, [], m, es, w, X, h, q, x => pa_bad fun e => by simp only [evalGs]; rfl
  | _ :: _, .b :: _, m, es, w, X, h, q, x => pa_bad fun e => by simp only [evalGs]; rfl
  | [], [], m, _ :: _, w, X, h, q, x => by simp [matchL] at h
  | _ :: _, .f :: _, m, [], w, X, h, q, x => by simp [matchL] at h
  | _ :: _, .io :: _, m, [], w, X, h, q, x => by simp [matchL] at h
theorem sndF (cf : CF) : ∀ (ir : List E) (ms : List Md) {m : MC} {es : List Expr} {w : WC} {X : Cx}, matchL ir m es = true → XC m cf w X → PA X es (tF X.K w (fun e => evalFs cf ms ir e) ms ir)
  | [], [], m, [], w, X, h, x => tF_conv so_fnil fun e => by simp only [evalFs]
  | a :: as, .f :: ms, m, e :: es, w, X, h, x => by
    simp only [matchL, Bool.and_eq_true] at h
    have ha := so_argF ((snd cf a h.1.1 x).st x h.1.1)
    have ha2 : PE X e (tE X.K w (quiet a) fun e => ((stv a (evalE cf a e) e).bd fun o e1 => match frzO o with
        | some d => (.ok d e1 : R D)
        | none => .bad).bd fun d e1 => .ok (fl d) e1) := PE.conv ha rfl fun e => by
      cases stv a (evalE cf a e) e with
      | ok o e1 =>
        simp only [R.bd_ok]
        cases frzO o <;> rfl
      | exc c e1 => rfl
      | bad => rfl
    refine tF_conv (so_ff ha2 (sndF cf as ms h.2 x) (nst_ne h.1.2)) fun e => ?_
    simp only [evalFs]
    cases stv a (evalE cf a e) e with
    | ok o e1 =>
      simp only [R.bd_ok]
      cases frzO o <;> rfl
    | exc c e1 => rfl
    | bad => rfl
  | [], _ :: _, m, es, w, X, h, x => tF_bad fun e => by simp only [evalFs]
  | _ :: _, [], m, es, w, X, h, x => tF_bad fun e => by simp only [evalFs]
  | a :: as, .b :: ms, m, es, w, X, h, x => by
    by_cases hv : ∃ i, a = .var i
    · obtain ⟨i, rfl⟩ := hv
      cases es with
      | nil => simp [matchL] at h
      | cons e es =>
        simp only [matchL, Bool.and_eq_true] at h
        obtain ⟨⟨h1, h2⟩, h3⟩ := h
        simp only [matchE] at h1
        split at h1
        · rename_i y hu
          obtain ⟨p, rfl⟩ := unName_eq hu
          obtain ⟨g1, g2, g3, g4⟩ := x.vis h1
          exact tF_conv (so_fv (.inl rfl) g1 g2 g3 g4 (sndF cf as ms h3 x)) fun e => by
            simp only [evalFs]
            all_goals
              cases e[i]? with
              | none => rfl
              | some o => cases o <;> rfl
        · cases h1
    · exact tF_bad fun e => by cases a <;> first | exact absurd ⟨_, rfl⟩ hv | (simp only [evalFs])
  | a :: as, .io :: ms, m, es, w, X, h, x => by
    by_cases hv : ∃ i, a = .var i
    · obtain ⟨i, rfl⟩ := hv
      cases es with
      | nil => simp [matchL] at h
      | cons e es =>
        simp only [matchL, Bool.and_eq_true] at h
        obtain ⟨⟨h1, h2⟩, h3⟩ := h
        simp only [matchE] at h1
        split at h1
        · rename_i y hu
          obtain ⟨p, rfl⟩ := unName_eq hu
          obtain ⟨g1, g2, g3, g4⟩ := x.vis h1
          exact tF_conv (so_fv (.inr rfl) g1 g2 g3 g4 (sndF cf as ms h3 x)) fun e => by
            simp only [evalFs]
            all_goals
              cases e[i]? with
              | none => rfl
              | some o => cases o <;> rfl
        · cases h1
    · exact tF_bad fun e => by cases a <;> first | exact absurd ⟨_, rfl⟩ hv | (simp only [evalFs])
  | [], [], m, _ :: _, w, X, h, x => by simp [matchL] at h
  | _ :: _, .f :: _, m, [], w, X, h, x => by simp [matchL] at h
/-- the one part of a list of one -/
theorem sndH (cf : CF) : ∀ (ir : List E) {m : MC} {s : E} {e : Expr} {w : WC} {X : Cx}, ir = [s] → matchL ir m [e] = true → XC m cf w X → Snd X w cf s e
  | [], m, s, e, w, X, hs, h, x => by cases hs
  | a :: as, m, s, e, w, X, hs, h, x => by
    have e1 : a = s := (List.cons.inj hs).1
    simp only [matchL, Bool.and_eq_true] at h
    rw [← e1]
    exact snd cf a h.1.1 x
end
end TL
namespace TL
open PySem PySem.Spec L2
/-! ### an except suite's questions of the exception -/
def excB (a : Addr) : D → Bool
  | .dict [(.none, .int i)] => decide (i = ((a : Nat) : Int))
  | _ => false
theorem excB_eq {a : Addr} {d : D} (h : excB a d = true) : d = excD a := by
  unfold excB at h
  split at h
  · rw [of_decide_eq_true h]
  · cases h
theorem Is.exc_inv {K : PySem.W.Frag} {F : Hp} {a : Addr} {v : V} (h : Is K F (excD a) v) : v = .ref a := by
  have key : ∀ {d : D} {v : V}, Is K F d v → d = excD a → v = .ref a := by
    intro d v h e
    cases h with
    | dct s l =>
      cases l with
      | nil => cases e
      | cons i l =>
        rename_i k d ds v vs
        injection e with e
        injection e with e1 e2
        injection e1 with e3 e4
        cases k <;> cases e3
    | dtp s l =>
      injection e with e
      injection e with e1 e2
      injection e1 with e3 e4
      cases e4
    | ins s =>
      injection e with e
      injection e with e1 e2
      injection e1 with e3 e4
      cases e4
    | exc =>
      injection e with e
      injection e with e1 e2
      injection e1 with e3 e4
      injection e4 with e5
      have e6 := Int.ofNat.inj e5
      rw [e6]
    | _ => cases e
  exact key h rfl
section
variable {X : Cx} {w : WC} {a D' : Addr} {oe : Obj} {pn : List (Addr × Obj)} {e : Expr} {y : Str} {c : V} {u : Value} {b : Bool} {p p2 pos : Pos} {qa : Bool} {ra : Ev → R TV}
theorem so_isx (C : ExcC X.K D') (hz : Zc (.ref D') none oe) (hf : ∃ vs, oe.data = .fields vs) (hg : Gl X "isinstance") (hm : X.mg "isinstance" = none)
    (hcv : ∀ u', RelV c u' → u' = u) (hk : PySem.W.kitOne X.K (.ref D') u = some b) (h2 : PE (X.suite a ((a, oe) :: pn)) (.Name y p2) (tC c)) (hn : ∀ x p, e ≠ .Starred x p) (ha : PE (X.suite a ((a, oe) :: pn)) e (tE X.K w qa ra)) :
    PE (X.suite a ((a, oe) :: pn)) (.Call (.Name "isinstance" p) [e, .Name y p2] [] pos) (tE X.K w qa fun env => (ra env).bd fun ta e1 => if excB a (rd ta) = true then .ok (fl (.bool b)) e1 else .bad) := by
  refine PE.imp (pe_callB (call_isE C hz hf) hg hm (by decide +kernel) (pa_cons ha (pa_cons h2 pa_nil) (starEach_cons hn)) (by decide) (by decide) (starEach_cons hn)) fun σ H Q h => ?_
  refine tG1 (pk := fun P ts tv => pkE X.K P ts tv σ Q) (fun z => z) h fun F2 P H2 v1 ta ts tv e2 sr hq k => ?_
  by_cases hp : excB a (rd ta) = true
  · rw [if_pos hp] at k
    have hi := sr.rd1
    rw [excB_eq hp] at hi
    have e1 := hi.exc_inv
    subst e1
    exact ⟨c, u, b, rfl, hcv, hk, k.here _ (sr.drop1.sx.pushF (.bl _)).sr⟩
  · rw [if_neg hp] at k; exact k.elim
/-- int(b) of a truth value -/
theorem so_intb (hg : Gl X "int") (hm : X.mg "int" = none) (hn : ∀ x p, e ≠ .Starred x p) (ha : PE X e (tE X.K w qa ra)) :
    PE X (.Call (.Name "int" p) [e] [] pos) (tE X.K w qa fun env => (ra env).bd fun ta e1 => match ta with
      | .own (.fz (.bool k)) => .ok (fl (.int (if k then 1 else 0))) e1
      | _ => .bad) := by
  refine PE.imp (pe_callTy call_int1 hg hm (by decide +kernel) (pa_cons ha pa_nil (starEach_cons hn)) (by decide) (by decide) (starEach_cons hn)) fun σ H Q h => ?_
  refine tG1 (pk := fun P ts tv => pkE X.K P ts tv σ Q) (fun z => z) h fun F2 P H2 v1 ta ts tv e2 sr hq k => ?_
  split at k
  · rename_i kb
    have hi := sr.rd1
    cases hi
    exact .inr ⟨kb, rfl, k.here _ (sr.drop1.sx.pushF (.int _)).sr⟩
  · exact k.elim
end
def rVar (i : Nat) (e : Ev) : R TV := match e[i]? with
  | some (some s) => .ok (rdSlot s) e
  | _ => .bad
def ownT (t : TV) (e : Ev) : R TV := match t with
  | .own o => .ok (.own o) e
  | _ => .bad
def intB (t : TV) (e : Ev) : R TV := match t with
  | .own (.fz (.bool k)) => .ok (fl (.int (if k then 1 else 0))) e
  | _ => .bad
mutual
def rH (a : Addr) (c : Nat) : HE → Ev → R TV
  | .con d, e => if flatD d then .ok (fl d) e else .bad
  | .var i, e => rVar i e
  | .isx i _ ids, e => (rVar i e).bd fun ta e1 => if excB a (rd ta) = true then .ok (fl (.bool (ids.contains c))) e1 else .bad
  | .isv i, e => (rVar i e).bd fun ta e1 => if excB a (rd ta) = true then .ok (fl (.bool true)) e1 else .bad
  | .or x y, e => (rH a c x e).bd fun ta e1 => (boolT ta e1).bd fun k e1 => if k then .ok (fl (.bool true)) e1 else rH a c y e1
  | .int x, e => (rH a c x e).bd intB
  | .add x y, e => (rH a c x e).bd fun ta e1 => (rH a c y e1).bd fun tb e2 => R.lf (binOp .Add ta tb) e2
  | .lst es, e => (rHs a c es e).bd fun os e1 => .ok (.own (.lst os)) e1
  | .ix x y, e => (rH a c x e).bd fun ta e1 => (rH a c y e1).bd fun tb e2 => R.lf (ixT ta (rd tb)) e2
def rHs (a : Addr) (c : Nat) : List HE → Ev → R (List O)
  | [], e => .ok [] e
  | x :: xs, e => (rH a c x e).bd fun t e1 => match t with
    | .own o => (rHs a c xs e1).bd fun os e2 => .ok (o :: os) e2
    | _ => .bad
end
mutual
def matchH : HE → MC → Expr → Bool
  | .con d, _, e => match unCon e with
    | some k => conB d k
    | none => false
  | .var i, m, e => match unName e with
    | some x => visB m i x
    | none => false
  | .isx i n ids, m, e => match unCall e with
    | some (x, y, [z]) => decide (x = "isinstance") && freB m x && (match unName y with
        | some v => visB m i v
        | none => false) && (match unName z with
        | some u => decide (m.exs n = some u) && glB m u
        | none => false) && decide (ids = m.sub n)
    | _ => false
  | .isv i, m, e => match unCall e with
    | some (x, y, [z]) => decide (x = "isinstance") && freB m x && (match unName y with
        | some v => visB m i v
        | none => false) && (match unName z with
        | some u => decide (u = "ValueError") && freB m u
        | none => false)
    | _ => false
  | .or a b, m, e => match unBool e with
    | some (o, x, y) => decide (o = .Or) && matchH a m x && matchH b m y
    | none => false
  | .int a, m, e => match unCall e with
    | some (x, y, []) => decide (x = "int") && freB m x && nst y && matchH a m y
    | _ => false
  | .add a b, m, e => match unBin e with
    | some (x, o, y) => decide (o = .Add) && matchH a m x && matchH b m y
    | none => false
  | .lst es, m, e => match unLst e with
    | some xs => decide (es.length ≤ 1000) && matchHs es m xs
    | none => false
  | .ix a b, m, e => match unSub e with
    | some (x, y) => matchH a m x && matchH b m y
    | none => false
def matchHs : List HE → MC → List Expr → Bool
  | [], _, [] => true
  | x :: xs, m, e :: es => matchH x m e && nst e && matchHs xs m es
  | _, _, _ => false
end
theorem tE_sub {X : Cx} {w : WC} {q : Bool} {r r' : Ev → R TV} {σ : St} {H : Hp} {Q : VK} (hr : ∀ e, r' e = .bad ∨ r' e = r e) (h : tE X.K w q r' σ H Q) : tE X.K w q r σ H Q := by
  obtain ⟨F, P, ts, tv, env, sr, hq, h⟩ := h
  rcases hr env with z | z
  · rw [z] at h; exact h.elim
  · rw [z] at h; exact ⟨F, P, ts, tv, env, sr, hq, h⟩
section
variable {m : MC} {cf : CF} {w w' : WC} {X : Cx} {a : Addr} {oe : Obj} {pn : List (Addr × Obj)} {c : Nat}
theorem rHs_len : ∀ {es : List HE} {e e' : Ev} {os : List O}, rHs a c es e = .ok os e' → os.length = es.length
  | [], e, e', os, h => by simp only [rHs, R.ok.injEq] at h; rw [← h.1]; rfl
  | x :: xs, e, e', os, h => by
    simp only [rHs] at h
    cases h1 : rH a c x e with
    | bad => rw [h1] at h; cases h
    | exc k e1 => rw [h1] at h; cases h
    | ok t e1 =>
      rw [h1] at h
      simp only [R.bd_ok] at h
      cases t with
      | brw o => cases h
      | own o =>
        dsimp only at h
        cases h2 : rHs a c xs e1 with
        | bad => rw [h2] at h; cases h
        | exc k e2 => rw [h2] at h; cases h
        | ok os2 e2 =>
          rw [h2] at h
          simp only [R.bd_ok, R.ok.injEq] at h
          rw [← h.1, List.length_cons, rHs_len h2, List.length_cons]
theorem matchHs_len : ∀ {zs : List HE} {es : List Expr}, matchHs zs m es = true → es.length = zs.length
  | [], [], _ => rfl
  | z :: zs, e :: es, h => by
    simp only [matchHs, Bool.and_eq_true] at h
    simp [matchHs_len h.2]
  | [], _ :: _, h => by simp [matchHs] at h
  | _ :: _, [], h => by simp [matchHs] at h
mutual
theorem sndX (x : XC m cf w X) (hc : HC m w X c) (hz : Zc (.ref (w.cad c)) none oe) (hf : ∃ vs, oe.data = .fields vs) : ∀ (z : HE) {e : Expr}, matchH z m e = true → PE (X.suite a ((a, oe) :: pn)) e (tE X.K w' true (rH a c z))
  | .con d, e, h => by
    simp only [matchH] at h
    split at h
    · rename_i k hu
      obtain ⟨j, p, rfl⟩ := unCon_eq hu
      have := so_con (X := X.suite a ((a, oe) :: pn)) (w := w') (d := d) (c := k) (k := j) (pos := p) (by
        unfold conB at h
        exact h)
      exact this
    · cases h
  | .var i, e, h => by
    simp only [matchH] at h
    split at h
    · rename_i y hu
      obtain ⟨p, rfl⟩ := unName_eq hu
      obtain ⟨h1, h2, h3, h4⟩ := x.vis h
      exact so_var (X := X.suite a ((a, oe) :: pn)) (w := w') h1 h2 h3 h4
    · cases h
  | .isx i n ids, e, h => by
    simp only [matchH] at h
    split at h
    · rename_i y e1 e2 hu
      obtain ⟨p, q, rfl⟩ := unCall_eq hu
      simp only [Bool.and_eq_true, decide_eq_true_eq] at h
      obtain ⟨⟨⟨⟨rfl, h1⟩, h2⟩, h3⟩, rfl⟩ := h
      split at h2
      · rename_i v hv
        obtain ⟨p2, rfl⟩ := unName_eq hv
        split at h3
        · rename_i u hu2
          obtain ⟨p3, rfl⟩ := unName_eq hu2
          simp only [Bool.and_eq_true, decide_eq_true_eq] at h3
          obtain ⟨g1, g2, g3, g4⟩ := x.vis h2
          obtain ⟨f1, f2⟩ := x.free h1
          obtain ⟨k1, k2⟩ := hc.cl n u h3.1
          obtain ⟨l1, l2⟩ := x.gl h3.2
          exact so_isx (c := .ref (w.cad n)) hc.C hz hf f1 f2 (fun u' r => r) k2 (pe_glob (v := .ref (w.cad n)) l1 k1 rfl l2) (by intros; exact nofun) (so_var (X := X.suite a ((a, oe) :: pn)) (w := w') g1 g2 g3 g4)
        · cases h3
      · cases h2
    · cases h
  | .isv i, e, h => by
    simp only [matchH] at h
    split at h
    · rename_i y e1 e2 hu
      obtain ⟨p, q, rfl⟩ := unCall_eq hu
      simp only [Bool.and_eq_true, decide_eq_true_eq] at h
      obtain ⟨⟨⟨rfl, h1⟩, h2⟩, h3⟩ := h
      split at h2
      · rename_i v hv
        obtain ⟨p2, rfl⟩ := unName_eq hv
        split at h3
        · rename_i u hu2
          obtain ⟨p3, rfl⟩ := unName_eq hu2
          simp only [Bool.and_eq_true, decide_eq_true_eq] at h3
          obtain ⟨rfl, h4⟩ := h3
          obtain ⟨g1, g2, g3, g4⟩ := x.vis h2
          obtain ⟨f1, f2⟩ := x.free h1
          obtain ⟨l1, l2⟩ := x.free h4
          exact so_isx (c := .ty "ValueError") hc.C hz hf f1 f2 (fun u' r => r) hc.ve (pe_bltn (v := .ty "ValueError") l1 l2 (by decide +kernel) rfl (by decide) (by decide)) (by intros; exact nofun) (so_var (X := X.suite a ((a, oe) :: pn)) (w := w') g1 g2 g3 g4)
        · cases h3
      · cases h2
    · cases h
  | .or y z, e, h => by
    simp only [matchH] at h
    split at h
    · rename_i o b1 b2 hu
      simp only [Bool.and_eq_true, decide_eq_true_eq] at h
      obtain ⟨⟨rfl, h1⟩, h2⟩ := h
      have ia := sndX x hc hz hf y h1
      have ib := sndX x hc hz hf z h2
      rcases unBool_eq hu with ⟨p, rfl⟩ | ⟨y, z, r, p, rfl, rfl⟩
      · exact so_or ia (pe_1 ib)
      · exact so_or ia ib
    · cases h
  | .int y, e, h => by
    simp only [matchH] at h
    split at h
    · rename_i y1 e1 hu
      obtain ⟨p, q, rfl⟩ := unCall_eq hu
      simp only [Bool.and_eq_true, decide_eq_true_eq] at h
      obtain ⟨⟨⟨rfl, h1⟩, h2⟩, h3⟩ := h
      obtain ⟨f1, f2⟩ := x.free h1
      exact so_intb (X := X.suite a ((a, oe) :: pn)) (w := w') f1 f2 (nst_ne h2) (sndX x hc hz hf y h3)
    · cases h
  | .add y z, e, h => by
    simp only [matchH] at h
    split at h
    · rename_i b1 o b2 hu
      obtain ⟨p, rfl⟩ := unBin_eq hu
      simp only [Bool.and_eq_true, decide_eq_true_eq] at h
      obtain ⟨⟨rfl, h1⟩, h2⟩ := h
      exact so_bin (X := X.suite a ((a, oe) :: pn)) (w := w') (binR_ok _) (sndX x hc hz hf y h1) (sndX x hc hz hf z h2) fun F P H v1 v2 ta tb t ts tv σ e Q hb sr k => binR_res hb sr k
    · cases h
  | .lst es, e, h => by
    simp only [matchH] at h
    split at h
    · rename_i xs hu
      obtain ⟨p, rfl⟩ := unLst_eq hu
      simp only [Bool.and_eq_true, decide_eq_true_eq] at h
      have hl : xs.length = es.length := matchHs_len h.2
      exact so_lst (X := X.suite a ((a, oe) :: pn)) (w := w') (sndXs x hc hz hf es h.2) (by omega) fun e os e' q => by rw [rHs_len q, hl]
    · cases h
  | .ix y z, e, h => by
    simp only [matchH] at h
    split at h
    · rename_i b1 b2 hu
      obtain ⟨⟨p, rfl⟩, hp⟩ := unSub_eq hu
      simp only [Bool.and_eq_true] at h
      exact so_ix (X := X.suite a ((a, oe) :: pn)) (w := w') (sndX x hc hz hf y h.1) (sndX x hc hz hf z h.2) hp
    · cases h
theorem sndXs (x : XC m cf w X) (hc : HC m w X c) (hz : Zc (.ref (w.cad c)) none oe) (hf : ∃ vs, oe.data = .fields vs) : ∀ (zs : List HE) {es : List Expr}, matchHs zs m es = true → PA (X.suite a ((a, oe) :: pn)) es (tL X.K w' true fun e => (rHs a c zs e).bd fun os e1 => .ok (os.map .own) e1)
  | [], [], h => so_nilL
  | z :: zs, e :: es, h => by
    simp only [matchHs, Bool.and_eq_true] at h
    have h1 := sndX x hc hz hf z h.1.1
    have h2 := sndXs x hc hz hf zs h.2
    have h3 : PE (X.suite a ((a, oe) :: pn)) e (tE X.K w' true fun e => (rH a c z e).bd ownT) := PE.imp h1 fun σ H Q q => tE_sub (fun e => by
      cases rH a c z e with
      | bad => exact .inl rfl
      | exc k e1 => exact .inr rfl
      | ok t e1 => cases t with
        | own o => exact .inr rfl
        | brw o => exact .inl rfl) q
    have h4 := so_consL (X := X.suite a ((a, oe) :: pn)) (w := w') h3 h2 (nst_ne h.1.2) fun _ _ _ _ => rfl
    have e : (fun e => (rHs a c (z :: zs) e).bd fun os e1 => (.ok (os.map .own) e1 : R (List TV))) = fun e => ((rH a c z e).bd ownT).bd fun t e1 => ((rHs a c zs e1).bd fun os e1 => (.ok (os.map .own) e1 : R (List TV))).bd fun us e2 => .ok (t :: us) e2 := funext fun e => by
      simp only [rHs]
      cases rH a c z e with
      | bad => rfl
      | exc k e1 => rfl
      | ok t e1 => cases t with
        | brw o => rfl
        | own o =>
          show ((rHs a c zs e1).bd _).bd _ = ((rHs a c zs e1).bd _).bd _
          cases rHs a c zs e1 <;> rfl
    rw [e]
    exact h4
  | [], _ :: _, h => by simp [matchHs] at h
  | _ :: _, [], h => by simp [matchHs] at h
end
end
end TL
namespace TL
open PySem PySem.Spec L2
theorem PE.or {X : Cx} {e : Expr} {t t' : TE} (h : PE X e t) (h' : PE X e t') : PE X e fun σ H Q => t σ H Q ∨ t' σ H Q :=
  ⟨fun pins s σ H Q I x => x.elim (h.run pins s σ H Q I) (h'.run pins s σ H Q I)⟩
section
variable {X : Cx} {w : WC} {pins : List Nat}
/-- what a slot owns, handed on -/
theorem so_mvV {i : Nat} {x : Str} {pos : Pos} (hN : X.N[i]? = some x) (hv : Vis X.env.scope x) (hd : (x == ("__debug__" : Str)) = false) (hcd : (x == ("__classdict__" : Str)) = false) :
    PE X (.Name x pos) (tE X.K w true fun e => match e[i]? with
      | some (some (.own o)) => .ok (.own o) (e.set i none)
      | _ => .bad) := by
  refine PE.imp (pe_var hN hv hd hcd) fun σ H Q h => ?_
  obtain ⟨F, P, ts, tv, env, sr, hq, h⟩ := h
  dsimp only at h
  split at h
  · rename_i o e
    obtain ⟨v, L1, h1, h2, s⟩ := sr.sx.take e
    refine ⟨v, h1, ?_⟩
    cases h2 with
    | own r => exact h.here v (SX.push s (.own r)).sr
  · exact h.elim
theorem so_retV {i : Nat} {x : Str} {pos : Pos} {ev : Ev → R TV} (hN : X.N[i]? = some x) (hv : Vis X.env.scope x) (hd : (x == ("__debug__" : Str)) = false) (hcd : (x == ("__classdict__" : Str)) = false) :
    PE X (.Name x pos) (tE X.K w true fun e => oT (retv pins (.var i) (ev e) e)) := by
  refine PE.imp (PE.or (so_stvV (w := w) (ev := ev) hN hv hd hcd) (so_mvV (w := w) hN hv hd hcd)) fun σ H Q h => ?_
  obtain ⟨F, P, ts, tv, env, sr, hq, h⟩ := h
  dsimp only at h
  by_cases hp : pins.contains i = true
  · left
    refine ⟨F, P, ts, tv, env, sr, hq, ?_⟩
    simp only [retv, hp, if_true] at h
    exact h
  · simp only [retv, hp] at h
    split at h
    · rename_i hf
      cases hf
    · split at h
      · rename_i o e
        right
        refine ⟨F, P, ts, tv, env, sr, hq, ?_⟩
        dsimp only
        rw [e]
        exact h
      · left
        exact ⟨F, P, ts, tv, env, sr, hq, h⟩
theorem retv_ps {x : E} {ev : R TV} {e : Ev} (h : RPs e ev) : RPs e (retv pins x ev e) := by
  unfold retv
  split
  · split
    · exact stv_ps h
    · split
      · exact Ps.set fun d => by simp
      · exact stv_ps h
  · exact stv_ps h
theorem ps_bad {st : Stmt} {r : Ev → R Fl} (h : ∀ e, r e = .bad) : PS X st (tS X.K w pins r) :=
  ⟨fun pins s σ H D I x => by
    obtain ⟨F, P, ts, tv, env, sr, hq, x⟩ := x
    rw [h] at x
    exact x.elim⟩
theorem PS.conv {st : Stmt} {r r' : Ev → R Fl} (h : PS X st (tS X.K w pins r)) (hr : ∀ e, r e = r' e) : PS X st (tS X.K w pins r') := by
  have : r = r' := funext hr
  subst this
  exact h
theorem PSs.conv {st : List Stmt} {r r' : Ev → R Fl} (h : PSs X st (tS X.K w pins r)) (hr : ∀ e, r e = r' e) : PSs X st (tS X.K w pins r') := by
  have : r = r' := funext hr
  subst this
  exact h
end
theorem lkPs {cf : CF} (p : Pa) : ∀ e, RPs e (evalPa cf p e) := by
  induction p with
  | var i =>
    intro e
    simp only [evalPa]
    split
    · exact Ps.refl e
    · exact True.intro
  | ix p x ih =>
    intro e
    simp only [evalPa]
    refine RPs.ite ((ih e).bd fun r e1 => (evalE_ps cf x e1).bd fun t e2 => ?_) True.intro
    split
    · split
      · exact Ps.refl e2
      · exact True.intro
    · exact True.intro
/-! ### statements matched -/
def isComp : Expr → Bool
  | .ListComp .. => true
  | .SetComp .. => true
  | .DictComp .. => true
  | _ => false
theorem swaps_no {v : Expr} {t : Option Expr} {l : Nat} {env : PySem.Env} (h : isComp v = false) : swapsWith v t l env = pure false := by
  unfold swapsWith
  cases v <;> first | rfl | cases h
theorem swapped_no {tg v : Expr} {env : PySem.Env} (h : (isTup tg && isTup v) = false) (hl : ∀ ts p, tg ≠ .List ts p) : swappedStores [tg] v env = pure none := by
  unfold swappedStores
  cases tg <;> first | rfl | exact absurd rfl (hl _ _) | (cases v <;> first | rfl | cases h)
/-- name = [..] on one line: the list is stored in another way -/
def swC (m : MC) (tg v : Expr) : Bool := match tg, v with
  | .Name y py, .ListComp _ _ sc pos => decide (m.sc.names.lookup y = some .local) && (py.line == pos.line) && !(sc.names.any fun (n, k) => n == y && (k == .local || k == .cell))
  | _, _ => false
def isLc : Expr → Bool
  | .ListComp .. => true
  | _ => false
theorem swaps_sw {m : MC} {tg v : Expr} {l : Nat} {env : PySem.Env} (hs : env.scope = m.sc) (hk : m.sc.kind = .function) (hv : isLc v = true) : swapsWith v (some tg) l env = pure (swC m tg v) := by
  cases v <;> try cases hv
  rename_i elt gs sc pos
  cases tg <;> try rfl
  rename_i y py
  have hb : env.blockKind = .function := by unfold Env.blockKind; rw [hs, hk]; rfl
  have hy : env.kindOf y = m.sc.names.lookup y := by show env.scope.names.lookup y = _; rw [hs]
  unfold swapsWith swC
  simp only [hb, hy]
  have e1 : (m.sc.names.lookup y == some NameKind.local) = decide (m.sc.names.lookup y = some .local) := by
    cases h : m.sc.names.lookup y with
    | none => rfl
    | some k => cases k <;> rfl
  rw [e1]
  rfl
def unAsg : Stmt → Option (Expr × Expr × Pos)
  | .Assign [t] v p => some (t, v, p)
  | _ => none
theorem unAsg_eq {s : Stmt} {t v : Expr} {p : Pos} (h : unAsg s = some (t, v, p)) : s = .Assign [t] v p := by
  unfold unAsg at h; split at h <;> first | (cases h; rfl) | cases h
def unAug : Stmt → Option (Str × Operator × Expr)
  | .AugAssign (.Name x _) o v _ => some (x, o, v)
  | _ => none
theorem unAug_eq {s : Stmt} {x : Str} {o : Operator} {v : Expr} (h : unAug s = some (x, o, v)) : ∃ p q, s = .AugAssign (.Name x p) o v q := by
  unfold unAug at h; split at h <;> first | (cases h; exact ⟨_, _, rfl⟩) | cases h
def unExpr : Stmt → Option Expr
  | .Expr e _ => some e
  | _ => none
theorem unExpr_eq {s : Stmt} {e : Expr} (h : unExpr s = some e) : ∃ p, s = .Expr e p := by
  unfold unExpr at h; split at h <;> first | (cases h; exact ⟨_, rfl⟩) | cases h
def unRet : Stmt → Option (Option Expr)
  | .Return e _ => some e
  | _ => none
theorem unRet_eq {s : Stmt} {e : Option Expr} (h : unRet s = some e) : ∃ p, s = .Return e p := by
  unfold unRet at h; split at h <;> first | (cases h; exact ⟨_, rfl⟩) | cases h
def unIfs : Stmt → Option (Expr × List Stmt × List Stmt)
  | .If c a b _ => some (c, a, b)
  | _ => none
theorem unIfs_eq {s : Stmt} {c : Expr} {a b : List Stmt} (h : unIfs s = some (c, a, b)) : ∃ p, s = .If c a b p := by
  unfold unIfs at h; split at h <;> first | (cases h; exact ⟨_, rfl⟩) | cases h
def unFor : Stmt → Option (Expr × Expr × List Stmt)
  | .For t i b [] _ => some (t, i, b)
  | _ => none
theorem unFor_eq {s : Stmt} {t i : Expr} {b : List Stmt} (h : unFor s = some (t, i, b)) : ∃ p, s = .For t i b [] p := by
  unfold unFor at h; split at h <;> first | (cases h; exact ⟨_, rfl⟩) | cases h
def unWh : Stmt → Option (Expr × List Stmt)
  | .While c b [] _ => some (c, b)
  | _ => none
theorem unWh_eq {s : Stmt} {c : Expr} {b : List Stmt} (h : unWh s = some (c, b)) : ∃ p, s = .While c b [] p := by
  unfold unWh at h; split at h <;> first | (cases h; exact ⟨_, rfl⟩) | cases h
/-- the small ones: 0 pass, 1 break, 2 continue -/
def unSm : Stmt → Option Nat
  | .Pass _ => some 0
  | .Break _ => some 1
  | .Continue _ => some 2
  | _ => none
theorem unSm_eq {s : Stmt} {n : Nat} (h : unSm s = some n) : (n = 0 ∧ ∃ p, s = .Pass p) ∨ (n = 1 ∧ ∃ p, s = .Break p) ∨ (n = 2 ∧ ∃ p, s = .Continue p) := by
  unfold unSm at h
  split at h
  · cases h; exact .inl ⟨rfl, _, rfl⟩
  · cases h; exact .inr (.inl ⟨rfl, _, rfl⟩)
  · cases h; exact .inr (.inr ⟨rfl, _, rfl⟩)
  · cases h
/-- raise X('m') -/
def unRaise : Stmt → Option Str
  | .Raise (some (.Call (.Name x _) [.Constant (.str _) _ _] [] _)) none _ => some x
  | _ => none
theorem unRaise_eq {s : Stmt} {x : Str} (h : unRaise s = some x) : ∃ p z j p2 q r, s = .Raise (some (.Call (.Name x p) [.Constant (.str z) j p2] [] q)) none r := by
  unfold unRaise at h; split at h <;> first | (cases h; exact ⟨_, _, _, _, _, _, rfl⟩) | cases h
def matchP : Pa → MC → Expr → Bool
  | .var i, m, e => match unName e with
    | some x => visB m i x
    | none => false
  | .ix p x, m, e => match unSub e with
    | some (a, b) => matchP p m a && matchE x m b
    | none => false
def matchSu : Su → MC → List Stmt → Bool
  | [], _, [] => true
  | (j, z) :: r, m, s :: ss => (match unAsg s with
      | some (tg, v, _) => (match unName tg with
        | some y => locB m j y
        | none => false) && matchH z m v && !isComp v
      | none => false) && matchSu r m ss
  | _, _, _ => false
mutual
def okH (i : Nat) : HE → Bool
  | .con _ => true
  | .var j => decide (j ≠ i)
  | .isx j _ _ => decide (j = i)
  | .isv j => decide (j = i)
  | .or x y => okH i x && okH i y
  | .int x => okH i x
  | .add x y => okH i x && okH i y
  | .lst es => okHs i es
  | .ix x y => okH i x && okH i y
def okHs (i : Nat) : List HE → Bool
  | [] => true
  | x :: xs => okH i x && okHs i xs
end
def okSu (i : Nat) (su : Su) : Bool := su.all fun p => decide (p.1 ≠ i) && okH i p.2
def conH : HE → Bool
  | .con _ => true
  | _ => false
def conSu (su : Su) : Bool := su.all fun p => conH p.2
def unTry : Stmt → Option (List Stmt × List ExceptHandler)
  | .Try b hs [] [] _ => some (b, hs)
  | _ => none
theorem unTry_eq {s : Stmt} {b : List Stmt} {hs : List ExceptHandler} (h : unTry s = some (b, hs)) : ∃ p, s = .Try b hs [] [] p := by
  unfold unTry at h; split at h <;> first | (cases h; exact ⟨_, rfl⟩) | cases h
/-- a clause: its class, its name, its suite -/
def unHd : ExceptHandler → Option (Str × Option Str × List Stmt)
  | .ExceptHandler (some (.Name x _)) n (b :: su) _ => some (x, n, b :: su)
  | _ => none
theorem unHd_eq {h : ExceptHandler} {x : Str} {n : Option Str} {su : List Stmt} (e : unHd h = some (x, n, su)) : ∃ p q b r, su = b :: r ∧ h = .ExceptHandler (some (.Name x p)) n (b :: r) q := by
  unfold unHd at e; split at e <;> first | (cases e; exact ⟨_, _, _, _, rfl, rfl⟩) | cases e
/-- clauses without a name, constants stored -/
def matchHd (m : MC) : List Hd → List ExceptHandler → Bool
  | [], [] => true
  | d :: ds, h :: hs => (match unHd h with
    | some (x, n, su) => decide (n = none) && decide (m.exs d.n = some x) && glB m x && decide (d.ids = m.sub d.n) && conSu d.su && matchSu d.su m su
    | none => false) && matchHd m ds hs
  | _, _ => false
/-- one clause with a name -/
def matchH1 (m : MC) (d : Hd) (i : Nat) (h : ExceptHandler) : Bool := match unHd h with
  | some (x, some n, su) => decide (m.exs d.n = some x) && glB m x && decide (d.ids = m.sub d.n) && decide (m.N[i]? = some n) && decide (m.sc.names.lookup n = some .local) && okSu i d.su && matchSu d.su m su
  | _ => false
def matchHs1 (m : MC) (kn : List Nat) (hs : List Hd) (es : List ExceptHandler) : Bool := kn.all (fun c => (m.exs c).isSome) && (match hs, es with
  | [⟨n, ids, some i, su⟩], [h] => matchH1 m ⟨n, ids, some i, su⟩ i h
  | ds, hs => !ds.isEmpty && ds.all (fun d => d.sl.isNone) && matchHd m ds hs)
/-- o.name() -/
def unMet0 : Expr → Option (Expr × Str)
  | .Call (.Attribute a m ap) [] [] p => if (ap.endLine == p.line) && !isNC a then some (a, m) else none
  | _ => none
theorem unMet0_eq {e a : Expr} {m : Str} (h : unMet0 e = some (a, m)) : ∃ p q, e = .Call (.Attribute a m p) [] [] q ∧ (p.endLine == q.line) = true ∧ ∀ id p q, a ≠ .Call (.Name id p) [] [] q := by
  unfold unMet0 at h
  split at h
  · split at h
    · rename_i hc
      cases h
      rw [Bool.and_eq_true_iff] at hc
      exact ⟨_, _, rfl, hc.1, fun id p q e => by subst e; simp [isNC] at hc⟩
    · cases h
  · cases h
mutual
def matchS : S → MC → Stmt → Bool
  | .asg t x, m, s => match unAsg s with
    | some (tg, v, p) => matchT t m tg && matchE x m v && nst tg && (!isComp v || (isLc v && decide (m.sc.kind = .function))) && !(isTup tg && isTup v)
    | none => false
  | .aug i op x, m, s => match unAug s with
    | some (y, o, v) => decide (o = op) && locB m i y && matchE x m v
    | none => false
  | .app p x, m, s => match unExpr s with
    | some e => (match unMet e with
      | some (a, z, b) => decide (z = "append") && nst b && matchP p m a && matchE x m b
      | none => false)
    | none => false
  | .setix q i x, m, s => match unAsg s with
    | some (tg, v, p) => (match unSub tg with
      | some (o, b) => matchP q m o && matchE i m b && matchE x m v
      | none => false)
    | none => false
  | .dput q i x, m, s => match unAsg s with
    | some (tg, v, p) => (match unSub tg with
      | some (o, b) => matchP q m o && matchE i m b && matchE x m v
      | none => false)
    | none => false
  | .ext p x, m, s => match unExpr s with
    | some e => (match unMet e with
      | some (a, z, b) => decide (z = "extend") && nst b && matchP p m a && matchE x m b
      | none => false)
    | none => false
  | .clr p, m, s => match unExpr s with
    | some e => (match unMet0 e with
      | some (a, z) => decide (z = "clear") && matchP p m a
      | none => false)
    | none => false
  | .popi p x, m, s => match unExpr s with
    | some e => (match unMet e with
      | some (a, z, b) => decide (z = "pop") && nst b && matchP p m a && matchE x m b
      | none => false)
    | none => false
  | .asgPop t p, m, s => match unAsg s with
    | some (tg, v, _) => (match unMet0 v with
      | some (a, z) => decide (z = "pop") && matchT t m tg && nst tg && matchP p m a
      | none => false)
    | none => false
  | .expr x, m, s => match unExpr s with
    | some e => matchE x m e && !isComp e
    | none => false
  | .ret x, m, s => match unRet s with
    | some (some e) => matchE x m e
    | _ => false
  | .retN, m, s => match unRet s with
    | some none => true
    | _ => false
  | .ifs c a b, m, s => match unIfs s with
    | some (z, x, y) => tstOk c && matchE c m z && matchSs a m x && matchSs b m y
    | none => false
  | .fors t k src body, m, s => match unFor s with
    | some (tg, it, b) => (match itArgs k tg it with
        | some args => itFre k m && matchL src m args
        | none => false) && !isSet it && matchT t m tg && matchSs body m b
    | none => false
  | .whiles n c body, m, s => match unWh s with
    | some (z, b) => tstOk c && matchE c m z && matchSs body m b
    | none => false
  | .pass, m, s => decide (unSm s = some 0)
  | .raise c _, m, s => match unRaise s with
    | some x => decide (m.exs c = some x) && glB m x
    | none => false
  | .brk, m, s => decide (unSm s = some 1)
  | .cont, m, s => decide (unSm s = some 2)
  | .wip _ s, m, st => matchS s m st
  | .frz _ s, m, st => matchS s m st
  | .tryx kn hs body, m, st => match unTry st with
    | some (b, es) => matchHs1 m kn hs es && matchSs body m b
    | none => false
  | _, _, _ => false
def matchSs : List S → MC → List Stmt → Bool
  | [], _, l => l.isEmpty
  | s :: ss, m, l => (ss.isEmpty && matchB s m l) || (match l with
    | t :: ts => matchS s m t && matchSs ss m ts
    | [] => false)
def matchB : S → MC → List Stmt → Bool
  | .blk _ ss, m, l => matchSs ss m l
  | .ali i p ss, m, l => match l with
    | t :: ts => (match unAsg t with
      | some (tg, v, _) => (match unName tg with
        | some y => locB m i y && matchP p m v
        | none => false)
      | none => false) && matchSs ss m ts
    | [] => false
  | _, _, _ => false
end
structure XS (m : MC) (cf : CF) (w : WC) (X : Cx) : Prop extends XC m cf w X where
  pass : PassesOwn (model X.prog X.w) X.A X.env X.xe
  st : X.stack = X.env :: X.outer
  fr : X.env.frame = some X.env.locals
section
variable {m : MC} {cf : CF} {w : WC} {X : Cx}
theorem snd_P : ∀ (p : Pa) {e : Expr}, matchP p m e = true → XC m cf w X → PE X e (tPa X.K w (evalPa cf p))
  | .var i, e, h, x => by
    simp only [matchP] at h
    split at h
    · rename_i y hu
      obtain ⟨q, rfl⟩ := unName_eq hu
      obtain ⟨h1, h2, h3, h4⟩ := x.vis h
      exact so_paV h1 h2 h3 h4
    · cases h
  | .ix p z, e, h, x => by
    simp only [matchP] at h
    split at h
    · rename_i a b hu
      obtain ⟨⟨q, rfl⟩, hp⟩ := unSub_eq hu
      obtain ⟨h1, h2⟩ := and3 h
      by_cases hq : quiet z = true
      · have hb := (snd cf z h2 x).pe
        rw [hq] at hb
        have base := so_paI (pos := q) (snd_P p h1 x) hb hp
        have e : (evalPa cf (.ix p z)) = fun e => (evalPa cf p e).bd fun r e1 => (evalE cf z e1).bd fun t e2 => match rd t with
            | .int k => match subAt e2 r.1 (r.2 ++ [k]) with
              | some _ => .ok (r.1, r.2 ++ [k]) e2
              | none => .bad
            | _ => .bad := funext fun e => by simp only [evalPa]; rw [if_pos hq] <;> rfl
        rw [e]
        exact base
      · refine ⟨fun pins s σ H Q I y => ?_⟩
        obtain ⟨F, P, ts, tv, env, sr, hqq, y⟩ := y
        simp only [evalPa] at y
        rw [if_neg hq] at y
        exact y.elim
    · cases h
theorem P_nc {p : Pa} {e : Expr} (h : matchP p m e = true) : ∀ id q r, e ≠ .Call (.Name id q) [] [] r := fun id q r z => by
  subst z
  cases p <;> simp [matchP, unName, unSub] at h
end
end TL
namespace TL
open PySem PySem.Spec L2
theorem resL_own {own : List Nat} {t : Tg} {k : Ik} {rs : Ev → R (List TV)} {rc : Ev → R Bool} {ro : Ev → R O} {x : E} {e : Ev} (hx : ∀ i, x ≠ .var i) : oT (stv x (resL own t k rs rc ro e) e) = resL own t k rs rc ro e := by
  rw [stv_own hx]
  have key : ∀ r : R TV, (∀ t e', r = .ok t e' → ∃ o, t = .own o) → (r.bd fun t e1 => match t with
    | .own o => R.ok (.own o) e1
    | .brw (.fz d) => .ok (fl d) e1
    | .brw _ => .bad) = r := fun r h => by
    cases r with
    | ok t e1 =>
      obtain ⟨o, rfl⟩ := h t e1 rfl
      rfl
    | exc c e1 => rfl
    | bad => rfl
  refine key _ fun t' e' h => ?_
  unfold resL at h
  cases ea : rs e with
  | bad => rw [ea] at h; cases h
  | exc c e1 => rw [ea] at h; cases h
  | ok us e1 =>
    rw [ea] at h
    simp only [R.bd_ok] at h
    split at h
    · split at h
      · cases h
      · split at h
        · cases h
        · rename_i xs _
          cases eg : lcGo (turnL own t rc ro) xs [] e1 with
          | bad => rw [eg] at h; cases h
          | exc c e2 => rw [eg] at h; cases h
          | ok os e2 =>
            rw [eg] at h
            simp only [R.bd_ok] at h
            split at h
            · cases h; exact ⟨_, rfl⟩
            · cases h
    · cases h
/-- name = [..], the list stored in its own way -/
theorem so_setLc {X : Cx} {w : WC} {pins : List Nat} {i : Nat} {y : Str} {py pos spos : Pos} {x : E} {elt tg iter : Expr} {ifs : List Expr} {scope : Scope} {own : List (Str × Nat)} {t : Tg} {k : Ik} {rs : Ev → R (List TV)} {rc : Ev → R Bool} {ro : Ev → R O} (hx : ∀ i, x ≠ .var i) (hc : X.calm = true) (hN : X.N.Nodup)
    (hy : X.N[i]? = some y) (hyl : X.env.scope.names.lookup y = some .local) (hsw : swapsWith (.ListComp elt [⟨tg, iter, ifs, 0⟩] scope pos) (some (.Name y py)) spos.line X.env = pure true)
    (hi : PI X tg iter fun σ H R => tL X.K w true rs σ H fun vs H1 => WR X.K k vs H1 R) (ok : BlkOk X.N X.env.scope scope own)
    (hg : ∀ (pins : List Nat) (s : Shared) (H : Hp) (C : Addr) (cl : List (Str × Addr)) (fp : List Addr), PG (X.blk s H scope (compEnvC scope cl C X.env) fp) tg (gT X.K pins t))
    (ht : ∀ (s : Shared) (H : Hp) (C : Addr) (cl : List (Str × Addr)) (fp : List Addr), PTs (X.blk s H scope (compEnvC scope cl C X.env) fp) ifs (tB X.K ⟨fun _ _ _ _ => False, w.cad⟩ true rc))
    (he : ∀ (s : Shared) (H : Hp) (C : Addr) (cl : List (Str × Addr)) (fp : List Addr), PE (X.blk s H scope (compEnvC scope cl C X.env) fp) elt (tE X.K ⟨fun _ _ _ _ => False, w.cad⟩ true fun e => oT (ro e)))
    (hs : ∀ x, foldedSetIterable iter X.env x = pure x)
    (hpar : ∀ xs acc e os e', lcGo (turnL (own.map (·.2)) t rc ro) xs acc e = .ok os e' → ∀ (i : Nat) d, i ∉ own.map (·.2) → e'[i]? = some (some (.par d)) → e[i]? = some (some (.par d)))
    (hps : ∀ e, RPs e (resL (own.map (·.2)) t k rs rc ro e)) :
    PS X (.Assign [.Name y py] (.ListComp elt [⟨tg, iter, ifs, 0⟩] scope pos) spos) (tS X.K w pins fun e => (stv x (resL (own.map (·.2)) t k rs rc ro e) e).bd fun o e1 => (R.lf (asgT pins (.nm i) o e1) e1).bd fun e2 _ => .ok .nx e2) := by
  have P0 := ps_setLc (py := py) (pos := pos) (spos := spos) hc hN hy hyl hsw hi ok (hg (compl (own.map (·.2)) X.N.length)) ht he hs
  refine ⟨fun pn s σ H D I h => P0.run pn s σ H D I ?_⟩
  refine asg_conv (X := X) (w := w) (pins := pins) (q := true) (t := .nm i) (ro := fun e => stv x (resL (own.map (·.2)) t k rs rc ro e) e) (fun v σ H Q z => nm_conv z) (fun e => stv_ps (hps e)) (fun Q z => ?_) h
  refine lc_conv I.len ?_ hpar
  obtain ⟨F, P, ts, tv, env, sr, hq, z⟩ := z
  refine ⟨F, P, ts, tv, env, sr, hq, ?_⟩
  dsimp only at z
  rw [resL_own hx] at z
  exact z
section
variable {m : MC} {cf : CF} {w : WC} {X : Cx}
/-- an element of sources -/
theorem snd_src {s : E} {e : Expr} (h : matchE s m e = true) (hq : quiet s = true) (x : XC m cf w X) : PE X e (tEs X.K w s true (evalE cf s)) := by
  by_cases hv : ∃ i, s = .var i
  · obtain ⟨i, rfl⟩ := hv
    simp only [matchE] at h
    split at h
    · rename_i y hu
      obtain ⟨p, rfl⟩ := unName_eq hu
      obtain ⟨h1, h2, h3, h4⟩ := x.vis h
      exact so_srcV h1 h2 h3 h4
    · cases h
  · have := (snd cf s h x).pe
    rw [hq] at this
    exact so_srcE (fun i z => hv ⟨i, z⟩) this
theorem snd_srcs : ∀ {ir : List E} {es : List Expr}, matchL ir m es = true → quiets ir = true → XC m cf w X → PA X es (tLs X.K w ir true (evalTs cf ir))
  | [], [], h, q, x => so_nilS
  | a :: as, e :: es, h, q, x => by
    simp only [matchL, Bool.and_eq_true] at h
    obtain ⟨q1, q2⟩ := and3 q
    exact so_consS (snd_src h.1.1 q1 x) (snd_srcs h.2 q2 x) (nst_ne h.1.2) rfl
  | [], _ :: _, h, q, x => by simp [matchL] at h
  | _ :: _, [], h, q, x => by simp [matchL] at h
theorem tLs.len {K : PySem.W.Frag} {w : WC} {cf : CF} {xs ir : List E} {n : Nat} (hn : ir.length = n) (σ : St) (H : Hp) (Q Q' : List V → Hp → Prop) (k : ∀ vs H1, vs.length = n → Q vs H1 → Q' vs H1) (h : tLs K w xs true (fun e => evalTs cf ir e) σ H Q) : tLs K w xs true (fun e => evalTs cf ir e) σ H Q' := by
  obtain ⟨F, P, ts, tv, env, sr, hq, h⟩ := h
  refine ⟨F, P, ts, tv, env, sr, hq, ?_⟩
  dsimp only at h ⊢
  cases e : evalTs cf ir env with
  | bad => rw [e] at h; exact h
  | exc c e1 => rw [e] at h; exact Res.exc0 h fun z => z
  | ok us e1 =>
    rw [e] at h
    intro F' H' x s vs hl lk sr'
    exact k vs H' (by rw [hl, evalTs_len e, hn]) (h F' H' x s vs hl lk sr')
theorem snd_it {ir : List E} {k : Ik} {tg iter : Expr} {args : List Expr} (ha : itArgs k tg iter = some args) (hf : itFre k m = true) (hL : matchL ir m args = true) (hq : quiets ir = true) (x : XC m cf w X) :
    PI X tg iter fun σ H R => tLs X.K w ir true (fun e => evalTs cf ir e) σ H fun vs H1 => WR X.K k vs H1 R := by
  obtain ⟨h1, h2⟩ := matchL_nst hL
  by_cases hk : k = .sq
  · subst hk
    simp only [itArgs] at ha
    split at ha
    · cases ha
    · cases ha
      obtain ⟨s, rfl⟩ := List.length_eq_one_iff.mp h2.symm
      have hs : quiet s = true := (and3 hq).1
      simp only [matchL, Bool.and_eq_true] at hL
      have pe := snd_src hL.1.1 hs x
      refine PI.imp (pi_sqP pe) fun σ H R h => ?_
      obtain ⟨F, P, ts, tv, env, sr, hq', h⟩ := h
      refine ⟨F, P, ts, tv, env, sr, hq', ?_⟩
      simp only [evalTs] at h
      cases e : evalE cf s env with
      | bad => rw [e] at h; exact h
      | exc c e1 => rw [e] at h; exact Res.exc0 h fun z => z
      | ok t e1 =>
        rw [e] at h
        intro F' H' y z v lk sr'
        exact h F' H' y z [v] rfl ⟨lk, trivial⟩ sr'
  · exact pi_args hk ha hf x h1 (snd_srcs hL hq x) fun σ H Q Q' k h => tLs.len h2.symm σ H Q Q' k h
theorem quietNC {ir : E} {e : Expr} (h : matchE ir m e = true) (hl : isLc e = false) : isComp e = false := by
  cases e <;> first | rfl | exact Bool.noConfusion hl | (cases ir <;> simp [matchE, isD0, unGet, fznOk, dpOk, unCon, unName, unBin, unUn, unCmp, unChn, unBool, unIf, unSub, unSlc, unTup, unLst, unCall, unMet, unLc] at h)
theorem matchT_nl {t : Tg} {e : Expr} (h : matchT t m e = true) : ∀ ts p, e ≠ .List ts p := fun ts p z => by
  subst z
  cases t <;> simp [matchT, unName, unTup] at h
theorem asg1 {tg : Expr} (h : nst tg = true) : (assignEach [tg] X.env).map (·.2) = [assign tg X.env] := by
  rw [assignEach_cons h]; rfl
/-- an assignment -/
theorem snd_asg {t : Tg} {ir : E} {tg v : Expr} {p : Pos} {pins : List Nat} (hT : matchT t m tg = true) (hv : matchE ir m v = true) (hn : nst tg = true) (hc : (!isComp v || (isLc v && decide (m.sc.kind = .function))) = true) (ht : (isTup tg && isTup v) = false) (x : XC m cf w X) :
    PS X (.Assign [tg] v p) (tS X.K w pins (execS cf pins (.asg t ir))) := by
  have hps : ∀ e, RPs e (stv ir (evalE cf ir e) e) := fun e => stv_ps (evalE_ps cf ir e)
  have plain : swapsWithSole [tg] v p.line X.env = pure false → PS X (.Assign [tg] v p) (tS X.K w pins (execS cf pins (.asg t ir))) := fun hs =>
    so_asg ((snd cf ir hv x).st x hv) (snd_T t pins hT x) hps hs (swapped_no ht (matchT_nl hT)) (asg1 hn)
  by_cases hl : isLc v = true
  · have hk : m.sc.kind = .function := by
      have : isComp v = true := by cases v <;> first | rfl | cases hl
      rw [this, hl] at hc
      simpa using hc
    have hsw := swaps_sw (l := p.line) (tg := tg) x.sc hk hl
    by_cases hb : swC m tg v = true
    · -- stored in its own way
      rw [hb] at hsw
      cases v <;> try (cases hl)
      rename_i el gs sc pos
      cases tg <;> try (cases hb)
      rename_i y py
      obtain ⟨own, t2, k, src, c, elt, rfl⟩ : ∃ own t2 k src c elt, ir = .lc own t2 k src c elt := by
        cases ir <;> first | exact ⟨_, _, _, _, _, _, rfl⟩ | (simp [matchE, isD0, unGet, fznOk, dpOk, unCon, unName, unBin, unUn, unCmp, unChn, unBool, unIf, unSub, unSlc, unTup, unLst, unCall, unMet, unLc] at hv)
      obtain ⟨i, rfl⟩ : ∃ i, t = .nm i := by
        cases t with
        | nm i => exact ⟨i, rfl⟩
        | tp ts => simp [matchT, unTup] at hT
      by_cases hq : (quiets src && quiet c && quiet elt) = true
      · obtain ⟨q12, q3⟩ := and3 hq
        obtain ⟨q1, q2⟩ := and3 q12
        simp only [matchE] at hv
        split at hv
        · rename_i el' tg' it ifs sc' hu
          obtain ⟨p', hu⟩ := unLc_eq hu
          cases hu
          simp only [Bool.and_eq_true, Bool.not_eq_true'] at hv
          obtain ⟨⟨⟨⟨⟨hI, hs⟩, hbl⟩, hT2⟩, hcc⟩, he⟩ := hv
          have hi : PI X tg' it fun σ H R => tL X.K w true (fun e => evalTs cf src e) σ H fun vs H1 => WR X.K k vs H1 R := by
            split at hI
            · rename_i args ha
              obtain ⟨hf, hL⟩ := and3 hI
              exact sndI cf src ha hf hL q1 x (sndT cf src hL q1 x) fun s e hsrc hL1 => sndH cf src hsrc hL1 x
            · cases hI
          have ok : BlkOk X.N X.env.scope sc (ownN m own) := by rw [x.N, x.sc]; exact blkOk_by hbl
          simp only [matchT, unName] at hT
          obtain ⟨h1, h2, h3⟩ := x.loc hT
          have hyl : X.env.scope.names.lookup y = some .local := by
            rw [x.sc]
            simp only [swC, Bool.and_eq_true, decide_eq_true_eq] at hb
            exact hb.1.1
          have base := so_setLc (pins := pins) (x := .lc own t2 k src c elt) (py := py) (pos := pos) (spos := p) (w := w) (elt := el) (ifs := ifs) (rc := fun e => cnd c (evalE cf c e) e) (ro := fun e => stv elt (evalE cf elt e) e) (fun i => by intro z; cases z) x.cm (by rw [x.N]; exact x.nd) h1 hyl hsw hi ok (fun pins s H C cl fp => snd_T t2 pins hT2 (x.blk s H C cl fp))
            (fun s H C cl fp => by
              cases ifs with
              | nil =>
                cases c <;> first | exact so_cnd0 | cases hcc
              | cons z r =>
                cases r with
                | nil =>
                  simp only [Bool.and_eq_true, Bool.not_eq_true'] at hcc
                  obtain ⟨⟨n1, n2⟩, n3⟩ := hcc
                  have := (snd cf c n3 (x.blk s H C cl fp)).pt n2
                  rw [q2] at this
                  refine pts_one ?_
                  have e : (fun e => cnd c (evalE cf c e) e) = fun e => (evalE cf c e).bd boolT := funext fun e => by cases c <;> first | rfl | cases n1
                  rw [e]
                  exact this
                | cons _ _ => cases hcc)
            (fun s H C cl fp => by
              have := (snd cf elt he (x.blk s H C cl fp)).st (x.blk s H C cl fp) he
              rw [q3] at this
              exact this)
            (folded_id hs) (lcGo_par (fun e => cnd_ps (evalE_ps cf c e)) fun e => stv_ps (evalE_ps cf elt e)) (fun e => resL_ps (fun e => evalTs_ps cf src e) (fun e => cnd_ps (evalE_ps cf c e)) (fun e => stv_ps (evalE_ps cf elt e)) e)
          rw [ownN_snd] at base
          refine PS.conv base fun e => ?_
          have ee : evalE cf (.lc own t2 k src c elt) e = resL own t2 k (fun e => evalTs cf src e) (fun e => cnd c (evalE cf c e) e) (fun e => stv elt (evalE cf elt e) e) e := by
            simp only [evalE]
            rw [if_pos hq]
            rfl
          simp only [execS]
          rw [ee]
        · cases hv
      · refine ps_bad fun e => ?_
        have ee : evalE cf (.lc own t2 k src c elt) e = .bad := by
          simp only [evalE]
          rw [if_neg hq]
        simp only [execS]
        rw [ee]
        rfl
    · rw [Bool.not_eq_true] at hb
      rw [hb] at hsw
      exact plain hsw
  · have hnc := quietNC hv (by simpa using hl)
    exact plain (swaps_no hnc)
end
end TL
namespace TL
open PySem PySem.Spec L2
/-- a part of a slot's tree rewritten: an object at address a -/
theorem SX.modG {K : PySem.W.Frag} {F P H : Hp} {ts : List V} {tv : List TV} {σ : St} {env : Ev} {L : List Addr} {i : Nat} {π : List Int} {o sub sub' : O} {v0 v : V} {f : O → Option O} (s : SX K F P H ts tv σ env L) (st : ∀ t ∈ tv, stable t = true)
    (ho : env[i]? = some (some (.own o))) (hsub : subO π o = some sub) (hf : f sub = some sub') (hσ : σ[i]? = some (some v0)) (hat : AtP H v0 π v) :
    ∃ Ls, RO K F H sub v Ls ∧ ∀ a M M' L' ob, Ls = a :: M → v = .ref a → (∀ b, M'.count b + L'.count b ≤ M.count b + L.count b) → ((∀ b ∈ M', b ≠ a) → RO K F (upd H a ob) sub' (.ref a) (a :: M')) →
      ∃ o', modO π f o = some o' ∧ SX K F P (upd H a ob) ts tv σ (env.set i (some (.own o'))) L' := by
  obtain ⟨u0, A, h1, h2, s1⟩ := s.take ho
  rw [hσ] at h1; cases h1
  have hi : i < env.length := (List.getElem?_eq_some_iff.mp ho).1
  cases h2 with
  | own ro =>
    obtain ⟨v', Ls, Lr, f1, f2, f3, f4⟩ := ro.focus hsub
    have e := hat.det f1
    subst e
    refine ⟨Ls, f2, fun a M M' L' ob eL ev hc ro' => ?_⟩
    subst eL ev
    have s2 : SX K F P H ts tv σ (env.set i none) (a :: (M' ++ (Lr ++ L'))) := s1.weak fun b => by
      have := f3 b; have := hc b
      simp only [List.count_cons, List.count_append] at *
      omega
    have dis : ∀ b ∈ M' ++ (Lr ++ L'), b ≠ a := fun b hb z => s2.dis (z ▸ hb)
    have s3 := s2.write st (o := ob)
    have ro2 := ro' fun b hb => dis b (by simp [hb])
    obtain ⟨o', L'', e1, e2, e3⟩ := f4 F (upd H a ob) f sub' (a :: M') hf (Same.refl F) (fun b hb => upd_ne (dis b (by simp [hb]))) ro2
    refine ⟨o', e1, ?_⟩
    have s4 : SX K F P (upd H a ob) ts tv σ (env.set i none) (L'' ++ L') := s3.weak fun b => by
      have := e3 b
      simp only [List.count_cons, List.count_append] at *
      omega
    have s5 := SX.back (sl := .own o') s4 (by rw [List.getElem?_set_self hi]) hσ (.own e2)
    rw [List.set_set] at s5
    exact s5
theorem ROk.any {K : PySem.W.Frag} {F H : Hp} (k : Key) : ∀ {os : List (Key × O)} {kvs : List (Key × V)} {M : List Addr}, ROk K F H os kvs M → (os.any fun p => decide (p.1 = k)) = kvs.any fun p => decide (p.1 = k)
  | _, _, _, .nil => rfl
  | _, _, _, .cons r l => by simp only [List.any_cons, ROk.any k l]
theorem ROk.len {K : PySem.W.Frag} {F H : Hp} : ∀ {os : List (Key × O)} {kvs : List (Key × V)} {M : List Addr}, ROk K F H os kvs M → os.length = kvs.length
  | _, _, _, .nil => rfl
  | _, _, _, .cons r l => by simp only [List.length_cons, ROk.len l]
theorem ROk.app {K : PySem.W.Frag} {F H : Hp} {k : Key} {d : D} {v : V} (i : Is K F d v) : ∀ {os : List (Key × O)} {kvs : List (Key × V)} {M : List Addr}, ROk K F H os kvs M → ROk K F H (os ++ [(k, .fz d)]) (kvs ++ [(k, v)]) M
  | _, _, _, .nil => .cons (L1 := []) (.fz i) .nil
  | _, _, _, .cons q l => .cons q (l.app i)
theorem ROk.rep {K : PySem.W.Frag} {F H : Hp} {k : Key} {d : D} {v : V} (i : Is K F d v) : ∀ {os : List (Key × O)} {kvs : List (Key × V)} {M : List Addr}, ROk K F H os kvs M →
    ∃ M', ROk K F H (os.map fun p => if p.1 = k then (p.1, .fz d) else p) (kvs.map fun p => if p.1 = k then (p.1, v) else p) M' ∧ ∀ b, M'.count b ≤ M.count b
  | _, _, _, .nil => ⟨[], .nil, fun b => Nat.le_refl _⟩
  | (k1, o1) :: os, _, _, .cons (L1 := L1) (L2 := L2) q l => by
    obtain ⟨M', h1, h2⟩ := l.rep (k := k) i
    by_cases h : k1 = k
    · refine ⟨[] ++ M', ?_, fun b => by have := h2 b; simp only [List.count_append, List.nil_append]; omega⟩
      simp only [List.map_cons, if_pos h]
      exact .cons (.fz i) h1
    · refine ⟨L1 ++ M', ?_, fun b => by have := h2 b; simp only [List.count_append]; omega⟩
      simp only [List.map_cons, if_neg h]
      exact .cons q h1
theorem ROk.put {K : PySem.W.Frag} {F H : Hp} {k : Key} {d : D} {v : V} (i : Is K F d v) {os : List (Key × O)} {kvs : List (Key × V)} {M : List Addr} (l : ROk K F H os kvs M) : ∃ M', ROk K F H (setK' os k (.fz d)) (putK kvs k v) M' ∧ ∀ b, M'.count b ≤ M.count b := by
  unfold setK' putK
  rw [l.any k]
  split
  · exact l.rep i
  · exact ⟨M, l.app i, fun b => Nat.le_refl _⟩
theorem IsT.len {K : PySem.W.Frag} {F : Hp} : ∀ {ds : List (D × D)} {kvs : List (List Key × V)}, IsT K F ds kvs → ds.length = kvs.length
  | _, _, .nil => rfl
  | _, _, .cons _ l => by simp only [List.length_cons, IsT.len l]
theorem tkD_inj {k k1 : List Key} (h : k.map keyD = k1.map keyD) : k = k1 := by
  have := congrArg (List.map keyOf) h
  simp only [List.map_map] at this
  have e : (keyOf ∘ keyD) = some := funext fun z => keyOf_keyD z
  rw [e] at this
  exact (List.map_inj_right (fun _ _ z => Option.some.inj z)).mp this
theorem IsTm.any {K : PySem.W.Frag} {F : Hp} (k : List Key) : ∀ {ds : List (List Key × D)} {kvs : List (List Key × V)}, IsT K F (ds.map tkD) kvs → (ds.any fun p => decide (p.1 = k)) = kvs.any fun p => decide (p.1 = k)
  | [], [], _ => rfl
  | [], _ :: _, l => by cases l
  | _ :: _, [], l => by have := IsT.len l; simp at this
  | (k1, d1) :: ds, (k2, v2) :: kvs, l => by
    generalize e : List.map tkD ((k1, d1) :: ds) = z at l
    cases l with
    | cons i l =>
      simp only [List.map_cons, tkD, List.cons.injEq, Prod.mk.injEq, PyData.tuple.injEq] at e
      obtain ⟨⟨e1, e2⟩, e3⟩ := e
      have := tkD_inj e1
      subst this e3
      simp only [List.any_cons, IsTm.any k l]
theorem IsTm.app {K : PySem.W.Frag} {F : Hp} {k : List Key} {d : D} {v : V} (i : Is K F d v) : ∀ {ds : List (D × D)} {kvs : List (List Key × V)}, IsT K F ds kvs → IsT K F (ds ++ [tkD (k, d)]) (kvs ++ [(k, v)])
  | _, _, .nil => .cons i .nil
  | _, _, .cons q l => .cons q (IsTm.app i l)
theorem IsTm.rep {K : PySem.W.Frag} {F : Hp} {k : List Key} {d : D} {v : V} (i : Is K F d v) : ∀ {ds : List (List Key × D)} {kvs : List (List Key × V)}, IsT K F (ds.map tkD) kvs →
    IsT K F ((ds.map fun p => if p.1 = k then (p.1, d) else p).map tkD) (kvs.map fun p => if p.1 = k then (p.1, v) else p)
  | [], [], _ => .nil
  | [], _ :: _, l => by cases l
  | _ :: _, [], l => by have := IsT.len l; simp at this
  | (k1, d1) :: ds, (k2, v2) :: kvs, l => by
    generalize e : List.map tkD ((k1, d1) :: ds) = z at l
    cases l with
    | cons i' l =>
      simp only [List.map_cons, tkD, List.cons.injEq, Prod.mk.injEq, PyData.tuple.injEq] at e
      obtain ⟨⟨e1, e2⟩, e3⟩ := e
      have := tkD_inj e1
      subst this e2 e3
      by_cases h : k1 = k
      · simp only [List.map_cons, if_pos h]
        exact .cons i (IsTm.rep i l)
      · simp only [List.map_cons, if_neg h]
        exact .cons i' (IsTm.rep i l)
theorem IsTm.put {K : PySem.W.Frag} {F : Hp} {k : List Key} {d : D} {v : V} (i : Is K F d v) {ds : List (List Key × D)} {kvs : List (List Key × V)} (l : IsT K F (ds.map tkD) kvs) : IsT K F ((setK' ds k d).map tkD) (putK kvs k v) := by
  unfold setK' putK
  rw [IsTm.any k l]
  split
  · exact IsTm.rep i l
  · rw [List.map_append]
    exact IsTm.app i l
section
variable {X : Cx} {w : WC} {pins : List Nat}
/-- path[k] = e of a dict -/
theorem so_dput {o b e : Expr} {p1 pos : Pos} {qe : Bool} {ro : Ev → R O} {rp : Ev → R (Nat × List Int)} {rb : Ev → R TV} (hu : X.A.units + 64 < cLine) (he : PE X e (tE X.K w qe fun e => oT (ro e))) (hp : PE X o (tPa X.K w rp)) (hb : PE X b (tE X.K w true rb))
    (hs : swapsWith e (some (.Subscript o b p1)) pos.line X.env = pure false)
    (ps1 : ∀ e, RPs e (ro e)) (ps2 : ∀ e, RPs e (rp e)) (ps3 : ∀ e, RPs e (rb e)) :
    PS X (.Assign [.Subscript o b p1] e pos) (tS X.K w pins fun e => (ro e).bd fun x e1 => (rp e1).bd fun r e2 => (rb e2).bd fun t e3 => (R.lf (modAt e3 r.1 r.2 (putF (rd t) x)) e3).bd fun e4 _ => .ok .nx e4) := by
  refine PS.imp (ps_dput (by omega) hp hb he hs) fun D σ H h => ?_
  obtain ⟨F, P, ts, tv, env, sr, hst, h⟩ := h
  refine ⟨F, P, ts, tv, env, sr, .inr hst, ?_⟩
  have h2 : ResS X.K w pins F P H ts tv σ env D ((oT (ro env)).bd fun tt e1 => match tt with
      | .own x => (rp e1).bd fun r e2 => (rb e2).bd fun t e3 => (R.lf (modAt e3 r.1 r.2 (putF (rd t) x)) e3).bd fun e4 _ => .ok .nx e4
      | _ => .bad) := by
    unfold oT
    rw [bd_bd]
    exact h
  refine tS1 (oT_ps (ps1 env)) h2 fun tt e1 F1 H1 er1 x1 k1 => ?_
  intro v sr1
  cases tt with
  | brw o => exact k1.elim
  | own ox =>
    dsimp only at k1
    have st1 : ∀ t ∈ (TV.own ox :: tv), stable t = true := fun t ht => by
      rcases List.mem_cons.mp ht with z | z
      · rw [z]; rfl
      · exact hst t z
    refine ⟨F1, P, v :: ts, .own ox :: tv, e1, sr1, .inl rfl, ?_⟩
    refine tS1t (q := true) (ps2 e1) k1 fun r e2 F2 H2 er2 x2 s2 k2 => ?_
    intro u u0 hσ hat sr2
    refine ⟨F2, P, v :: ts, .own ox :: tv, e2, sr2, .inl rfl, ?_⟩
    refine tS1t (q := true) (ps3 e2) k2 fun t e3 F3 H3 er3 x3 s3 k3 => ?_
    intro iv sr3
    have ii := sr3.rd1
    have sr4 := sr3.drop1
    have hat3 := hat.same (s3 rfl)
    revert k3 ii
    generalize rd t = d
    intro k3 ii
    cases hm : modAt e3 r.1 r.2 (putF d ox) with
    | none => rw [hm] at k3; exact k3.elim
    | some e4 =>
      rw [hm] at k3
      simp only [R.lf_some, R.bd_ok] at k3
      obtain ⟨o1, o1', sub, sub', g1, g2, g3, g4, g5⟩ := modAt_sub hm
      obtain ⟨Lx, rx, sx⟩ := sr4.sx.pop
      cases rx with
      | own rx =>
      obtain ⟨Ls, q1, q4⟩ := SX.modG (f := putF d ox) (sub' := sub') sx hst g1 g2 g3 hσ hat3
      have fin : ∀ {a : Addr} {ob : HO} {σ' : St}, SX X.K F3 P (upd H3 a ob) ts tv σ' (e3.set r.1 (some (.own o1'))) [] → σ' = σ → ResS X.K w pins F3 P H3 ts tv σ e3 D (.ok .nx e4) → D.nx σ (upd H3 a ob) := fun p2 es k3 => by
        subst es
        exact k3.next (PF.refl _ _) (Ps.pq (modAt_ps hm).1) (g5 ▸ p2.sr)
      cases sub with
      | dct kvs =>
        simp only [putF] at g3
        split at g3
        · rename_i k d' hk
          split at g3
          · rename_i hlen
            cases g3
            cases q1 with
            | dct ha l =>
              rename_i a vs M
              cases rx with
              | fz ix =>
                obtain ⟨M', m1, m2⟩ := l.put (k := k) ix
                obtain ⟨o', p1, p2⟩ := q4 a M M' [] (.dK (putK vs k v)) rfl rfl (fun b => by have := m2 b; simp only [List.count_append, List.count_nil] at *; omega) fun dis =>
                  .dct upd_same (m1.mono (Same.refl _) fun b hb => upd_ne (dis b hb))
                rw [g4] at p1
                cases p1
                have ev : iv = kV k := key_u hk ii
                refine ⟨a, _, rfl, .inl ⟨vs, k, ha, ev, l.len ▸ hlen, rfl⟩, fin p2 rfl k3⟩
          · cases g3
        · cases g3
      | dtp kvs =>
        simp only [putF] at g3
        split at g3
        · rename_i ks d' hk
          split at g3
          · rename_i hlen
            cases g3
            cases q1 with
            | dtp ha l =>
              rename_i a vs
              cases rx with
              | fz ix =>
                obtain ⟨o', p1, p2⟩ := q4 a [] [] [] (.dT (putK vs ks v)) rfl rfl (fun b => by simp) fun dis =>
                  .dtp upd_same (IsTm.put ix l)
                rw [g4] at p1
                cases p1
                obtain ⟨b, ev, hb⟩ := keys_u hk ii
                have hl := IsT.len l
                rw [List.length_map] at hl
                refine ⟨a, _, rfl, .inr ⟨vs, ks, b, ha, ev, hb, hl ▸ hlen, rfl⟩, fin p2 rfl k3⟩
          · cases g3
        · cases g3
      | _ => cases g3
end
end TL
namespace TL
open PySem PySem.Spec L2
section
variable {X : Cx} {w : WC} {pins : List Nat}
/-- path.extend(e), e a list made on the spot -/
theorem so_ext {o e : Expr} {apos cpos pos : Pos} {rp : Ev → R (Nat × List Int)} {ra : Ev → R TV} (hp : PE X o (tPa X.K w rp)) (he : PE X e (tE X.K w true ra)) (hn : ∀ x p, e ≠ .Starred x p) (hno : ∀ id p q, o ≠ .Call (.Name id p) [] [] q) (hl : (apos.endLine == cpos.line) = true)
    (hps : ∀ e, RPs e (rp e)) (hps2 : ∀ e, RPs e (ra e)) :
    PS X (.Expr (.Call (.Attribute o "extend" apos) [e] [] cpos) pos) (tS X.K w pins fun e => (rp e).bd fun r e1 => if isLst (subAt e1 r.1 r.2) then (ra e1).bd fun t e2 => match t with
      | .own (.lst xs) => (R.lf (modAt e2 r.1 r.2 (extF xs)) e2).bd fun e3 _ => .ok .nx e3
      | _ => .bad
    else .bad) := by
  have hs1 : starEach [e] X.env = [(false, eval e X.env)] := starEach_cons hn
  have key := pe_bm PySem.F.plainAttrs_list PySem.F.slot_list_extend PySem.F.type_list_extend mt_extend (apos := apos) (cpos := cpos) hp (pa_cons he pa_nil (starEach_cons hn)) (attrBase hno) (by rw [hs1]; rfl) hl (starEach_cons hn) (by rfl)
  refine PS.imp (ps_expr key (by rfl)) fun D σ H h => ?_
  obtain ⟨F, P, ts, tv, env, sr, hst, h⟩ := h
  refine ⟨F, P, ts, tv, env, sr, .inr hst, ?_⟩
  refine tS1 (hps env) h fun r e1 F1 H1 er x1 k1 => ?_
  intro v v0 hσ hat sr1
  by_cases hL : isLst (subAt e1 r.1 r.2) = true
  · rw [if_pos hL] at k1
    have hty : tyV X.K "list" v H1 := by
      cases hsub : subAt e1 r.1 r.2 with
      | none => rw [hsub] at hL; cases hL
      | some sub =>
        rw [hsub] at hL
        cases sub with
        | lst os =>
          obtain ⟨o1, g1, g2⟩ := subAt_eq hsub
          obtain ⟨u0, L, g3, g4⟩ := sr1.sx.slot g1
          rw [hσ] at g3; cases g3
          cases g4 with
          | own ro =>
            obtain ⟨v', Ls, Lr, f1, f2, _⟩ := ro.focus g2
            have e := hat.det f1
            subst e
            cases f2 with
            | lst q l => exact .inl ⟨rfl, _, .inl (.inl q)⟩
        | _ => cases hL
    refine ⟨hty, F1, P, ts, tv, e1, sr1, .inr hst, ?_⟩
    refine tS1q (q := true) (pk := pkE X.K P ts tv σ _) (hps2 e1) k1 fun tt e2 F2 H2 er2 x2 s2 k2 => ?_
    intro u sr2
    cases tt with
    | brw o => exact k2.elim
    | own ox =>
      cases ox with
      | lst zs =>
        dsimp only at k2
        cases hm : modAt e2 r.1 r.2 (extF zs) with
        | none => rw [hm] at k2; exact k2.elim
        | some e3 =>
          rw [hm] at k2
          simp only [R.lf_some, R.bd_ok] at k2
          obtain ⟨o1, o1', sub, sub', g1, g2, g3, g4, g5⟩ := modAt_sub hm
          obtain ⟨Lx, rx, sx⟩ := sr2.sx.pop
          cases rx with
          | own rx =>
          cases rx with
          | lst qb lb =>
          rename_i b us Mb
          cases sub with
          | lst os =>
            simp only [extF] at g3
            split at g3
            · rename_i hlen
              cases g3
              obtain ⟨a, xs, M, q1, q2, q3, q4⟩ := SX.mod (f := extF zs) (os' := os ++ zs) sx hst g1 g2 (by simp only [extF]; rw [if_pos hlen]) hσ (hat.same (s2 rfl))
              have dis : ∀ c, (M ++ Mb).count c + ([] : List Addr).count c ≤ M.count c + ((b :: Mb) ++ []).count c := fun c => by simp only [List.count_append, List.count_cons, List.count_nil]; omega
              obtain ⟨o', p1, p2⟩ := q4 (xs ++ us) (M ++ Mb) [] dis (q3.app lb)
              rw [g4] at p1
              cases p1
              refine ⟨a, b, xs, us, q1, rfl, q2, qb, by rw [← q3.length, ← lb.length]; exact hlen, ?_⟩
              exact k2.next (PF.refl _ _) (Ps.pq (modAt_ps hm).1) (g5 ▸ p2.sr)
            · cases g3
          | _ => cases g3
      | _ => exact k2.elim
  · rw [if_neg hL] at k1; exact k1.elim
end
/-! ### except suites: name = value, one after the other -/
def roH (a : Addr) (c : Nat) (z : HE) (e : Ev) : R O := (rH a c z e).bd fun t e1 => match t with
  | .own o => .ok o e1
  | _ => .bad
theorem roH_oT (a : Addr) (c : Nat) (z : HE) (e : Ev) : oT (roH a c z e) = (rH a c z e).bd ownT := by
  unfold roH
  cases rH a c z e with
  | bad => rfl
  | exc k e1 => rfl
  | ok t e1 => cases t <;> rfl
theorem rVar_ps {i : Nat} {e : Ev} : RPs e (rVar i e) := by
  unfold rVar
  split <;> first | exact RPs.ok | exact True.intro
mutual
theorem rH_ps (a : Addr) (c : Nat) : ∀ (z : HE) (e : Ev), RPs e (rH a c z e)
  | .con d, e => RPs.ite RPs.ok True.intro
  | .var i, e => rVar_ps
  | .isx i n ids, e => rVar_ps.bd fun ta e1 => RPs.ite RPs.ok True.intro
  | .isv i, e => rVar_ps.bd fun ta e1 => RPs.ite RPs.ok True.intro
  | .or x y, e => (rH_ps a c x e).bd fun ta e1 => boolT_ps.bd fun k e1 => RPs.ite RPs.ok (rH_ps a c y e1)
  | .int x, e => (rH_ps a c x e).bd fun ta e1 => by unfold intB; split <;> first | exact RPs.ok | exact True.intro
  | .add x y, e => (rH_ps a c x e).bd fun ta e1 => (rH_ps a c y e1).bd fun tb e2 => RPs.lf
  | .lst es, e => (rHs_ps a c es e).bd fun os e1 => RPs.ok
  | .ix x y, e => (rH_ps a c x e).bd fun ta e1 => (rH_ps a c y e1).bd fun tb e2 => RPs.lf
theorem rHs_ps (a : Addr) (c : Nat) : ∀ (zs : List HE) (e : Ev), RPs e (rHs a c zs e)
  | [], e => RPs.ok
  | z :: zs, e => (rH_ps a c z e).bd fun t e1 => by
    split
    · exact (rHs_ps a c zs e1).bd fun os e2 => RPs.ok
    · exact True.intro
end
theorem roH_ps (a : Addr) (c : Nat) (z : HE) (e : Ev) : RPs e (roH a c z e) := (rH_ps a c z e).bd fun t e1 => by split <;> first | exact RPs.ok | exact True.intro
def rSu (pins : List Nat) (a : Addr) (c : Nat) : Su → Ev → R Fl
  | [], e => .ok .nx e
  | (j, z) :: r, e => match (roH a c z e).bd fun o e1 => (R.lf (asgT pins (.nm j) o e1) e1).bd fun e2 _ => (.ok .nx e2 : R Fl) with
    | .ok .nx e1 => rSu pins a c r e1
    | r => r
section
variable {m : MC} {cf : CF} {w w' : WC} {X : Cx} {a : Addr} {oe : Obj} {pn : List (Addr × Obj)} {c : Nat}
theorem sndSu (x : XC m cf w X) (hc : HC m w X c) (hz : Zc (.ref (w.cad c)) none oe) (hf : ∃ vs, oe.data = .fields vs) (pins : List Nat) : ∀ (su : Su) {ss : List Stmt}, matchSu su m ss = true → PSs (X.suite a ((a, oe) :: pn)) ss (tS X.K w' pins (rSu pins a c su))
  | [], [], _ => so_nil
  | (j, z) :: r, s :: ss, h => by
    simp only [matchSu, Bool.and_eq_true] at h
    obtain ⟨h1, h2⟩ := h
    have ih := sndSu x hc hz hf pins r h2
    split at h1
    · rename_i tg v p hu
      have := unAsg_eq hu
      subst this
      simp only [Bool.and_eq_true, Bool.not_eq_true'] at h1
      obtain ⟨⟨g1, g2⟩, g3⟩ := h1
      split at g1
      · rename_i y hy
        obtain ⟨p2, rfl⟩ := unName_eq hy
        obtain ⟨l1, l2, l3⟩ := x.loc g1
        have hv := sndX (a := a) (oe := oe) (pn := pn) (w' := w') x hc hz hf z g2
        have he : PE (X.suite a ((a, oe) :: pn)) v (tE X.K w' true fun e => oT (roH a c z e)) := PE.imp hv fun σ H Q q => tE_sub (fun e => by
          rw [roH_oT]
          cases rH a c z e with
          | bad => exact .inl rfl
          | exc k e1 => exact .inr rfl
          | ok t e1 => cases t with
            | own o => exact .inr rfl
            | brw o => exact .inl rfl) q
        have hs : swapsWithSole [.Name y p2] v p.line X.env = pure false := by
          have := swaps_no (v := v) (t := some (.Name y p2)) (l := p.line) (env := X.env) g3
          unfold swapsWithSole
          exact this
        have ha := so_asg (X := X.suite a ((a, oe) :: pn)) (w := w') (pins := pins) (t := .nm j) (pos := p) he (so_nm (X := X.suite a ((a, oe) :: pn)) (by show X.N.Nodup; rw [x.N]; exact x.nd) l1 l2 l3) (roH_ps a c z) hs (by
          unfold swappedStores
          rfl) rfl
        exact so_seq ha ih
      · cases g1
    · cases h1
  | [], _ :: _, h => by simp [matchSu] at h
  | _ :: _, [], h => by simp [matchSu] at h
end
/-! ### a suite's values, told without the exception's address: slot i holds it -/
section
variable {a : Addr} {c i : Nat}
theorem lf_bd {α β : Type} (o : Option α) (e : Ev) (f : α → Ev → R β) : (R.lf o e).bd f = match o with
    | some x => f x e
    | none => .bad := by cases o <;> rfl
mutual
theorem rH_v {e : Ev} (he : e[i]? = some (some (.own (.fz (excD a))))) : ∀ (z : HE), okH i z = true → rH a c z e = R.lf (vH c z e) e
  | .con d, _ => by
    simp only [rH, vH]
    split <;> rfl
  | .var j, _ => by
    simp only [rH, vH, rVar]
    cases e[j]? with
    | none => rfl
    | some o => cases o <;> rfl
  | .isx j n ids, h => by
    simp only [okH, decide_eq_true_eq] at h
    subst h
    have : excB a (rd (rdSlot (.own (.fz (excD a))))) = true := by
      show decide (((a : Nat) : Int) = ((a : Nat) : Int)) = true
      simp
    simp only [rH, vH, rVar, he, R.bd_ok, this, if_true]
    rfl
  | .isv j, h => by
    simp only [okH, decide_eq_true_eq] at h
    subst h
    have : excB a (rd (rdSlot (.own (.fz (excD a))))) = true := by
      show decide (((a : Nat) : Int) = ((a : Nat) : Int)) = true
      simp
    simp only [rH, vH, rVar, he, R.bd_ok, this, if_true]
    rfl
  | .or x y, h => by
    simp only [okH, Bool.and_eq_true] at h
    simp only [rH, vH]
    rw [rH_v he x h.1, lf_bd]
    cases vH c x e with
    | none => rfl
    | some t =>
      dsimp only
      rcases boolT_cases t e with ⟨k, hk⟩ | hk
      · rw [hk]
        have ht : t = .own (.fz (.bool k)) := by
          unfold boolT at hk
          split at hk
          · injection hk with h1 h2; rw [h1]
          · cases hk
        subst ht
        cases k
        · simp only [R.bd_ok, Bool.false_eq_true, if_false]
          exact rH_v he y h.2
        · rfl
      · rw [hk]
        unfold boolT at hk
        split at hk
        · cases hk
        · rename_i hn
          split
          · rename_i q; cases q; exact absurd rfl (hn _)
          · rename_i q; cases q; exact absurd rfl (hn _)
          · rfl
  | .int x, h => by
    simp only [okH] at h
    simp only [rH, vH]
    rw [rH_v he x h, lf_bd]
    cases vH c x e with
    | none => rfl
    | some t =>
      dsimp only
      unfold intB
      split
      · rfl
      · rename_i hn
        split
        · rename_i q; cases q; exact absurd rfl (hn _)
        · rfl
  | .add x y, h => by
    simp only [okH, Bool.and_eq_true] at h
    simp only [rH, vH]
    rw [rH_v he x h.1, lf_bd]
    cases vH c x e with
    | none => rfl
    | some t =>
      dsimp only
      rw [rH_v he y h.2, lf_bd]
      cases vH c y e <;> rfl
  | .lst es, h => by
    simp only [okH] at h
    simp only [rH, vH]
    rw [rHs_v he es h, lf_bd]
    cases vHs c es e <;> rfl
  | .ix x y, h => by
    simp only [okH, Bool.and_eq_true] at h
    simp only [rH, vH]
    rw [rH_v he x h.1, lf_bd]
    cases vH c x e with
    | none => rfl
    | some t =>
      dsimp only
      rw [rH_v he y h.2, lf_bd]
      cases vH c y e <;> rfl
theorem rHs_v {e : Ev} (he : e[i]? = some (some (.own (.fz (excD a))))) : ∀ (zs : List HE), okHs i zs = true → rHs a c zs e = R.lf (vHs c zs e) e
  | [], _ => rfl
  | z :: zs, h => by
    simp only [okHs, Bool.and_eq_true] at h
    simp only [rHs, vHs]
    rw [rH_v he z h.1, lf_bd]
    cases vH c z e with
    | none => rfl
    | some t =>
      cases t with
      | brw o => rfl
      | own o =>
        dsimp only
        rw [rHs_v he zs h.2, lf_bd]
        cases vHs c zs e <;> rfl
end
end
/-! ### suites without the address -/
section
variable {a : Addr} {c i : Nat} {pins : List Nat}
theorem asg_keep {j : Nat} {o : O} {e e' : Ev} (hj : j ≠ i) (h : asgT pins (.nm j) o e = some e') : e'[i]? = e[i]? := by
  simp only [asgT] at h
  split at h
  · cases h
  · rw [← Option.some.inj h, List.getElem?_set_ne hj]
theorem rSu_v : ∀ (su : Su) {e : Ev}, e[i]? = some (some (.own (.fz (excD a)))) → okSu i su = true → rSu pins a c su e = match vSu pins c su e with
      | some e' => .ok .nx e'
      | none => .bad
  | [], e, _, _ => rfl
  | (j, z) :: r, e, he, h => by
    simp only [okSu, List.all_cons, Bool.and_eq_true, decide_eq_true_eq] at h
    obtain ⟨⟨h1, h2⟩, h3⟩ := h
    have ih := fun e' he' => rSu_v r (e := e') he' (by simpa only [okSu] using h3)
    simp only [rSu, vSu, roH]
    rw [rH_v he z h2, lf_bd]
    cases vH c z e with
    | none => rfl
    | some t =>
      cases t with
      | brw o => rfl
      | own o =>
        dsimp only
        simp only [R.bd_ok]
        cases ha : asgT pins (.nm j) o e with
        | none => rfl
        | some e1 =>
          simp only [R.lf_some, R.bd_ok]
          exact ih e1 (by rw [asg_keep h1 ha]; exact he)
mutual
theorem vH_set {e : Ev} {s : Option SL} : ∀ (z : HE), okH i z = true → vH c z (e.set i s) = vH c z e
  | .con d, _ => rfl
  | .var j, h => by
    simp only [okH, decide_eq_true_eq] at h
    simp only [vH]
    rw [List.getElem?_set_ne (fun z => h z.symm)]
  | .isx j n ids, _ => rfl
  | .isv j, _ => rfl
  | .or x y, h => by
    simp only [okH, Bool.and_eq_true] at h
    simp only [vH]
    rw [vH_set x h.1, vH_set y h.2]
  | .int x, h => by
    simp only [okH] at h
    simp only [vH]
    rw [vH_set x h]
  | .add x y, h => by
    simp only [okH, Bool.and_eq_true] at h
    simp only [vH]
    rw [vH_set x h.1, vH_set y h.2]
  | .lst es, h => by
    simp only [okH] at h
    simp only [vH]
    rw [vHs_set es h]
  | .ix x y, h => by
    simp only [okH, Bool.and_eq_true] at h
    simp only [vH]
    rw [vH_set x h.1, vH_set y h.2]
theorem vHs_set {e : Ev} {s : Option SL} : ∀ (zs : List HE), okHs i zs = true → vHs c zs (e.set i s) = vHs c zs e
  | [], _ => rfl
  | z :: zs, h => by
    simp only [okHs, Bool.and_eq_true] at h
    simp only [vHs]
    rw [vH_set z h.1, vHs_set zs h.2]
end
theorem asg_set {j : Nat} {o : O} {e : Ev} {s : Option SL} (hj : j ≠ i) : asgT pins (.nm j) o (e.set i s) = (asgT pins (.nm j) o e).map fun e' => e'.set i s := by
  simp only [asgT, List.getElem?_set_ne (fun z => hj z.symm), List.length_set]
  split
  · rfl
  · simp only [Option.map_some, Option.some.injEq]
    exact List.set_comm _ _ (fun z => hj z.symm)
theorem vSu_set : ∀ (su : Su) {e : Ev} {s : Option SL}, okSu i su = true → vSu pins c su (e.set i s) = (vSu pins c su e).map fun e' => e'.set i s
  | [], e, s, _ => rfl
  | (j, z) :: r, e, s, h => by
    simp only [okSu, List.all_cons, Bool.and_eq_true, decide_eq_true_eq] at h
    obtain ⟨⟨h1, h2⟩, h3⟩ := h
    have ih := fun e' => vSu_set r (e := e') (s := s) (by simpa only [okSu] using h3)
    simp only [vSu]
    rw [vH_set z h2]
    cases vH c z e with
    | none => rfl
    | some t =>
      cases t with
      | brw o => rfl
      | own o =>
        dsimp only
        rw [asg_set h1]
        cases asgT pins (.nm j) o e with
        | none => rfl
        | some e1 => exact ih e1
end
/-! ### try: .. except X as e: .. -/
theorem AS.any2 {K : PySem.W.Frag} {F P H : Hp} : ∀ {σ : St} {e : Ev} {L : List Addr} {i : Nat} {y : Option V}, AS K F P H σ e L → e[i]? = some none → AS K F P H (σ.set i y) e L
  | _, _, _, 0, y, .nil, h => by simp at h
  | _, _, _, i + 1, y, .nil, h => by simp at h
  | _, _, _, 0, y, .skip l, h => .skip l
  | _, _, _, i + 1, y, .skip l, h => .skip (l.any2 (by simpa using h))
  | _, _, _, 0, y, .cons r l, h => by simp at h
  | _, _, _, i + 1, y, .cons r l, h => .cons r (l.any2 (by simpa using h))
theorem SR.any2 {K : PySem.W.Frag} {F P H : Hp} {ts : List V} {tv : List TV} {σ : St} {e : Ev} {i : Nat} {y : Option V} (s : SR K F P H ts tv σ e) (h : e[i]? = some none) : SR K F P H ts tv (σ.set i y) e := by
  obtain ⟨L1, L2, a, b, g⟩ := s.ex
  exact ⟨⟨L1, L2, a, b.any2 h, g⟩, s.fh, s.ph⟩
theorem vSu_len {pins : List Nat} {c : Nat} : ∀ (su : Su) {e e' : Ev}, vSu pins c su e = some e' → e'.length = e.length
  | [], e, e', h => by simp only [vSu, Option.some.injEq] at h; rw [h]
  | (j, z) :: r, e, e', h => by
    simp only [vSu] at h
    split at h
    · rename_i o ho
      split at h
      · rename_i e1 h1
        rw [vSu_len r h]
        simp only [asgT] at h1
        split at h1
        · cases h1
        · rw [← Option.some.inj h1, List.length_set]
      · cases h
    · cases h
section
variable {m : MC} {cf : CF} {w : WC} {X : Cx} {pins : List Nat} {i : Nat} {su : Su} {ids : List Nat} {known : Nat → Bool} {x n : Str} {cv : Value} {body suite : List Stmt} {b₀ : Stmt} {np pos pos' : Pos} {rb : Ev → R Fl}
theorem so_tryAs (xc : XC m cf w X) (hs : X.stack = X.env :: X.outer) (hf : X.env.frame = some X.env.locals) (hi : X.N[i]? = some n) (hln : X.env.kindOf n = some .local) (hc : Names X x cv)
    (hk : ∀ c, known c = true → HC m w X c ∧ PySem.W.exmOne X.K (.ref (w.cad c)) cv = some (ids.contains c)) (hip : i ∉ pins) (hok : okSu i su = true) (hsu : matchSu su m (b₀ :: suite) = true)
    (hb : ∀ (W : WX) (pn : List (Addr × Obj)) (xe : Value → Shared → Prop), Takes (X.tr pn xe) W → PassesOwn (model X.prog X.w) X.A X.env xe → PSs (X.tr pn xe) body (tS X.K ⟨W, w.cad⟩ pins rb)) :
    PS X (.Try body [.ExceptHandler (some (.Name x np)) (some n) (b₀ :: suite) pos'] [] [] pos) (tS X.K w pins fun e => tryR known ids i su pins (rb e)) := by
  refine PS.imp (ps_try_as (tb := fun W => tS X.K ⟨W, w.cad⟩ pins rb) (Wout := w.W) (i := i) (ts := fun a cls d D σ H => ∃ c, cls = .ref (w.cad c) ∧ d = none ∧ HC m w X c ∧ tS X.K ⟨fun _ _ _ _ => False, w.cad⟩ pins (rSu pins a c su) D σ H)
    hs hf (by rw [xc.N]; exact xc.nd) hi hln hc xc.tk hb (fun a oe cls d pn hz hfl => ⟨fun pins2 s σ H D I h => ?_⟩)) fun D σ H h => ?_
  · obtain ⟨c, rfl, rfl, hc2, h⟩ := h
    exact (sndSu (w' := ⟨fun _ _ _ _ => False, w.cad⟩) xc hc2 hz hfl pins su hsu).run pins2 s σ H D I h
  · obtain ⟨F, P, ts, tv, env, sr, hst, h⟩ := h
    refine ⟨F, P, ts, tv, env, sr, hst, ?_⟩
    dsimp only at h
    cases hr : rb env with
    | bad => rw [hr] at h; exact h
    | ok fl e => rw [hr] at h; exact h
    | exc c e1 =>
      rw [hr] at h
      simp only [tryR] at h
      by_cases hkc : (known c && decide (i < e1.length)) = true
      · rw [if_pos hkc] at h
        rw [Bool.and_eq_true, decide_eq_true_eq] at hkc
        obtain ⟨hkc, hil⟩ := hkc
        obtain ⟨hc2, hx⟩ := hk c hkc
        intro F' H' σ' ex pf pq sr2
        refine ⟨ids.contains c, hx, fun hyes a ha => ?_, fun hno => ?_⟩
        · rw [if_pos hyes] at h
          refine ⟨c, rfl, rfl, hc2, ?_⟩
          have hn : (e1.set i none)[i]? = some none := by rw [List.getElem?_set_self hil]
          have s3 := SX.put (L1 := []) (sr2.sx.drop i) hn (v := .ref a) (.own (.fz .exc))
          rw [List.set_set] at s3
          have he : (e1.set i (some (.own (.fz (excD a)))))[i]? = some (some (.own (.fz (excD a)))) := by rw [List.getElem?_set_self hil]
          refine ⟨F', P, ts, tv, _, s3.sr, hst, ?_⟩
          rw [rSu_v su he hok, vSu_set su hok]
          cases hv : vSu pins c su e1 with
          | none => rw [hv] at h; exact h.elim
          | some e2 =>
            rw [hv] at h
            dsimp only [Option.map_some] at h ⊢
            intro F'' H'' σ'' ex2 pf2 pq2 sr3
            have hl2 : σ''.length = σ'.length := by have := pq2.1; simpa using this
            have sr4 := (sr3.sx.drop i).sr
            rw [List.set_set] at sr4
            have hl3 := vSu_len su hv
            have hn2 : (e2.set i none)[i]? = some none := by rw [List.getElem?_set_self (by omega)]
            refine h F'' H'' (σ''.set i none) (ex.trans ex2) (fun k hk2 => ?_) ⟨?_, fun j d hj => ?_⟩ (sr4.any2 hn2)
            · have hki : i ≠ k := fun z => hip (z ▸ hk2)
              have q1 := pf2 k hk2
              rw [List.getElem?_set_ne hki] at q1
              rw [List.getElem?_set_ne hki, q1]
              exact pf k hk2
            · rw [List.length_set, hl2]
              exact pq.1
            · by_cases hji : i = j
              · subst hji
                rw [hn2] at hj
                cases hj
              · rw [List.getElem?_set_ne hji] at hj ⊢
                obtain ⟨q1, q2⟩ := pq2.2 j d (by rw [List.getElem?_set_ne hji]; exact hj)
                rw [List.getElem?_set_ne hji] at q1 q2
                obtain ⟨q3, q4⟩ := pq.2 j d q1
                exact ⟨q3, q2.trans q4⟩
        · rw [hno] at h
          simp only [Bool.false_eq_true, if_false] at h
          exact h F' H' σ' ex pf pq sr2
      · rw [if_neg hkc] at h; exact h.elim
end
/-! ### try: .. except X: .. except Y: .. (constants stored) -/
theorem rSu_c {a : Addr} {c : Nat} {pins : List Nat} : ∀ (su : Su) {e : Ev}, conSu su = true → rSu pins a c su e = match vSu pins c su e with
      | some e' => .ok .nx e'
      | none => .bad
  | [], e, _ => rfl
  | (j, z) :: r, e, h => by
    simp only [conSu, List.all_cons, Bool.and_eq_true] at h
    have ih := fun e' => rSu_c (a := a) (c := c) (pins := pins) r (e := e') (by simpa only [conSu] using h.2)
    cases z with
    | con d =>
      simp only [rSu, vSu, roH, rH, vH]
      by_cases hd : flatD d = true
      · rw [if_pos hd, if_pos hd]
        simp only [R.bd_ok]
        cases ha : asgT pins (.nm j) (.fz d) e with
        | none => rfl
        | some e1 =>
          simp only [R.lf_some, R.bd_ok]
          exact ih e1
      · rw [if_neg hd, if_neg hd]
        rfl
    | _ => exact absurd h.1 (by simp [conH])
section
variable {m : MC} {cf : CF} {w : WC} {X : Cx} {pins : List Nat} {known : Nat → Bool} {body : List Stmt} {h₀ : ExceptHandler} {hds : List ExceptHandler} {pos : Pos} {rb : Ev → R Fl}
def tsSu (m : MC) (w : WC) (X : Cx) (pins : List Nat) (su : Su) : Addr → Value → Option Addr → TS := fun a cls d D σ H => ∃ c, cls = .ref (w.cad c) ∧ d = none ∧ HC m w X c ∧ tS X.K ⟨fun _ _ _ _ => False, w.cad⟩ pins (rSu pins a c su) D σ H
theorem tsSu_ok (xc : XC m cf w X) {su : Su} {ss : List Stmt} (h : matchSu su m ss = true) (a : Addr) (oe : Obj) (cls : Value) (d : Option Addr) (pn : List (Addr × Obj)) (hz : Zc cls d oe) (hfl : ∃ vs, oe.data = .fields vs) : PSs (X.suite a ((a, oe) :: pn)) ss (tsSu m w X pins su a cls d) :=
  ⟨fun pins2 s σ H D I q => by
    obtain ⟨c, rfl, rfl, hc2, q⟩ := q
    exact (sndSu (w' := ⟨fun _ _ _ _ => False, w.cad⟩) xc hc2 hz hfl pins su h).run pins2 s σ H D I q⟩
theorem so_tryMany (xc : XC m cf w X) (hs : X.stack = X.env :: X.outer) (hf : X.env.frame = some X.env.locals) (L : List (Value × List Nat × Su))
    (hk : ∀ c, known c = true → HC m w X c ∧ ∀ p ∈ L, PySem.W.exmOne X.K (.ref (w.cad c)) p.1 = some (p.2.1.contains c)) (hcon : ∀ p ∈ L, conSu p.2.2 = true)
    (hh : HdsOk X (h₀ :: hds) (L.map fun p => (p.1, tsSu m w X pins p.2.2)))
    (hb : ∀ (W : WX) (pn : List (Addr × Obj)) (xe : Value → Shared → Prop), Takes (X.tr pn xe) W → PassesOwn (model X.prog X.w) X.A X.env xe → PSs (X.tr pn xe) body (tS X.K ⟨W, w.cad⟩ pins rb)) :
    PS X (.Try body (h₀ :: hds) [] [] pos) (tS X.K w pins fun e => tryM known pins (L.map (·.2)) (rb e)) := by
  refine PS.imp (ps_try_many (tb := fun W => tS X.K ⟨W, w.cad⟩ pins rb) (Wout := w.W) hs hf xc.tk hb hh) fun D σ H h => ?_
  obtain ⟨F, P, ts, tv, env, sr, hst, h⟩ := h
  refine ⟨F, P, ts, tv, env, sr, hst, ?_⟩
  dsimp only at h
  cases hr : rb env with
  | bad => rw [hr] at h; exact h
  | ok fl e => rw [hr] at h; exact h
  | exc c e1 =>
    rw [hr] at h
    simp only [tryM] at h
    by_cases hkc : known c = true
    · rw [if_pos hkc] at h
      obtain ⟨hc2, hx⟩ := hk c hkc
      intro F' H' σ' ex pf pq sr2
      clear hk hh
      revert h
      induction L with
      | nil => exact fun h => h F' H' σ' ex pf pq sr2
      | cons p L ih =>
        intro h
        rw [List.map_cons, List.find?_cons] at h
        refine ⟨p.2.1.contains c, hx p (by simp), fun hyes a ha => ?_, fun hno => ?_⟩
        · rw [hyes] at h
          refine ⟨c, rfl, rfl, hc2, F', P, ts, tv, e1, sr2, hst, ?_⟩
          rw [rSu_c p.2.2 (hcon p (by simp))]
          dsimp only at h
          cases hv : vSu pins c p.2.2 e1 with
          | none => rw [hv] at h; exact h.elim
          | some e2 =>
            rw [hv] at h
            exact ResS.base (H := H) (H1 := H') (w := ⟨fun _ _ _ _ => False, w.cad⟩) (r := .ok .nx e2) h ex pf pq
        · rw [hno] at h
          exact ih (fun q hq => hcon q (by simp [hq])) (fun q hq => hx q (by simp [hq])) h
    · rw [if_neg hkc] at h; exact h.elim
end
theorem XS.tr {m : MC} {cf : CF} {w : WC} {X : Cx} (x : XS m cf w X) (W : WX) (pn : List (Addr × Obj)) (xe : Value → Shared → Prop) (tk : Takes (X.tr pn xe) W) (po : PassesOwn (model X.prog X.w) X.A X.env xe) : XS m cf ⟨W, w.cad⟩ (X.tr pn xe) :=
  { N := x.N, nd := x.nd, sc := x.sc, cm := x.cm, fn := x.fn, un := x.un, fre := x.fre, gls := x.gls, tk := tk, exc := x.exc, hx := fun c y h => let z := x.hx c y h; ⟨z.C, z.ve, z.cl, z.ex⟩, call := x.call, pass := po, st := x.st, fr := x.fr }
theorem kn_ok {m : MC} {kn : List Nat} (h : kn.all (fun c => (m.exs c).isSome) = true) {c : Nat} (hc : kn.contains c = true) : ∃ y, m.exs c = some y := by
  have := List.all_eq_true.mp h c (by simpa using hc)
  exact Option.isSome_iff_exists.mp this
section
variable {m : MC} {cf : CF} {w : WC} {X : Cx} {pins : List Nat}
theorem names_of (xs : XS m cf w X) {n : Nat} {x : Str} (h1 : m.exs n = some x) (h2 : glB m x = true) : Names X x (.ref (w.cad n)) := by
  obtain ⟨g1, g2⟩ := xs.gl h2
  exact ⟨g1, g2, .inl (xs.exc n x h1).1⟩
theorem hds_ok (xs : XS m cf w X) : ∀ {ds : List Hd} {hs : List ExceptHandler}, matchHd m ds hs = true →
    HdsOk X hs ((ds.map fun d => ((.ref (w.cad d.n) : Value), d.ids, d.su)).map fun p => (p.1, tsSu m w X pins p.2.2)) ∧ (∀ d ∈ ds, conSu d.su = true ∧ (∃ x, m.exs d.n = some x) ∧ d.ids = m.sub d.n)
  | [], [], _ => ⟨.nil, fun d hd => by simp at hd⟩
  | d :: ds, h :: hs, q => by
    simp only [matchHd, Bool.and_eq_true] at q
    obtain ⟨q1, q2⟩ := q
    obtain ⟨r1, r2⟩ := hds_ok xs q2
    split at q1
    · rename_i x n su hu
      obtain ⟨p, z, b, r, rfl, rfl⟩ := unHd_eq hu
      simp only [Bool.and_eq_true, decide_eq_true_eq] at q1
      obtain ⟨⟨⟨⟨⟨rfl, g1⟩, g2⟩, g3⟩, g4⟩, g5⟩ := q1
      refine ⟨.cons (names_of xs g1 g2) (fun a oe cls dd pn hz hf => tsSu_ok xs.toXC g5 a oe cls dd pn hz hf) r1, fun d' hd' => ?_⟩
      rcases List.mem_cons.mp hd' with rfl | hd'
      · exact ⟨g4, ⟨x, g1⟩, g3⟩
      · exact r2 d' hd'
    · cases q1
  | [], _ :: _, h => by simp [matchHd] at h
  | _ :: _, [], h => by simp [matchHd] at h
theorem so_tryH (xs : XS m cf w X) {kn : List Nat} {ds : List Hd} {es : List ExceptHandler} {body : List Stmt} {pos : Pos} {rb : Ev → R Fl} (h : matchHs1 m kn ds es = true)
    (hb : ∀ (W : WX) (pn : List (Addr × Obj)) (xe : Value → Shared → Prop), Takes (X.tr pn xe) W → PassesOwn (model X.prog X.w) X.A X.env xe → PSs (X.tr pn xe) body (tS X.K ⟨W, w.cad⟩ pins rb)) :
    PS X (.Try body es [] [] pos) (tS X.K w pins fun e => tryH kn pins ds (rb e)) := by
  unfold matchHs1 at h
  rw [Bool.and_eq_true] at h
  obtain ⟨hk, h⟩ := h
  have many : (!ds.isEmpty && ds.all (fun d => d.sl.isNone) && matchHd m ds es) = true → PS X (.Try body es [] [] pos) (tS X.K w pins fun e => tryH kn pins ds (rb e)) := fun h => by
    simp only [Bool.and_eq_true, Bool.not_eq_true'] at h
    obtain ⟨⟨h1, h2⟩, h3⟩ := h
    obtain ⟨r1, r2⟩ := hds_ok (pins := pins) xs h3
    cases es with
    | nil =>
      cases ds with
      | nil => simp at h1
      | cons d ds => simp [matchHd] at h3
    | cons e0 es =>
      have base := so_tryMany (pos := pos) (known := fun c => kn.contains c) xs.toXC xs.st xs.fr (ds.map fun d => ((.ref (w.cad d.n) : Value), d.ids, d.su)) (fun c hc => by
        obtain ⟨y, hy⟩ := kn_ok hk hc
        refine ⟨xs.hx c y hy, fun p hp => ?_⟩
        obtain ⟨d, hd, rfl⟩ := List.mem_map.mp hp
        obtain ⟨_, ⟨x, hx⟩, h4⟩ := r2 d hd
        dsimp only
        rw [h4]
        exact (xs.hx c y hy).ex d.n x hx) (fun p hp => by
        obtain ⟨d, hd, rfl⟩ := List.mem_map.mp hp
        exact (r2 d hd).1) r1 hb
      refine PS.conv base fun e => ?_
      rw [List.map_map]
      have e2 : (List.map ((fun x : Value × List Nat × Su => x.2) ∘ fun d : Hd => ((.ref (w.cad d.n) : Value), d.ids, d.su)) ds) = ds.map fun h => (h.ids, h.su) := List.map_congr_left fun d _ => rfl
      rw [e2]
      cases ds with
      | nil => simp at h1
      | cons d ds =>
        obtain ⟨n, ids, sl, su⟩ := d
        cases sl with
        | some i => simp at h2
        | none => cases ds <;> rfl
  split at h
  · rename_i n ids i su hd
    unfold matchH1 at h
    split at h
    · rename_i x nm sb hu
      obtain ⟨p, z, b, r, rfl, rfl⟩ := unHd_eq hu
      simp only [Bool.and_eq_true, decide_eq_true_eq] at h
      obtain ⟨⟨⟨⟨⟨⟨g1, g2⟩, rfl⟩, g4⟩, g5⟩, g6⟩, g7⟩ := h
      by_cases hp : pins.contains i = true
      · refine ps_bad fun e => ?_
        simp only [tryH]
        rw [if_pos hp]
      · have base := so_tryAs (pos := pos) (pos' := z) (np := p) (known := fun c => kn.contains c) xs.toXC xs.st xs.fr (by rw [xs.N]; exact g4) (show X.env.scope.names.lookup nm = some .local by rw [xs.sc]; exact g5) (names_of xs g1 g2) (fun c hc => by
          obtain ⟨y, hy⟩ := kn_ok hk hc
          exact ⟨xs.hx c y hy, (xs.hx c y hy).ex n x g1⟩) (by simpa using hp) g6 g7 hb
        refine PS.conv base fun e => ?_
        simp only [tryH]
        rw [if_neg hp]
    · cases h
  · exact many h
end
end TL
namespace TL
open PySem PySem.Spec L2
mutual
theorem sndC (cf : CF) : ∀ (s : S) {m : MC} {st : Stmt} {w : WC} {X : Cx} (pins : List Nat), matchS s m st = true → XS m cf w X → PS X st (tS X.K w pins (execS cf pins s))
  | .asg t ir, m, st, w, X, pins, h, x => by
    simp only [matchS] at h
    split at h
    · rename_i tg v p hu
      have := unAsg_eq hu
      subst this
      simp only [Bool.and_eq_true] at h
      obtain ⟨⟨⟨⟨h1, h2⟩, h3⟩, h4⟩, h5⟩ := h
      exact snd_asg h1 h2 h3 h4 (by rw [Bool.not_eq_true'] at h5; exact h5) x.toXC
    · cases h
  | .aug i op ir, m, st, w, X, pins, h, x => by
    simp only [matchS] at h
    split at h
    · rename_i y o v hu
      obtain ⟨p, q, rfl⟩ := unAug_eq hu
      simp only [Bool.and_eq_true, decide_eq_true_eq] at h
      obtain ⟨⟨rfl, h1⟩, h2⟩ := h
      obtain ⟨g1, g2, g3⟩ := x.loc h1
      by_cases hp : pins.contains i = true
      · refine ps_bad fun e => ?_
        simp only [execS]
        rw [hp]
        rfl
      · rw [Bool.not_eq_true] at hp
        refine PS.conv (so_aug (pos := q) (by rw [x.N]; exact x.nd) g1 g2 g3 (snd cf ir h2 x.toXC).pe (fun e => evalE_ps cf ir e) hp) fun e => ?_
        simp only [execS]
        rw [hp]
        rfl
    · cases h
  | .app p ir, m, st, w, X, pins, h, x => by
    simp only [matchS] at h
    split at h
    · rename_i e hu
      obtain ⟨q, rfl⟩ := unExpr_eq hu
      split at h
      · rename_i a z b hu2
        obtain ⟨p1, p2, rfl, hl, hnc⟩ := unMet_eq hu2
        simp only [Bool.and_eq_true, decide_eq_true_eq] at h
        obtain ⟨⟨⟨rfl, hn⟩, hp⟩, he⟩ := h
        by_cases hq : quiet ir = true
        · have hb := (snd cf ir he x.toXC).st x.toXC he
          rw [hq] at hb
          refine PS.conv (so_app (pins := pins) (pos := q) (snd_P p hp x.toXC) hb (nst_ne hn) hnc hl (lkPs p) fun e => stv_ps (evalE_ps cf ir e)) fun e => ?_
          simp only [execS]
          rw [if_pos hq]
        · refine ps_bad fun e => ?_
          simp only [execS]
          rw [if_neg hq]
      · cases h
    · cases h
  | .setix q i ir, m, st, w, X, pins, h, x => by
    simp only [matchS] at h
    split at h
    · rename_i tg v p hu
      have := unAsg_eq hu
      subst this
      split at h
      · rename_i o b hu2
        obtain ⟨⟨p1, rfl⟩, hb⟩ := unSub_eq hu2
        simp only [Bool.and_eq_true] at h
        obtain ⟨⟨h1, h2⟩, h3⟩ := h
        by_cases hq : quiet i = true
        · have ib := (snd cf i h2 x.toXC).pe
          rw [hq] at ib
          refine PS.conv (so_setix (pins := pins) ((snd cf ir h3 x.toXC).st x.toXC h3) (snd_P q h1 x.toXC) ib (fun v => by cases b <;> first | rfl | exact absurd rfl (hb _ _ _ _)) ?_ ?_ rfl (fun e => stv_ps (evalE_ps cf ir e)) (lkPs q) fun e => evalE_ps cf i e) fun e => ?_
          · have e : swapsWithSole [.Subscript o b p1] v p.line X.env = swapsWith v (some (.Subscript o b p1)) p.line X.env := by simp only [swapsWithSole]
            rw [e]
            unfold swapsWith
            cases v <;> rfl
          · unfold swappedStores
            cases v <;> rfl
          · simp only [execS]
            rw [if_pos hq]
            all_goals rfl
        · refine ps_bad fun e => ?_
          simp only [execS]
          rw [if_neg hq]
      · cases h
    · cases h
  | .dput q i ir, m, st, w, X, pins, h, x => by
    simp only [matchS] at h
    split at h
    · rename_i tg v p hu
      have := unAsg_eq hu
      subst this
      split at h
      · rename_i o b hu2
        obtain ⟨⟨p1, rfl⟩, hb⟩ := unSub_eq hu2
        simp only [Bool.and_eq_true] at h
        obtain ⟨⟨h1, h2⟩, h3⟩ := h
        by_cases hq : quiet i = true
        · have ib := (snd cf i h2 x.toXC).pe
          rw [hq] at ib
          refine PS.conv (so_dput (pins := pins) x.un ((snd cf ir h3 x.toXC).st x.toXC h3) (snd_P q h1 x.toXC) ib ?_ (fun e => stv_ps (evalE_ps cf ir e)) (lkPs q) fun e => evalE_ps cf i e) fun e => ?_
          · unfold swapsWith
            cases v <;> rfl
          · simp only [execS]
            rw [if_pos hq]
            all_goals rfl
        · refine ps_bad fun e => ?_
          simp only [execS]
          rw [if_neg hq]
      · cases h
    · cases h
  | .ext p ir, m, st, w, X, pins, h, x => by
    simp only [matchS] at h
    split at h
    · rename_i e hu
      obtain ⟨q, rfl⟩ := unExpr_eq hu
      split at h
      · rename_i a z b hu2
        obtain ⟨p1, p2, rfl, hl, hnc⟩ := unMet_eq hu2
        simp only [Bool.and_eq_true, decide_eq_true_eq] at h
        obtain ⟨⟨⟨rfl, hn⟩, hp⟩, he⟩ := h
        by_cases hq : quiet ir = true
        · have hb := (snd cf ir he x.toXC).pe
          rw [hq] at hb
          refine PS.conv (so_ext (pins := pins) (pos := q) (snd_P p hp x.toXC) hb (nst_ne hn) hnc hl (lkPs p) fun e => evalE_ps cf ir e) fun e => ?_
          simp only [execS]
          rw [if_pos hq]
          all_goals rfl
        · refine ps_bad fun e => ?_
          simp only [execS]
          rw [if_neg hq]
      · cases h
    · cases h
  | .clr p, m, st, w, X, pins, h, x => by
    simp only [matchS] at h
    split at h
    · rename_i e hu
      obtain ⟨q, rfl⟩ := unExpr_eq hu
      split at h
      · rename_i a z hu2
        obtain ⟨p1, p2, rfl, hl, hnc⟩ := unMet0_eq hu2
        simp only [Bool.and_eq_true, decide_eq_true_eq] at h
        obtain ⟨rfl, hp⟩ := h
        refine PS.conv (so_clr (pins := pins) (pos := q) (snd_P p hp x.toXC) hnc hl (lkPs p)) fun e => ?_
        simp only [execS]
      · cases h
    · cases h
  | .popi p ir, m, st, w, X, pins, h, x => by
    simp only [matchS] at h
    split at h
    · rename_i e hu
      obtain ⟨q, rfl⟩ := unExpr_eq hu
      split at h
      · rename_i a z b hu2
        obtain ⟨p1, p2, rfl, hl, hnc⟩ := unMet_eq hu2
        simp only [Bool.and_eq_true, decide_eq_true_eq] at h
        obtain ⟨⟨⟨rfl, hn⟩, hp⟩, he⟩ := h
        by_cases hq : quiet ir = true
        · have hb := (snd cf ir he x.toXC).pe
          rw [hq] at hb
          refine PS.conv (so_popi (pins := pins) (pos := q) (snd_P p hp x.toXC) hb (nst_ne hn) hnc hl (lkPs p) fun e => evalE_ps cf ir e) fun e => ?_
          simp only [execS]
          rw [if_pos hq]
          all_goals rfl
        · refine ps_bad fun e => ?_
          simp only [execS]
          rw [if_neg hq]
      · cases h
    · cases h
  | .expr ir, m, st, w, X, pins, h, x => by
    simp only [matchS] at h
    split at h
    · rename_i e hu
      obtain ⟨q, rfl⟩ := unExpr_eq hu
      simp only [Bool.and_eq_true, Bool.not_eq_true'] at h
      exact so_expr (snd cf ir h.1 x.toXC).pe (fun e => evalE_ps cf ir e) (swaps_no h.2)
    · cases h
  | .ret ir, m, st, w, X, pins, h, x => by
    simp only [matchS] at h
    split at h
    · rename_i e hu
      obtain ⟨q, rfl⟩ := unRet_eq hu
      have hps : ∀ e, RPs e (retv pins ir (evalE cf ir e) e) := fun e => retv_ps (evalE_ps cf ir e)
      by_cases hv : ∃ i, ir = .var i
      · obtain ⟨i, rfl⟩ := hv
        simp only [matchE] at h
        split at h
        · rename_i y hu2
          obtain ⟨p, rfl⟩ := unName_eq hu2
          obtain ⟨h1, h2, h3, h4⟩ := x.vis h
          exact so_ret (so_retV h1 h2 h3 h4) hps
        · cases h
      · have e : ∀ e, retv pins ir (evalE cf ir e) e = stv ir (evalE cf ir e) e := fun e => by
          cases ir <;> first | rfl | exact absurd ⟨_, rfl⟩ hv
        refine PS.conv (so_ret ((snd cf ir h x.toXC).st x.toXC h) fun e => stv_ps (evalE_ps cf ir e)) fun e' => ?_
        simp only [execS]
        rw [e]
    · cases h
  | .retN, m, st, w, X, pins, h, x => by
    simp only [matchS] at h
    split at h
    · rename_i hu
      obtain ⟨q, rfl⟩ := unRet_eq hu
      exact so_retN
    · cases h
  | .ifs c a b, m, st, w, X, pins, h, x => by
    simp only [matchS] at h
    split at h
    · rename_i z y1 y2 hu
      obtain ⟨q, rfl⟩ := unIfs_eq hu
      simp only [Bool.and_eq_true] at h
      obtain ⟨⟨⟨h0, h1⟩, h2⟩, h3⟩ := h
      exact so_if ((snd cf c h1 x.toXC).pt h0) (sndCs cf a pins h2 x) (sndCs cf b pins h3 x) fun e => (evalE_ps cf c e).bd fun t e1 => boolT_ps
    · cases h
  | .fors t k src body, m, st, w, X, pins, h, x => by
    simp only [matchS] at h
    split at h
    · rename_i tg it b hu
      obtain ⟨q, rfl⟩ := unFor_eq hu
      simp only [Bool.and_eq_true, Bool.not_eq_true'] at h
      obtain ⟨⟨⟨hI, hs⟩, hT⟩, hB⟩ := h
      by_cases hq : quiets src = true
      · have hi : PI X tg it fun σ H R => tLs X.K w src true (fun e => evalTs cf src e) σ H fun vs H1 => WR X.K k vs H1 R := by
          split at hI
          · rename_i args ha
            obtain ⟨hf, hL⟩ := and3 hI
            exact snd_it ha hf hL hq x.toXC
          · cases hI
        refine PS.conv (so_for (pos := q) (pins := pins) (rb := fun pins => execSs cf pins body) x.cm x.pass hi (fun pins => snd_T t pins hT x.toXC) (fun pins => sndCs cf body pins hB x) (folded_id hs) fun e => evalTs_ps cf src e) fun e => ?_
        simp only [execS]
        rw [if_pos hq]
        rfl
      · refine ps_bad fun e => ?_
        simp only [execS]
        rw [if_neg hq]
    · cases h
  | .whiles n c body, m, st, w, X, pins, h, x => by
    simp only [matchS] at h
    split at h
    · rename_i z b hu
      obtain ⟨q, rfl⟩ := unWh_eq hu
      simp only [Bool.and_eq_true] at h
      obtain ⟨⟨h0, h1⟩, h2⟩ := h
      refine PS.conv (so_while (pos := q) (n := n) x.pass ((snd cf c h1 x.toXC).pt h0) (sndCs cf body pins h2 x) fun e => (evalE_ps cf c e).bd fun t e1 => boolT_ps) fun e => ?_
      simp only [execS]
    · cases h
  | .pass, m, st, w, X, pins, h, x => by
    simp only [matchS, decide_eq_true_eq] at h
    rcases unSm_eq h with ⟨_, p, rfl⟩ | ⟨e, _⟩ | ⟨e, _⟩
    · exact so_pass
    · cases e
    · cases e
  | .brk, m, st, w, X, pins, h, x => by
    simp only [matchS, decide_eq_true_eq] at h
    rcases unSm_eq h with ⟨e, _⟩ | ⟨_, p, rfl⟩ | ⟨e, _⟩
    · cases e
    · exact so_brk
    · cases e
  | .cont, m, st, w, X, pins, h, x => by
    simp only [matchS, decide_eq_true_eq] at h
    rcases unSm_eq h with ⟨e, _⟩ | ⟨e, _⟩ | ⟨_, p, rfl⟩
    · cases e
    · cases e
    · exact so_cont
  | .popd _, m, st, w, X, pins, h, x => by simp [matchS] at h
  | .ali .., m, st, w, X, pins, h, x => by simp [matchS] at h
  | .asgPop t p, m, st, w, X, pins, h, x => by
    simp only [matchS] at h
    split at h
    · rename_i tg v q hu
      have := unAsg_eq hu
      subst this
      split at h
      · rename_i a z hu2
        obtain ⟨p1, p2, rfl, hl, hnc⟩ := unMet0_eq hu2
        simp only [Bool.and_eq_true, decide_eq_true_eq] at h
        obtain ⟨⟨⟨rfl, hT⟩, hn⟩, hp⟩ := h
        have hs1 : swapsWith (.Call (.Attribute a "pop" p1) [] [] p2) (some tg) q.line X.env = pure false := swaps_no rfl
        have hs : swapsWithSole [tg] (.Call (.Attribute a "pop" p1) [] [] p2) q.line X.env = pure false := by
          have e : swapsWithSole [tg] (.Call (.Attribute a "pop" p1) [] [] p2) q.line X.env = swapsWith (.Call (.Attribute a "pop" p1) [] [] p2) (some tg) q.line X.env := by simp only [swapsWithSole]
          rw [e]; exact hs1
        refine PS.conv (so_asgPop (pins := pins) (snd_P p hp x.toXC) hnc hl (snd_T t pins hT x.toXC) (lkPs p) hs (swapped_no (by cases tg <;> rfl) (matchT_nl hT)) (asg1 hn)) fun e => ?_
        simp only [execS, popR, bd_bd]
        cases evalPa cf p e with
        | bad => rfl
        | exc c e1 => rfl
        | ok r e1 =>
          simp only [R.bd_ok]
          cases topO e1 r.1 r.2 with
          | none => rfl
          | some o =>
            dsimp only
            cases modAt e1 r.1 r.2 popF <;> rfl
      · cases h
    · cases h
  | .tryx kn hs body, m, st, w, X, pins, h, x => by
    simp only [matchS] at h
    split at h
    · rename_i b es hu
      obtain ⟨q, rfl⟩ := unTry_eq hu
      rw [Bool.and_eq_true] at h
      obtain ⟨h1, h2⟩ := h
      have hb : ∀ (W : WX) (pn : List (Addr × Obj)) (xe : Value → Shared → Prop), Takes (X.tr pn xe) W → PassesOwn (model X.prog X.w) X.A X.env xe → PSs (X.tr pn xe) b (tS X.K ⟨W, w.cad⟩ pins (execSs cf pins body)) := fun W pn xe tk po =>
        sndCs cf body pins h2 (x.tr W pn xe tk po)
      refine PS.conv (so_tryH x h1 hb) fun e => ?_
      simp only [execS]
    · cases h
  | .raise c z, m, st, w, X, pins, h, x => by
    simp only [matchS] at h
    split at h
    · rename_i y hu
      obtain ⟨p, z, j, p2, q, r, rfl⟩ := unRaise_eq hu
      simp only [Bool.and_eq_true, decide_eq_true_eq] at h
      obtain ⟨h1, h2⟩ := h
      obtain ⟨e1, e2, e3, e4, e5⟩ := x.exc c y h1
      obtain ⟨g1, g2⟩ := x.gl h2
      refine PS.conv (so_raise (pins := pins) x.cm x.tk rfl (pmk_own PySem.F.excBase_ValueError e2 e1 e3 (raises_own e4 e5) g1 g2)) fun e => ?_
      simp only [execS]
    · cases h
  | .frz i s, m, st, w, X, pins, h, x => by
    simp only [matchS] at h
    refine PS.conv (so_frz i (sndC cf s pins h x)) fun e => ?_
    simp only [execS]
    all_goals rfl
  | .wip J s, m, st, w, X, pins, h, x => by
    simp only [matchS] at h
    refine PS.conv (so_wip J (sndC cf s pins h x)) fun e => ?_
    simp only [execS]
  | .blk _ _, m, st, w, X, pins, h, x => by simp [matchS] at h
theorem sndCs (cf : CF) : ∀ (s : List S) {m : MC} {st : List Stmt} {w : WC} {X : Cx} (pins : List Nat), matchSs s m st = true → XS m cf w X → PSs X st (tS X.K w pins (execSs cf pins s))
  | [], m, st, w, X, pins, h, x => by
    simp only [matchSs] at h
    cases st with
    | nil => exact so_nil
    | cons _ _ => cases h
  | s :: ss, m, st, w, X, pins, h, x => by
    simp only [matchSs] at h
    rcases Bool.or_eq_true _ _ ▸ h with h | h
    · rw [Bool.and_eq_true] at h
      obtain ⟨h1, h2⟩ := h
      cases ss with
      | cons _ _ => cases h1
      | nil =>
        refine PSs.conv (sndB cf s pins h2 x) fun e => ?_
        simp only [execSs]
        all_goals
          cases execS cf pins s e with
          | ok f e1 => cases f <;> rfl
          | exc c e1 => rfl
          | bad => rfl
    · cases st with
      | nil => cases h
      | cons t ts =>
        simp only [Bool.and_eq_true] at h
        refine PSs.conv (so_seq (sndC cf s pins h.1 x) (sndCs cf ss pins h.2 x)) fun e => ?_
        simp only [execSs]
        all_goals
          cases execS cf pins s e with
          | ok f e1 => cases f <;> rfl
          | exc c e1 => rfl
          | bad => rfl
theorem sndB (cf : CF) : ∀ (s : S) {m : MC} {st : List Stmt} {w : WC} {X : Cx} (pins : List Nat), matchB s m st = true → XS m cf w X → PSs X st (tS X.K w pins (execS cf pins s))
  | .blk J ss, m, st, w, X, pins, h, x => by
    simp only [matchB] at h
    refine PSs.conv (so_blk J (sndCs cf ss pins h x)) fun e => ?_
    simp only [execS]
  | .ali i p ss, m, st, w, X, pins, h, x => by
    simp only [matchB] at h
    split at h
    · rename_i t ts
      obtain ⟨h1, h2⟩ := and3 h
      split at h1
      · rename_i tg v q hu
        have := unAsg_eq hu
        subst this
        split at h1
        · rename_i y hu2
          obtain ⟨py, rfl⟩ := unName_eq hu2
          obtain ⟨h3, h4⟩ := and3 h1
          obtain ⟨l1, l2, l3⟩ := x.toXC.loc h3
          have hnd : X.N.Nodup := by rw [x.N]; exact x.nd
          have hnc : isComp v = false := by
            cases v <;> first | rfl | (cases p <;> simp [matchP, unName, unSub] at h4)
          have hs1 : swapsWith v (some (.Name y py)) q.line X.env = pure false := swaps_no hnc
          have hs : swapsWithSole [.Name y py] v q.line X.env = pure false := by
            have e : swapsWithSole [.Name y py] v q.line X.env = swapsWith v (some (.Name y py)) q.line X.env := by simp only [swapsWithSole]
            rw [e]; exact hs1
          refine PSs.conv (so_ali (pins := pins) (rb := fun pins e => execSs cf pins ss e) hnd l1 l2 l3 (snd_P p h4 x.toXC) (lkPs p) (fun pins => sndCs cf ss pins h2 x) hs (swapped_no rfl (by intro _ _ z; cases z))) fun e => ?_
          simp only [execS, aliX]
          all_goals rfl
        · cases h1
      · cases h1
    · cases h
  | .asg .., m, st, w, X, pins, h, x => by simp [matchB] at h
  | .aug .., m, st, w, X, pins, h, x => by simp [matchB] at h
  | .app .., m, st, w, X, pins, h, x => by simp [matchB] at h
  | .popd .., m, st, w, X, pins, h, x => by simp [matchB] at h
  | .popi .., m, st, w, X, pins, h, x => by simp [matchB] at h
  | .asgPop .., m, st, w, X, pins, h, x => by simp [matchB] at h
  | .setix .., m, st, w, X, pins, h, x => by simp [matchB] at h
  | .ext .., m, st, w, X, pins, h, x => by simp [matchB] at h
  | .clr .., m, st, w, X, pins, h, x => by simp [matchB] at h
  | .dput .., m, st, w, X, pins, h, x => by simp [matchB] at h
  | .expr .., m, st, w, X, pins, h, x => by simp [matchB] at h
  | .ret .., m, st, w, X, pins, h, x => by simp [matchB] at h
  | .retN, m, st, w, X, pins, h, x => by simp [matchB] at h
  | .ifs .., m, st, w, X, pins, h, x => by simp [matchB] at h
  | .fors .., m, st, w, X, pins, h, x => by simp [matchB] at h
  | .whiles .., m, st, w, X, pins, h, x => by simp [matchB] at h
  | .brk, m, st, w, X, pins, h, x => by simp [matchB] at h
  | .cont, m, st, w, X, pins, h, x => by simp [matchB] at h
  | .pass, m, st, w, X, pins, h, x => by simp [matchB] at h
  | .raise .., m, st, w, X, pins, h, x => by simp [matchB] at h
  | .tryx .., m, st, w, X, pins, h, x => by simp [matchB] at h
  | .wip .., m, st, w, X, pins, h, x => by simp [matchB] at h
  | .frz .., m, st, w, X, pins, h, x => by simp [matchB] at h
end
end TL
namespace TL
open PySem PySem.Spec L2
theorem slOf_eq : ∀ {ms : List Md} {as : List AV} {e : Ev}, slOf ms as = some e → e = as.map (fun a => some (slA a)) ∧ as.length = ms.length
  | [], [], e, h => by simp only [slOf, Option.some.injEq] at h; subst h; exact ⟨rfl, rfl⟩
  | .f :: ms, .f d :: as, e, h => by
    simp only [slOf] at h
    obtain ⟨e', h1, h2⟩ := Option.map_eq_some_iff.mp h
    obtain ⟨g1, g2⟩ := slOf_eq h1
    subst h2 g1
    exact ⟨rfl, by simp [g2]⟩
  | .b :: ms, .b d :: as, e, h => by
    simp only [slOf] at h
    obtain ⟨e', h1, h2⟩ := Option.map_eq_some_iff.mp h
    obtain ⟨g1, g2⟩ := slOf_eq h1
    subst h2 g1
    exact ⟨rfl, by simp [g2]⟩
  | .io :: ms, .io o :: as, e, h => by
    simp only [slOf] at h
    obtain ⟨e', h1, h2⟩ := Option.map_eq_some_iff.mp h
    obtain ⟨g1, g2⟩ := slOf_eq h1
    subst h2 g1
    exact ⟨rfl, by simp [g2]⟩
  | [], _ :: _, _, h => by simp [slOf] at h
  | _ :: _, [], _, h => by simp [slOf] at h
  | .f :: _, .b _ :: _, _, h => by simp [slOf] at h
  | .f :: _, .io _ :: _, _, h => by simp [slOf] at h
  | .b :: _, .f _ :: _, _, h => by simp [slOf] at h
  | .b :: _, .io _ :: _, _, h => by simp [slOf] at h
  | .io :: _, .f _ :: _, _, h => by simp [slOf] at h
  | .io :: _, .b _ :: _, _, h => by simp [slOf] at h
theorem pinsOf_mem : ∀ {ms : List Md} {k i : Nat}, ms[i]? = some .io → k + i ∈ pinsOf ms k
  | [], k, i, h => by simp at h
  | .io :: ms, k, 0, h => by simp [pinsOf]
  | .io :: ms, k, i + 1, h => by
    have := pinsOf_mem (ms := ms) (k := k + 1) (i := i) (by simpa using h)
    simp only [pinsOf, List.mem_cons]
    right
    rwa [Nat.add_assoc, Nat.add_comm 1 i] at this
  | .f :: ms, k, 0, h => by simp at h
  | .b :: ms, k, 0, h => by simp at h
  | .f :: ms, k, i + 1, h => by
    have := pinsOf_mem (ms := ms) (k := k + 1) (i := i) (by simpa using h)
    simp only [pinsOf]
    rwa [Nat.add_assoc, Nat.add_comm 1 i] at this
  | .b :: ms, k, i + 1, h => by
    have := pinsOf_mem (ms := ms) (k := k + 1) (i := i) (by simpa using h)
    simp only [pinsOf]
    rwa [Nat.add_assoc, Nat.add_comm 1 i] at this
section
variable {K : PySem.W.Frag} {F P H : Hp}
theorem AS.more : ∀ {σ : St} {e : Ev} {L : List Addr}, AS K F P H σ e L → ∀ n : Nat, AS K F P H (σ ++ List.replicate n none) (e ++ List.replicate n none) L
  | _, _, _, .nil, n => by
    induction n with
    | zero => exact .nil
    | succ n ih => exact .skip ih
  | _, _, _, .skip l, n => .skip (l.more n)
  | _, _, _, .cons r l, n => .cons r (l.more n)
theorem AS.outs : ∀ {ms : List Md} {σ : St} {e : Ev} {L : List Addr} {outs : List (Option O)} {vs : List V}, AS K F P H σ e L → outsOf ms e = some outs → vs.length = ms.length → (∀ (i : Nat) v, ms[i]? = some .io → vs[i]? = some v → σ[i]? = some (some v)) →
    ∃ L', AS K F P H (vs.map some) (outs.map (Option.map SL.own)) L' ∧ ∀ b, L'.count b ≤ L.count b
  | [], σ, e, L, outs, vs, a, h, hl, hp => by
    simp only [outsOf, Option.some.injEq] at h
    subst h
    have := List.length_eq_zero_iff.mp hl
    subst this
    exact ⟨[], .nil, fun b => by simp⟩
  | .io :: ms, σ, e, L, outs, vs, a, h, hl, hp => by
    cases vs with
    | nil => cases hl
    | cons v vs =>
      cases a with
      | nil => simp [outsOf] at h
      | skip l => simp [outsOf] at h
      | cons r l =>
        rename_i v' s vs' es L1 L2
        cases s with
        | par d => simp [outsOf] at h
        | own o =>
          simp only [outsOf] at h
          obtain ⟨os, h1, h2⟩ := Option.map_eq_some_iff.mp h
          subst h2
          have e1 := hp 0 v rfl rfl
          simp at e1
          subst e1
          obtain ⟨L', g1, g2⟩ := l.outs h1 (by simpa using hl) fun i v hi hv => by simpa using hp (i + 1) v (by simpa using hi) (by simpa using hv)
          cases r with
          | own r => exact ⟨L1 ++ L', .cons (.own r) g1, fun b => by have := g2 b; simp only [List.count_append]; omega⟩
  | .f :: ms, σ, e, L, outs, vs, a, h, hl, hp => by
    cases vs with
    | nil => cases hl
    | cons v vs =>
      cases a with
      | nil => simp [outsOf] at h
      | skip l =>
        simp only [outsOf] at h
        obtain ⟨os, h1, h2⟩ := Option.map_eq_some_iff.mp h
        subst h2
        obtain ⟨L', g1, g2⟩ := l.outs h1 (by simpa using hl) fun i v hi hv => by simpa using hp (i + 1) v (by simpa using hi) (by simpa using hv)
        exact ⟨L', .skip g1, g2⟩
      | cons r l =>
        simp only [outsOf] at h
        obtain ⟨os, h1, h2⟩ := Option.map_eq_some_iff.mp h
        subst h2
        obtain ⟨L', g1, g2⟩ := l.outs h1 (by simpa using hl) fun i v hi hv => by simpa using hp (i + 1) v (by simpa using hi) (by simpa using hv)
        exact ⟨L', .skip g1, fun b => by have := g2 b; simp only [List.count_append]; omega⟩
  | .b :: ms, σ, e, L, outs, vs, a, h, hl, hp => by
    cases vs with
    | nil => cases hl
    | cons v vs =>
      cases a with
      | nil => simp [outsOf] at h
      | skip l =>
        simp only [outsOf] at h
        obtain ⟨os, h1, h2⟩ := Option.map_eq_some_iff.mp h
        subst h2
        obtain ⟨L', g1, g2⟩ := l.outs h1 (by simpa using hl) fun i v hi hv => by simpa using hp (i + 1) v (by simpa using hi) (by simpa using hv)
        exact ⟨L', .skip g1, g2⟩
      | cons r l =>
        simp only [outsOf] at h
        obtain ⟨os, h1, h2⟩ := Option.map_eq_some_iff.mp h
        subst h2
        obtain ⟨L', g1, g2⟩ := l.outs h1 (by simpa using hl) fun i v hi hv => by simpa using hp (i + 1) v (by simpa using hi) (by simpa using hv)
        exact ⟨L', .skip g1, fun b => by have := g2 b; simp only [List.count_append]; omega⟩
theorem SR.outs {ms : List Md} {ts : List V} {tv : List TV} {σ : St} {e : Ev} {outs : List (Option O)} {vs : List V} (s : SR K F P H ts tv σ e) (h : outsOf ms e = some outs) (hl : vs.length = ms.length) (hp : ∀ (i : Nat) v, ms[i]? = some .io → vs[i]? = some v → σ[i]? = some (some v)) :
    SR K F P H ts tv (vs.map some) (outs.map (Option.map SL.own)) := by
  obtain ⟨L1, L2, a, b, g⟩ := s.ex
  obtain ⟨L', g1, g2⟩ := b.outs h hl hp
  exact ⟨⟨L1, L', a, g1, g.sub fun c => by have := g2 c; simp only [List.count_append]; omega⟩, s.fh, s.ph⟩
theorem SR.more {ts : List V} {tv : List TV} {σ : St} {e : Ev} (s : SR K F P H ts tv σ e) (n : Nat) : SR K F P H ts tv (σ ++ List.replicate n none) (e ++ List.replicate n none) := by
  obtain ⟨L1, L2, a, b, g⟩ := s.ex
  exact ⟨⟨L1, L2, a, b.more n, g⟩, s.fh, s.ph⟩
end
/-- a body's end, as the promise says -/
theorem ends_conv {K : PySem.W.Frag} {cad : Nat → Addr} {F P H : Hp} {ms : List Md} {vs : List V} {env : Ev} {n : Nat} {Q : VK} {E : XK} {r : R Fl} (hl : vs.length = ms.length)
    (h : match ends ms r with
      | .ok r outs => ∀ F' H' v, Ext P F F' → SR K F' P H' [v] [.own r] (vs.map some) (outs.map (Option.map SL.own)) → Q v H'
      | .exc x outs => ∀ F' H', Ext P F F' → SR K F' P H' [] [] (vs.map some) (outs.map (Option.map SL.own)) → E (.ref (cad x)) none H'
      | .bad => False) :
    ResS K ⟨fun cls d _ H => E cls d H, cad⟩ (pinsOf ms 0) F P H [] [] (vs.map some ++ List.replicate n none) env { nx := fun _ H' => Q .non H', rt := Q } r := by
  have pin : ∀ {σ' : St}, PF (pinsOf ms 0) (vs.map some ++ List.replicate n none) σ' → ∀ (i : Nat) v, ms[i]? = some .io → vs[i]? = some v → σ'[i]? = some (some v) := fun {σ'} pf i v hi hv => by
    have := pf i (by have := pinsOf_mem (k := 0) hi; rwa [Nat.zero_add] at this)
    rw [this, List.getElem?_append_left (by simpa using (List.getElem?_eq_some_iff.mp hv).1), List.getElem?_map, hv]
    rfl
  cases r with
  | bad => exact h
  | exc c e =>
    intro F' H' σ' x pf pq s
    unfold ends at h
    dsimp only at h
    cases ho : outsOf ms e with
    | none => rw [ho] at h; exact h.elim
    | some outs =>
      rw [ho] at h
      exact h F' H' x (s.outs ho hl (pin pf))
  | ok fl e =>
    intro F' H' σ' x pf pq
    unfold ends at h
    cases fl with
    | ret o =>
      intro v s
      dsimp only at h
      cases ho : outsOf ms e with
      | none => rw [ho] at h; exact h.elim
      | some outs =>
        rw [ho] at h
        exact h F' H' v x (s.outs ho hl (pin pf))
    | nx =>
      intro s
      dsimp only at h
      cases ho : outsOf ms e with
      | none => rw [ho] at h; exact h.elim
      | some outs =>
        rw [ho] at h
        exact h F' H' .non x (SR.outs ((s.sx.pushF .non).sr) ho hl (pin pf))
    | brk => exact h.elim
    | cont => exact h.elim
/-! ### the whole table -/
/-- what is told of a def -/
structure DI (K : PySem.W.Frag) (mg : Str → Option Value) (tb : Nat → Option Fn) (fre : List Str) (gls : List (Str × D)) (exs : Nat → Option Str) (dfl : Nat → Option D) (sub : Nat → List Nat) (fn : Fn) (f : Addr) (fd : FuncData) : Prop where
  ex : ∃ (params : Arguments) (body : List Stmt) (scope : Scope) (dvs : List V) (kws : List (Str × V)), FunD K fn.name fn.qual params body scope dvs kws f fd ∧ FnScope fn.N (fn.N.take fn.ms.length) scope ∧
    matchSs fn.body ⟨fn.N, scope, true, fun id => (tb id).map (·.name), fre, gls, exs, dfl, sub⟩ body = true
  ml : fn.ms.length ≤ fn.N.length
  mgf : mg fn.name = some (.ref f)
  bd : Binds K fd (fn.N.take fn.ms.length) []
  bdD : ∀ d, fn.dfl = some d → ∃ v u, Vals [v] [u] ∧ (∀ F, Is K F d v) ∧ Binds K fd (fn.N.take fn.ms.length) [u]
theorem table_ok {P : Program} {w : World} {K : PySem.W.Frag} {mg : Str → Option Value} {base : Heap} {cad : Nat → Addr} {tb : Nat → Option Fn} {fre : List Str} {gls : List (Str × D)} {exs : Nat → Option Str} {dfl : Nat → Option D} {sub : Nat → List Nat}
    (hexc : ∀ c x, exs c = some x → mg x = some (.ref (cad c)) ∧ PySem.W.excIn K (cad c) He.veBase "ValueError.__new__" = true ∧ PySem.W.keepIn K (.ref (cad c)) = true ∧ PySem.W.subIn K (.ref (cad c)) (.type "BaseException") = some true ∧ PySem.W.typeIn K (.ref (cad c)) = some (.type "type")) (hcl : ∀ c y, exs c = some y → ExcC K (cad c) ∧ PySem.W.kitOne K (.ref (cad c)) (.type "ValueError") = some true ∧ ∀ n z, exs n = some z → PySem.W.kitOne K (.ref (cad c)) (.ref (cad n)) = some ((sub n).contains c) ∧ PySem.W.exmOne K (.ref (cad c)) (.ref (cad n)) = some ((sub n).contains c)) (hdfl : ∀ id fn, tb id = some fn → dfl id = fn.dfl) (hfre : ∀ x ∈ fre, mg x = none) (hgls : ∀ p ∈ gls, ∃ v u, mg p.1 = some u ∧ RelV v u ∧ ∀ F, Is K F p.2 v) (hdef : ∀ id fn, tb id = some fn → ∃ f fd, DI K mg tb fre gls exs dfl sub fn f fd) :
    ∀ n id fn f fd, tb id = some fn → DI K mg tb fre gls exs dfl sub fn f fd → FnOk P w K mg base (L2.CX P w) n f fd (fn.N.take fn.ms.length) (spK K cad (callK tb n) id) := by
  intro n
  induction n with
  | zero =>
    intro id fn f fd _ _
    refine ⟨fun vs H Q E h => ?_, fun A outer s H args us vs Q E hr he hb hv h => ?_⟩
    · obtain ⟨F, P, as, _, _, z⟩ := h
      exact z.elim
    · obtain ⟨F, P, as, _, _, z⟩ := h
      exact z.elim
  | succ n ih =>
    intro id fn f fd hid di
    obtain ⟨params, body, scope, dvs, kws, F, S, hm⟩ := di.ex
    have hps : (fn.N.take fn.ms.length).length = fn.ms.length := by rw [List.length_take]; have := di.ml; omega
    refine F.ok S (fun vs H Q E h => ?_) fun cdv A outer s H vs Q E hr h => ?_
    · obtain ⟨F0, P0, as, hl, _, z⟩ := h
      simp only [callK, hid] at z
      cases hs : slOf fn.ms as with
      | none => rw [hs] at z; exact z.elim
      | some e => rw [hps, hl, (slOf_eq hs).2]
    · obtain ⟨F0, P0, as, hl, sr, z⟩ := h
      simp only [callK, hid] at z
      cases hs : slOf fn.ms as with
      | none => rw [hs] at z; exact z.elim
      | some e =>
        rw [hs] at z
        obtain ⟨g1, g2⟩ := slOf_eq hs
        let X := cxOf (L2.CX P w) P w K mg base fn.N fn.qual scope f cdv A outer s H E
        have xs : XS ⟨fn.N, scope, true, fun id => (tb id).map (·.name), fre, gls, exs, dfl, sub⟩ (callK tb n) ⟨fun cls d _ H => E cls d H, cad⟩ X := by
          refine { N := rfl, nd := S.nd, sc := rfl, cm := rfl, fn := fun _ _ => rfl, un := ?_, fre := hfre, gls := hgls, exc := hexc, hx := fun c y hy => ⟨(hcl c y hy).1, (hcl c y hy).2.1, fun n z hz => ⟨(hexc n z hz).1, ((hcl c y hy).2.2 n z hz).1⟩, fun n z hz => ((hcl c y hy).2.2 n z hz).2⟩, tk := takes_of rfl rfl rfl rfl, st := rfl, fr := rfl, call := fun id' x hx => ?_, pass := passes_of rfl }
          · have := hr.un
            show (A.deeper _).units + 64 < _
            omega
          · obtain ⟨fn', h1, h2⟩ := Option.map_eq_some_iff.mp hx
            subst h2
            obtain ⟨f', fd', di'⟩ := hdef id' fn' h1
            have kp : PySem.W.keepIn K (.ref f') = true := by
              obtain ⟨_, _, _, _, _, F', _⟩ := di'.ex
              exact F'.kp
            exact ⟨n, f', fd', _, ih id' fn' f' fd' h1 di', hr, di'.mgf, kp, di'.bd, fun d hd => di'.bdD d ((hdfl id' fn' h1).symm.trans hd)⟩
        refine ⟨_, sndCs (callK tb n) fn.body (pinsOf fn.ms 0) hm xs, ?_⟩
        have hen : e.length = vs.length := by rw [g1, List.length_map, hl]
        refine ⟨F0, P0, [], [], e ++ List.replicate (fn.N.length - e.length) none, ?_, fun t ht => by simp at ht, ?_⟩
        · show SR K F0 P0 H [] [] (vs.map some ++ List.replicate (fn.N.length - vs.length) none) _
          rw [hen, g1]
          exact sr.more _
        · exact ends_conv (by rw [hl, g2]) z
end TL
namespace TL
open PySem PySem.Spec L2
/-! ### a global's data, read in K -/
def firstInt : List D → Bool
  | .int _ :: _ => true
  | _ => false
mutual
def dataB (K : PySem.W.Frag) : D → Value → Bool
  | .none, u => match u with
    | .none => true
    | _ => false
  | .bool a, u => match u with
    | .bool b => decide (a = b)
    | _ => false
  | .int i, u => match u with
    | .int j _ => decide (i = j)
    | _ => false
  | .str x, u => match u with
    | .str y _ => decide (x = y)
    | _ => false
  | .list ds, u => match u with
    | .ref a => (match K.lookup a with
      | some ⟨.type c, none, .seq its _, _⟩ => decide (c = "list") && (decide (its.size ≤ sizeLine) && dataBs K ds its.toList)
      | _ => false)
    | _ => false
  | .tuple ds, u => match u with
    | .ref a => (match K.lookup a with
      | some ⟨.type c, _, .seq its _, _⟩ => decide (c = "tuple") && (decide (its.size ≤ sizeLine) && (!firstInt ds && dataBs K ds its.toList))
      | _ => false)
    | _ => false
  | _, _ => false
def dataBs (K : PySem.W.Frag) : List D → List Value → Bool
  | [], us => us.isEmpty
  | d :: ds, us => match us with
    | [] => false
    | v :: vs => dataB K d v && dataBs K ds vs
end
mutual
theorem dataB_ok {K : PySem.W.Frag} : ∀ {d : D} {u : Value}, dataB K d u = true → ∃ v, RelV v u ∧ ∀ F, Is K F d v
  | .none, u, h => by
    simp only [dataB] at h
    split at h
    · exact ⟨.non, rfl, fun F => .non⟩
    · cases h
  | .bool a, u, h => by
    simp only [dataB] at h
    split at h
    · have := of_decide_eq_true h
      subst this
      exact ⟨.bl _, rfl, fun F => .bl _⟩
    · cases h
  | .int a, u, h => by
    simp only [dataB] at h
    split at h
    · have := of_decide_eq_true h
      subst this
      exact ⟨.int _, ⟨_, rfl⟩, fun F => .int _⟩
    · cases h
  | .str a, u, h => by
    simp only [dataB] at h
    split at h
    · have := of_decide_eq_true h
      subst this
      exact ⟨.str _, ⟨_, rfl⟩, fun F => .str _⟩
    · cases h
  | .list ds, u, h => by
    simp only [dataB] at h
    split at h
    · rename_i a
      split at h
      · rename_i c its n sl q
        simp only [Bool.and_eq_true, decide_eq_true_eq] at h
        obtain ⟨rfl, h2, h3⟩ := h
        obtain ⟨vs, g1, g2⟩ := dataBs_ok h3
        exact ⟨.ref a, rfl, fun F => .lst (.inr ⟨_, its, n, q, rfl, rfl, rfl, h2, g1⟩) (g2 F)⟩
      · cases h
    · cases h
  | .tuple ds, u, h => by
    simp only [dataB] at h
    split at h
    · rename_i a
      split at h
      · rename_i c od its n sl q
        simp only [Bool.and_eq_true, decide_eq_true_eq, Bool.not_eq_true'] at h
        obtain ⟨rfl, h2, h4, h3⟩ := h
        obtain ⟨vs, g1, g2⟩ := dataBs_ok h3
        refine ⟨.ref a, rfl, fun F => .tup (.inr ⟨_, its, n, q, rfl, rfl, h2, g1⟩) (fun i r z => ?_) (g2 F)⟩
        subst z
        have l := g2 F
        cases ds with
        | nil => cases l
        | cons d ds =>
          cases l with
          | cons i l =>
            cases i
            cases h4
      · cases h
    · cases h
  | .dict _, _, h => by simp [dataB] at h
theorem dataBs_ok {K : PySem.W.Frag} : ∀ {ds : List D} {us : List Value}, dataBs K ds us = true → ∃ vs, Vals vs us ∧ ∀ F, IsL K F ds vs
  | [], us, h => by
    simp only [dataBs, List.isEmpty_iff] at h
    subst h
    exact ⟨[], .nil, fun F => .nil⟩
  | d :: ds, us, h => by
    simp only [dataBs] at h
    split at h
    · cases h
    · rename_i u us
      simp only [Bool.and_eq_true] at h
      obtain ⟨v, h1, h2⟩ := dataB_ok h.1
      obtain ⟨vs, g1, g2⟩ := dataBs_ok h.2
      exact ⟨v :: vs, .cons h1 g1, fun F => .cons (h2 F) (g2 F)⟩
end
/-! ### a law's data -/
structure LD where
  prog : Program
  fns : List (Nat × Fn)
  fre : List Str
  gls : List (Str × D)
  exl : List (Str × List Nat) := []
def LD.st (L : LD) (i : Nat) : Stmt := L.prog.main.body.getD i (.Pass ⟨0, 0, 0, 0⟩)
def LD.tb (L : LD) (id : Nat) : Option Fn := (L.fns[id]?).map (·.2)
def Fn.ps (fn : Fn) : List Str := fn.N.take fn.ms.length
def dvOf : D → He.Dv
  | .bool b => .bl b
  | .int i => .int i
  | .str x => .str x
  | _ => .non
def dvFlat : D → Bool
  | .none => true
  | .bool b => true
  | .int i => true
  | .str x => true
  | _ => false
theorem dvOf_is {K : PySem.W.Frag} {d : D} (h : dvFlat d = true) (F : Hp) : Is K F d ((dvOf d).v K) := by
  cases d <;> first | exact .non | exact .bl _ | exact .int _ | exact .str _ | cases h
def Fn.dvs (fn : Fn) : List He.Dv := match fn.dfl with
  | some d => [dvOf d]
  | none => []
def Fn.dflOk (fn : Fn) : Bool := match fn.dfl with
  | some d => dvFlat d && decide (0 < fn.ps.length)
  | none => true
def LD.def1 (L : LD) (p : Nat × Fn) : He.DefD := ⟨(p.2.name, none), p.2.name, p.2.qual, defArgs (L.st p.1), defBody (L.st p.1), defScope (L.st p.1), p.2.dvs, []⟩
def LD.defs (L : LD) : List He.DefD := L.fns.map L.def1
def LD.facts (L : LD) : List He.Fa := L.fns.map (fun p => .glo p.2.name) ++ (L.fre.map .free ++ (L.exl.map (fun p => .glo p.1) ++ L.exl.map fun p => .exc p.1))
def LD.dfl (L : LD) (id : Nat) : Option D := (L.tb id).bind Fn.dfl
def LD.exs (L : LD) (c : Nat) : Option Str := (L.exl[c]?).map (·.1)
def LD.cad (L : LD) (K : PySem.W.Frag) (c : Nat) : Addr := He.ga K ((L.exl[c]?).map (·.1) |>.getD "")
def LD.sub (L : LD) (n : Nat) : List Nat := ((L.exl[n]?).map (·.2)).getD []
def LD.mc (L : LD) (fn : Fn) (sc : Scope) : MC := ⟨fn.N, sc, true, fun id => (L.tb id).map (·.name), L.fre, L.gls, L.exs, L.dfl, L.sub⟩
def LD.fnB (L : LD) (p : Nat × Fn) : Bool := C8.scC p.2.N p.2.ps (defScope (L.st p.1)) && matchSs p.2.body (L.mc p.2 (defScope (L.st p.1))) (defBody (L.st p.1)) && decide (p.2.ms.length ≤ p.2.N.length) && p.2.dflOk
/-- what a class of exceptions must say -/
def excCB (K : PySem.W.Frag) (D : Addr) : Bool :=
  decide (PySem.W.findIn K (.ref D) "__getattribute__" = some (some (.builtin "BaseException.__getattribute__"))) && decide (PySem.W.findIn K (.ref D) "__getattr__" = some none) && decide (PySem.W.subIn K (.ref D) (.type "BaseException") = some true) && PySem.W.hasDictIn K D &&
  decide (PySem.W.findIn K (.ref D) "__class__" = some (some (.builtin "object.__class__"))) && decide (PySem.W.specialIn K (.builtin "object.__class__") "__get__" = some (some (.builtin "getset_descriptor.__get__"))) && decide (PySem.W.takesIn K (.builtin "object.__class__") = some true) && decide (PySem.W.mroIn K D (.type "object") = some true) &&
  decide (PySem.W.kitOne K (.ref D) (.type "ValueError") = some true)
def LD.exP (L : LD) (K : PySem.W.Frag) : Bool := (List.range L.exl.length).all fun c => excCB K (L.cad K c) && (List.range L.exl.length).all fun n => decide (PySem.W.kitOne K (.ref (L.cad K c)) (.ref (L.cad K n)) = some ((L.sub n).contains c)) && decide (PySem.W.exmOne K (.ref (L.cad K c)) (.ref (L.cad K n)) = some ((L.sub n).contains c))
/-- the globals' data, in the head's part of the heap -/
def LD.exG (L : LD) (K : PySem.W.Frag) : Bool := L.gls.all fun p => match PySem.W.nsIn K mainGlobals p.1 with
  | some (some v) => dataB K p.2 v
  | _ => false
def LD.ex (L : LD) (K : PySem.W.Frag) : Bool := L.exG K && L.exP K
theorem LD.clOk {L : LD} {K : PySem.W.Frag} (hx : L.ex K = true) : ∀ c y, L.exs c = some y → ExcC K (L.cad K c) ∧ PySem.W.kitOne K (.ref (L.cad K c)) (.type "ValueError") = some true ∧ ∀ n z, L.exs n = some z → PySem.W.kitOne K (.ref (L.cad K c)) (.ref (L.cad K n)) = some ((L.sub n).contains c) ∧ PySem.W.exmOne K (.ref (L.cad K c)) (.ref (L.cad K n)) = some ((L.sub n).contains c) := fun c y hc => by
  unfold LD.ex at hx
  rw [Bool.and_eq_true] at hx
  have lt : ∀ {c : Nat} {y : Str}, L.exs c = some y → c < L.exl.length := fun {c y} h => by
    unfold LD.exs at h
    obtain ⟨p, h1, _⟩ := Option.map_eq_some_iff.mp h
    exact (List.getElem?_eq_some_iff.mp h1).1
  have h1 := List.all_eq_true.mp hx.2 c (List.mem_range.mpr (lt hc))
  rw [Bool.and_eq_true] at h1
  obtain ⟨h1, h2⟩ := h1
  unfold excCB at h1
  simp only [Bool.and_eq_true, decide_eq_true_eq] at h1
  obtain ⟨⟨⟨⟨⟨⟨⟨⟨a1, a2⟩, a3⟩, a4⟩, a5⟩, a6⟩, a7⟩, a8⟩, a9⟩ := h1
  refine ⟨⟨a1, a2, a3, a4, a5, a6, a7, a8⟩, a9, fun n z hn => ?_⟩
  have h3 := List.all_eq_true.mp h2 n (List.mem_range.mpr (lt hn))
  simp only [Bool.and_eq_true, decide_eq_true_eq] at h3
  exact h3
/-- the parameters are bound as they are written -/
def LD.Bd (L : LD) (p : Nat × Fn) : Prop := match p.2.dfl with
  | none => ∀ (kV doc pm : Value) (an : Option Addr) (cdv ct : Value) (us : List Value), us.length = p.2.ps.length →
    bindArgs (PySem.W.fnOf p.2.name p.2.qual (defArgs (L.st p.1)) (defBody (L.st p.1)) (defScope (L.st p.1)) .none kV doc pm an cdv ct) ⟨us, []⟩ = pure (p.2.ps.zip us)
  | some _ => ∀ (T : Addr) (kV doc pm : Value) (an : Option Addr) (cdv ct : Value) (us : List Value) (it : Value),
    (us.length = p.2.ps.length → ∃ k, bindArgs (PySem.W.fnOf p.2.name p.2.qual (defArgs (L.st p.1)) (defBody (L.st p.1)) (defScope (L.st p.1)) (.ref T) kV doc pm an cdv ct) ⟨us, []⟩ = seqItems? (.ref T) >>= k ∧ k (some [it].toArray) = pure (p.2.ps.zip us)) ∧
    (us.length + 1 = p.2.ps.length → ∃ k, bindArgs (PySem.W.fnOf p.2.name p.2.qual (defArgs (L.st p.1)) (defBody (L.st p.1)) (defScope (L.st p.1)) (.ref T) kV doc pm an cdv ct) ⟨us, []⟩ = seqItems? (.ref T) >>= k ∧ k (some [it].toArray) = pure (p.2.ps.zip (us ++ [it])))
/-- what the head tells: the defs, the globals' data -/
def obsG (n : Nat) (fa : List He.Fa) (fn : List He.DefD) (ex : PySem.W.Frag → Bool) (g : Addr → Option Obj) : He.AlD × Bool := (fun K => (He.obsD fa fn K, ex K)) (He.frG g (He.asD g n))
def hookG (n : Nat) (fa : List He.Fa) (fn : List He.DefD) (ex : PySem.W.Frag → Bool) : PySem.W.Hook where
  α := He.AlD × Bool
  obs := fun s => obsG n fa fn ex s.heap.get?
  val := fun _ => (He.valD fn, true)
  says := fun _ h => ∃ K : PySem.W.Frag, K.In h ∧ He.SaysD fa fn K ∧ ex K = true
  of := fun _ _ e => ⟨_, He.frG_in, congrArg (fun z : He.AlD × Bool => z.1) e, congrArg (fun z : He.AlD × Bool => z.2) e⟩
  keeps := fun _ _ _ ⟨K, hK, c⟩ k => ⟨K, PySem.W.Frag.In.keeps hK k, c⟩
theorem obsG_eq {n : Nat} {fa : List He.Fa} {fn : List He.DefD} {ex : PySem.W.Frag → Bool} {g : Addr → Option Obj} {s : Shared} (h : ∀ a, g a = s.heap.get? a) : obsG n fa fn ex g = (hookG n fa fn ex).obs s := by
  have e : g = s.heap.get? := funext h
  rw [e] <;> rfl
theorem LD.glsOk {L : LD} {K : PySem.W.Frag} {h : Heap} {mg : Str → Option Value} (KX : K.In h) (G : h.Ns mainGlobals mg) (hx : L.ex K = true) : ∀ p ∈ L.gls, ∃ v u, mg p.1 = some u ∧ RelV v u ∧ ∀ F, Is K F p.2 v := fun p hp => by
  unfold LD.ex at hx
  rw [Bool.and_eq_true] at hx
  have h1 := List.all_eq_true.mp hx.1 p hp
  split at h1
  · rename_i u hu
    obtain ⟨v, g1, g2⟩ := dataB_ok h1
    exact ⟨v, u, PySem.W.mg_of KX G hu, g1, g2⟩
  · cases h1
theorem LD.exOk {L : LD} {K : PySem.W.Frag} {h : Heap} {mg : Str → Option Value} (KX : K.In h) (G : h.Ns mainGlobals mg) (c : He.SaysD L.facts L.defs K) (n : Nat) (x : Str) (hx : L.exs n = some x) :
    mg x = some (.ref (L.cad K n)) ∧ PySem.W.excIn K (L.cad K n) He.veBase "ValueError.__new__" = true ∧ PySem.W.keepIn K (.ref (L.cad K n)) = true ∧ PySem.W.subIn K (.ref (L.cad K n)) (.type "BaseException") = some true ∧ PySem.W.typeIn K (.ref (L.cad K n)) = some (.type "type") := by
  unfold LD.exs at hx
  have e : L.cad K n = He.ga K x := by unfold LD.cad; rw [hx]; rfl
  obtain ⟨p, h1, rfl⟩ := Option.map_eq_some_iff.mp hx
  have hp := List.mem_of_getElem? h1
  rw [e]
  have g := He.glo_ok KX G (c.facts (f := .glo p.1) (List.mem_append_right _ (List.mem_append_right _ (List.mem_append_left _ (List.mem_map_of_mem (f := fun p : Str × List Nat => He.Fa.glo p.1) hp)))))
  have q := He.exc_ok (c.facts (f := .exc p.1) (List.mem_append_right _ (List.mem_append_right _ (List.mem_append_right _ (List.mem_map_of_mem (f := fun p : Str × List Nat => He.Fa.exc p.1) hp)))))
  exact ⟨g, q.1, q.2.1, q.2.2.1, q.2.2.2⟩
theorem LD.di {L : LD} (hc : L.fns.all L.fnB = true) (hb : ∀ p ∈ L.fns, L.Bd p) {K : PySem.W.Frag} {h : Heap} {mg : Str → Option Value} (KX : K.In h) (G : h.Ns mainGlobals mg) (c : He.SaysD L.facts L.defs K) {p : Nat × Fn} (hp : p ∈ L.fns) :
    ∃ fd, DI K mg L.tb L.fre L.gls L.exs L.dfl L.sub p.2 (He.ga K p.2.name) fd := by
  obtain ⟨fd, F⟩ := c.defs (List.mem_map_of_mem (f := L.def1) hp)
  have h1 := List.all_eq_true.mp hc p hp
  simp only [LD.fnB, Bool.and_eq_true, decide_eq_true_eq] at h1
  obtain ⟨⟨⟨g1, g2⟩, g3⟩, g4⟩ := h1
  have hB := hb p hp
  have F : FunD K p.2.name p.2.qual (defArgs (L.st p.1)) (defBody (L.st p.1)) (defScope (L.st p.1)) (p.2.dvs.map (He.Dv.v K)) [] (He.ga K p.2.name) fd := F
  have bds : Binds K fd p.2.ps [] ∧ ∀ d, p.2.dfl = some d → ∃ v u, Vals [v] [u] ∧ (∀ F, Is K F d v) ∧ Binds K fd p.2.ps [u] := by
    unfold LD.Bd at hB
    unfold Fn.dvs at F
    unfold Fn.dflOk at g4
    cases hd : p.2.dfl with
    | none =>
      rw [hd] at hB F
      exact ⟨FunD.bindsN (ps := p.2.ps) F hB, fun d hd => by cases hd⟩
    | some d =>
      rw [hd] at hB F g4
      simp only [Bool.and_eq_true, decide_eq_true_eq] at g4
      have F : FunD K p.2.name p.2.qual (defArgs (L.st p.1)) (defBody (L.st p.1)) (defScope (L.st p.1)) [(dvOf d).v K] [] (He.ga K p.2.name) fd := F
      constructor
      · obtain ⟨ds, r, b⟩ := FunD.binds1 (ps := p.2.ps) F p.2.ps.length 1 (by simp) (by simp) fun T kV doc pm an cdv ct us its hu hi => by
          obtain ⟨it, rfl⟩ := List.length_eq_one_iff.mp hi
          obtain ⟨k, e1, e2⟩ := (hB T kV doc pm an cdv ct us it).1 hu
          exact ⟨k, e1, by rw [e2]; simp⟩
        cases r
        exact b
      · intro d' e
        cases e
        obtain ⟨ds, r, b⟩ := FunD.binds1 (ps := p.2.ps) F (p.2.ps.length - 1) 0 (by simp) (by have := g4.2; simp; omega) fun T kV doc pm an cdv ct us its hu hi => by
          obtain ⟨it, rfl⟩ := List.length_eq_one_iff.mp hi
          obtain ⟨k, e1, e2⟩ := (hB T kV doc pm an cdv ct us it).2 (by have := g4.2; omega)
          exact ⟨k, e1, by rw [e2]; rfl⟩
        cases r with
        | cons r1 r2 =>
          cases r2
          exact ⟨_, _, .cons r1 .nil, fun F => dvOf_is g4.1 F, b⟩
  refine ⟨fd, ⟨_, _, _, _, _, F, C8.fnScope_by g1, g2⟩, g3, ?_, bds.1, bds.2⟩
  exact He.glo_ok KX G (c.facts (f := .glo p.2.name) (List.mem_append_left _ (List.mem_map_of_mem (f := fun p : Nat × Fn => He.Fa.glo p.2.name) hp)))
open LamX in
/-- what the head asks of the law's def -/
theorem LD.law {L : LD} (hc : L.fns.all L.fnB = true) (hb : ∀ p ∈ L.fns, L.Bd p) {K : PySem.W.Frag} {h : Heap} {mg : Str → Option Value} (KX : K.In h) (G : h.Ns mainGlobals mg) (c : He.SaysD L.facts L.defs K) (hx0 : L.ex K = true) {w : World}
    {id i k : Nat} {fn : Fn} {x : Str} {fa : Addr} (hid : L.fns[id]? = some (i, fn)) (hx : fn.ps = [x]) (hms : fn.ms = [.f]) (hdf : fn.dfl = none) (hfa : mg fn.name = some (.ref fa))
    (hlaw : ∀ ns : List Int, ns.length ≤ 63 → (∀ z ∈ ns, Builtin.Int.intBits z ≤ 1048576) → ∃ outs, callK L.tb k id [.f (.list (ns.map .int))] = .ok (.fz (.bool true)) outs) {l : PySem.W.OpenLaw} (hlp : l.prog = L.prog) :
    ∃ K : PySem.W.Frag, K.In h ∧ LawAtS l w K (L2.CX l.prog w) k 63 x mg fa h := by
  have hp : (i, fn) ∈ L.fns := List.mem_of_getElem? hid
  obtain ⟨fd, di⟩ := LD.di hc hb KX G c hp
  have e := hfa.symm.trans di.mgf
  have e : fa = He.ga K fn.name := by cases e; rfl
  subst e
  refine ⟨K, KX, fd, [], spK K (L.cad K) (callK L.tb k) id, fun p hp => by simp at hp, fun p hp => by simp at hp, fun p hp => by simp at hp, fun s u => ?_, fun H a ns hl hbits _ hS => ?_, fun base hB hN _ => ?_⟩
  · obtain ⟨fd', F'⟩ := c.defs (List.mem_map_of_mem (f := L.def1) hp)
    obtain ⟨_, _, _, _, _, F, _⟩ := di.ex
    obtain ⟨_, _, _, _, _, _, _, _, _, _, e1, lk1, _⟩ := F.ex
    obtain ⟨_, _, _, _, _, _, _, _, _, _, e2, lk2, _⟩ := F'.ex
    have lk2 : K.lookup (He.ga K fn.name) = _ := lk2
    rw [lk1] at lk2
    have ef : fd = fd' := by
      have := Option.some.inj lk2
      injection this with _ _ h3
      injection h3
    subst ef
    have hB := hb _ hp
    unfold LD.Bd at hB
    have F' : FunD K fn.name fn.qual (defArgs (L.st i)) (defBody (L.st i)) (defScope (L.st i)) (fn.dvs.map (He.Dv.v K)) [] (He.ga K fn.name) fd := F'
    unfold Fn.dvs at F'
    dsimp only at hB
    rw [hdf] at hB F'
    have := FunD.bindsA (ps := fn.ps) F' hB s [u] (by rw [hx]; rfl)
    rw [hx] at this
    exact this
  · obtain ⟨outs, hk⟩ := hlaw ns hl hbits
    have hi : IsL K H (ns.map PyData.int) (ns.map V.int) := by
      clear hl hbits hS hk
      induction ns with
      | nil => exact .nil
      | cons n ns ih => exact .cons (.int n) ih
    refine ⟨H, H, [.f (.list (ns.map .int))], rfl, ⟨⟨[], _, .nil, .cons (.own (.fz (.lst hS hi))) .nil, ⟨fun b => by simp, fun b hb => by simp at hb, fun b hb => by simp at hb⟩⟩, Same.refl H, Same.refl H⟩, ?_⟩
    rw [hk]
    intro F' H' v _ s
    obtain ⟨L1, r, _⟩ := s.sx.pop
    cases r with
    | own r => cases r with
      | fz z => cases z; rfl
  · have := table_ok (P := L.prog) (w := w) (base := base) (cad := L.cad K) (tb := L.tb) (fre := L.fre) (gls := L.gls) (exs := L.exs) (dfl := L.dfl) (sub := L.sub) (K := K) (mg := mg)
      (LD.exOk KX G c) (LD.clOk hx0)
      (fun id' fn' h' => by unfold LD.dfl; rw [h']; rfl)
      (fun y hy => He.free_ok KX G (c.facts (f := .free y) (List.mem_append_right _ (List.mem_append_left _ (List.mem_map_of_mem (f := He.Fa.free) hy))))) (LD.glsOk KX G hx0)
      (fun id' fn' h' => by
        unfold LD.tb at h'
        obtain ⟨p, h1, h2⟩ := Option.map_eq_some_iff.mp h'
        subst h2
        obtain ⟨fd', d'⟩ := LD.di hc hb KX G c (List.mem_of_getElem? h1)
        exact ⟨_, fd', d'⟩) k id fn (He.ga K fn.name) fd (by unfold LD.tb; rw [hid]; rfl) di
    have e2 : fn.N.take fn.ms.length = [x] := hx
    rw [e2] at this
    rw [hlp]
    exact this
end TL
namespace TL
open PySem PySem.Spec L2
/-! ### the interpreter's steps, for simp: bodies stay as they are till their heads are known -/
def gd {β : Type} (b : Bool) (r : R β) : R β := if b then r else .bad
@[simp] theorem gd_t {β : Type} (r : R β) : gd true r = r := rfl
@[simp] theorem gd_f {β : Type} (r : R β) : gd false r = .bad := rfl
def sq (r : R Fl) (k : Ev → R Fl) : R Fl := match r with
  | .ok .nx e => k e
  | r => r
@[simp] theorem sq_nx (e : Ev) (k : Ev → R Fl) : sq (.ok .nx e) k = k e := rfl
@[simp] theorem sq_ret (o : O) (e : Ev) (k : Ev → R Fl) : sq (.ok (.ret o) e) k = .ok (.ret o) e := rfl
@[simp] theorem sq_brk (e : Ev) (k : Ev → R Fl) : sq (.ok .brk e) k = .ok .brk e := rfl
@[simp] theorem sq_cont (e : Ev) (k : Ev → R Fl) : sq (.ok .cont e) k = .ok .cont e := rfl
@[simp] theorem sq_exc (c : Nat) (e : Ev) (k : Ev → R Fl) : sq (.exc c e) k = .exc c e := rfl
@[simp] theorem sq_bad (k : Ev → R Fl) : sq .bad k = .bad := rfl
@[simp] theorem sq_ite {c : Prop} [Decidable c] (a b : R Fl) (k : Ev → R Fl) : sq (if c then a else b) k = if c then sq a k else sq b k := by split <;> rfl
@[simp] theorem bd_ite {α β : Type} {c : Prop} [Decidable c] (a b : R α) (f : α → Ev → R β) : (if c then a else b).bd f = if c then a.bd f else b.bd f := by split <;> rfl
/-- a choice, its branches closed till the test is known -/
def ch {β : Type} (b : Bool) (x y : Ev → R β) (e : Ev) : R β := if b then x e else y e
@[simp] theorem ch_t {β : Type} (x y : Ev → R β) (e : Ev) : ch true x y e = x e := rfl
@[simp] theorem ch_f {β : Type} (x y : Ev → R β) (e : Ev) : ch false x y e = y e := rfl
section
variable (cf : CF) (p : List Nat) (e : Ev)
/-! statements -/
@[simp] theorem x_nil : execSs cf p [] e = .ok .nx e := rfl
@[simp] theorem x_cons (s : S) (ss : List S) : execSs cf p (s :: ss) e = sq (execS cf p s e) (execSs cf p ss) := by
  simp only [execSs]
  cases execS cf p s e with
  | ok f e1 => cases f <;> rfl
  | exc c e1 => rfl
  | bad => rfl
def asgG (p : List Nat) (t : Tg) (o : O) (e : Ev) : R Fl := (R.lf (asgT p t o e) e).bd fun e2 _ => .ok .nx e2
@[simp] theorem x_asg (t : Tg) (x : E) : execS cf p (.asg t x) e = (stv x (evalE cf x e) e).bd (asgG p t) := rfl
@[simp] theorem x_expr (x : E) : execS cf p (.expr x) e = (evalE cf x e).bd fun _ e => .ok .nx e := rfl
@[simp] theorem x_ret (x : E) : execS cf p (.ret x) e = (retv p x (evalE cf x e) e).bd fun o e1 => .ok (.ret o) e1 := rfl
@[simp] theorem x_retN : execS cf p .retN e = .ok (.ret (.fz .none)) e := rfl
def ifK (cf : CF) (p : List Nat) (a b : List S) (k : Bool) (e1 : Ev) : R Fl := ch k (execSs cf p a) (execSs cf p b) e1
@[simp] theorem ifK_d (a b : List S) (k : Bool) : ifK cf p a b k e = ch k (execSs cf p a) (execSs cf p b) e := rfl
@[simp] theorem x_ifs (c : E) (a b : List S) : execS cf p (.ifs c a b) e = ((evalE cf c e).bd boolT).bd (ifK cf p a b) := by
  simp only [execS, bd_bd]
  rfl
@[simp] theorem x_brk : execS cf p .brk e = .ok .brk e := rfl
@[simp] theorem x_cont : execS cf p .cont e = .ok .cont e := rfl
@[simp] theorem x_pass : execS cf p .pass e = .ok .nx e := rfl
@[simp] theorem x_raise (c : Nat) (m : Str) : execS cf p (.raise c m) e = .exc c e := rfl
@[simp] theorem boolT_b (b : Bool) : boolT (.own (.fz (.bool b))) e = .ok b e := rfl
@[simp] theorem boolT_fl (b : Bool) : boolT (fl (.bool b)) e = .ok b e := rfl
def appG (r : Nat × List Int) (o : O) (e2 : Ev) : R Fl := (R.lf (modAt e2 r.1 r.2 (appF o)) e2).bd fun e3 _ => .ok .nx e3
@[simp] theorem appG_d (r : Nat × List Int) (o : O) : appG r o e = (R.lf (modAt e r.1 r.2 (appF o)) e).bd fun e3 _ => .ok .nx e3 := rfl
def appK (cf : CF) (x : E) (r : Nat × List Int) (e1 : Ev) : R Fl := gd (isLst (subAt e1 r.1 r.2)) ((stv x (evalE cf x e1) e1).bd (appG r))
@[simp] theorem appK_d (x : E) (r : Nat × List Int) : appK cf x r e = gd (isLst (subAt e r.1 r.2)) ((stv x (evalE cf x e) e).bd (appG r)) := rfl
@[simp] theorem x_app (q : Pa) (x : E) : execS cf p (.app q x) e = gd (quiet x) ((evalPa cf q e).bd (appK cf x)) := rfl
def sxG (o : O) (r : Nat × List Int) (t : TV) (e3 : Ev) : R Fl := match rd t with
  | .int k => (R.lf (modAt e3 r.1 r.2 (setF k o)) e3).bd fun e4 _ => .ok .nx e4
  | _ => .bad
@[simp] theorem sxG_i (o : O) (r : Nat × List Int) (k : Int) : sxG o r (.own (.fz (.int k))) e = (R.lf (modAt e r.1 r.2 (setF k o)) e).bd fun e4 _ => .ok .nx e4 := rfl
def sxP (cf : CF) (i : E) (o : O) (r : Nat × List Int) (e2 : Ev) : R Fl := (evalE cf i e2).bd (sxG o r)
@[simp] theorem sxP_d (i : E) (o : O) (r : Nat × List Int) : sxP cf i o r e = (evalE cf i e).bd (sxG o r) := rfl
def sxK (cf : CF) (q : Pa) (i : E) (o : O) (e1 : Ev) : R Fl := (evalPa cf q e1).bd (sxP cf i o)
@[simp] theorem sxK_d (q : Pa) (i : E) (o : O) : sxK cf q i o e = (evalPa cf q e).bd (sxP cf i o) := rfl
@[simp] theorem x_setix (q : Pa) (i x : E) : execS cf p (.setix q i x) e = gd (quiet i) ((stv x (evalE cf x e) e).bd (sxK cf q i)) := rfl
def dpG (o : O) (r : Nat × List Int) (t : TV) (e3 : Ev) : R Fl := (R.lf (modAt e3 r.1 r.2 (putF (rd t) o)) e3).bd fun e4 _ => .ok .nx e4
@[simp] theorem dpG_d (o : O) (r : Nat × List Int) (t : TV) : dpG o r t e = (R.lf (modAt e r.1 r.2 (putF (rd t) o)) e).bd fun e4 _ => .ok .nx e4 := rfl
def dpP (cf : CF) (i : E) (o : O) (r : Nat × List Int) (e2 : Ev) : R Fl := (evalE cf i e2).bd (dpG o r)
@[simp] theorem dpP_d (i : E) (o : O) (r : Nat × List Int) : dpP cf i o r e = (evalE cf i e).bd (dpG o r) := rfl
def dpK (cf : CF) (q : Pa) (i : E) (o : O) (e1 : Ev) : R Fl := (evalPa cf q e1).bd (dpP cf i o)
@[simp] theorem dpK_d (q : Pa) (i : E) (o : O) : dpK cf q i o e = (evalPa cf q e).bd (dpP cf i o) := rfl
@[simp] theorem x_dput (q : Pa) (i x : E) : execS cf p (.dput q i x) e = gd (quiet i) ((stv x (evalE cf x e) e).bd (dpK cf q i)) := rfl
def exG (r : Nat × List Int) (t : TV) (e2 : Ev) : R Fl := match t with
  | .own (.lst xs) => (R.lf (modAt e2 r.1 r.2 (extF xs)) e2).bd fun e3 _ => .ok .nx e3
  | _ => .bad
@[simp] theorem exG_l (r : Nat × List Int) (xs : List O) : exG r (.own (.lst xs)) e = (R.lf (modAt e r.1 r.2 (extF xs)) e).bd fun e3 _ => .ok .nx e3 := rfl
def exK (cf : CF) (x : E) (r : Nat × List Int) (e1 : Ev) : R Fl := gd (isLst (subAt e1 r.1 r.2)) ((evalE cf x e1).bd (exG r))
@[simp] theorem exK_d (x : E) (r : Nat × List Int) : exK cf x r e = gd (isLst (subAt e r.1 r.2)) ((evalE cf x e).bd (exG r)) := rfl
@[simp] theorem x_ext (q : Pa) (x : E) : execS cf p (.ext q x) e = gd (quiet x) ((evalPa cf q e).bd (exK cf x)) := rfl
def clG (r : Nat × List Int) (e1 : Ev) : R Fl := (R.lf (modAt e1 r.1 r.2 clrF) e1).bd fun e2 _ => .ok .nx e2
@[simp] theorem clG_d (r : Nat × List Int) : clG r e = (R.lf (modAt e r.1 r.2 clrF) e).bd fun e2 _ => .ok .nx e2 := rfl
@[simp] theorem x_clr (q : Pa) : execS cf p (.clr q) e = (evalPa cf q e).bd clG := by simp only [execS]; rfl
def piG (r : Nat × List Int) (t : TV) (e2 : Ev) : R Fl := match rd t with
  | .int k => (R.lf (modAt e2 r.1 r.2 (popiF k)) e2).bd fun e3 _ => .ok .nx e3
  | _ => .bad
@[simp] theorem piG_i (r : Nat × List Int) (k : Int) : piG r (.own (.fz (.int k))) e = (R.lf (modAt e r.1 r.2 (popiF k)) e).bd fun e3 _ => .ok .nx e3 := rfl
def piK (cf : CF) (x : E) (r : Nat × List Int) (e1 : Ev) : R Fl := gd (isLst (subAt e1 r.1 r.2)) ((evalE cf x e1).bd (piG r))
@[simp] theorem piK_d (x : E) (r : Nat × List Int) : piK cf x r e = gd (isLst (subAt e r.1 r.2)) ((evalE cf x e).bd (piG r)) := rfl
@[simp] theorem x_popi (q : Pa) (x : E) : execS cf p (.popi q x) e = gd (quiet x) ((evalPa cf q e).bd (piK cf x)) := by simp only [execS]; rfl
/-! try -/
@[simp] theorem x_try (kn : List Nat) (hs : List Hd) (b : List S) : execS cf p (.tryx kn hs b) e = tryH kn p hs (execSs cf p b e) := by simp only [execS]
@[simp] theorem try_ok1 (kn : List Nat) (n : Nat) (ids : List Nat) (i : Nat) (su : Su) (f : Fl) : tryH kn p [⟨n, ids, some i, su⟩] (.ok f e) = if p.contains i then .bad else .ok f e := rfl
@[simp] theorem try_ok0 (kn : List Nat) (n : Nat) (ids : List Nat) (su : Su) (r : List Hd) (f : Fl) : tryH kn p (⟨n, ids, none, su⟩ :: r) (.ok f e) = .ok f e := by
  unfold tryH
  split
  · rename_i h
    cases h
  · rfl
@[simp] theorem try_exc1 (kn : List Nat) (n : Nat) (ids : List Nat) (i : Nat) (su : Su) (c : Nat) : tryH kn p [⟨n, ids, some i, su⟩] (.exc c e) = if p.contains i then .bad else tryR (fun c => kn.contains c) ids i su p (.exc c e) := rfl
def suG (i : Nat) : Option Ev → R Fl
  | some e2 => .ok .nx (e2.set i none)
  | none => .bad
@[simp] theorem suG_s (i : Nat) : suG i (some e) = .ok .nx (e.set i none) := rfl
@[simp] theorem tryR_exc (kn : Nat → Bool) (ids : List Nat) (i : Nat) (su : Su) (c : Nat) : tryR kn ids i su p (.exc c e) = gd (kn c && decide (i < e.length)) (if ids.contains c then suG i (vSu p c su e) else .exc c e) := by
  have h : ∀ o : Option Ev, (match o with | some e2 => (.ok .nx (e2.set i none) : R Fl) | none => .bad) = suG i o := fun o => by cases o <;> rfl
  show (if (kn c && decide (i < e.length)) = true then (if ids.contains c = true then (match vSu p c su e with | some e2 => (.ok .nx (e2.set i none) : R Fl) | none => .bad) else .exc c e) else .bad) = _
  rw [h]
  rfl
def suM : Option Ev → R Fl
  | some e2 => .ok .nx e2
  | none => .bad
@[simp] theorem suM_s : suM (some e) = .ok .nx e := rfl
def suF (p : List Nat) (c : Nat) (e : Ev) : Option (List Nat × Su) → R Fl
  | some q => suM (vSu p c q.2 e)
  | none => .exc c e
@[simp] theorem suF_s (c : Nat) (q : List Nat × Su) : suF p c e (some q) = suM (vSu p c q.2 e) := rfl
@[simp] theorem suF_n (c : Nat) : suF p c e none = .exc c e := rfl
@[simp] theorem tryM_exc (kn : Nat → Bool) (L : List (List Nat × Su)) (c : Nat) : tryM kn p L (.exc c e) = gd (kn c) (suF p c e (L.find? fun q => q.1.contains c)) := by
  have h : ∀ o : Option Ev, (match o with | some e2 => (.ok .nx e2 : R Fl) | none => .bad) = suM o := fun o => by cases o <;> rfl
  have h2 : ∀ o : Option (List Nat × Su), (match o with | some q => (match vSu p c q.2 e with | some e2 => (.ok .nx e2 : R Fl) | none => .bad) | none => .exc c e) = suF p c e o := fun o => by
    cases o with
    | none => rfl
    | some q => exact h _
  show (if kn c = true then (match L.find? (fun q => q.1.contains c) with | some q => (match vSu p c q.2 e with | some e2 => (.ok .nx e2 : R Fl) | none => .bad) | none => .exc c e) else .bad) = _
  rw [h2]
  rfl
@[simp] theorem try_exc0 (kn : List Nat) (n : Nat) (ids : List Nat) (su : Su) (r : List Hd) (c : Nat) : tryH kn p (⟨n, ids, none, su⟩ :: r) (.exc c e) = tryM (fun c => kn.contains c) p ((⟨n, ids, none, su⟩ :: r).map fun h => (h.ids, h.su)) (.exc c e) := by
  unfold tryH
  split
  · rename_i h
    cases h
  · rfl
@[simp] theorem vSu_n (c : Nat) : vSu p c [] e = some e := rfl
def vSuG (p : List Nat) (c : Nat) (r : Su) (j : Nat) (e : Ev) : Option TV → Option Ev
  | some (.own o) => (asgT p (.nm j) o e).bind (vSu p c r)
  | _ => none
@[simp] theorem vSuG_s (c : Nat) (r : Su) (j : Nat) (o : O) : vSuG p c r j e (some (.own o)) = (asgT p (.nm j) o e).bind (vSu p c r) := rfl
@[simp] theorem vSu_c (c : Nat) (j : Nat) (z : HE) (r : Su) : vSu p c ((j, z) :: r) e = vSuG p c r j e (vH c z e) := by
  have h : ∀ o : Option TV, (match o with
      | some (.own o) => (match asgT p (.nm j) o e with
        | some e1 => vSu p c r e1
        | none => none)
      | _ => none) = vSuG p c r j e o := fun o => by
    cases o with
    | none => rfl
    | some t => cases t with
      | own o =>
        show (match asgT p (.nm j) o e with
          | some e1 => vSu p c r e1
          | none => none) = (asgT p (.nm j) o e).bind (vSu p c r)
        cases asgT p (.nm j) o e <;> rfl
      | brw o => rfl
  exact h _
@[simp] theorem wipeE_n : wipeE e [] = e := rfl
@[simp] theorem wipeE_c (i : Nat) (is : List Nat) : wipeE e (i :: is) = (wipeE e is).set i none := rfl
@[simp] theorem wipeR_ok (J : List Nat) (f : Fl) : wipeR J (.ok f e) = .ok f (wipeE e J) := rfl
@[simp] theorem wipeR_exc (J : List Nat) (c : Nat) : wipeR J (.exc c e) = .exc c (wipeE e J) := rfl
@[simp] theorem wipeR_bad (J : List Nat) : wipeR J .bad = .bad := rfl
@[simp] theorem wipeR_ite {c : Prop} [Decidable c] (J : List Nat) (a b : R Fl) : wipeR J (if c then a else b) = if c then wipeR J a else wipeR J b := by split <;> rfl
@[simp] theorem x_wip (J : List Nat) (s : S) : execS cf p (.wip J s) e = wipeR J (execS cf p s (wipeE e J)) := rfl
@[simp] theorem x_blk (J : List Nat) (ss : List S) : execS cf p (.blk J ss) e = wipeR J (execSs cf p ss e) := rfl
def tstW (cf : CF) (c : E) (e : Ev) : R Bool := (evalE cf c e).bd boolT
@[simp] theorem tstW_d (c : E) : tstW cf c e = (evalE cf c e).bd boolT := rfl
@[simp] theorem x_while (n : Nat) (c : E) (b : List S) : execS cf p (.whiles n c b) e = whileGo (tstW cf c) (execSs cf p b) n e := by simp only [execS]; rfl
def augG (op : Operator) (i : Nat) (a : Int) (t : TV) (e1 : Ev) : R Fl := match augV op a (rd t) with
  | some d => .ok .nx (e1.set i (some (.own (.fz (.int d)))))
  | none => .bad
def augI (cf : CF) (op : Operator) (i : Nat) (x : E) (e : Ev) : Option (Option SL) → R Fl
  | some (some (.own (.fz (.int a)))) => (evalE cf x e).bd (augG op i a)
  | _ => .bad
@[simp] theorem x_aug (i : Nat) (op : Operator) (x : E) : execS cf p (.aug i op x) e = gd (!p.contains i) (augI cf op i x e e[i]?) := by
  simp only [execS, gd]
  split
  · unfold intAt
    generalize e[i]? = z
    cases z with
    | none => rfl
    | some z => cases z with
      | none => rfl
      | some z => cases z with
        | par d => rfl
        | own o => cases o with
          | fz d => cases d <;> rfl
          | _ => rfl
  · rfl
@[simp] theorem augI_i (cf : CF) (op : Operator) (i : Nat) (x : E) (e : Ev) (a : Int) : augI cf op i x e (some (some (.own (.fz (.int a))))) = (evalE cf x e).bd (augG op i a) := rfl
/-- a for: what is walked, with which lent -/
def forX (cf : CF) (p : List Nat) (t : Tg) (k : Ik) (src : List E) (body : List S) (ts : List TV) (e1 : Ev) : R Fl := match srcsAt src ts e1 with
    | none => .bad
    | some ds => match walkD k ds, lendE (lentOf src e1) e1 with
      | some xs, some e2 => if lentOk (lentOf src e1) p then
          backR (lentOf src e1) (forGo (fun d e => match asgT ((lentOf src e1).map (·.1) ++ p) t (.fz d) e with
            | none => .bad
            | some e' => execSs cf ((lentOf src e1).map (·.1) ++ p) body e') xs e2)
        else .bad
      | _, _ => .bad
@[simp] theorem x_for (t : Tg) (k : Ik) (src : List E) (body : List S) : execS cf p (.fors t k src body) e = gd (quiets src) ((evalTs cf src e).bd (forX cf p t k src body)) := rfl
/-- a turn -/
def turnX (cf : CF) (p : List Nat) (t : Tg) (body : List S) (d : D) (e : Ev) : R Fl := match asgT p t (.fz d) e with
  | none => .bad
  | some e' => execSs cf p body e'
theorem forX_eq {t : Tg} {k : Ik} {src : List E} {body : List S} {ts : List TV} {e1 e2 : Ev} {ds xs : List D} {l : List (Nat × O)} (hl : lentOf src e1 = l) (h1 : srcsAt src ts e1 = some ds) (h2 : walkD k ds = some xs) (h3 : lendE l e1 = some e2) (h4 : lentOk l p = true) :
    forX cf p t k src body ts e1 = backR l (forGo (turnX cf (l.map (·.1) ++ p) t body) xs e2) := by
  subst hl
  unfold forX
  rw [h1]
  dsimp only
  rw [h2, h3]
  dsimp only
  rw [if_pos h4]
  rfl
/-- nothing lent: what is walked is frozen, or made on the spot -/
theorem forX_0 {t : Tg} {k : Ik} {src : List E} {body : List S} {ts : List TV} {e1 : Ev} {ds xs : List D} (hl : lentOf src e1 = []) (h1 : srcsAt src ts e1 = some ds) (h2 : walkD k ds = some xs) :
    forX cf p t k src body ts e1 = forGo (turnX cf p t body) xs e1 := by
  rw [forX_eq cf p hl h1 h2 (e2 := e1) rfl rfl]
  show backR [] (forGo (turnX cf ([] ++ p) t body) xs e1) = _
  rw [List.nil_append]
  cases forGo (turnX cf p t body) xs e1 <;> rfl
/-! loops -/
@[simp] theorem forGo_nil (f : D → Ev → R Fl) : forGo f [] e = .ok .nx e := rfl
/-- a loop that goes through: an invariant -/
theorem forGo_inv {f : D → Ev → R Fl} {I : Nat → Ev → Prop} {xs : List D} (h : ∀ i x e, xs[i]? = some x → I i e → (∃ e', f x e = .ok .nx e' ∧ I (i + 1) e') ∨ ∃ e', f x e = .ok .cont e' ∧ I (i + 1) e') {e : Ev} (h0 : I 0 e) : ∃ e', forGo f xs e = .ok .nx e' ∧ I xs.length e' := by
  have key : ∀ (ys : List D) (n : Nat) (e : Ev), xs.drop n = ys → I n e → n ≤ xs.length → ∃ e', forGo f ys e = .ok .nx e' ∧ I xs.length e' := by
    intro ys
    induction ys with
    | nil =>
      intro n e hd hi hn
      have : xs.length ≤ n := by simpa using hd
      have : n = xs.length := Nat.le_antisymm hn this
      subst this
      exact ⟨e, rfl, hi⟩
    | cons y ys ih =>
      intro n e hd hi hn
      have hy : xs[n]? = some y := by
        have : (xs.drop n)[0]? = some y := by rw [hd]; rfl
        simpa using this
      have hlt : n < xs.length := (List.getElem?_eq_some_iff.mp hy).1
      have hd' : xs.drop (n + 1) = ys := by
        rw [← List.drop_drop, hd]; rfl
      rcases h n y e hy hi with ⟨e', h1, h2⟩ | ⟨e', h1, h2⟩
      · obtain ⟨e2, g1, g2⟩ := ih (n + 1) e' hd' h2 hlt
        exact ⟨e2, by simp only [forGo, h1]; exact g1, g2⟩
      · obtain ⟨e2, g1, g2⟩ := ih (n + 1) e' hd' h2 hlt
        exact ⟨e2, by simp only [forGo, h1]; exact g1, g2⟩
  exact key xs 0 e rfl h0 (Nat.zero_le _)
end
end TL
namespace TL
open PySem PySem.Spec L2
/-- frozen items -/
def fzs (ds : List D) : List O := ds.map .fz
theorem fzs_d (ds : List D) : fzs ds = ds.map .fz := rfl
theorem fzAllK_fzK : ∀ es : List (Key × D), fzAllK (fzK es) = some es
  | [] => rfl
  | (k, d) :: es => by
    show fzAllK ((k, .fz d) :: fzK es) = _
    simp only [fzAllK, fzAllK_fzK es]
    rfl
theorem setK_fzK (k : Key) (d : D) (es : List (Key × D)) : setK' (fzK es) k (.fz d) = fzK (setK' es k d) := by
  unfold setK' fzK
  simp only [List.any_map]
  have e : ((fun p : Key × O => decide (p.1 = k)) ∘ fun p : Key × D => (p.1, O.fz p.2)) = fun p => decide (p.1 = k) := rfl
  split
  · rename_i h
    have h : (es.any fun p => decide (p.1 = k)) = true := h
    rw [if_pos h, List.map_map, List.map_map]
    refine List.map_congr_left fun p _ => ?_
    show (if p.1 = k then _ else _) = _
    by_cases hk : p.1 = k
    · simp only [Function.comp, if_pos hk]
    · simp only [Function.comp, if_neg hk]
  · rename_i h
    have h : ¬ (es.any fun p => decide (p.1 = k)) = true := h
    rw [if_neg h, List.map_append]
    rfl
theorem putF_k (es : List (Key × D)) {k : D} (z : Key) (d : D) (h : keyOf k = some z) : putF k (.fz d) (.dct (fzK es)) = if es.length < sizeLine then some (.dct (fzK (setK' es z d))) else none := by
  simp only [putF, h]
  rw [setK_fzK]
  have : (fzK es).length = es.length := by unfold fzK; simp
  rw [this]
section
variable (cf : CF) (e : Ev)
/-! reading -/
@[simp] theorem rdSlot_fz (d : D) : rdSlot (.own (.fz d)) = .own (.fz d) := rfl
@[simp] theorem rdSlot_lst (os : List O) : rdSlot (.own (.lst os)) = .brw (.lst os) := rfl
@[simp] theorem rdSlot_tup (os : List O) : rdSlot (.own (.tup os)) = .brw (.tup os) := rfl
@[simp] theorem rdSlot_par (ds : List D) : rdSlot (.par (.list ds)) = .brw (.lst (fzs ds)) := rfl
@[simp] theorem rdSlot_pari (i : Int) : rdSlot (.par (.int i)) = .own (.fz (.int i)) := rfl
@[simp] theorem rdSlot_pars (i : Str) : rdSlot (.par (.str i)) = .own (.fz (.str i)) := rfl
@[simp] theorem rdSlot_parb (i : Bool) : rdSlot (.par (.bool i)) = .own (.fz (.bool i)) := rfl
@[simp] theorem rdSlot_part (i : List D) : rdSlot (.par (.tuple i)) = .own (.fz (.tuple i)) := rfl
@[simp] theorem rdSlot_parn : rdSlot (.par .none) = .own (.fz .none) := rfl
@[simp] theorem rdO_fz (d : D) : rdO (.fz d) = .own (.fz d) := rfl
@[simp] theorem rdO_lst (os : List O) : rdO (.lst os) = .brw (.lst os) := rfl
@[simp] theorem rdO_tup (os : List O) : rdO (.tup os) = .brw (.tup os) := rfl
@[simp] theorem tvO_own (o : O) : tvO (.own o) = o := rfl
@[simp] theorem tvO_brw (o : O) : tvO (.brw o) = o := rfl
@[simp] theorem rd_fz (d : D) : rd (.own (.fz d)) = d := rfl
@[simp] theorem rd_bfz (d : D) : rd (.brw (.fz d)) = d := rfl
@[simp] theorem rd_lst (os : List O) : rd (.own (.lst os)) = .list (os.map toD) := by show PyData.list (toDs os) = _; rw [toDs_map]
@[simp] theorem rd_blst (os : List O) : rd (.brw (.lst os)) = .list (os.map toD) := by show PyData.list (toDs os) = _; rw [toDs_map]
@[simp] theorem rd_tup (os : List O) : rd (.own (.tup os)) = .tuple (os.map toD) := by show PyData.tuple (toDs os) = _; rw [toDs_map]
@[simp] theorem rd_btup (os : List O) : rd (.brw (.tup os)) = .tuple (os.map toD) := by show PyData.tuple (toDs os) = _; rw [toDs_map]
@[simp] theorem toD_fz (d : D) : toD (.fz d) = d := rfl
@[simp] theorem toD_lst (os : List O) : toD (.lst os) = .list (os.map toD) := by show PyData.list (toDs os) = _; rw [toDs_map]
@[simp] theorem toD_tup (os : List O) : toD (.tup os) = .tuple (os.map toD) := by show PyData.tuple (toDs os) = _; rw [toDs_map]
@[simp] theorem toD_fzs (ds : List D) : (fzs ds).map toD = ds := by rw [← toDs_map]; exact toDs_fz ds
@[simp] theorem fzs_len (ds : List D) : (fzs ds).length = ds.length := List.length_map ..
@[simp] theorem fzs_app (a b : List D) : fzs a ++ fzs b = fzs (a ++ b) := List.map_append.symm
@[simp high] theorem fzs_get (ds : List D) (i : Nat) : (fzs ds)[i]? = ds[i]?.map .fz := List.getElem?_map ..
theorem atI_map {α β : Type} (f : α → β) (xs : List α) (i : Int) : atI (xs.map f) i = (atI xs i).map f := by
  unfold L2.atI
  rw [List.length_map]
  cases L2.ixN xs.length i with
  | none => rfl
  | some n => simp
@[simp high] theorem atI_fzs (ds : List D) (i : Int) : atI (fzs ds) i = (atI ds i).map .fz := atI_map ..
@[simp] theorem toDs_fzs (ds : List D) : toDs (fzs ds) = ds := toDs_fz ds
@[simp] theorem toD_fzs2 (ds : List D) : List.map (toD ∘ O.fz) ds = ds := by rw [← List.map_map, ← fzs_d, toD_fzs]
@[simp] theorem stable_own (o : O) : stable (.own o) = true := rfl
@[simp] theorem stable_bfz (d : D) : stable (.brw (.fz d)) = true := rfl
@[simp] theorem stable_blst (os : List O) : stable (.brw (.lst os)) = false := rfl
@[simp] theorem stable_btup (os : List O) : stable (.brw (.tup os)) = false := rfl
@[simp] theorem fzAll_nil : fzAll [] = some [] := rfl
@[simp] theorem fzAll_fz (d : D) (os : List O) : fzAll (.fz d :: os) = (fzAll os).map (d :: ·) := by simp only [fzAll]
@[simp] theorem fzAll_lst (x : List O) (os : List O) : fzAll (.lst x :: os) = none := rfl
@[simp] theorem fzAll_tup (x : List O) (os : List O) : fzAll (.tup x :: os) = none := rfl
@[simp] theorem fzAll_m (ds : List D) : fzAll (fzs ds) = some ds := fzAll_map ds
/-! expressions -/
@[simp] theorem e_int (i : Int) : evalE cf (.con (.int i)) e = .ok (.own (.fz (.int i))) e := rfl
@[simp] theorem e_str (i : Str) : evalE cf (.con (.str i)) e = .ok (.own (.fz (.str i))) e := rfl
@[simp] theorem e_bool (i : Bool) : evalE cf (.con (.bool i)) e = .ok (.own (.fz (.bool i))) e := rfl
@[simp] theorem e_none : evalE cf (.con .none) e = .ok (.own (.fz .none)) e := rfl
@[simp] theorem e_glb (x : Str) (d : D) : evalE cf (.glb x d) e = .ok (.own (.fz d)) e := rfl
def varG (e : Ev) : Option (Option SL) → R TV
  | some (some s) => .ok (rdSlot s) e
  | _ => .bad
@[simp] theorem varG_s (s : SL) : varG e (some (some s)) = .ok (rdSlot s) e := rfl
@[simp] theorem varG_n : varG e (some none) = .bad := rfl
@[simp] theorem e_var (i : Nat) : evalE cf (.var i) e = varG e e[i]? := rfl
def binG (op : Operator) (ta tb : TV) (e2 : Ev) : R TV := R.lf (binOp op ta tb) e2
@[simp] theorem binG_d (op : Operator) (ta tb : TV) (e2 : Ev) : binG op ta tb e2 = R.lf (binOp op ta tb) e2 := rfl
def binK (cf : CF) (op : Operator) (b : E) (ta : TV) (e1 : Ev) : R TV := gd (quiet b || stable ta) ((evalE cf b e1).bd (binG op ta))
@[simp] theorem binK_d (op : Operator) (b : E) (ta : TV) : binK cf op b ta e = gd (quiet b || stable ta) ((evalE cf b e).bd (binG op ta)) := rfl
@[simp] theorem e_bin (op : Operator) (a b : E) : evalE cf (.bin op a b) e = (evalE cf a e).bd (binK cf op b) := rfl
def negG (ta : TV) (e1 : Ev) : R TV := match rd ta with
    | .int i => .ok (.own (.fz (.int (-i)))) e1
    | _ => .bad
@[simp] theorem negG_i (i : Int) : negG (.own (.fz (.int i))) e = .ok (.own (.fz (.int (-i)))) e := Eq.trans rfl rfl
@[simp] theorem e_fzi (a : E) : evalE cf (.fzi a) e = (evalE cf a e).bd fun t e1 => R.lf (fziV t) e1 := rfl
@[simp] theorem e_dp (a : E) : evalE cf (.dp a) e = dpR e (evalE cf a (frzE e)) := rfl
@[simp] theorem e_fzn (a : E) : evalE cf (.fzn a) e = (evalE cf a e).bd fun t e1 => R.lf (fznV t) e1 := rfl
@[simp] theorem e_neg (a : E) : evalE cf (.neg a) e = (evalE cf a e).bd negG := rfl
def cmpG (op : CmpOp) (ta tb : TV) (e2 : Ev) : R TV := R.lf ((cmpD op (rd ta) (rd tb)).map fun c => .own (.fz (.bool c))) e2
@[simp] theorem cmpG_d (op : CmpOp) (ta tb : TV) (e2 : Ev) : cmpG op ta tb e2 = R.lf ((cmpD op (rd ta) (rd tb)).map fun c => .own (.fz (.bool c))) e2 := rfl
def cmpK (cf : CF) (op : CmpOp) (b : E) (ta : TV) (e1 : Ev) : R TV := gd (quiet b || stable ta) ((evalE cf b e1).bd (cmpG op ta))
@[simp] theorem cmpK_d (op : CmpOp) (b : E) (ta : TV) : cmpK cf op b ta e = gd (quiet b || stable ta) ((evalE cf b e).bd (cmpG op ta)) := rfl
@[simp] theorem e_cmp (op : CmpOp) (a b : E) : evalE cf (.cmp op a b) e = (evalE cf a e).bd (cmpK cf op b) := rfl
def chG2 (op : CmpOp) (tb tc : TV) (e3 : Ev) : R TV := R.lf ((cmpD op (rd tb) (rd tc)).map fun c => .own (.fz (.bool c))) e3
@[simp] theorem chG2_d (op : CmpOp) (tb tc : TV) : chG2 op tb tc e = R.lf ((cmpD op (rd tb) (rd tc)).map fun c => .own (.fz (.bool c))) e := rfl
def chG1 (cf : CF) (op : CmpOp) (c : E) (tb : TV) (k : Bool) (e2 : Ev) : R TV := if k then (evalE cf c e2).bd (chG2 op tb) else .ok (.own (.fz (.bool false))) e2
@[simp] theorem chG1_t (op : CmpOp) (c : E) (tb : TV) : chG1 cf op c tb true e = (evalE cf c e).bd (chG2 op tb) := rfl
@[simp] theorem chG1_f (op : CmpOp) (c : E) (tb : TV) : chG1 cf op c tb false e = .ok (.own (.fz (.bool false))) e := rfl
def chG0 (cf : CF) (op op' : CmpOp) (c : E) (ta tb : TV) (e2 : Ev) : R TV := (R.lf (cmpD op (rd ta) (rd tb)) e2).bd (chG1 cf op' c tb)
@[simp] theorem chG0_d (op op' : CmpOp) (c : E) (ta tb : TV) : chG0 cf op op' c ta tb e = (R.lf (cmpD op (rd ta) (rd tb)) e).bd (chG1 cf op' c tb) := rfl
def chGa (cf : CF) (op op' : CmpOp) (b c : E) (ta : TV) (e1 : Ev) : R TV := (evalE cf b e1).bd (chG0 cf op op' c ta)
@[simp] theorem chGa_d (op op' : CmpOp) (b c : E) (ta : TV) : chGa cf op op' b c ta e = (evalE cf b e).bd (chG0 cf op op' c ta) := rfl
@[simp] theorem e_chn (op op' : CmpOp) (a b c : E) : evalE cf (.chn op op' a b c) e = gd (quiet a && quiet b && quiet c) ((evalE cf a e).bd (chGa cf op op' b c)) := rfl
/-- a choice of a value, both ways read -/
def chE {β : Type} (b : Bool) (x y : R β) : R β := if b then x else y
@[simp] theorem chE_t {β : Type} (x y : R β) : chE true x y = x := rfl
@[simp] theorem chE_f {β : Type} (x y : R β) : chE false x y = y := rfl
@[simp] theorem chE_and (b c : Bool) : chE b (R.ok (TV.own (.fz (.bool c))) e) (R.ok (TV.own (.fz (.bool false))) e) = R.ok (TV.own (.fz (.bool (b && c)))) e := by cases b <;> rfl
@[simp] theorem chE_or (b c : Bool) : chE b (R.ok (TV.own (.fz (.bool true))) e) (R.ok (TV.own (.fz (.bool c))) e) = R.ok (TV.own (.fz (.bool (b || c)))) e := by cases b <;> rfl
def andK (cf : CF) (b : E) (k : Bool) (e1 : Ev) : R TV := chE k (evalE cf b e1) (.ok (.own (.fz (.bool false))) e1)
@[simp] theorem andK_d (b : E) (k : Bool) : andK cf b k e = chE k (evalE cf b e) (.ok (.own (.fz (.bool false))) e) := rfl
@[simp] theorem e_and (a b : E) : evalE cf (.and a b) e = ((evalE cf a e).bd boolT).bd (andK cf b) := by simp only [evalE, bd_bd]; rfl
def orK (cf : CF) (b : E) (k : Bool) (e1 : Ev) : R TV := chE k (.ok (.own (.fz (.bool true))) e1) (evalE cf b e1)
@[simp] theorem orK_d (b : E) (k : Bool) : orK cf b k e = chE k (.ok (.own (.fz (.bool true))) e) (evalE cf b e) := rfl
@[simp] theorem e_or (a b : E) : evalE cf (.or a b) e = ((evalE cf a e).bd boolT).bd (orK cf b) := by simp only [evalE, bd_bd]; rfl
@[simp] theorem e_not (a : E) : evalE cf (.not a) e = ((evalE cf a e).bd boolT).bd fun k e1 => .ok (.own (.fz (.bool (!k)))) e1 := by simp only [evalE, bd_bd]
def iteK (cf : CF) (a b : E) (k : Bool) (e1 : Ev) : R TV := ch k (evalE cf a) (evalE cf b) e1
@[simp] theorem iteK_d (a b : E) (k : Bool) : iteK cf a b k e = ch k (evalE cf a) (evalE cf b) e := rfl
@[simp] theorem e_ite (c a b : E) : evalE cf (.ite c a b) e = ((evalE cf c e).bd boolT).bd (iteK cf a b) := by simp only [evalE, bd_bd]; rfl
@[simp] theorem ixT_o (o : O) (k : D) : ixT (.own o) k = (ixO o k).map .own := rfl
@[simp] theorem ixT_b (o : O) (k : D) : ixT (.brw o) k = (ixO o k).map rdO := rfl
def ixG (ta tb : TV) (e2 : Ev) : R TV := R.lf (ixT ta (rd tb)) e2
@[simp] theorem ixG_d (ta tb : TV) (e2 : Ev) : ixG ta tb e2 = R.lf (ixT ta (rd tb)) e2 := rfl
def ixK (cf : CF) (b : E) (ta : TV) (e1 : Ev) : R TV := gd (quiet b || stable ta) ((evalE cf b e1).bd (ixG ta))
@[simp] theorem ixK_d (b : E) (ta : TV) : ixK cf b ta e = gd (quiet b || stable ta) ((evalE cf b e).bd (ixG ta)) := rfl
@[simp] theorem e_ix (a b : E) : evalE cf (.ix a b) e = (evalE cf a e).bd (ixK cf b) := rfl
def slG2 (ta : TV) (l h : Option Int) (e3 : Ev) : R TV := R.lf (slcV ta l h) e3
@[simp] theorem slG2_d (ta : TV) (l h : Option Int) : slG2 ta l h e = R.lf (slcV ta l h) e := rfl
def slG1 (cf : CF) (hi : E) (ta : TV) (l : Option Int) (e2 : Ev) : R TV := (prt hi (evalE cf hi e2) e2).bd (slG2 ta l)
@[simp] theorem slG1_d (hi : E) (ta : TV) (l : Option Int) : slG1 cf hi ta l e = (prt hi (evalE cf hi e) e).bd (slG2 ta l) := rfl
def slG0 (cf : CF) (lo hi : E) (ta : TV) (e1 : Ev) : R TV := (prt lo (evalE cf lo e1) e1).bd (slG1 cf hi ta)
@[simp] theorem slG0_d (lo hi : E) (ta : TV) : slG0 cf lo hi ta e = (prt lo (evalE cf lo e) e).bd (slG1 cf hi ta) := rfl
@[simp] theorem e_slc (a lo hi : E) : evalE cf (.slc a lo hi) e = gd (quiet lo && quiet hi) ((evalE cf a e).bd (slG0 cf lo hi)) := rfl
@[simp] theorem prt_nul (r : R TV) : prt .nul r e = .ok none e := rfl
def mkT : Option (List D) → List O → TV
  | some ds, _ => .own (.fz (.tuple ds))
  | none, os => .own (.tup os)
@[simp] theorem mkT_s (ds : List D) (os : List O) : mkT (some ds) os = .own (.fz (.tuple ds)) := rfl
@[simp] theorem mkT_n (os : List O) : mkT none os = .own (.tup os) := rfl
@[simp] theorem e_tup (es : List E) : evalE cf (.tup es) e = (evalSts cf es e).bd fun os e1 => .ok (mkT (fzAll os) os) e1 := by
  simp only [evalE]
  cases evalSts cf es e with
  | ok os e1 => simp only [R.bd_ok]; cases fzAll os <;> rfl
  | exc c e1 => rfl
  | bad => rfl
def mkL : Option (List D) → List O → TV
  | some ds, _ => .own (.lst (fzs ds))
  | none, os => .own (.lst os)
@[simp] theorem mkL_s (ds : List D) (os : List O) : mkL (some ds) os = .own (.lst (fzs ds)) := rfl
@[simp] theorem mkL_n (os : List O) : mkL none os = .own (.lst os) := rfl
@[simp] theorem e_lst (es : List E) : evalE cf (.lst es) e = (evalSts cf es e).bd fun os e1 => .ok (mkL (fzAll os) os) e1 := by
  simp only [evalE]
  cases evalSts cf es e with
  | ok os e1 =>
    simp only [R.bd_ok]
    cases h : fzAll os with
    | none => rfl
    | some ds => rw [fzAll_eq h]; rfl
  | exc c e1 => rfl
  | bad => rfl
def callR (e1 : Ev) : CR → R TV
  | .ok r _ => .ok (.own r) e1
  | .exc c _ => .exc c e1
  | .bad => .bad
@[simp] theorem callR_ok (e1 : Ev) (r : O) (o : List (Option O)) : callR e1 (.ok r o) = .ok (.own r) e1 := rfl
@[simp] theorem callR_exc (e1 : Ev) (r : Nat) (o : List (Option O)) : callR e1 (.exc r o) = .exc r e1 := rfl
def cllG (cf : CF) (id : Nat) (avs : List AV) (e1 : Ev) : R TV := callR e1 (cf id avs)
@[simp] theorem cllG_d (id : Nat) (avs : List AV) : cllG cf id avs e = callR e (cf id avs) := rfl
@[simp] theorem e_call (id : Nat) (ms : List Md) (es : List E) : evalE cf (.call id ms es []) e = gd (quiets es) ((evalAs cf ms es e).bd (cllG cf id)) := by
  simp only [evalE, gd]
  split
  · cases evalAs cf ms es e with
    | ok as e1 => simp only [R.bd_ok, List.map_nil, List.append_nil, cllG]; cases cf id as <;> rfl
    | exc c e1 => rfl
    | bad => rfl
  · rfl
@[simp] theorem e_blt (f : Bf) (es : List E) : evalE cf (.blt f es) e = gd (quiets es) ((evalTs cf es e).bd fun ts e1 => R.lf (bltV f ts) e1) := rfl
def isiG (t : Ty) (ta : TV) (e1 : Ev) : R TV := gd (plainD (rd ta)) (.ok (.own (.fz (.bool (isTy t (rd ta))))) e1)
@[simp] theorem isiG_d (t : Ty) (ta : TV) : isiG t ta e = gd (plainD (rd ta)) (.ok (.own (.fz (.bool (isTy t (rd ta))))) e) := rfl
@[simp] theorem e_isi (a : E) (t : Ty) : evalE cf (.isi a t) e = (evalE cf a e).bd (isiG t) := rfl
@[simp] theorem plain_n : plainD .none = true := rfl
@[simp] theorem plain_i (i : Int) : plainD (.int i) = true := rfl
@[simp] theorem plain_b (i : Bool) : plainD (.bool i) = true := rfl
@[simp] theorem plain_s (i : Str) : plainD (.str i) = true := rfl
@[simp] theorem plain_l (i : List D) : plainD (.list i) = true := rfl
@[simp] theorem plain_t (i : List D) : plainD (.tuple i) = true := rfl
def cllD (cf : CF) (id : Nat) (d : D) (avs : List AV) (e1 : Ev) : R TV := callR e1 (cf id (avs ++ [.f d]))
@[simp] theorem cllD_d (id : Nat) (d : D) (avs : List AV) : cllD cf id d avs e = callR e (cf id (avs ++ [.f d])) := rfl
@[simp] theorem e_calld (id : Nat) (ms : List Md) (es : List E) (d : D) : evalE cf (.call id ms es [d]) e = gd (quiets es) ((evalAs cf ms es e).bd (cllD cf id d)) := by
  simp only [evalE, gd]
  split
  · cases evalAs cf ms es e with
    | ok as e1 => simp only [R.bd_ok, List.map_cons, List.map_nil, cllD]; cases cf id (as ++ [.f d]) <;> rfl
    | exc c e1 => rfl
    | bad => rfl
  · rfl
/-! calls that change lists of ours -/
def cioR (ms : List Md) (es : List E) (e1 : Ev) : CR → R TV
  | .ok r outs => (R.lf (ioBack ms es outs e1) e1).bd fun e2 _ => .ok (.own r) e2
  | .exc c outs => (R.lf (ioBack ms es outs e1) e1).bd fun e2 _ => .exc c e2
  | .bad => .bad
def cioS (r : O) (e2 : Ev) (_ : Ev) : R TV := .ok (.own r) e2
@[simp] theorem cioS_d (r : O) (e2 e3 : Ev) : cioS r e2 e3 = .ok (.own r) e2 := rfl
def cioX (c : Nat) (e2 : Ev) (_ : Ev) : R TV := .exc c e2
@[simp] theorem cioX_d (c : Nat) (e2 e3 : Ev) : cioX c e2 e3 = .exc c e2 := rfl
@[simp] theorem cioR_ok (ms : List Md) (es : List E) (e1 : Ev) (r : O) (o : List (Option O)) : cioR ms es e1 (.ok r o) = (R.lf (ioBack ms es o e1) e1).bd (cioS r) := rfl
@[simp] theorem cioR_exc (ms : List Md) (es : List E) (e1 : Ev) (c : Nat) (o : List (Option O)) : cioR ms es e1 (.exc c o) = (R.lf (ioBack ms es o e1) e1).bd (cioX c) := rfl
def cioA (cf : CF) (id : Nat) (ms : List Md) (es : List E) (e1 : Ev) : Option (List AV) → R TV
  | none => .bad
  | some avs => cioR ms es e1 (cf id avs)
@[simp] theorem cioA_s (cf : CF) (id : Nat) (ms : List Md) (es : List E) (e1 : Ev) (avs : List AV) : cioA cf id ms es e1 (some avs) = cioR ms es e1 (cf id avs) := rfl
def cioK (cf : CF) (id : Nat) (ms : List Md) (es : List E) (fs : List D) (e1 : Ev) : R TV := gd (decide ((ioSlots ms es).Nodup ∧ (bSlots ms es).all (fun i => !(ioSlots ms es).contains i))) (cioA cf id ms es e1 (ioArgs ms es fs e1))
@[simp] theorem cioK_d (id : Nat) (ms : List Md) (es : List E) (fs : List D) : cioK cf id ms es fs e = gd (decide ((ioSlots ms es).Nodup ∧ (bSlots ms es).all (fun i => !(ioSlots ms es).contains i))) (cioA cf id ms es e (ioArgs ms es fs e)) := rfl
@[simp] theorem e_cio (id : Nat) (ms : List Md) (es : List E) : evalE cf (.cio id ms es) e = (evalFs cf ms es e).bd (cioK cf id ms es) := by
  simp only [evalE]
  cases evalFs cf ms es e with
  | ok fs e1 =>
    simp only [R.bd_ok, cioK, gd]
    split
    · rename_i h
      rw [if_pos (decide_eq_true h)]
      cases ioArgs ms es fs e1 with
      | none => rfl
      | some avs => simp only [cioA]; cases cf id avs <;> rfl
    · rename_i h
      rw [if_neg (by simpa using h)]
  | exc c e1 => rfl
  | bad => rfl
@[simp] theorem e_cfr (id : Nat) (ms : List Md) (es : List E) : evalE cf (.cfr id ms es) e = gd (quiets es) ((evalGs cf ms es e).bd (cllG cf id)) := by
  simp only [evalE, gd]
  split
  · cases evalGs cf ms es e with
    | ok as e1 => simp only [R.bd_ok, cllG]; cases cf id as <;> rfl
    | exc c e1 => rfl
    | bad => rfl
  · rfl
def garF (cf : CF) (ms : List Md) (xs : List E) (e1 : Ev) : Option D → R (List AV)
  | some d => (evalGs cf ms xs e1).bd fun r e2 => .ok (.f d :: r) e2
  | none => .bad
@[simp] theorem garF_s (ms : List Md) (xs : List E) (d : D) : garF cf ms xs e (some d) = (evalGs cf ms xs e).bd fun r e2 => .ok (.f d :: r) e2 := rfl
@[simp] theorem gs_nil : evalGs cf [] [] e = .ok [] e := rfl
def gsFK (cf : CF) (ms : List Md) (xs : List E) (o : O) (e1 : Ev) : R (List AV) := garF cf ms xs e1 (frzO o)
@[simp] theorem gsFK_d (ms : List Md) (xs : List E) (o : O) : gsFK cf ms xs o e = garF cf ms xs e (frzO o) := rfl
@[simp] theorem gs_f (ms : List Md) (x : E) (xs : List E) : evalGs cf (.f :: ms) (x :: xs) e = (stv x (evalE cf x e) e).bd (gsFK cf ms xs) := by
  simp only [evalGs]
  cases stv x (evalE cf x e) e with
  | ok o e1 => simp only [R.bd_ok, gsFK]; cases frzO o <;> rfl
  | exc c e1 => rfl
  | bad => rfl
def gsOK (cf : CF) (ms : List Md) (xs : List E) (t : TV) (e1 : Ev) : R (List AV) := match t with
  | .own o => (evalGs cf ms xs e1).bd fun r e2 => .ok (.io o :: r) e2
  | .brw _ => .bad
@[simp] theorem gsOK_d (ms : List Md) (xs : List E) (o : O) : gsOK cf ms xs (.own o) e = (evalGs cf ms xs e).bd fun r e2 => .ok (.io o :: r) e2 := rfl
@[simp] theorem gs_io (ms : List Md) (x : E) (xs : List E) : evalGs cf (.io :: ms) (x :: xs) e = (evalE cf x e).bd (gsOK cf ms xs) := by
  simp only [evalGs]
  cases evalE cf x e with
  | ok o e1 => cases o <;> rfl
  | exc c e1 => rfl
  | bad => rfl
/-! dicts -/
@[simp] theorem e_dnk : evalE cf .dnk e = .ok (.own (.dct (fzK []))) e := rfl
@[simp] theorem e_dnt : evalE cf .dnt e = .ok (.own (.dtp [])) e := rfl
def dinG (neg : Bool) (ta tb : TV) (e2 : Ev) : R TV := R.lf ((dLookN tb (rd ta)).map fun r => .own (.fz (.bool (if neg then !r.isSome else r.isSome)))) e2
@[simp] theorem dinG_d (neg : Bool) (ta tb : TV) : dinG neg ta tb e = R.lf ((dLookN tb (rd ta)).map fun r => .own (.fz (.bool (if neg then !r.isSome else r.isSome)))) e := rfl
def dinK (cf : CF) (neg : Bool) (b : E) (ta : TV) (e1 : Ev) : R TV := gd (quiet b || stable ta) ((evalE cf b e1).bd (dinG neg ta))
@[simp] theorem dinK_d (neg : Bool) (b : E) (ta : TV) : dinK cf neg b ta e = gd (quiet b || stable ta) ((evalE cf b e).bd (dinG neg ta)) := rfl
@[simp] theorem e_din (neg : Bool) (a b : E) : evalE cf (.din neg a b) e = (evalE cf a e).bd (dinK cf neg b) := rfl
def dixG (ta tb : TV) (e2 : Ev) : R TV := R.lf ((dLook ta (rd tb)).bind fun r => r.map fun d => .own (.fz d)) e2
@[simp] theorem dixG_d (ta tb : TV) : dixG ta tb e = R.lf ((dLook ta (rd tb)).bind fun r => r.map fun d => .own (.fz d)) e := rfl
def dixK (cf : CF) (b : E) (ta : TV) (e1 : Ev) : R TV := gd (quiet b || stable ta) ((evalE cf b e1).bd (dixG ta))
@[simp] theorem dixK_d (b : E) (ta : TV) : dixK cf b ta e = gd (quiet b || stable ta) ((evalE cf b e).bd (dixG ta)) := rfl
@[simp] theorem e_dix (a b : E) : evalE cf (.dix a b) e = (evalE cf a e).bd (dixK cf b) := rfl
def dgtG (ta tb tc : TV) (e3 : Ev) : R TV := R.lf ((dLook ta (rd tb)).map fun r => orT r tc) e3
@[simp] theorem dgtG_d (ta tb tc : TV) : dgtG ta tb tc e = R.lf ((dLook ta (rd tb)).map fun r => orT r tc) e := rfl
def dgtK (cf : CF) (c : E) (ta tb : TV) (e2 : Ev) : R TV := (evalE cf c e2).bd (dgtG ta tb)
@[simp] theorem dgtK_d (c : E) (ta tb : TV) : dgtK cf c ta tb e = (evalE cf c e).bd (dgtG ta tb) := rfl
def dgtJ (cf : CF) (b c : E) (ta : TV) (e1 : Ev) : R TV := gd (isDt ta) ((evalE cf b e1).bd (dgtK cf c ta))
@[simp] theorem dgtJ_d (b c : E) (ta : TV) : dgtJ cf b c ta e = gd (isDt ta) ((evalE cf b e).bd (dgtK cf c ta)) := rfl
@[simp] theorem e_dgt (a b c : E) : evalE cf (.dgt a b c) e = gd (quiet a && quiet b && quiet c) ((evalE cf a e).bd (dgtJ cf b c)) := rfl
def mvG (i : Nat) (e : Ev) : Option (Option SL) → R TV
  | some (some (.own o)) => .ok (.own o) (e.set i none)
  | _ => .bad
@[simp] theorem mvG_o (i : Nat) (e : Ev) (o : O) : mvG i e (some (some (.own o))) = .ok (.own o) (e.set i none) := rfl
@[simp] theorem e_mv (i : Nat) : evalE cf (.mv i) e = mvG i e e[i]? := by
  simp only [evalE]
  all_goals rfl
def dcpG (ta : TV) (e1 : Ev) : R TV := R.lf ((dicK ta).map fun es => .own (.dct (fzK es))) e1
@[simp] theorem dcpG_d (ta : TV) : dcpG ta e = R.lf ((dicK ta).map fun es => .own (.dct (fzK es))) e := rfl
@[simp] theorem e_dcp (a : E) : evalE cf (.dcp a) e = (evalE cf a e).bd dcpG := rfl
@[simp] theorem rdSlot_k (kvs : List (Key × O)) : rdSlot (.own (.dct kvs)) = .brw (.dct kvs) := rfl
@[simp] theorem rdSlot_kt (kvs : List (List Key × D)) : rdSlot (.own (.dtp kvs)) = .brw (.dtp kvs) := rfl
@[simp] theorem orT_s (d : D) (t : TV) : orT (some d) t = .own (.fz d) := rfl
@[simp] theorem orT_n (t : TV) : orT none t = t := rfl
@[simp] theorem dicK_b (es : List (Key × D)) : dicK (.brw (.dct (fzK es))) = some es := fzAllK_fzK es
@[simp] theorem dicK_o (es : List (Key × D)) : dicK (.own (.dct (fzK es))) = some es := fzAllK_fzK es
@[simp] theorem isDt_b (es : List (Key × D)) : isDt (.brw (.dct (fzK es))) = true := by unfold isDt; rw [dicK_b]; rfl
@[simp] theorem isDt_t (es : List (List Key × D)) : isDt (.brw (.dtp es)) = true := rfl
@[simp] theorem dLook_i (es : List (Key × D)) (i : Int) : dLook (.brw (.dct (fzK es))) (.int i) = some (valK es (.inl i)) := by unfold dLook; rw [dicK_b]; rfl
@[simp] theorem dLook_s (es : List (Key × D)) (i : Str) : dLook (.brw (.dct (fzK es))) (.str i) = some (valK es (.inr i)) := by unfold dLook; rw [dicK_b]; rfl
@[simp] theorem dLook_1 (es : List (List Key × D)) (i : Int) : dLook (.brw (.dtp es)) (.tuple [.int i]) = some (valK es [.inl i]) := rfl
@[simp] theorem dLook_2 (es : List (List Key × D)) (i j : Int) : dLook (.brw (.dtp es)) (.tuple [.int i, .int j]) = some (valK es [.inl i, .inl j]) := rfl
@[simp] theorem dLook_3 (es : List (List Key × D)) (i j k : Int) : dLook (.brw (.dtp es)) (.tuple [.int i, .int j, .int k]) = some (valK es [.inl i, .inl j, .inl k]) := rfl
@[simp] theorem dLookN_i (t : TV) (i : Int) : dLookN t (.int i) = dLook t (.int i) := rfl
@[simp] theorem dLookN_s (t : TV) (i : Str) : dLookN t (.str i) = dLook t (.str i) := rfl
@[simp] theorem dLookN_t (t : TV) (ds : List D) : dLookN t (.tuple ds) = dLook t (.tuple ds) := rfl
@[simp] theorem dLookN_n (es : List (Key × D)) : dLookN (.brw (.dct (fzK es))) .none = some none := by show (dicK _).map _ = _; rw [dicK_b]; rfl
@[simp] theorem putF_i (es : List (Key × D)) (i : Int) (d : D) : putF (.int i) (.fz d) (.dct (fzK es)) = if es.length < sizeLine then some (.dct (fzK (setK' es (.inl i) d))) else none := putF_k es (.inl i) d rfl
@[simp] theorem putF_s (es : List (Key × D)) (i : Str) (d : D) : putF (.str i) (.fz d) (.dct (fzK es)) = if es.length < sizeLine then some (.dct (fzK (setK' es (.inr i) d))) else none := putF_k es (.inr i) d rfl
@[simp] theorem putF_1 (es : List (List Key × D)) (i : Int) (d : D) : putF (.tuple [.int i]) (.fz d) (.dtp es) = if es.length < sizeLine then some (.dtp (setK' es [.inl i] d)) else none := rfl
@[simp] theorem putF_2 (es : List (List Key × D)) (i j : Int) (d : D) : putF (.tuple [.int i, .int j]) (.fz d) (.dtp es) = if es.length < sizeLine then some (.dtp (setK' es [.inl i, .inl j] d)) else none := rfl
def metG (m : Bm) (ta tb : TV) (e2 : Ev) : R TV := R.lf (metV m ta tb) e2
@[simp] theorem metG_d (m : Bm) (ta tb : TV) : metG m ta tb e = R.lf (metV m ta tb) e := rfl
def idxG (ta tb : TV) (e2 : Ev) : R TV := R.lf (idxV ta tb) e2
@[simp] theorem idxG_d (ta tb : TV) : idxG ta tb e = R.lf (idxV ta tb) e := rfl
def idxK (cf : CF) (b : E) (ta : TV) (e1 : Ev) : R TV := gd (isLsD ta) (gd (quiet b || stable ta) ((evalE cf b e1).bd (idxG ta)))
@[simp] theorem idxK_d (cf : CF) (b : E) (ta : TV) : idxK cf b ta e = gd (isLsD ta) (gd (quiet b || stable ta) ((evalE cf b e).bd (idxG ta))) := rfl
@[simp] theorem e_idx (a b : E) : evalE cf (.idx a b) e = (evalE cf a e).bd (idxK cf b) := rfl
@[simp] theorem isLsD_l (ds : List D) : isLsD (.own (.fz (.list ds))) = true := rfl
def metK (cf : CF) (m : Bm) (b : E) (ta : TV) (e1 : Ev) : R TV := gd (isStr ta) (gd (quiet b || stable ta) ((evalE cf b e1).bd (metG m ta)))
@[simp] theorem metK_d (m : Bm) (b : E) (ta : TV) : metK cf m b ta e = gd (isStr ta) (gd (quiet b || stable ta) ((evalE cf b e).bd (metG m ta))) := rfl
@[simp] theorem e_met (m : Bm) (a b : E) : evalE cf (.met m a b) e = (evalE cf a e).bd (metK cf m b) := rfl
def cndE (cf : CF) (c : E) (e : Ev) : R Bool := cnd c (evalE cf c e) e
@[simp] theorem cndE_d (c : E) : cndE cf c e = cnd c (evalE cf c e) e := rfl
def stvE (cf : CF) (x : E) (e : Ev) : R O := stv x (evalE cf x e) e
@[simp] theorem stvE_d (x : E) : stvE cf x e = stv x (evalE cf x e) e := rfl
@[simp] theorem e_lc (own : List Nat) (t : Tg) (k : Ik) (src : List E) (c elt : E) : evalE cf (.lc own t k src c elt) e = gd (quiets src && quiet c && quiet elt) (resL own t k (evalTs cf src) (cndE cf c) (stvE cf elt) e) := by
  simp only [evalE, gd]
  split <;> rfl
def tsK (cf : CF) (xs : List E) (t : TV) (e1 : Ev) : R (List TV) := (evalTs cf xs e1).bd fun ts e2 => .ok (t :: ts) e2
@[simp] theorem tsK_d (xs : List E) (t : TV) : tsK cf xs t e = (evalTs cf xs e).bd fun ts e2 => .ok (t :: ts) e2 := rfl
@[simp] theorem ts_nil : evalTs cf [] e = .ok [] e := rfl
@[simp] theorem ts_cons (x : E) (xs : List E) : evalTs cf (x :: xs) e = (evalE cf x e).bd (tsK cf xs) := rfl
def ssK (cf : CF) (xs : List E) (t : O) (e1 : Ev) : R (List O) := (evalSts cf xs e1).bd fun ts e2 => .ok (t :: ts) e2
@[simp] theorem ssK_d (xs : List E) (t : O) : ssK cf xs t e = (evalSts cf xs e).bd fun ts e2 => .ok (t :: ts) e2 := rfl
@[simp] theorem ss_nil : evalSts cf [] e = .ok [] e := rfl
@[simp] theorem ss_cons (x : E) (xs : List E) : evalSts cf (x :: xs) e = (stv x (evalE cf x e) e).bd (ssK cf xs) := rfl
def argF (cf : CF) (ms : List Md) (xs : List E) (e1 : Ev) : Option D → R (List AV)
  | some d => (evalAs cf ms xs e1).bd fun r e2 => .ok (.f d :: r) e2
  | none => .bad
@[simp] theorem argF_s (ms : List Md) (xs : List E) (d : D) : argF cf ms xs e (some d) = (evalAs cf ms xs e).bd fun r e2 => .ok (.f d :: r) e2 := rfl
def argB (cf : CF) (ms : List Md) (xs : List E) (e1 : Ev) : Option D → R (List AV)
  | some d => (evalAs cf ms xs e1).bd fun r e2 => .ok (.b d :: r) e2
  | none => .bad
@[simp] theorem argB_s (ms : List Md) (xs : List E) (d : D) : argB cf ms xs e (some d) = (evalAs cf ms xs e).bd fun r e2 => .ok (.b d :: r) e2 := rfl
@[simp] theorem as_nil : evalAs cf [] [] e = .ok [] e := rfl
def asFK (cf : CF) (ms : List Md) (xs : List E) (o : O) (e1 : Ev) : R (List AV) := argF cf ms xs e1 (frzO o)
@[simp] theorem asFK_d (ms : List Md) (xs : List E) (o : O) : asFK cf ms xs o e = argF cf ms xs e (frzO o) := rfl
@[simp] theorem as_f (ms : List Md) (x : E) (xs : List E) : evalAs cf (.f :: ms) (x :: xs) e = (stv x (evalE cf x e) e).bd (asFK cf ms xs) := by
  simp only [evalAs]
  cases stv x (evalE cf x e) e with
  | ok o e1 => simp only [R.bd_ok, asFK]; cases frzO o <;> rfl
  | exc c e1 => rfl
  | bad => rfl
def asBK (cf : CF) (ms : List Md) (xs : List E) (o : TV) (e1 : Ev) : R (List AV) := argB cf ms xs e1 (shallow (tvO o))
@[simp] theorem asBK_d (ms : List Md) (xs : List E) (o : TV) : asBK cf ms xs o e = argB cf ms xs e (shallow (tvO o)) := rfl
@[simp] theorem as_b (ms : List Md) (x : E) (xs : List E) : evalAs cf (.b :: ms) (x :: xs) e = (evalE cf x e).bd (asBK cf ms xs) := by
  simp only [evalAs]
  cases evalE cf x e with
  | ok o e1 => simp only [R.bd_ok, asBK]; cases shallow (tvO o) <;> rfl
  | exc c e1 => rfl
  | bad => rfl
/-! calls that change lists of ours: their arguments -/
def fsC (d : D) (ds : List D) (e2 : Ev) : R (List D) := .ok (d :: ds) e2
@[simp] theorem fsC_d (d : D) (ds : List D) : fsC d ds e = .ok (d :: ds) e := rfl
def fsF (cf : CF) (ms : List Md) (xs : List E) (e1 : Ev) : Option D → R (List D)
  | some d => (evalFs cf ms xs e1).bd (fsC d)
  | none => .bad
@[simp] theorem fsF_s (ms : List Md) (xs : List E) (d : D) : fsF cf ms xs e (some d) = (evalFs cf ms xs e).bd (fsC d) := rfl
def fsFK (cf : CF) (ms : List Md) (xs : List E) (o : O) (e1 : Ev) : R (List D) := fsF cf ms xs e1 (frzO o)
@[simp] theorem fsFK_d (ms : List Md) (xs : List E) (o : O) : fsFK cf ms xs o e = fsF cf ms xs e (frzO o) := rfl
@[simp] theorem fs_nil : evalFs cf [] [] e = .ok [] e := rfl
@[simp] theorem fs_f (ms : List Md) (x : E) (xs : List E) : evalFs cf (.f :: ms) (x :: xs) e = (stv x (evalE cf x e) e).bd (fsFK cf ms xs) := by
  simp only [evalFs]
  cases stv x (evalE cf x e) e with
  | ok o e1 => simp only [R.bd_ok, fsFK]; cases frzO o <;> rfl
  | exc c e1 => rfl
  | bad => rfl
def fsV (cf : CF) (ms : List Md) (xs : List E) (e : Ev) : Option (Option SL) → R (List D)
  | some (some _) => evalFs cf ms xs e
  | _ => .bad
@[simp] theorem fsV_s (ms : List Md) (xs : List E) (s : SL) : fsV cf ms xs e (some (some s)) = evalFs cf ms xs e := rfl
@[simp] theorem fs_b (ms : List Md) (i : Nat) (xs : List E) : evalFs cf (.b :: ms) (.var i :: xs) e = fsV cf ms xs e e[i]? := by
  simp only [evalFs]
  cases e[i]? with
  | none => rfl
  | some o => cases o <;> rfl
@[simp] theorem fs_io (ms : List Md) (i : Nat) (xs : List E) : evalFs cf (.io :: ms) (.var i :: xs) e = fsV cf ms xs e e[i]? := by
  simp only [evalFs]
  cases e[i]? with
  | none => rfl
  | some o => cases o <;> rfl
@[simp] theorem ioS_n : ioSlots [] [] = [] := rfl
@[simp] theorem ioS_f (ms : List Md) (x : E) (es : List E) : ioSlots (.f :: ms) (x :: es) = ioSlots ms es := by simp [ioSlots]
@[simp] theorem ioS_b (ms : List Md) (x : E) (es : List E) : ioSlots (.b :: ms) (x :: es) = ioSlots ms es := by simp [ioSlots]
@[simp] theorem ioS_io (ms : List Md) (i : Nat) (es : List E) : ioSlots (.io :: ms) (.var i :: es) = i :: ioSlots ms es := by simp [ioSlots]
@[simp] theorem bS_n : bSlots [] [] = [] := rfl
@[simp] theorem bS_f (ms : List Md) (x : E) (es : List E) : bSlots (.f :: ms) (x :: es) = bSlots ms es := by simp [bSlots]
@[simp] theorem bS_io (ms : List Md) (x : E) (es : List E) : bSlots (.io :: ms) (x :: es) = bSlots ms es := by simp [bSlots]
@[simp] theorem bS_b (ms : List Md) (i : Nat) (es : List E) : bSlots (.b :: ms) (.var i :: es) = i :: bSlots ms es := by simp [bSlots]
def consO {α : Type} : Option α → Option (List α) → Option (List α)
  | some a, some r => some (a :: r)
  | _, _ => none
@[simp] theorem consO_s {α : Type} (a : α) (r : List α) : consO (some a) (some r) = some (a :: r) := rfl
@[simp] theorem ioA_n : ioArgs [] [] [] e = some [] := rfl
@[simp] theorem ioA_f (ms : List Md) (x : E) (es : List E) (d : D) (fs : List D) : ioArgs (.f :: ms) (x :: es) (d :: fs) e = consO (some (.f d)) (ioArgs ms es fs e) := by
  simp only [ioArgs]
  cases ioArgs ms es fs e <;> rfl
@[simp] theorem ioA_b (ms : List Md) (i : Nat) (es : List E) (fs : List D) : ioArgs (.b :: ms) (.var i :: es) fs e = consO ((brwAt e i).map .b) (ioArgs ms es fs e) := by
  simp only [ioArgs]
  cases brwAt e i <;> cases ioArgs ms es fs e <;> rfl
@[simp] theorem ioA_io (ms : List Md) (i : Nat) (es : List E) (fs : List D) : ioArgs (.io :: ms) (.var i :: es) fs e = consO ((ioAt e i).map .io) (ioArgs ms es fs e) := by
  simp only [ioArgs]
  cases ioAt e i <;> cases ioArgs ms es fs e <;> rfl
def brwG : Option (Option SL) → Option D
  | some (some (.own o)) => shallow o
  | some (some (.par d)) => some d
  | _ => none
@[simp] theorem brwG_o (o : O) : brwG (some (some (.own o))) = shallow o := rfl
@[simp] theorem brwG_p (d : D) : brwG (some (some (.par d))) = some d := rfl
@[simp] theorem brwAt_d (i : Nat) : brwAt e i = brwG e[i]? := by unfold brwAt brwG; rfl
def ioG : Option (Option SL) → Option O
  | some (some (.own o)) => some o
  | _ => none
@[simp] theorem ioG_o (o : O) : ioG (some (some (.own o))) = some o := rfl
@[simp] theorem ioAt_d (i : Nat) : ioAt e i = ioG e[i]? := by unfold ioAt ioG; rfl
@[simp] theorem ioB_n : ioBack [] [] [] e = some e := rfl
@[simp] theorem ioB_f (ms : List Md) (x : E) (es : List E) (o : Option O) (os : List (Option O)) : ioBack (.f :: ms) (x :: es) (o :: os) e = ioBack ms es os e := by simp [ioBack]
@[simp] theorem ioB_b (ms : List Md) (x : E) (es : List E) (o : Option O) (os : List (Option O)) : ioBack (.b :: ms) (x :: es) (o :: os) e = ioBack ms es os e := by simp [ioBack]
@[simp] theorem ioB_io (ms : List Md) (i : Nat) (es : List E) (o : O) (os : List (Option O)) : ioBack (.io :: ms) (.var i :: es) (some o :: os) e = ioBack ms es os (e.set i (some (.own o))) := by simp [ioBack]
@[simp] theorem frzO_fz (d : D) : frzO (.fz d) = some d := rfl
theorem noInss_fz : ∀ ds : List D, noInss (ds.map O.fz) = true
  | [] => rfl
  | _ :: r => by simp only [List.map_cons, noInss, noIns, noInss_fz r]; rfl
theorem noIns_fzs (ds : List D) : noIns (.lst (fzs ds)) = true := noInss_fz ds
@[simp] theorem frzO_lfz (ds : List D) : frzO (.lst (fzs ds)) = some (.list ds) := by
  unfold frzO
  rw [noIns_fzs, if_pos rfl, toD_lst, toD_fzs]
@[simp] theorem fznV_f (d : D) : fznV (.own (.fz d)) = some (.own (.fz d)) := rfl
@[simp] theorem fznV_l (ds : List D) : fznV (.own (.lst (fzs ds))) = some (.own (.fz (.list ds))) := by
  show (if noIns (.lst (fzs ds)) then some (fl (toD (.lst (fzs ds)))) else none) = _
  rw [noIns_fzs, if_pos rfl, toD_lst, toD_fzs]
theorem noIns_tup (os : List O) (h : noInss os = true) : noIns (.tup os) = true := h
@[simp] theorem noInss_n : noInss [] = true := rfl
@[simp] theorem noInss_cf (d : D) (os : List O) : noInss (.fz d :: os) = noInss os := by simp [noInss, noIns]
@[simp] theorem noInss_cl (x : List O) (os : List O) : noInss (.lst x :: os) = (noInss x && noInss os) := by simp [noInss, noIns]
@[simp] theorem noInss_ct (x : List O) (os : List O) : noInss (.tup x :: os) = (noInss x && noInss os) := by simp [noInss, noIns]
@[simp] theorem noInss_fzs (ds : List D) : noInss (fzs ds) = true := noInss_fz ds
@[simp] theorem fznV_t (os : List O) : fznV (.own (.tup os)) = if noInss os then some (.own (.fz (.tuple (os.map toD)))) else none := by
  show (if noIns (.tup os) then some (fl (toD (.tup os))) else none) = _
  rw [toD_tup]; rfl
@[simp] theorem frzO_t (os : List O) : frzO (.tup os) = if noInss os then some (.tuple (os.map toD)) else none := by
  unfold frzO
  rw [toD_tup]; rfl
@[simp] theorem fznV_ll (os : List O) : fznV (.own (.lst os)) = if noInss os then some (.own (.fz (.list (os.map toD)))) else none := by
  show (if noIns (.lst os) then some (fl (toD (.lst os))) else none) = _
  rw [toD_lst]; rfl
@[simp] theorem fziV_l (ds : List D) : fziV (.own (.lst (fzs ds))) = some (.own (.lst (fzs ds))) := by
  unfold fziV
  dsimp only
  rw [noInss_fzs, if_pos rfl]
  have : (fzs ds).map toD = ds := toD_fzs ds
  rw [this]
  rfl
@[simp] theorem fziV_ll (os : List O) : fziV (.own (.lst os)) = if noInss os then some (.own (.lst (fzs (os.map toD)))) else none := rfl
@[simp] theorem fziV_f (d : D) : fziV (.own (.fz d)) = some (.own (.fz d)) := rfl
@[simp] theorem frz1_n : frz1 none = none := rfl
@[simp] theorem frz1_p (d : D) : frz1 (some (.par d)) = some (.par d) := rfl
@[simp] theorem frz1_f (d : D) : frz1 (some (.own (.fz d))) = some (.own (.fz d)) := rfl
@[simp] theorem frz1_l (ds : List D) : frz1 (some (.own (.lst (fzs ds)))) = some (.own (.fz (.list ds))) := by
  show (if noIns (.lst (fzs ds)) then some (SL.own (.fz (toD (.lst (fzs ds))))) else none) = _
  rw [noIns_fzs, if_pos rfl, toD_lst, toD_fzs]
@[simp] theorem frz1_ll (os : List O) : frz1 (some (.own (.lst os))) = if noInss os then some (.own (.fz (.list (os.map toD)))) else none := by
  show (if noIns (.lst os) then some (SL.own (.fz (toD (.lst os)))) else none) = _
  rw [toD_lst]; rfl
@[simp] theorem frz1_t (os : List O) : frz1 (some (.own (.tup os))) = if noInss os then some (.own (.fz (.tuple (os.map toD)))) else none := by
  show (if noIns (.tup os) then some (SL.own (.fz (toD (.tup os)))) else none) = _
  rw [toD_tup]; rfl
@[simp] theorem frzE_n : frzE [] = [] := rfl
@[simp] theorem frzE_c (s : Option SL) (e : Ev) : frzE (s :: e) = frz1 s :: frzE e := rfl
@[simp] theorem dpR_f (e e1 : Ev) (d : D) : dpR e (.ok (.own (.fz d)) e1) = if flatD d then .ok (.own (.fz d)) e else .bad := rfl
@[simp] theorem dpR_l (e e1 : Ev) (os : List O) : dpR e (.ok (.own (.lst os)) e1) = if plainO.plainOs os then .ok (.own (.lst os)) e else .bad := rfl
@[simp] theorem dpR_t (e e1 : Ev) (os : List O) : dpR e (.ok (.own (.tup os)) e1) = if plainO.plainOs os then .ok (.own (.tup os)) e else .bad := rfl
@[simp] theorem dpR_x (e e1 : Ev) (c : Nat) : dpR e (.exc c e1) = .exc c e := rfl
@[simp] theorem dpR_b (e : Ev) : dpR e .bad = .bad := rfl
@[simp] theorem shallow_fz (d : D) : shallow (.fz d) = some d := rfl
@[simp] theorem shallow_lfz (ds : List D) : shallow (.lst (fzs ds)) = some (.list ds) := by simp [shallow]
/-! storing -/
def stvG (i : Nat) (e : Ev) : Option (Option SL) → R O
  | some (some (.own (.fz d))) => .ok (.fz d) e
  | some (some (.own o)) => if noIns o then .ok (.fz (toD o)) (e.set i (some (.own (.fz (toD o))))) else .bad
  | some (some (.par d)) => match O1 d with
    | .fz d' => .ok (.fz d') e
    | _ => .bad
  | _ => .bad
@[simp] theorem stvG_fz (i : Nat) (d : D) : stvG i e (some (some (.own (.fz d)))) = .ok (.fz d) e := rfl
@[simp] theorem stvG_lst (i : Nat) (ds : List D) : stvG i e (some (some (.own (.lst (fzs ds))))) = .ok (.fz (.list ds)) (e.set i (some (.own (.fz (.list ds))))) := by
  show (if noIns (.lst (fzs ds)) then R.ok (O.fz (toD (.lst (fzs ds)))) (e.set i (some (.own (.fz (toD (.lst (fzs ds))))))) else .bad) = _
  rw [noIns_fzs, if_pos rfl, toD_lst, toD_fzs]
@[simp] theorem stv_var (i : Nat) (r : R TV) : stv (.var i) r e = stvG i e e[i]? := rfl
def stvB (t : TV) (e1 : Ev) : R O := match t with
  | .own o => .ok o e1
  | .brw (.fz d) => .ok (.fz d) e1
  | .brw _ => .bad
@[simp] theorem stvB_own (o : O) : stvB (.own o) e = .ok o e := rfl
@[simp] theorem stvB_bfz (d : D) : stvB (.brw (.fz d)) e = .ok (.fz d) e := rfl
theorem stv_nv {x : E} (h : ∀ i, x ≠ .var i) (r : R TV) : stv x r e = r.bd stvB := by
  cases x <;> first | rfl | exact absurd rfl (h _)
@[simp] theorem stv_con (d : D) (r : R TV) : stv (.con d) r e = r.bd stvB := rfl
@[simp] theorem stv_glb (x : Str) (d : D) (r : R TV) : stv (.glb x d) r e = r.bd stvB := rfl
@[simp] theorem stv_bin (o : Operator) (a b : E) (r : R TV) : stv (.bin o a b) r e = r.bd stvB := rfl
@[simp] theorem stv_fzi (a : E) (r : R TV) : stv (.fzi a) r e = r.bd stvB := rfl
@[simp] theorem stv_dp (a : E) (r : R TV) : stv (.dp a) r e = r.bd stvB := rfl
@[simp] theorem stv_fzn (a : E) (r : R TV) : stv (.fzn a) r e = r.bd stvB := rfl
@[simp] theorem stv_neg (a : E) (r : R TV) : stv (.neg a) r e = r.bd stvB := rfl
@[simp] theorem stv_chn (o q : CmpOp) (a b c : E) (r : R TV) : stv (.chn o q a b c) r e = r.bd stvB := rfl
@[simp] theorem stv_cmp (o : CmpOp) (a b : E) (r : R TV) : stv (.cmp o a b) r e = r.bd stvB := rfl
@[simp] theorem stv_and (a b : E) (r : R TV) : stv (.and a b) r e = r.bd stvB := rfl
@[simp] theorem stv_or (a b : E) (r : R TV) : stv (.or a b) r e = r.bd stvB := rfl
@[simp] theorem stv_not (a : E) (r : R TV) : stv (.not a) r e = r.bd stvB := rfl
@[simp] theorem stv_ite (a b c : E) (r : R TV) : stv (.ite a b c) r e = r.bd stvB := rfl
@[simp] theorem stv_ix (a b : E) (r : R TV) : stv (.ix a b) r e = r.bd stvB := rfl
@[simp] theorem stv_slc (a b c : E) (r : R TV) : stv (.slc a b c) r e = r.bd stvB := rfl
@[simp] theorem stv_tup (a : List E) (r : R TV) : stv (.tup a) r e = r.bd stvB := rfl
@[simp] theorem stv_lst (a : List E) (r : R TV) : stv (.lst a) r e = r.bd stvB := rfl
@[simp] theorem stv_cio (i : Nat) (m : List Md) (a : List E) (r : R TV) : stv (.cio i m a) r e = r.bd stvB := rfl
@[simp] theorem stv_idx (a b : E) (r : R TV) : stv (.idx a b) r e = r.bd stvB := rfl
@[simp] theorem stv_cfr (i : Nat) (m : List Md) (a : List E) (r : R TV) : stv (.cfr i m a) r e = r.bd stvB := rfl
@[simp] theorem stv_call (i : Nat) (m : List Md) (a : List E) (d : List D) (r : R TV) : stv (.call i m a d) r e = r.bd stvB := rfl
@[simp] theorem stv_blt (f : Bf) (a : List E) (r : R TV) : stv (.blt f a) r e = r.bd stvB := rfl
@[simp] theorem stv_dnk (r : R TV) : stv .dnk r e = r.bd stvB := rfl
@[simp] theorem stv_dnt (r : R TV) : stv .dnt r e = r.bd stvB := rfl
@[simp] theorem stv_din (n : Bool) (a b : E) (r : R TV) : stv (.din n a b) r e = r.bd stvB := rfl
@[simp] theorem stv_dix (a b : E) (r : R TV) : stv (.dix a b) r e = r.bd stvB := rfl
@[simp] theorem stv_dgt (a b c : E) (r : R TV) : stv (.dgt a b c) r e = r.bd stvB := rfl
@[simp] theorem stv_mv (i : Nat) (r : R TV) : stv (.mv i) r e = r.bd stvB := rfl
@[simp] theorem stv_dcp (a : E) (r : R TV) : stv (.dcp a) r e = r.bd stvB := rfl
@[simp] theorem stv_isi (a : E) (t : Ty) (r : R TV) : stv (.isi a t) r e = r.bd stvB := rfl
@[simp] theorem stv_met (m : Bm) (a b : E) (r : R TV) : stv (.met m a b) r e = r.bd stvB := rfl
@[simp] theorem stv_lc (o : List Nat) (t : Tg) (k : Ik) (s : List E) (c x : E) (r : R TV) : stv (.lc o t k s c x) r e = r.bd stvB := rfl
/-! handing back -/
def retG (i : Nat) (e : Ev) : Option (Option SL) → R O
  | some (some (.own o)) => .ok o (e.set i none)
  | z => stvG i e z
@[simp] theorem retG_own (i : Nat) (o : O) : retG i e (some (some (.own o))) = .ok o (e.set i none) := rfl
theorem retv_var (p : List Nat) (i : Nat) (r : R TV) (h : p.contains i = false) : retv p (.var i) r e = retG i e e[i]? := by
  simp only [retv, h, Bool.false_eq_true, if_false]
  rw [stv_var]
  generalize e[i]? = z
  cases z with
  | none => rfl
  | some z => cases z with
    | none => rfl
    | some s => cases s <;> rfl
@[simp] theorem retv_v0 (i : Nat) (r : R TV) : retv [] (.var i) r e = retG i e e[i]? := retv_var e [] i r rfl
theorem retv_nv {x : E} (p : List Nat) (h : ∀ i, x ≠ .var i) (r : R TV) : retv p x r e = r.bd stvB := by
  cases x <;> first | rfl | exact absurd rfl (h _)
@[simp] theorem retv_con (p : List Nat) (d : D) (r : R TV) : retv p (.con d) r e = r.bd stvB := rfl
@[simp] theorem retv_glb (p : List Nat) (x : Str) (d : D) (r : R TV) : retv p (.glb x d) r e = r.bd stvB := rfl
@[simp] theorem retv_bin (p : List Nat) (o : Operator) (a b : E) (r : R TV) : retv p (.bin o a b) r e = r.bd stvB := rfl
@[simp] theorem retv_fzi (p : List Nat) (a : E) (r : R TV) : retv p (.fzi a) r e = r.bd stvB := rfl
@[simp] theorem retv_dp (p : List Nat) (a : E) (r : R TV) : retv p (.dp a) r e = r.bd stvB := rfl
@[simp] theorem retv_fzn (p : List Nat) (a : E) (r : R TV) : retv p (.fzn a) r e = r.bd stvB := rfl
@[simp] theorem retv_neg (p : List Nat) (a : E) (r : R TV) : retv p (.neg a) r e = r.bd stvB := rfl
@[simp] theorem retv_chn (p : List Nat) (o q : CmpOp) (a b c : E) (r : R TV) : retv p (.chn o q a b c) r e = r.bd stvB := rfl
@[simp] theorem retv_cmp (p : List Nat) (o : CmpOp) (a b : E) (r : R TV) : retv p (.cmp o a b) r e = r.bd stvB := rfl
@[simp] theorem retv_and (p : List Nat) (a b : E) (r : R TV) : retv p (.and a b) r e = r.bd stvB := rfl
@[simp] theorem retv_or (p : List Nat) (a b : E) (r : R TV) : retv p (.or a b) r e = r.bd stvB := rfl
@[simp] theorem retv_not (p : List Nat) (a : E) (r : R TV) : retv p (.not a) r e = r.bd stvB := rfl
@[simp] theorem retv_ite (p : List Nat) (a b c : E) (r : R TV) : retv p (.ite a b c) r e = r.bd stvB := rfl
@[simp] theorem retv_ix (p : List Nat) (a b : E) (r : R TV) : retv p (.ix a b) r e = r.bd stvB := rfl
@[simp] theorem retv_slc (p : List Nat) (a b c : E) (r : R TV) : retv p (.slc a b c) r e = r.bd stvB := rfl
@[simp] theorem retv_tup (p : List Nat) (a : List E) (r : R TV) : retv p (.tup a) r e = r.bd stvB := rfl
@[simp] theorem retv_lst (p : List Nat) (a : List E) (r : R TV) : retv p (.lst a) r e = r.bd stvB := rfl
@[simp] theorem retv_cio (p : List Nat) (i : Nat) (m : List Md) (a : List E) (r : R TV) : retv p (.cio i m a) r e = r.bd stvB := rfl
@[simp] theorem retv_idx (p : List Nat) (a b : E) (r : R TV) : retv p (.idx a b) r e = r.bd stvB := rfl
@[simp] theorem retv_cfr (p : List Nat) (i : Nat) (m : List Md) (a : List E) (r : R TV) : retv p (.cfr i m a) r e = r.bd stvB := rfl
@[simp] theorem retv_call (p : List Nat) (i : Nat) (m : List Md) (a : List E) (d : List D) (r : R TV) : retv p (.call i m a d) r e = r.bd stvB := rfl
@[simp] theorem retv_blt (p : List Nat) (f : Bf) (a : List E) (r : R TV) : retv p (.blt f a) r e = r.bd stvB := rfl
@[simp] theorem retv_dnk (p : List Nat) (r : R TV) : retv p .dnk r e = r.bd stvB := rfl
@[simp] theorem retv_dnt (p : List Nat) (r : R TV) : retv p .dnt r e = r.bd stvB := rfl
@[simp] theorem retv_din (p : List Nat) (n : Bool) (a b : E) (r : R TV) : retv p (.din n a b) r e = r.bd stvB := rfl
@[simp] theorem retv_dix (p : List Nat) (a b : E) (r : R TV) : retv p (.dix a b) r e = r.bd stvB := rfl
@[simp] theorem retv_dgt (p : List Nat) (a b c : E) (r : R TV) : retv p (.dgt a b c) r e = r.bd stvB := rfl
@[simp] theorem retv_mv (p : List Nat) (i : Nat) (r : R TV) : retv p (.mv i) r e = r.bd stvB := rfl
@[simp] theorem retv_dcp (p : List Nat) (a : E) (r : R TV) : retv p (.dcp a) r e = r.bd stvB := rfl
@[simp] theorem retv_isi (p : List Nat) (a : E) (t : Ty) (r : R TV) : retv p (.isi a t) r e = r.bd stvB := rfl
@[simp] theorem retv_met (p : List Nat) (m : Bm) (a b : E) (r : R TV) : retv p (.met m a b) r e = r.bd stvB := rfl
@[simp] theorem retv_lc (p : List Nat) (o : List Nat) (t : Tg) (k : Ik) (s : List E) (c x : E) (r : R TV) : retv p (.lc o t k s c x) r e = r.bd stvB := rfl
@[simp] theorem asgG_d (p : List Nat) (t : Tg) (o : O) : asgG p t o e = (R.lf (asgT p t o e) e).bd fun e2 _ => .ok .nx e2 := rfl
@[simp] theorem asgT_nm (p : List Nat) (i : Nat) (o : O) : asgT p (.nm i) o e = if p.contains i || decide (e.length ≤ i) then none else some (e.set i (some (.own o))) := by simp only [asgT]
@[simp] theorem asgT_tt (p : List Nat) (ts : List Tg) (ds : List D) : asgT p (.tp ts) (.fz (.tuple ds)) e = asgTs p ts (ds.map .fz) e := by simp only [asgT]
@[simp] theorem asgT_tl (p : List Nat) (ts : List Tg) (ds : List D) : asgT p (.tp ts) (.fz (.list ds)) e = asgTs p ts (ds.map .fz) e := by simp only [asgT]
@[simp] theorem asgT_to (p : List Nat) (ts : List Tg) (os : List O) : asgT p (.tp ts) (.tup os) e = asgTs p ts os e := by simp only [asgT]
def asgK (p : List Nat) (ts : List Tg) (os : List O) : Option Ev → Option Ev
  | some e' => asgTs p ts os e'
  | none => none
@[simp] theorem asgK_s (p : List Nat) (ts : List Tg) (os : List O) : asgK p ts os (some e) = asgTs p ts os e := rfl
@[simp] theorem asgTs_n (p : List Nat) : asgTs p [] [] e = some e := by simp only [asgTs]
@[simp] theorem asgTs_c (p : List Nat) (t : Tg) (ts : List Tg) (o : O) (os : List O) : asgTs p (t :: ts) (o :: os) e = asgK p ts os (asgT p t o e) := by
  simp only [asgTs]
  cases asgT p t o e <;> rfl
end
/-! quiet -/
section
@[simp] theorem q_con (d : D) : quiet (.con d) = true := rfl
@[simp] theorem q_nul : quiet .nul = true := rfl
@[simp] theorem q_var (i : Nat) : quiet (.var i) = true := rfl
@[simp] theorem q_glb (x : Str) (d : D) : quiet (.glb x d) = true := rfl
@[simp] theorem q_bin (o : Operator) (a b : E) : quiet (.bin o a b) = (quiet a && quiet b) := rfl
@[simp] theorem q_fzi (a : E) : quiet (.fzi a) = quiet a := rfl
@[simp] theorem q_dp (a : E) : quiet (.dp a) = true := rfl
@[simp] theorem q_fzn (a : E) : quiet (.fzn a) = quiet a := rfl
@[simp] theorem q_neg (a : E) : quiet (.neg a) = quiet a := rfl
@[simp] theorem q_cmp (o : CmpOp) (a b : E) : quiet (.cmp o a b) = (quiet a && quiet b) := rfl
@[simp] theorem q_chn (o q : CmpOp) (a b c : E) : quiet (.chn o q a b c) = (quiet a && quiet b && quiet c) := rfl
@[simp] theorem q_and (a b : E) : quiet (.and a b) = (quiet a && quiet b) := rfl
@[simp] theorem q_or (a b : E) : quiet (.or a b) = (quiet a && quiet b) := rfl
@[simp] theorem q_not (a : E) : quiet (.not a) = quiet a := rfl
@[simp] theorem q_ite (c a b : E) : quiet (.ite c a b) = (quiet c && quiet a && quiet b) := rfl
@[simp] theorem q_ix (a b : E) : quiet (.ix a b) = (quiet a && quiet b) := rfl
@[simp] theorem q_slc (a b c : E) : quiet (.slc a b c) = (quiet a && quiet b && quiet c) := rfl
@[simp] theorem q_tup (a : List E) : quiet (.tup a) = quiets a := rfl
@[simp] theorem q_lst (a : List E) : quiet (.lst a) = quiets a := rfl
@[simp] theorem q_call (i : Nat) (m : List Md) (a : List E) (d : List D) : quiet (.call i m a d) = quiets a := rfl
@[simp] theorem q_cio (i : Nat) (m : List Md) (a : List E) : quiet (.cio i m a) = false := rfl
@[simp] theorem q_idx (a b : E) : quiet (.idx a b) = (quiet a && quiet b) := rfl
@[simp] theorem q_cfr (i : Nat) (m : List Md) (a : List E) : quiet (.cfr i m a) = false := rfl
@[simp] theorem q_blt (f : Bf) (a : List E) : quiet (.blt f a) = quiets a := rfl
@[simp] theorem q_dnk : quiet .dnk = true := rfl
@[simp] theorem q_dnt : quiet .dnt = true := rfl
@[simp] theorem q_din (n : Bool) (a b : E) : quiet (.din n a b) = (quiet a && quiet b) := rfl
@[simp] theorem q_dix (a b : E) : quiet (.dix a b) = (quiet a && quiet b) := rfl
@[simp] theorem q_dgt (a b c : E) : quiet (.dgt a b c) = (quiet a && quiet b && quiet c) := rfl
@[simp] theorem q_mv (i : Nat) : quiet (.mv i) = true := rfl
@[simp] theorem q_dcp (a : E) : quiet (.dcp a) = quiet a := rfl
@[simp] theorem q_isi (a : E) (t : Ty) : quiet (.isi a t) = quiet a := rfl
@[simp] theorem q_met (m : Bm) (a b : E) : quiet (.met m a b) = (quiet a && quiet b) := rfl
@[simp] theorem q_lc (o : List Nat) (t : Tg) (k : Ik) (s : List E) (c x : E) : quiet (.lc o t k s c x) = (quiets s && quiet c && quiet x) := rfl
@[simp] theorem q_n : quiets [] = true := rfl
@[simp] theorem q_c (a : E) (as : List E) : quiets (a :: as) = (quiet a && quiets as) := rfl
end
/-! ### values of except suites -/
section
variable (c : Nat) (e : Ev)
@[simp] theorem vH_n : vH c (.con .none) e = some (.own (.fz .none)) := rfl
@[simp] theorem vH_b (b : Bool) : vH c (.con (.bool b)) e = some (.own (.fz (.bool b))) := rfl
@[simp] theorem vH_i (i : Int) : vH c (.con (.int i)) e = some (.own (.fz (.int i))) := rfl
@[simp] theorem vH_s (z : Str) : vH c (.con (.str z)) e = some (.own (.fz (.str z))) := rfl
def vVar : Option (Option SL) → Option TV
  | some (some s) => some (rdSlot s)
  | _ => none
@[simp] theorem vVar_s (s : SL) : vVar (some (some s)) = some (rdSlot s) := rfl
@[simp] theorem vH_var (i : Nat) : vH c (.var i) e = vVar e[i]? := by
  simp only [vH]; rfl
@[simp] theorem vH_isx (i n : Nat) (ids : List Nat) : vH c (.isx i n ids) e = some (.own (.fz (.bool (ids.contains c)))) := rfl
@[simp] theorem vH_isv (i : Nat) : vH c (.isv i) e = some (.own (.fz (.bool true))) := rfl
def vOr : Option TV → Option TV → Option TV
  | some (.own (.fz (.bool true))), _ => some (fl (.bool true))
  | some (.own (.fz (.bool false))), y => y
  | _, _ => none
@[simp] theorem vOr_b (b k : Bool) : vOr (some (.own (.fz (.bool b)))) (some (.own (.fz (.bool k)))) = some (.own (.fz (.bool (b || k)))) := by cases b <;> rfl
@[simp] theorem vH_or (x y : HE) : vH c (.or x y) e = vOr (vH c x e) (vH c y e) := by
  simp only [vH]
  cases vH c x e with
  | none => rfl
  | some t => cases t with
    | brw o => rfl
    | own o => cases o with
      | fz d => cases d with
        | bool b => cases b <;> rfl
        | _ => rfl
      | _ => rfl
def vInt : Option TV → Option TV
  | some (.own (.fz (.bool k))) => some (fl (.int (if k then 1 else 0)))
  | _ => none
@[simp] theorem vInt_b (b : Bool) : vInt (some (.own (.fz (.bool b)))) = some (.own (.fz (.int (if b then 1 else 0)))) := rfl
@[simp] theorem vH_int (x : HE) : vH c (.int x) e = vInt (vH c x e) := by
  simp only [vH]; rfl
def vAdd : Option TV → Option TV → Option TV
  | some a, some b => binOp .Add a b
  | _, _ => none
@[simp] theorem vAdd_s (a b : TV) : vAdd (some a) (some b) = binOp .Add a b := rfl
@[simp] theorem vH_add (x y : HE) : vH c (.add x y) e = vAdd (vH c x e) (vH c y e) := by
  simp only [vH]; rfl
def vCons : Option TV → Option (List O) → Option (List O)
  | some (.own o), some os => some (o :: os)
  | _, _ => none
@[simp] theorem vCons_s (d : D) (ds : List D) : vCons (some (.own (.fz d))) (some (fzs ds)) = some (fzs (d :: ds)) := rfl
@[simp] theorem vHs_n : vHs c [] e = some (fzs []) := rfl
@[simp] theorem vHs_c (x : HE) (xs : List HE) : vHs c (x :: xs) e = vCons (vH c x e) (vHs c xs e) := by
  simp only [vHs]
  cases vH c x e with
  | none => rfl
  | some t => cases t with
    | brw o => rfl
    | own o => cases vHs c xs e <;> rfl
@[simp] theorem vH_lst (es : List HE) : vH c (.lst es) e = (vHs c es e).map fun os => .own (.lst os) := rfl
def vIx : Option TV → Option TV → Option TV
  | some a, some b => ixT a (rd b)
  | _, _ => none
@[simp] theorem vIx_s (a b : TV) : vIx (some a) (some b) = ixT a (rd b) := rfl
@[simp] theorem vH_ix (x y : HE) : vH c (.ix x y) e = vIx (vH c x e) (vH c y e) := by
  simp only [vH]; rfl
end
end TL
namespace TL
open PySem PySem.Spec L2
/-! ### operators at values -/
theorem atI_nat {α : Type} (xs : List α) (n : Nat) : atI xs (n : Int) = xs[n]? := by
  unfold L2.atI L2.ixN
  rw [if_pos (Int.natCast_nonneg n)]
  by_cases h : n < xs.length
  · rw [if_pos (by omega)]; simp
  · rw [if_neg (by omega)]; simp; omega
@[simp] theorem atI_n0 {α : Type} (xs : List α) : atI xs 0 = xs[0]? := atI_nat xs 0
@[simp] theorem atI_n1 {α : Type} (xs : List α) : atI xs 1 = xs[1]? := atI_nat xs 1
@[simp] theorem atI_n2 {α : Type} (xs : List α) : atI xs 2 = xs[2]? := atI_nat xs 2
@[simp] theorem atI_n3 {α : Type} (xs : List α) : atI xs 3 = xs[3]? := atI_nat xs 3
@[simp] theorem atI_n4 {α : Type} (xs : List α) : atI xs 4 = xs[4]? := atI_nat xs 4
@[simp] theorem atI_n5 {α : Type} (xs : List α) : atI xs 5 = xs[5]? := atI_nat xs 5
@[simp] theorem atI_n6 {α : Type} (xs : List α) : atI xs 6 = xs[6]? := atI_nat xs 6
@[simp] theorem atI_lit {α : Type} (xs : List α) (n : Nat) : atI xs (no_index (OfNat.ofNat n : Int)) = xs[n]? := atI_nat xs n
@[simp] theorem ixO_fl (ds : List D) (i : Int) : ixO (.fz (.list ds)) (.int i) = (atI ds i).map .fz := rfl
@[simp] theorem ixO_ft (ds : List D) (i : Int) : ixO (.fz (.tuple ds)) (.int i) = (atI ds i).map .fz := rfl
@[simp] theorem ixO_l (os : List O) (i : Int) : ixO (.lst os) (.int i) = atI os i := rfl
@[simp] theorem ixO_t (os : List O) (i : Int) : ixO (.tup os) (.int i) = atI os i := rfl
theorem ixO_s {z : Str} {i : Int} (h : z.length ≤ sizeLine) : ixO (.fz (.str z)) (.int i) = (atI z.cps.toList i).map fun c => .fz (sgn c) := by
  show (if z.length ≤ sizeLine then _ else _) = _
  rw [if_pos h]
theorem divOk_lit {j : Int} (h1 : 0 < j) (h2 : j < 2 ^ 8000) : divOk j = true := by
  unfold divOk
  rw [Bool.and_eq_true, decide_eq_true_eq, decide_eq_true_eq]
  refine ⟨h1, ?_⟩
  have : (j.natAbs : Int) = j := by omega
  have h3 : ((2 ^ 8000 : Nat) : Int) = (2 : Int) ^ 8000 := Int.natCast_pow 2 8000
  generalize (2 : Int) ^ 8000 = b at *
  generalize (2 : Nat) ^ 8000 = c at *
  omega
theorem divOk_1 {j : Int} (h1 : 0 < j) (h2 : j < 18446744073709551616) : divOk j = true := by
  refine divOk_lit h1 (Int.lt_of_lt_of_le h2 ?_)
  have h : ((2 ^ 64 : Nat) : Int) ≤ ((2 ^ 8000 : Nat) : Int) := Int.ofNat_le.mpr (Nat.pow_le_pow_right (by decide) (by decide))
  rw [Int.natCast_pow, Int.natCast_pow] at h
  exact h
theorem mulOk_l {i j : Int} (h1 : -18446744073709551616 < i) (h2 : i < 18446744073709551616) : mulOk i j = true := by
  unfold mulOk
  have : decide (-(2 ^ 64) < i ∧ i < 2 ^ 64) = true := decide_eq_true ⟨h1, h2⟩
  rw [this]; rfl
theorem mulOk_r {i j : Int} (h1 : -18446744073709551616 < j) (h2 : j < 18446744073709551616) : mulOk i j = true := by
  unfold mulOk
  have : decide (-(2 ^ 64) < j ∧ j < 2 ^ 64) = true := decide_eq_true ⟨h1, h2⟩
  rw [this]; simp only [Bool.or_true, Bool.true_or]
theorem powOk_1 {i j : Int} (h1 : 0 ≤ j) (h2 : j ≤ 1000000) (h3 : i.natAbs < 18446744073709551616) : powOk i j = true := decide_eq_true ⟨h1, h2, h3⟩
section
variable (i j : Int) (a b : Str)
@[simp] theorem add_ii : binOp .Add (.own (.fz (.int i))) (.own (.fz (.int j))) = some (.own (.fz (.int (i + j)))) := Eq.trans rfl rfl
@[simp] theorem sub_ii : binOp .Sub (.own (.fz (.int i))) (.own (.fz (.int j))) = some (.own (.fz (.int (i - j)))) := Eq.trans rfl rfl
theorem mul_ii : binOp .Mult (.own (.fz (.int i))) (.own (.fz (.int j))) = if mulOk i j then some (.own (.fz (.int (i * j)))) else none := rfl
theorem div_ii : binOp .FloorDiv (.own (.fz (.int i))) (.own (.fz (.int j))) = if divOk j then some (.own (.fz (.int (i / j)))) else none := rfl
@[simp] theorem mod_ii {i j : Int} (h : 0 < j) : binOp .Mod (.own (.fz (.int i))) (.own (.fz (.int j))) = some (.own (.fz (.int (i % j)))) := by
  show (if decide (0 < j) = true then _ else _) = _
  rw [if_pos (decide_eq_true h)]
theorem pow_ii : binOp .Pow (.own (.fz (.int i))) (.own (.fz (.int j))) = if powOk i j then some (.own (.fz (.int (i ^ j.toNat)))) else none := rfl
theorem add_ss : binOp .Add (.own (.fz (.str a))) (.own (.fz (.str b))) = if a.length + b.length ≤ sizeLine then some (.own (.fz (.str (a ++ b)))) else none := rfl
/-- list + list, by what stands in both -/
theorem add_ll {ta tb : TV} {xs ys : List D} {os ps : List O} (h1 : rd ta = .list xs) (h2 : rd tb = .list ys) (g1 : items ta = some os) (g2 : items tb = some ps) (h : os.length + ps.length ≤ sizeLine) : binOp .Add ta tb = some (.own (.lst (os ++ ps))) := by
  unfold binOp
  rw [h1, h2]
  dsimp only
  rw [g1, g2]
  dsimp only
  rw [if_pos h]
/-- conditional steps: their conditions are omega's -/
theorem sL : sizeLine = 16777216 := by decide
@[simp] theorem mul_r {i j : Int} (h1 : -18446744073709551616 < j) (h2 : j < 18446744073709551616) : binOp .Mult (.own (.fz (.int i))) (.own (.fz (.int j))) = some (.own (.fz (.int (i * j)))) := by
  rw [mul_ii, if_pos (mulOk_r h1 h2)]
@[simp] theorem mul_l {i j : Int} (h1 : -18446744073709551616 < i) (h2 : i < 18446744073709551616) : binOp .Mult (.own (.fz (.int i))) (.own (.fz (.int j))) = some (.own (.fz (.int (i * j)))) := by
  rw [mul_ii, if_pos (mulOk_l h1 h2)]
@[simp] theorem div_l {i j : Int} (h1 : 0 < j) (h2 : j < 18446744073709551616) : binOp .FloorDiv (.own (.fz (.int i))) (.own (.fz (.int j))) = some (.own (.fz (.int (i / j)))) := by
  rw [div_ii, if_pos (divOk_1 h1 h2)]
@[simp] theorem pow_l {i j : Int} (h1 : 0 ≤ j) (h2 : j ≤ 1000000) (h3 : -18446744073709551616 < i) (h4 : i < 18446744073709551616) : binOp .Pow (.own (.fz (.int i))) (.own (.fz (.int j))) = some (.own (.fz (.int (i ^ j.toNat)))) := by
  rw [pow_ii, if_pos (powOk_1 h1 h2 (by omega))]
@[simp] theorem add_sl {a b : Str} (h : a.length + b.length ≤ 16777216) : binOp .Add (.own (.fz (.str a))) (.own (.fz (.str b))) = some (.own (.fz (.str (a ++ b)))) := by
  rw [add_ss, if_pos (by rw [sL]; exact h)]
@[simp] theorem add_oo {a b : List D} (h : a.length + b.length ≤ 16777216) : binOp .Add (.own (.lst (fzs a))) (.own (.lst (fzs b))) = some (.own (.lst (fzs (a ++ b)))) := by
  rw [add_ll (xs := a) (ys := b) (os := fzs a) (ps := fzs b) (by simp) (by simp) (by simp [items, fzs_d, fzAll_map]) (by simp [items, fzs_d, fzAll_map]) (by rw [sL, fzs_len, fzs_len]; exact h), fzs_app]
@[simp] theorem add_ob {a b : List D} (h : a.length + b.length ≤ 16777216) : binOp .Add (.own (.lst (fzs a))) (.brw (.lst (fzs b))) = some (.own (.lst (fzs (a ++ b)))) := by
  rw [add_ll (xs := a) (ys := b) (os := fzs a) (ps := fzs b) (by simp) (by simp) (by simp [items, fzs_d, fzAll_map]) (by simp [items, fzs_d, fzAll_map]) (by rw [sL, fzs_len, fzs_len]; exact h), fzs_app]
@[simp] theorem add_of {a b : List D} (h : a.length + b.length ≤ 16777216) : binOp .Add (.own (.lst (fzs a))) (.own (.fz (.list b))) = some (.own (.lst (fzs (a ++ b)))) := by
  rw [add_ll (xs := a) (ys := b) (os := fzs a) (ps := fzs b) (by simp) (by simp) (by simp [items, fzs_d, fzAll_map]) (by simp [items, fzs_d, fzAll_map]) (by rw [sL, fzs_len, fzs_len]; exact h), fzs_app]
@[simp] theorem add_bo {a b : List D} (h : a.length + b.length ≤ 16777216) : binOp .Add (.brw (.lst (fzs a))) (.own (.lst (fzs b))) = some (.own (.lst (fzs (a ++ b)))) := by
  rw [add_ll (xs := a) (ys := b) (os := fzs a) (ps := fzs b) (by simp) (by simp) (by simp [items, fzs_d, fzAll_map]) (by simp [items, fzs_d, fzAll_map]) (by rw [sL, fzs_len, fzs_len]; exact h), fzs_app]
@[simp] theorem add_bb {a b : List D} (h : a.length + b.length ≤ 16777216) : binOp .Add (.brw (.lst (fzs a))) (.brw (.lst (fzs b))) = some (.own (.lst (fzs (a ++ b)))) := by
  rw [add_ll (xs := a) (ys := b) (os := fzs a) (ps := fzs b) (by simp) (by simp) (by simp [items, fzs_d, fzAll_map]) (by simp [items, fzs_d, fzAll_map]) (by rw [sL, fzs_len, fzs_len]; exact h), fzs_app]
@[simp] theorem add_bf {a b : List D} (h : a.length + b.length ≤ 16777216) : binOp .Add (.brw (.lst (fzs a))) (.own (.fz (.list b))) = some (.own (.lst (fzs (a ++ b)))) := by
  rw [add_ll (xs := a) (ys := b) (os := fzs a) (ps := fzs b) (by simp) (by simp) (by simp [items, fzs_d, fzAll_map]) (by simp [items, fzs_d, fzAll_map]) (by rw [sL, fzs_len, fzs_len]; exact h), fzs_app]
@[simp] theorem add_fo {a b : List D} (h : a.length + b.length ≤ 16777216) : binOp .Add (.own (.fz (.list a))) (.own (.lst (fzs b))) = some (.own (.lst (fzs (a ++ b)))) := by
  rw [add_ll (xs := a) (ys := b) (os := fzs a) (ps := fzs b) (by simp) (by simp) (by simp [items, fzs_d, fzAll_map]) (by simp [items, fzs_d, fzAll_map]) (by rw [sL, fzs_len, fzs_len]; exact h), fzs_app]
@[simp] theorem add_fb {a b : List D} (h : a.length + b.length ≤ 16777216) : binOp .Add (.own (.fz (.list a))) (.brw (.lst (fzs b))) = some (.own (.lst (fzs (a ++ b)))) := by
  rw [add_ll (xs := a) (ys := b) (os := fzs a) (ps := fzs b) (by simp) (by simp) (by simp [items, fzs_d, fzAll_map]) (by simp [items, fzs_d, fzAll_map]) (by rw [sL, fzs_len, fzs_len]; exact h), fzs_app]
@[simp] theorem add_ff {a b : List D} (h : a.length + b.length ≤ 16777216) : binOp .Add (.own (.fz (.list a))) (.own (.fz (.list b))) = some (.own (.lst (fzs (a ++ b)))) := by
  rw [add_ll (xs := a) (ys := b) (os := fzs a) (ps := fzs b) (by simp) (by simp) (by simp [items, fzs_d, fzAll_map]) (by simp [items, fzs_d, fzAll_map]) (by rw [sL, fzs_len, fzs_len]; exact h), fzs_app]
@[simp] theorem appF_z {ds : List D} {x : D} (h : ds.length < 16777216) : appF (.fz x) (.lst (fzs ds)) = some (.lst (fzs (ds ++ [x]))) := by
  show (if (fzs ds).length < sizeLine then _ else _) = _
  rw [fzs_len, sL, if_pos h]
  rw [fzs_d, fzs_d, List.map_append]; rfl
@[simp] theorem extF_z {ds xs : List D} (h : ds.length + xs.length ≤ 16777216) : extF (fzs xs) (.lst (fzs ds)) = some (.lst (fzs (ds ++ xs))) := by
  have e : fzs ds ++ fzs xs = fzs (ds ++ xs) := by rw [fzs_d, fzs_d, fzs_d, List.map_append]
  simp only [extF, fzs_len]
  rw [if_pos (by rw [sL]; exact h), e]
@[simp] theorem clrF_l (os : List O) : clrF (.lst os) = some (.lst (fzs [])) := rfl
theorem popiF_z {ds : List D} {k : Int} (h0 : 0 ≤ k) (h1 : k < ds.length) (h2 : ds.length ≤ 16777216) : popiF k (.lst (fzs ds)) = some (.lst (fzs (ds.eraseIdx k.toNat))) := by
  show (if (fzs ds).length ≤ sizeLine then (L2.ixN (fzs ds).length k).map fun j => O.lst ((fzs ds).eraseIdx j) else none) = _
  rw [fzs_len, if_pos (by rw [sL]; exact h2)]
  have : L2.ixN ds.length k = some k.toNat := by
    unfold L2.ixN
    rw [if_pos h0, if_pos h1]
  rw [this]
  simp only [Option.map_some, fzs_d]
  congr 2
  rw [List.eraseIdx_eq_take_drop_succ, List.eraseIdx_eq_take_drop_succ, List.map_append, List.map_take, List.map_drop]
theorem appF_o {os : List O} {x : O} (h : os.length < 16777216) : appF x (.lst os) = some (.lst (os ++ [x])) := by
  show (if os.length < sizeLine then _ else _) = _
  rw [sL, if_pos h]
@[simp] theorem len_o (os : List O) : bltV .len [.own (.lst os)] = some (.own (.fz (.int os.length))) := by
  have : bltV .len [.own (.lst os)] = some (fl (.int (toDs os).length)) := rfl
  rw [this, toDs_map, List.length_map]
@[simp] theorem eq_ii : cmpD .Eq (.int i) (.int j) = some (decide (i = j)) := rfl
@[simp] theorem ne_ii : cmpD .NotEq (.int i) (.int j) = some (!decide (i = j)) := rfl
@[simp] theorem eq_bb (a b : Bool) : cmpD .Eq (.bool a) (.bool b) = some (a == b) := rfl
@[simp] theorem ne_bb (a b : Bool) : cmpD .NotEq (.bool a) (.bool b) = some (!(a == b)) := rfl
@[simp] theorem eq_ss : cmpD .Eq (.str a) (.str b) = some (a == b) := rfl
@[simp] theorem ne_ss : cmpD .NotEq (.str a) (.str b) = some (!(a == b)) := rfl
@[simp] theorem lt_ii : cmpD .Lt (.int i) (.int j) = some (decide (i < j)) := rfl
@[simp] theorem le_ii : cmpD .LtE (.int i) (.int j) = some (decide (i ≤ j)) := rfl
@[simp] theorem gt_ii : cmpD .Gt (.int i) (.int j) = some (decide (j < i)) := rfl
@[simp] theorem ge_ii : cmpD .GtE (.int i) (.int j) = some (decide (j ≤ i)) := rfl
@[simp] theorem is_nn : cmpD .Is .none .none = some true := rfl
@[simp] theorem is_in : cmpD .Is (.int i) .none = some false := rfl
@[simp] theorem is_tn (x : List D) : cmpD .Is (.tuple x) .none = some false := rfl
@[simp] theorem is_ln (x : List D) : cmpD .Is (.list x) .none = some false := rfl
@[simp] theorem is_sn : cmpD .Is (.str a) .none = some false := rfl
@[simp] theorem isn_nn : cmpD .IsNot .none .none = some false := rfl
@[simp] theorem isn_in : cmpD .IsNot (.int i) .none = some true := rfl
@[simp] theorem isn_tn (x : List D) : cmpD .IsNot (.tuple x) .none = some true := rfl
@[simp] theorem isn_ln (x : List D) : cmpD .IsNot (.list x) .none = some true := rfl
@[simp] theorem isn_sn : cmpD .IsNot (.str a) .none = some true := rfl
@[simp] theorem len_l (ds : List D) : bltV .len [.own (.fz (.list ds))] = some (.own (.fz (.int ds.length))) := rfl
@[simp] theorem len_t (ds : List D) : bltV .len [.own (.fz (.tuple ds))] = some (.own (.fz (.int ds.length))) := rfl
@[simp] theorem len_bl (os : List O) : bltV .len [.brw (.lst os)] = some (.own (.fz (.int os.length))) := by
  have : bltV .len [.brw (.lst os)] = some (fl (.int (toDs os).length)) := rfl
  rw [this, toDs_map, List.length_map]
@[simp] theorem len_s {a : Str} (h : a.length ≤ 16777216) : bltV .len [.own (.fz (.str a))] = some (.own (.fz (.int a.length))) := if_pos (by rw [sL]; exact h)
@[simp] theorem max_ii : bltV .max2 [.own (.fz (.int i)), .own (.fz (.int j))] = some (.own (.fz (.int (if j > i then j else i)))) := rfl
@[simp] theorem min_ii : bltV .min2 [.own (.fz (.int i)), .own (.fz (.int j))] = some (.own (.fz (.int (if j < i then j else i)))) := rfl
@[simp] theorem isy_ii : isTy .int (.int i) = true := rfl
@[simp] theorem isy_bi : isTy .bool (.int i) = false := rfl
@[simp] theorem isy_ti (x : List D) : isTy .tuple (.tuple x) = true := rfl
@[simp] theorem isy_li (x : List D) : isTy .list (.list x) = true := rfl
@[simp] theorem isy_ss : isTy .str (.str a) = true := rfl
@[simp] theorem isy_tl (x : List D) : isTy .tuple (.list x) = false := rfl
@[simp] theorem isy_lt (x : List D) : isTy .list (.tuple x) = false := rfl
@[simp] theorem isy_it (x : List D) : isTy .int (.tuple x) = false := rfl
@[simp] theorem isy_is : isTy .int (.str a) = false := rfl
@[simp] theorem isy_st (x : List D) : isTy .str (.tuple x) = false := rfl
@[simp] theorem isy_sl (x : List D) : isTy .str (.list x) = false := rfl
@[simp] theorem isy_bt (x : List D) : isTy .bool (.tuple x) = false := rfl
@[simp] theorem isy_bl (x : List D) : isTy .bool (.list x) = false := rfl
@[simp] theorem isy_il (x : List D) : isTy .int (.list x) = false := rfl
@[simp] theorem isy_ts : isTy .tuple (.str a) = false := rfl
@[simp] theorem isy_ti2 : isTy .tuple (.int i) = false := rfl
@[simp] theorem isy_ls : isTy .list (.str a) = false := rfl
@[simp] theorem isy_bn : isTy .bool .none = false := rfl
@[simp] theorem isy_in : isTy .int .none = false := rfl
@[simp] theorem isy_sn : isTy .str .none = false := rfl
@[simp] theorem isy_tn : isTy .tuple .none = false := rfl
@[simp] theorem isy_ln : isTy .list .none = false := rfl
@[simp] theorem isy_sb (k : Bool) : isTy .str (.bool k) = false := rfl
@[simp] theorem isy_bb (k : Bool) : isTy .bool (.bool k) = true := rfl
@[simp] theorem isy_ib (k : Bool) : isTy .int (.bool k) = true := rfl
@[simp] theorem isy_bs : isTy .bool (.str a) = false := rfl
@[simp] theorem isy_si : isTy .str (.int i) = false := rfl
end
/-! turns -/
def lp (r : R Fl) (k : Ev → R Fl) : R Fl := match r with
  | .ok .nx e1 => k e1
  | .ok .cont e1 => k e1
  | .ok .brk e1 => .ok .nx e1
  | .ok (.ret o) e1 => .ok (.ret o) e1
  | .exc c e1 => .exc c e1
  | .bad => .bad
@[simp] theorem lp_nx (e : Ev) (k : Ev → R Fl) : lp (.ok .nx e) k = k e := rfl
@[simp] theorem lp_cont (e : Ev) (k : Ev → R Fl) : lp (.ok .cont e) k = k e := rfl
@[simp] theorem lp_brk (e : Ev) (k : Ev → R Fl) : lp (.ok .brk e) k = .ok .nx e := rfl
@[simp] theorem lp_ret (o : O) (e : Ev) (k : Ev → R Fl) : lp (.ok (.ret o) e) k = .ok (.ret o) e := rfl
@[simp] theorem lp_exc (c : Nat) (e : Ev) (k : Ev → R Fl) : lp (.exc c e) k = .exc c e := rfl
theorem forGo_cons (f : D → Ev → R Fl) (d : D) (ds : List D) (e : Ev) : forGo f (d :: ds) e = lp (f d e) (forGo f ds) := by
  simp only [forGo]
  cases f d e with
  | ok x e1 => cases x <;> rfl
  | exc c e1 => rfl
  | bad => rfl
theorem turnX_d (cf : CF) (p : List Nat) (t : Tg) (body : List S) (d : D) (e : Ev) : turnX cf p t body d e = (R.lf (asgT p t (.fz d) e) e).bd fun e1 _ => execSs cf p body e1 := by
  unfold turnX
  cases asgT p t (.fz d) e <;> rfl
def whB (t : Ev → R Bool) (b : Ev → R Fl) (n : Nat) (e : Ev) : R Fl := lp (b e) (whileGo t b n)
@[simp] theorem whB_d (t : Ev → R Bool) (b : Ev → R Fl) (n : Nat) (e : Ev) : whB t b n e = lp (b e) (whileGo t b n) := rfl
def whK (t : Ev → R Bool) (b : Ev → R Fl) (n : Nat) (k : Bool) (e1 : Ev) : R Fl := ch k (whB t b n) (fun e => .ok .nx e) e1
@[simp] theorem whK_d (t : Ev → R Bool) (b : Ev → R Fl) (n : Nat) (k : Bool) (e1 : Ev) : whK t b n k e1 = ch k (whB t b n) (fun e => .ok .nx e) e1 := rfl
theorem whileGo_s (t : Ev → R Bool) (b : Ev → R Fl) (n : Nat) (e : Ev) : whileGo t b (n + 1) e = (t e).bd (whK t b n) := by
  simp only [whileGo]
  cases t e with
  | ok k e1 =>
    simp only [R.bd_ok, whK_d]
    cases k with
    | true =>
      simp only [if_true, ch_t, whB_d]
      cases b e1 with
      | ok x e2 => cases x <;> rfl
      | exc c e1 => rfl
      | bad => rfl
    | false => rfl
  | exc c e1 => rfl
  | bad => rfl
/-! a def's end -/
def endK (o : O) : Option (List (Option O)) → CR
  | some os => .ok o os
  | none => .bad
@[simp] theorem endK_s (o : O) (os : List (Option O)) : endK o (some os) = .ok o os := rfl
@[simp] theorem ends_ret (ms : List Md) (o : O) (e : Ev) : ends ms (.ok (.ret o) e) = endK o (outsOf ms e) := by
  unfold ends; dsimp only; cases outsOf ms e <;> rfl
def endX (c : Nat) : Option (List (Option O)) → CR
  | some os => .exc c os
  | none => .bad
@[simp] theorem endX_s (c : Nat) (os : List (Option O)) : endX c (some os) = .exc c os := rfl
@[simp] theorem ends_exc (ms : List Md) (c : Nat) (e : Ev) : ends ms (.exc c e) = endX c (outsOf ms e) := by
  unfold ends; dsimp only; cases outsOf ms e <;> rfl
@[simp] theorem ends_nx (ms : List Md) (e : Ev) : ends ms (.ok .nx e) = endK (.fz .none) (outsOf ms e) := by
  unfold ends; dsimp only; cases outsOf ms e <;> rfl
@[simp] theorem ends_ite {c : Prop} [Decidable c] (ms : List Md) (a b : R Fl) : ends ms (if c then a else b) = if c then ends ms a else ends ms b := by split <;> rfl
@[simp] theorem outs_n (e : Ev) : outsOf [] e = some [] := rfl
@[simp] theorem outs_f (ms : List Md) (x : Option SL) (e : Ev) : outsOf (.f :: ms) (x :: e) = (outsOf ms e).map (none :: ·) := by cases x <;> rfl
@[simp] theorem outs_b (ms : List Md) (x : Option SL) (e : Ev) : outsOf (.b :: ms) (x :: e) = (outsOf ms e).map (none :: ·) := by cases x <;> rfl
@[simp] theorem outs_io (ms : List Md) (o : O) (e : Ev) : outsOf (.io :: ms) (some (.own o) :: e) = (outsOf ms e).map (some o :: ·) := rfl
end TL
namespace TL
open PySem PySem.Spec L2
/-! ### == over data -/
/-- signs that are signs -/
def okS (x : Str) : Bool := x.cps.all (· < 0x110000)
/-- no dict, at most n deep -/
def sh : Nat → D → Bool
  | _, .none => true
  | _, .bool _ => true
  | _, .int _ => true
  | _, .str x => okS x
  | n + 1, .list xs => xs.all (sh n)
  | n + 1, .tuple xs => xs.all (sh n)
  | _, _ => false
theorem sh_can : ∀ {n : Nat} {d : D}, sh n d = true → d.canLay0 = true ∧ d.depth ≤ n := by
  have list : ∀ {n : Nat}, (∀ {d : D}, sh n d = true → d.canLay0 = true ∧ d.depth ≤ n) → ∀ xs : List D, xs.all (sh n) = true → PyData.canLayAll0 xs = true ∧ PyData.depthAll xs ≤ n := by
    intro n ih xs
    induction xs with
    | nil => intro _; exact ⟨by simp only [PyData.canLayAll0], by simp only [PyData.depthAll]; omega⟩
    | cons x xs ihx =>
      intro h
      simp only [List.all_cons, Bool.and_eq_true] at h
      obtain ⟨a, b⟩ := ih h.1
      obtain ⟨c, d⟩ := ihx h.2
      exact ⟨by simp only [PyData.canLayAll0, a, c, Bool.and_self], by simp only [PyData.depthAll]; omega⟩
  intro n
  induction n with
  | zero =>
    intro d h
    cases d with
    | list xs => simp [sh] at h
    | tuple xs => simp [sh] at h
    | dict k => simp [sh] at h
    | str x => exact ⟨by simp only [PyData.canLay0]; exact h, by simp only [PyData.depth]; omega⟩
    | none => exact ⟨by simp only [PyData.canLay0], by simp only [PyData.depth]; omega⟩
    | bool b => exact ⟨by simp only [PyData.canLay0], by simp only [PyData.depth]; omega⟩
    | int i => exact ⟨by simp only [PyData.canLay0], by simp only [PyData.depth]; omega⟩
  | succ n ih =>
    intro d h
    cases d with
    | list xs =>
      obtain ⟨a, b⟩ := list ih xs h
      exact ⟨by simp only [PyData.canLay0, a], by simp only [PyData.depth]; omega⟩
    | tuple xs =>
      obtain ⟨a, b⟩ := list ih xs h
      exact ⟨by simp only [PyData.canLay0, a], by simp only [PyData.depth]; omega⟩
    | dict k => simp [sh] at h
    | str x => exact ⟨by simp only [PyData.canLay0]; exact h, by simp only [PyData.depth]; omega⟩
    | none => exact ⟨by simp only [PyData.canLay0], by simp only [PyData.depth]; omega⟩
    | bool b => exact ⟨by simp only [PyData.canLay0], by simp only [PyData.depth]; omega⟩
    | int i => exact ⟨by simp only [PyData.canLay0], by simp only [PyData.depth]; omega⟩
theorem sh_shaped {n : Nat} {d : D} (h : sh n d = true) (hn : n ≤ 64) : SeqAt.shaped d = true := by
  obtain ⟨a, b⟩ := sh_can h
  unfold SeqAt.shaped
  rw [a, decide_eq_true (by omega : d.depth ≤ 64)]
  rfl
/-- no truth values: == is equality -/
def nb : Nat → D → Bool
  | _, .none => true
  | _, .int _ => true
  | _, .str _ => true
  | n + 1, .list xs => xs.all (nb n)
  | n + 1, .tuple xs => xs.all (nb n)
  | _, _ => false
theorem eqv_iff : ∀ {n : Nat} {x y : D}, nb n x = true → nb n y = true → (PyData.eqv x y = true ↔ x = y) := by
  have list : ∀ {n : Nat}, (∀ {x y : D}, nb n x = true → nb n y = true → (PyData.eqv x y = true ↔ x = y)) → ∀ xs ys : List D, xs.all (nb n) = true → ys.all (nb n) = true → (PyData.eqvAll xs ys = true ↔ xs = ys) := by
    intro n ih xs
    induction xs with
    | nil => intro ys _ _; cases ys <;> simp [PyData.eqvAll]
    | cons x xs ihx =>
      intro ys h1 h2
      cases ys with
      | nil => simp [PyData.eqvAll]
      | cons y ys =>
        simp only [List.all_cons, Bool.and_eq_true] at h1 h2
        simp only [PyData.eqvAll, Bool.and_eq_true, List.cons.injEq]
        rw [ih h1.1 h2.1, ihx ys h1.2 h2.2]
  intro n
  induction n with
  | zero =>
    intro x y h1 h2
    cases x <;> cases y <;> simp_all [nb, PyData.eqv]
  | succ n ih =>
    intro x y h1 h2
    cases x with
    | list xs =>
      cases y with
      | list ys =>
        simp only [PyData.eqv, PyData.list.injEq]
        exact list ih xs ys h1 h2
      | _ => simp_all [nb, PyData.eqv]
    | tuple xs =>
      cases y with
      | tuple ys =>
        simp only [PyData.eqv, PyData.tuple.injEq]
        exact list ih xs ys h1 h2
      | _ => simp_all [nb, PyData.eqv]
    | _ => cases y <;> simp_all [nb, PyData.eqv]
theorem eqD_shaped {x y : D} (h1 : SeqAt.shaped x = true) (h2 : SeqAt.shaped y = true) (hs : eqS x y = none) : eqD x y = some (PyData.eqv x y) := by
  unfold eqD
  rw [hs]
  dsimp only
  rw [h1, h2]
  rfl
/-- == of nested data without truth values -/
theorem eqD_nb {n : Nat} {x y : D} (h1 : sh n x = true) (h2 : sh n y = true) (g1 : nb n x = true) (g2 : nb n y = true) (hn : n ≤ 64) (hs : eqS x y = none) {p : Prop} [Decidable p] (hp : x = y ↔ p) : cmpD .Eq x y = some (decide p) := by
  show eqD x y = _
  rw [eqD_shaped (sh_shaped h1 hn) (sh_shaped h2 hn) hs]
  congr 1
  have := (eqv_iff g1 g2).trans hp
  cases h : PyData.eqv x y with
  | true => rw [decide_eq_true (this.mp h)]
  | false =>
    rw [decide_eq_false fun z => by rw [this.mpr z] at h; cases h]
theorem neD_nb {n : Nat} {x y : D} (h1 : sh n x = true) (h2 : sh n y = true) (g1 : nb n x = true) (g2 : nb n y = true) (hn : n ≤ 64) (hs : eqS x y = none) {p : Prop} [Decidable p] (hp : x = y ↔ p) : cmpD .NotEq x y = some (!decide p) := by
  have := eqD_nb h1 h2 g1 g2 hn hs hp
  have h : eqD x y = some (decide p) := this
  have nd : isDct x = false := by cases x <;> first | rfl | (cases n <;> simp [sh] at h1)
  show (if isDct x = true then none else (eqD x y).map (!·)) = _
  rw [nd, h]; rfl
theorem all_ints (f : D → Bool) (h : ∀ i, f (.int i) = true) (ns : List Int) : (ns.map PyData.int).all f = true := by
  induction ns with
  | nil => rfl
  | cons n ns ih => simp only [List.map_cons, List.all_cons, h, ih, Bool.and_self]
/-! ### for over what is often walked -/
section
variable (cf : CF) (p : List Nat) {t : Tg} {body : List S} {e : Ev} {ds : List D}
/-- over a list made on the spot -/
theorem forX_l {x : E} (hx : ∀ i, x ≠ .var i) (ds : List D) : forX cf p t .sq [x] body [.own (.lst (fzs ds))] e = forGo (turnX cf p t body) ds e := by
  refine forX_0 cf p (ds := [.list ds]) ?_ ?_ rfl
  · cases x <;> first | rfl | exact absurd rfl (hx _)
  · have : srcAt x (.own (.lst (fzs ds))) e = some (.list ds) := by
      have h : srcD (.own (.lst (fzs ds))) = some (.list ds) := shallow_lfz ds
      cases x <;> first | exact h | exact absurd rfl (hx _)
    simp only [srcsAt, this]
theorem forX_v {x : E} (hx : ∀ i, x ≠ .var i) {d : D} (hd : seqD d = some ds) : forX cf p t .sq [x] body [.own (.fz d)] e = forGo (turnX cf p t body) ds e := by
  refine forX_0 cf p (ds := [d]) ?_ ?_ hd
  · cases x <;> first | rfl | exact absurd rfl (hx _)
  · have : srcAt x (.own (.fz d)) e = some d := by
      cases x <;> first | rfl | exact absurd rfl (hx _)
    simp only [srcsAt, this]
/-- over what a slot holds frozen -/
theorem forX_s {i : Nat} {d : D} {u : TV} (h : e[i]? = some (some (.own (.fz d)))) (hd : seqD d = some ds) : forX cf p t .sq [.var i] body [u] e = forGo (turnX cf p t body) ds e := by
  refine forX_0 cf p (ds := [d]) (by simp only [lentOf, h]) ?_ hd
  simp only [srcsAt, srcAt, h]
  rfl
theorem forX_p {i : Nat} {d : D} {u : TV} (h : e[i]? = some (some (.par d))) (hd : seqD d = some ds) : forX cf p t .sq [.var i] body [u] e = forGo (turnX cf p t body) ds e := by
  refine forX_0 cf p (ds := [d]) (by simp only [lentOf, h]) ?_ hd
  simp only [srcsAt, srcAt, h]
/-- over a list that a slot owns: lent for the while -/
theorem forX_o {i : Nat} {u : TV} (h : e[i]? = some (some (.own (.lst (fzs ds))))) (hp : p.contains i = false) : forX cf p t .sq [.var i] body [u] e = backR [(i, .lst (fzs ds))] (forGo (turnX cf (i :: p) t body) ds (e.set i (some (.par (.list ds))))) := by
  have hl : lentOf [.var i] e = [(i, .lst (fzs ds))] := by simp only [lentOf, h]
  refine forX_eq cf p hl (ds := [.list ds]) ?_ rfl ?_ ?_
  · simp only [srcsAt, srcAt, h, shallow_lfz]
  · simp only [lendE, shallow_lfz]
  · have : i ∉ p := by simpa using hp
    simp [lentOk, this]
/-- over range(a, b), range(b): the ends known -/
theorem forX_r {src : List E} {ts : List TV} {a b : Int} (hl : lentOf src e = []) (h1 : srcsAt src ts e = some [.int a, .int b]) (ha : rngOk a = true) (hb : rngOk b = true) : forX cf p t .rng src body ts e = forGo (turnX cf p t body) (rngL a (b - a).toNat) e := by
  refine forX_0 cf p hl h1 ?_
  simp only [walkD, ha, hb]
  rfl
theorem forX_r0 {src : List E} {ts : List TV} {b : Int} (hl : lentOf src e = []) (h1 : srcsAt src ts e = some [.int b]) (hb : rngOk b = true) : forX cf p t .rng src body ts e = forGo (turnX cf p t body) (rngL 0 b.toNat) e := by
  refine forX_0 cf p hl h1 ?_
  simp only [walkD, hb]
  rfl
end
end TL
namespace TL
open PySem PySem.Spec L2
/-! ### loops as folds -/
def foldE {σ α β : Type} (step : σ → α → Sum σ β) : List α → σ → Sum σ β
  | [], s => .inl s
  | a :: r, s => match step s a with
    | .inl s' => foldE step r s'
    | .inr b => .inr b
def goes (r : R Fl) (e : Ev) : Prop := r = .ok .nx e ∨ r = .ok .cont e
@[simp] theorem goes_nx (e e' : Ev) : goes (.ok .nx e) e' ↔ e = e' := by unfold goes; simp
@[simp] theorem goes_cont (e e' : Ev) : goes (.ok .cont e) e' ↔ e = e' := by unfold goes; simp
theorem forGo_goes {f : D → Ev → R Fl} {d : D} {ds : List D} {e e1 : Ev} (h : goes (f d e) e1) : forGo f (d :: ds) e = forGo f ds e1 := by
  rcases h with h | h <;> simp only [forGo, h]
theorem forGo_fold {σ α : Type} {f : D → Ev → R Fl} (enc : σ → Ev) (g : α → D) (step : σ → α → σ) (I : σ → List α → Prop) (h : ∀ s a r, I s (a :: r) → goes (f (g a) (enc s)) (enc (step s a)) ∧ I (step s a) r) :
    ∀ (xs : List α) (s : σ), I s xs → forGo f (xs.map g) (enc s) = .ok .nx (enc (xs.foldl step s)) ∧ I (xs.foldl step s) []
  | [], s, hi => ⟨rfl, hi⟩
  | a :: r, s, hi => by
    obtain ⟨h1, h2⟩ := h s a r hi
    rw [List.map_cons, forGo_goes h1]
    exact forGo_fold enc g step I h r _ h2
theorem forGo_E {σ α β : Type} {f : D → Ev → R Fl} (enc : σ → Ev) (g : α → D) (step : σ → α → Sum σ β) (out : β → O) (I : σ → List α → Prop)
    (h : ∀ s a r, I s (a :: r) → match step s a with
      | .inl s' => goes (f (g a) (enc s)) (enc s') ∧ I s' r
      | .inr b => ∃ s', f (g a) (enc s) = .ok (.ret (out b)) (enc s')) :
    ∀ (xs : List α) (s : σ), I s xs → match foldE step xs s with
      | .inl s' => forGo f (xs.map g) (enc s) = .ok .nx (enc s') ∧ I s' []
      | .inr b => ∃ s', forGo f (xs.map g) (enc s) = .ok (.ret (out b)) (enc s')
  | [], s, hi => ⟨rfl, hi⟩
  | a :: r, s, hi => by
    have h0 := h s a r hi
    rw [List.map_cons]
    cases e : step s a with
    | inl s' =>
      rw [e] at h0
      simp only [foldE, e]
      rw [forGo_goes h0.1]
      exact forGo_E enc g step out I h r _ h0.2
    | inr b =>
      rw [e] at h0
      simp only [foldE, e, forGo]
      obtain ⟨s', h0⟩ : ∃ s', f (g a) (enc s) = .ok (.ret (out b)) (enc s') := h0
      exact ⟨s', by rw [h0]⟩
/-- a loop's state by what has been walked -/
theorem forGo_pre {α : Type} {f : D → Ev → R Fl} (enc : List α → Ev) (g : α → D) (xs : List α) (h : ∀ pre a r, xs = pre ++ a :: r → goes (f (g a) (enc pre)) (enc (pre ++ [a]))) : forGo f (xs.map g) (enc []) = .ok .nx (enc xs) := by
  have key : ∀ (r pre : List α), xs = pre ++ r → forGo f (r.map g) (enc pre) = .ok .nx (enc xs) := by
    intro r
    induction r with
    | nil => intro pre e; rw [e, List.append_nil]; rfl
    | cons a r ih =>
      intro pre e
      rw [List.map_cons, forGo_goes (h pre a r e)]
      exact ih (pre ++ [a]) (by rw [e, List.append_assoc]; rfl)
  exact key xs [] rfl
theorem exec_app (cf : CF) (p : List Nat) : ∀ (a b : List S) (e : Ev), execSs cf p (a ++ b) e = sq (execSs cf p a e) (execSs cf p b)
  | [], b, e => by rw [List.nil_append, x_nil, sq_nx]
  | s :: a, b, e => by
    rw [List.cons_append, x_cons, x_cons]
    cases execS cf p s e with
    | ok f e1 =>
      cases f with
      | nx => rw [sq_nx, sq_nx, exec_app cf p a b e1]
      | _ => rfl
    | exc c e1 => rfl
    | bad => rfl
/-- a body in two parts -/
theorem exec_cut (cf : CF) (p : List Nat) (k : Nat) (ss : List S) (e : Ev) : execSs cf p ss e = sq (execSs cf p (ss.take k) e) (execSs cf p (ss.drop k)) := by
  rw [← exec_app, List.take_append_drop]
/-- a loop that only looks -/
theorem forGo_all {α : Type} {f : D → Ev → R Fl} {e : Ev} (g : α → D) (p : α → Bool) (o : O) (e' : Ev) {xs : List α} (h : ∀ a ∈ xs, if p a then goes (f (g a) e) e else f (g a) e = .ok (.ret o) e') :
    forGo f (xs.map g) e = if xs.all p then .ok .nx e else .ok (.ret o) e' := by
  induction xs with
  | nil => rfl
  | cons a r ih =>
    have h0 := h a List.mem_cons_self
    rw [List.map_cons, List.all_cons]
    cases hp : p a with
    | true =>
      rw [hp, if_pos rfl] at h0
      rw [forGo_goes h0, ih fun b hb => h b (List.mem_cons_of_mem _ hb), Bool.true_and]
    | false =>
      rw [hp, if_neg (by simp)] at h0
      simp only [forGo, h0, Bool.false_and]
      rfl
/-- a loop that goes through, the slots as they were -/
theorem forGo_thru {α : Type} {f : D → Ev → R Fl} {e : Ev} (g : α → D) {xs : List α} (h : ∀ a ∈ xs, goes (f (g a) e) e) : forGo f (xs.map g) e = .ok .nx e := by
  have := forGo_all (f := f) (e := e) g (fun _ => true) (.fz .none) e (xs := xs) fun a ha => by rw [if_pos rfl]; exact h a ha
  rw [this]
  simp
/-! ### comprehensions -/
theorem wipeE_get (e : Ev) : ∀ (own : List Nat) (i : Nat), (wipeE e own)[i]? = if i ∈ own ∧ i < e.length then some none else e[i]?
  | [], i => by simp
  | j :: own, i => by
    rw [wipeE_c]
    have hl : (wipeE e own).length = e.length := by
      clear i
      induction own with
      | nil => rfl
      | cons k own ih => rw [wipeE_c, List.length_set, ih]
    by_cases hj : j = i
    · subst hj
      by_cases hlt : j < e.length
      · rw [List.getElem?_set_self (by rw [hl]; exact hlt), if_pos ⟨by simp, hlt⟩]
      · rw [if_neg (fun z => hlt z.2), List.getElem?_eq_none (by rw [List.length_set, hl]; omega), List.getElem?_eq_none (by omega)]
    · rw [List.getElem?_set_ne hj, wipeE_get e own i]
      have : i ≠ j := fun z => hj z.symm
      simp [this]
theorem wipeE_idem (e : Ev) (own : List Nat) : wipeE (wipeE e own) own = wipeE e own := by
  apply List.ext_getElem?
  intro i
  rw [wipeE_get, wipeE_get, wipeE_len]
  split <;> rfl
theorem turnL_w (own : List Nat) (t : Tg) (rc : Ev → R Bool) (ro : Ev → R O) (d : D) (e : Ev) : turnL own t rc ro d e = turnL own t rc ro d (wipeE e own) := by
  unfold turnL
  rw [wipeE_idem]
theorem restore_get (e0 e : Ev) (hl : e.length = e0.length) : ∀ (own : List Nat) (i : Nat), (restore e0 e own)[i]? = if i ∈ own then e0[i]? else e[i]?
  | [], i => by simp [restore]
  | j :: own, i => by
    unfold restore
    have hlen : (restore e0 e own).length = e.length := by
      clear i
      induction own with
      | nil => rfl
      | cons k own ih => unfold restore; rw [List.length_set, ih]
    by_cases hj : j = i
    · subst hj
      by_cases hlt : j < e.length
      · rw [List.getElem?_set_self (by rw [hlen]; exact hlt), if_pos (by simp), List.getElem?_eq_getElem (by omega)]; rfl
      · rw [if_pos (by simp), List.getElem?_eq_none (by rw [List.length_set, hlen]; omega), List.getElem?_eq_none (by omega)]
    · rw [List.getElem?_set_ne hj, restore_get e0 e hl own i]
      have : i ≠ j := fun z => hj z.symm
      simp [this]
theorem restore_w {e0 e : Ev} {own : List Nat} (h : wipeE e own = wipeE e0 own) : restore e0 e own = e0 := by
  have hl : e.length = e0.length := by rw [← wipeE_len e own, h, wipeE_len]
  apply List.ext_getElem?
  intro i
  rw [restore_get e0 e hl]
  have h1 := congrArg (fun z : Ev => z[i]?) h
  simp only [wipeE_get, hl] at h1
  by_cases hi : i ∈ own
  · rw [if_pos hi]
  · rw [if_neg hi]
    simpa [hi] using h1
theorem lcGo_w {α : Type} {own : List Nat} {t : Tg} {rc : Ev → R Bool} {ro : Ev → R O} {w : Ev} (g : α → D) (h : α → Option O) :
    ∀ {xs : List α} (acc : List O) (e : Ev), wipeE e own = w → (∀ a ∈ xs, ∃ e', turnL own t rc ro (g a) w = .ok (h a) e' ∧ wipeE e' own = w) →
    ∃ e', lcGo (turnL own t rc ro) (xs.map g) acc e = .ok (acc ++ xs.filterMap h) e' ∧ wipeE e' own = w
  | [], acc, e, hw, _ => ⟨e, by simp [lcGo], hw⟩
  | a :: r, acc, e, hw, hh => by
    obtain ⟨e1, h1, h2⟩ := hh a List.mem_cons_self
    rw [List.map_cons]
    simp only [lcGo]
    rw [turnL_w, hw, h1, R.bd_ok]
    cases ha : h a with
    | none =>
      rw [List.filterMap_cons_none ha]
      exact lcGo_w g h acc e1 h2 fun b hb => hh b (List.mem_cons_of_mem _ hb)
    | some o =>
      rw [List.filterMap_cons_some ha]
      obtain ⟨e', k1, k2⟩ := lcGo_w g h (acc ++ [o]) e1 h2 fun b hb => hh b (List.mem_cons_of_mem _ hb)
      exact ⟨e', by dsimp only; rw [k1, List.append_assoc]; rfl, k2⟩
section
variable {own : List Nat} {t : Tg} {k : Ik} {rs : Ev → R (List TV)} {rc : Ev → R Bool} {ro : Ev → R O} {e : Ev} {ts : List TV} {ds : List D} {α : Type} {xs : List α}
theorem resL_w (g : α → D) (h : α → Option O) (h1 : rs e = .ok ts e) (h2 : freeOwn e own = true) (h3 : ts.mapM srcD = some ds) (h4 : walkD k ds = some (xs.map g))
    (ht : ∀ a ∈ xs, ∃ e', turnL own t rc ro (g a) (wipeE e own) = .ok (h a) e' ∧ wipeE e' own = wipeE e own) (hl : xs.length ≤ 16777216) :
    resL own t k rs rc ro e = .ok (.own (.lst (xs.filterMap h))) e := by
  obtain ⟨e', k1, k2⟩ := lcGo_w (xs := xs) g h [] e rfl ht
  unfold resL
  rw [h1]
  simp only [R.bd_ok]
  rw [if_pos h2, h3]
  dsimp only
  rw [h4]
  dsimp only
  rw [k1]
  simp only [R.bd_ok, List.nil_append]
  rw [if_pos (by rw [sL]; exact Nat.le_trans (List.length_filterMap_le ..) hl), restore_w k2]
  rfl
/-- [f(x) for x in ..] -/
theorem resL_map (g : α → D) (h : α → D) (h1 : rs e = .ok ts e) (h2 : freeOwn e own = true) (h3 : ts.mapM srcD = some ds) (h4 : walkD k ds = some (xs.map g))
    (ht : ∀ a ∈ xs, ∃ e', turnL own t rc ro (g a) (wipeE e own) = .ok (some (.fz (h a))) e' ∧ wipeE e' own = wipeE e own) (hl : xs.length ≤ 16777216) :
    resL own t k rs rc ro e = .ok (.own (.lst (fzs (xs.map h)))) e := by
  rw [resL_w g (fun a => some (.fz (h a))) h1 h2 h3 h4 ht hl]
  simp [fzs_d]
/-- [f(x) for x in .. if p(x)] -/
theorem resL_fil (g : α → D) (p : α → Bool) (h : α → D) (h1 : rs e = .ok ts e) (h2 : freeOwn e own = true) (h3 : ts.mapM srcD = some ds) (h4 : walkD k ds = some (xs.map g))
    (ht : ∀ a ∈ xs, ∃ e', turnL own t rc ro (g a) (wipeE e own) = .ok (if p a then some (.fz (h a)) else none) e' ∧ wipeE e' own = wipeE e own) (hl : xs.length ≤ 16777216) :
    resL own t k rs rc ro e = .ok (.own (.lst (fzs ((xs.filter p).map h)))) e := by
  rw [resL_w g (fun a => if p a then some (.fz (h a)) else none) h1 h2 h3 h4 ht hl]
  congr 3
  rw [fzs_d]
  clear ht h4 hl
  induction xs with
  | nil => rfl
  | cons a r ih =>
    cases hp : p a with
    | true => rw [List.filterMap_cons_some (by rw [hp]; rfl), List.filter_cons_of_pos (by simp [hp]), ih]; rfl
    | false => rw [List.filterMap_cons_none (by rw [hp]; rfl), List.filter_cons_of_neg (by simp [hp]), ih]
end
def turnC (ro : Ev → R O) (b : Bool) (e2 : Ev) : R (Option O) := if b then (ro e2).bd fun o e3 => .ok (some o) e3 else .ok none e2
@[simp] theorem turnC_t (ro : Ev → R O) (e : Ev) : turnC ro true e = (ro e).bd fun o e3 => .ok (some o) e3 := rfl
@[simp] theorem turnC_f (ro : Ev → R O) (e : Ev) : turnC ro false e = .ok none e := rfl
def turnA (rc : Ev → R Bool) (ro : Ev → R O) : Option Ev → R (Option O)
  | none => .bad
  | some e1 => (rc e1).bd (turnC ro)
@[simp] theorem turnA_s (rc : Ev → R Bool) (ro : Ev → R O) (e : Ev) : turnA rc ro (some e) = (rc e).bd (turnC ro) := rfl
theorem turnL_d (own : List Nat) (t : Tg) (rc : Ev → R Bool) (ro : Ev → R O) (d : D) (e : Ev) : turnL own t rc ro d e = turnA rc ro (asgT (compl own (wipeE e own).length) t (.fz d) (wipeE e own)) := by
  unfold turnL
  cases asgT (compl own (wipeE e own).length) t (.fz d) (wipeE e own) <;> rfl
@[simp] theorem cnd_nul (r : R TV) (e : Ev) : cnd .nul r e = .ok true e := rfl
theorem cnd_e {x : E} (r : R TV) (e : Ev) (h : x ≠ .nul) : cnd x r e = r.bd boolT := by cases x <;> first | rfl | exact absurd rfl h
/-! ### what is walked -/
@[simp] theorem srcD_own (ds : List D) : srcD (.own (.lst (fzs ds))) = some (.list ds) := shallow_lfz ds
@[simp] theorem srcD_brw (ds : List D) : srcD (.brw (.lst (fzs ds))) = some (.list ds) := shallow_lfz ds
@[simp] theorem srcD_fz (d : D) : srcD (.own (.fz d)) = some d := rfl
theorem rngL_map (a b : Int) : rngL a (b - a).toNat = ((List.range (b - a).toNat).map fun k => a + (k : Nat)).map .int := by
  unfold rngL; simp
@[simp] theorem walk_r0 {b : Int} (h1 : -4611686018427387904 ≤ b) (h2 : b < 4611686018427387904) : walkD .rng [.int b] = some ((List.range b.toNat).map fun k => .int ((k : Nat) : Int)) := by
  have : rngOk b = true := by
    unfold rngOk
    rw [Bool.and_eq_true, decide_eq_true_eq, decide_eq_true_eq]
    exact ⟨h1, h2⟩
  simp only [walkD, this, if_true, rngL, Int.zero_add]
@[simp] theorem walk_r {a b : Int} (h1 : -4611686018427387904 ≤ b) (h2 : b < 4611686018427387904) (h3 : -4611686018427387904 ≤ a) (h4 : a < 4611686018427387904) : walkD .rng [.int a, .int b] = some ((List.range (b - a).toNat).map fun k => .int (a + ((k : Nat) : Int))) := by
  have e1 : rngOk b = true := by
    unfold rngOk
    rw [Bool.and_eq_true, decide_eq_true_eq, decide_eq_true_eq]
    exact ⟨h1, h2⟩
  have e2 : rngOk a = true := by
    unfold rngOk
    rw [Bool.and_eq_true, decide_eq_true_eq, decide_eq_true_eq]
    exact ⟨h3, h4⟩
  simp only [walkD, e1, e2, Bool.and_true, if_true, rngL]
@[simp] theorem walk_d {a b : Int} (h1 : -4611686018427387904 ≤ b) (h2 : b < 4611686018427387904) (h3 : -4611686018427387904 ≤ a) (h4 : a < 4611686018427387904) : walkD .rng [.int a, .int b, .int (-1)] = some ((List.range (a - b).toNat).map fun k => .int (a - ((k : Nat) : Int))) := by
  have e1 : rngOk b = true := by
    unfold rngOk
    simp only [Bool.and_eq_true, decide_eq_true_eq]
    exact ⟨h1, h2⟩
  have e2 : rngOk a = true := by
    unfold rngOk
    simp only [Bool.and_eq_true, decide_eq_true_eq]
    exact ⟨h3, h4⟩
  simp [walkD, e1, e2, rngD]
@[simp] theorem walk_l (ds : List D) : walkD .sq [.list ds] = some ds := rfl
@[simp] theorem walk_t (ds : List D) : walkD .sq [.tuple ds] = some ds := rfl
@[simp] theorem walk_s (z : Str) : walkD .sq [.str z] = some (z.cps.toList.map sgn) := rfl
theorem enumL_eq : ∀ (ds : List D) (k : Nat), enumL ds k = (ds.zipIdx k).map fun p => .tuple [.int ((p.2 : Nat) : Int), p.1]
  | [], _ => rfl
  | d :: ds, k => by simp only [enumL, List.zipIdx_cons, List.map_cons, enumL_eq ds (k + 1)]
@[simp] theorem walk_e {α : Type} (xs : List α) (g : α → D) : walkD .enm [.list (xs.map g)] = some (xs.zipIdx.map fun p => .tuple [.int ((p.2 : Nat) : Int), g p.1]) := by
  show some (enumL (xs.map g) 0) = _
  rw [enumL_eq, List.zipIdx_map, List.map_map]; rfl
theorem zipL_eq {α β : Type} (f : α → D) (g : β → D) : ∀ (as : List α) (bs : List β), zipL (as.map f) (bs.map g) = (as.zip bs).map fun p => .tuple [f p.1, g p.2]
  | [], _ => by simp [zipL]
  | _ :: _, [] => by simp [zipL]
  | a :: as, b :: bs => by simp only [List.map_cons, zipL, List.zip_cons_cons, zipL_eq f g as bs]
@[simp] theorem walk_z {α β : Type} (as : List α) (bs : List β) (f : α → D) (g : β → D) : walkD .zip [.list (as.map f), .list (bs.map g)] = some ((as.zip bs).map fun p => .tuple [f p.1, g p.2]) := by
  show some (zipL (as.map f) (bs.map g)) = _
  rw [zipL_eq]
/-! ### for, by what is walked -/
section
variable (cf : CF) (p : List Nat) {t : Tg} {body : List S} {e : Ev} {ds : List D}
/-- a source that stands in no slot that owns -/
theorem forX_n {k : Ik} {src : List E} {ts : List TV} {us xs : List D} (hl : lentOf src e = []) (h1 : srcsAt src ts e = some us) (h2 : walkD k us = some xs) : forX cf p t k src body ts e = forGo (turnX cf p t body) xs e := forX_0 cf p hl h1 h2
end
/-! ### parts of slots -/
@[simp] theorem modO_n (f : O → Option O) (o : O) : modO [] f o = f o := by cases o <;> rfl
@[simp] theorem subO_n (o : O) : subO [] o = some o := by cases o <;> rfl
@[simp] theorem subAt_n (e : Ev) (i : Nat) : subAt e i [] = ownAt e i := by unfold subAt; cases ownAt e i <;> simp
def ownG : Option (Option SL) → Option O
  | some (some (.own o)) => some o
  | _ => none
@[simp] theorem ownG_o (o : O) : ownG (some (some (.own o))) = some o := rfl
@[simp] theorem ownAt_d (e : Ev) (i : Nat) : ownAt e i = ownG e[i]? := by unfold ownAt ownG; rfl
@[simp] theorem isLst_l (os : List O) : isLst (some (.lst os)) = true := rfl
def modG (e : Ev) (i : Nat) (π : List Int) (f : O → Option O) : Option O → Option Ev
  | some o => (modO π f o).map fun o' => e.set i (some (.own o'))
  | none => none
@[simp] theorem modG_s (e : Ev) (i : Nat) (π : List Int) (f : O → Option O) (o : O) : modG e i π f (some o) = (modO π f o).map fun o' => e.set i (some (.own o')) := rfl
@[simp] theorem modAt_d (e : Ev) (i : Nat) (π : List Int) (f : O → Option O) : modAt e i π f = modG e i π f (ownAt e i) := by unfold modAt modG; rfl
def paG (e : Ev) (i : Nat) : Option O → R (Nat × List Int)
  | some _ => .ok (i, []) e
  | none => .bad
@[simp] theorem paG_s (e : Ev) (i : Nat) (o : O) : paG e i (some o) = .ok (i, []) e := rfl
@[simp] theorem evalPa_v (cf : CF) (i : Nat) (e : Ev) : evalPa cf (.var i) e = paG e i (ownAt e i) := by simp only [evalPa]; unfold paG; rfl
theorem ixN_ok {n : Nat} {k : Int} (h1 : 0 ≤ k) (h2 : k < n) : L2.ixN n k = some k.toNat := by
  unfold L2.ixN
  rw [if_pos h1, if_pos h2]
theorem ixN_neg {n : Nat} {k : Int} (h1 : k < 0) (h2 : 0 ≤ k + n) : L2.ixN n k = some (k + n).toNat := by
  unfold L2.ixN
  rw [if_neg (by omega), if_pos (by omega)]
theorem atI_ok {α : Type} {xs : List α} {k : Int} (h1 : 0 ≤ k) (h2 : k < xs.length) : atI xs k = xs[k.toNat]? := by
  unfold L2.atI
  rw [ixN_ok h1 h2]; rfl
theorem atI_neg {α : Type} {xs : List α} {k : Int} (h1 : k < 0) (h2 : 0 ≤ k + xs.length) : atI xs k = xs[(k + xs.length).toNat]? := by
  unfold L2.atI
  rw [ixN_neg h1 h2]; rfl
@[simp] theorem atI_last {α : Type} (xs : List α) (x : α) : atI (xs ++ [x]) (-1) = some x := by
  rw [atI_neg (by decide) (by simp; omega), List.length_append, List.length_singleton, show ((-1 : Int) + ((xs.length + 1 : Nat) : Int)).toNat = xs.length by omega]
  simp
theorem setF_z {ds : List D} {k : Int} {x : D} (h1 : 0 ≤ k) (h2 : k < ds.length) : setF k (.fz x) (.lst (fzs ds)) = some (.lst (fzs (ds.set k.toNat x))) := by
  show (L2.ixN (fzs ds).length k).map _ = _
  rw [fzs_len, ixN_ok h1 h2]
  show some (O.lst ((fzs ds).set k.toNat (.fz x))) = _
  rw [fzs_d, fzs_d, List.map_set]
@[simp] theorem setF_last (ds : List D) (y x : D) : setF (-1) (.fz x) (.lst (fzs (ds ++ [y]))) = some (.lst (fzs (ds ++ [x]))) := by
  show (L2.ixN (fzs (ds ++ [y])).length (-1)).map _ = _
  rw [fzs_len, ixN_neg (by decide) (by simp; omega)]
  show some (O.lst ((fzs (ds ++ [y])).set _ (.fz x))) = _
  have : ((-1 : Int) + ((ds ++ [y]).length : Nat)).toNat = ds.length := by rw [List.length_append, List.length_singleton]; omega
  rw [this, fzs_d, fzs_d]
  simp
end TL
namespace TL
open PySem PySem.Spec L2
/-! ### both ways of a choice, put together again -/
@[simp low] theorem ch_if {β : Type} (b : Bool) (x y : Ev → R β) (e : Ev) : ch b x y e = if b then x e else y e := rfl
@[simp low] theorem chE_if {β : Type} (b : Bool) (x y : R β) : chE b x y = if b then x else y := rfl
@[simp low] theorem chG1_if (cf : CF) (op : CmpOp) (c : E) (tb : TV) (k : Bool) (e : Ev) : chG1 cf op c tb k e = if k then (evalE cf c e).bd (chG2 op tb) else .ok (.own (.fz (.bool false))) e := rfl
section
variable {c : Prop} [Decidable c]
@[simp] theorem lp_ite (a b : R Fl) (k : Ev → R Fl) : lp (if c then a else b) k = if c then lp a k else lp b k := by split <;> rfl
@[simp] theorem i_nx (e1 e2 : Ev) : (if c then R.ok Fl.nx e1 else R.ok Fl.nx e2) = R.ok Fl.nx (if c then e1 else e2) := by split <;> rfl
@[simp] theorem i_ret (o1 o2 : O) (e1 e2 : Ev) : (if c then R.ok (Fl.ret o1) e1 else R.ok (Fl.ret o2) e2) = R.ok (Fl.ret (if c then o1 else o2)) (if c then e1 else e2) := by split <;> rfl
@[simp] theorem i_tv (t1 t2 : TV) (e : Ev) : (if c then R.ok t1 e else R.ok t2 e) = R.ok (if c then t1 else t2) e := by split <;> rfl
@[simp] theorem i_b (t1 t2 : Bool) (e : Ev) : (if c then R.ok t1 e else R.ok t2 e) = R.ok (if c then t1 else t2) e := by split <;> rfl
@[simp] theorem i_cons (a b : Option SL) (l m : Ev) : (if c then a :: l else b :: m) = (if c then a else b) :: (if c then l else m) := by split <;> rfl
@[simp] theorem i_some (a b : SL) : (if c then some a else some b) = some (if c then a else b) := by split <;> rfl
@[simp] theorem i_sown (a b : O) : (if c then SL.own a else SL.own b) = .own (if c then a else b) := by split <;> rfl
@[simp] theorem i_own (a b : O) : (if c then TV.own a else TV.own b) = .own (if c then a else b) := by split <;> rfl
@[simp] theorem i_fz (a b : D) : (if c then O.fz a else O.fz b) = .fz (if c then a else b) := by split <;> rfl
@[simp] theorem i_lst (a b : List O) : (if c then O.lst a else O.lst b) = .lst (if c then a else b) := by split <;> rfl
@[simp] theorem i_fzs (a b : List D) : (if c then fzs a else fzs b) = fzs (if c then a else b) := by split <;> rfl
@[simp] theorem i_int (a b : Int) : (if c then PyData.int a else PyData.int b) = .int (if c then a else b) := by split <;> rfl
@[simp] theorem i_bool (a b : Bool) : (if c then PyData.bool a else PyData.bool b) = .bool (if c then a else b) := by split <;> rfl
@[simp] theorem i_str (a b : Str) : (if c then PyData.str a else PyData.str b) = .str (if c then a else b) := by split <;> rfl
@[simp] theorem i_tup (a b : List D) : (if c then PyData.tuple a else PyData.tuple b) = .tuple (if c then a else b) := by split <;> rfl
@[simp] theorem i_list (a b : List D) : (if c then PyData.list a else PyData.list b) = .list (if c then a else b) := by split <;> rfl
@[simp] theorem i_dcons (a b : D) (l m : List D) : (if c then a :: l else b :: m) = (if c then a else b) :: (if c then l else m) := by split <;> rfl
@[simp] theorem i_od (a b : D) : (if c then some a else some b) = some (if c then a else b) := by split <;> rfl
end
section
variable {α : Type} (a b c d : α) (n : Int)
@[simp] theorem atI_2 : atI [a, b] (n % 2) = some (if n % 2 = 0 then a else b) := by
  rcases (by omega : n % 2 = 0 ∨ n % 2 = 1) with h | h <;> rw [h] <;> rfl
@[simp] theorem atI_3 : atI [a, b, c] (n % 3) = some (if n % 3 = 0 then a else if n % 3 = 1 then b else c) := by
  rcases (by omega : n % 3 = 0 ∨ n % 3 = 1 ∨ n % 3 = 2) with h | h | h <;> rw [h] <;> rfl
@[simp] theorem atI_4 : atI [a, b, c, d] (n % 4) = some (if n % 4 = 0 then a else if n % 4 = 1 then b else if n % 4 = 2 then c else d) := by
  rcases (by omega : n % 4 = 0 ∨ n % 4 = 1 ∨ n % 4 = 2 ∨ n % 4 = 3) with h | h | h | h <;> rw [h] <;> rfl
end
@[simp] theorem augG_a (i : Nat) (a b : Int) (e : Ev) : augG .Add i a (.own (.fz (.int b))) e = .ok .nx (e.set i (some (.own (.fz (.int (a + b)))))) := rfl
@[simp] theorem augG_s (i : Nat) (a b : Int) (e : Ev) : augG .Sub i a (.own (.fz (.int b))) e = .ok .nx (e.set i (some (.own (.fz (.int (a - b)))))) := rfl
/-! ### for, step by step -/
def forW (cf : CF) (p : List Nat) (t : Tg) (body : List S) (l : List (Nat × O)) (e : Ev) : Option (List D) → R Fl
  | some xs => match lendE l e with
    | some e2 => if lentOk l p then backR l (forGo (turnX cf (l.map (·.1) ++ p) t body) xs e2) else .bad
    | none => .bad
  | none => .bad
def walkO (k : Ik) : Option (List D) → Option (List D)
  | some ds => walkD k ds
  | none => none
@[simp] theorem walkO_s (k : Ik) (ds : List D) : walkO k (some ds) = walkD k ds := rfl
@[simp] theorem forX_d (cf : CF) (p : List Nat) (t : Tg) (k : Ik) (src : List E) (body : List S) (ts : List TV) (e : Ev) : forX cf p t k src body ts e = forW cf p t body (lentOf src e) e (walkO k (srcsAt src ts e)) := by
  unfold forX forW
  cases srcsAt src ts e with
  | none => rfl
  | some ds =>
    simp only [walkO_s]
    cases walkD k ds with
    | none => rfl
    | some xs => cases lendE (lentOf src e) e <;> rfl
@[simp] theorem forW_nil (cf : CF) (p : List Nat) (t : Tg) (body : List S) (e : Ev) (xs : List D) : forW cf p t body [] e (some xs) = forGo (turnX cf p t body) xs e := by
  show (if true then backR [] (forGo (turnX cf ([] ++ p) t body) xs e) else .bad) = _
  rw [if_pos rfl, List.nil_append]
  cases forGo (turnX cf p t body) xs e <;> rfl
@[simp] theorem forW_one (cf : CF) (p : List Nat) (t : Tg) (body : List S) (i : Nat) (ds : List D) (e : Ev) (xs : List D) : forW cf p t body [(i, .lst (fzs ds))] e (some xs) = gd (!p.contains i) (backR [(i, .lst (fzs ds))] (forGo (turnX cf (i :: p) t body) xs (e.set i (some (.par (.list ds)))))) := by
  simp only [forW, lendE, shallow_lfz, lentOk, gd]
  cases h : p.contains i <;> simp_all
@[simp] theorem backR_nx (l : List (Nat × O)) (f : Fl) (e : Ev) : backR l (.ok f e) = .ok f (lendBack l e) := rfl
@[simp] theorem backR_exc (l : List (Nat × O)) (c : Nat) (e : Ev) : backR l (.exc c e) = .exc c (lendBack l e) := rfl
@[simp] theorem backR_ite {c : Prop} [Decidable c] (l : List (Nat × O)) (a b : R Fl) : backR l (if c then a else b) = if c then backR l a else backR l b := by split <;> rfl
@[simp] theorem lendBack_n (e : Ev) : lendBack [] e = e := rfl
@[simp] theorem lendBack_c (i : Nat) (o : O) (l : List (Nat × O)) (e : Ev) : lendBack ((i, o) :: l) e = (lendBack l e).set i (some (.own o)) := rfl
def lentV (i : Nat) (r : List (Nat × O)) : Option (Option SL) → List (Nat × O)
  | some (some (.own (.fz _))) => r
  | some (some (.own o)) => (i, o) :: r
  | _ => r
@[simp] theorem lentV_f (i : Nat) (r : List (Nat × O)) (d : D) : lentV i r (some (some (.own (.fz d)))) = r := rfl
@[simp] theorem lentV_l (i : Nat) (r : List (Nat × O)) (os : List O) : lentV i r (some (some (.own (.lst os)))) = (i, .lst os) :: r := rfl
@[simp] theorem lentV_p (i : Nat) (r : List (Nat × O)) (d : D) : lentV i r (some (some (.par d))) = r := rfl
@[simp] theorem lent_n (e : Ev) : lentOf [] e = [] := rfl
@[simp] theorem lent_v (i : Nat) (xs : List E) (e : Ev) : lentOf (.var i :: xs) e = lentV i (lentOf xs e) e[i]? := by
  simp only [lentOf]
  generalize e[i]? = z
  cases z with
  | none => rfl
  | some z => cases z with
    | none => rfl
    | some s => cases s with
      | par d => rfl
      | own o => cases o <;> rfl
@[simp] theorem lent_bin (o : Operator) (a b : E) (xs : List E) (e : Ev) : lentOf (.bin o a b :: xs) e = lentOf xs e := rfl
@[simp] theorem srcAt_bin (o : Operator) (a b : E) (t : TV) (e : Ev) : srcAt (.bin o a b) t e = if stable t then srcD t else none := rfl
@[simp] theorem lent_con (d : D) (xs : List E) (e : Ev) : lentOf (.con d :: xs) e = lentOf xs e := rfl
@[simp] theorem srcAt_con (d : D) (t : TV) (e : Ev) : srcAt (.con d) t e = if stable t then srcD t else none := rfl
@[simp] theorem lent_glb (x : Str) (d : D) (xs : List E) (e : Ev) : lentOf (.glb x d :: xs) e = lentOf xs e := rfl
@[simp] theorem srcAt_glb (x : Str) (d : D) (t : TV) (e : Ev) : srcAt (.glb x d) t e = if stable t then srcD t else none := rfl
@[simp] theorem lent_slc (a b c : E) (xs : List E) (e : Ev) : lentOf (.slc a b c :: xs) e = lentOf xs e := rfl
@[simp] theorem srcAt_slc (a b c : E) (t : TV) (e : Ev) : srcAt (.slc a b c) t e = if stable t then srcD t else none := rfl
@[simp] theorem lent_ix (a b : E) (xs : List E) (e : Ev) : lentOf (.ix a b :: xs) e = lentOf xs e := rfl
@[simp] theorem srcAt_ix (a b : E) (t : TV) (e : Ev) : srcAt (.ix a b) t e = if stable t then srcD t else none := rfl
@[simp] theorem lent_tup (l : List E) (xs : List E) (e : Ev) : lentOf (.tup l :: xs) e = lentOf xs e := rfl
@[simp] theorem srcAt_tup (l : List E) (t : TV) (e : Ev) : srcAt (.tup l) t e = if stable t then srcD t else none := rfl
@[simp] theorem lent_lst (l : List E) (xs : List E) (e : Ev) : lentOf (.lst l :: xs) e = lentOf xs e := rfl
@[simp] theorem srcAt_lst (l : List E) (t : TV) (e : Ev) : srcAt (.lst l) t e = if stable t then srcD t else none := rfl
@[simp] theorem lent_call (i : Nat) (m : List Md) (l : List E) (d : List D) (xs : List E) (e : Ev) : lentOf (.call i m l d :: xs) e = lentOf xs e := rfl
@[simp] theorem srcAt_call (i : Nat) (m : List Md) (l : List E) (d : List D) (t : TV) (e : Ev) : srcAt (.call i m l d) t e = if stable t then srcD t else none := rfl
@[simp] theorem lent_blt (f : Bf) (l : List E) (xs : List E) (e : Ev) : lentOf (.blt f l :: xs) e = lentOf xs e := rfl
@[simp] theorem srcAt_blt (f : Bf) (l : List E) (t : TV) (e : Ev) : srcAt (.blt f l) t e = if stable t then srcD t else none := rfl
@[simp] theorem lent_met (m : Bm) (a b : E) (xs : List E) (e : Ev) : lentOf (.met m a b :: xs) e = lentOf xs e := rfl
@[simp] theorem srcAt_met (m : Bm) (a b : E) (t : TV) (e : Ev) : srcAt (.met m a b) t e = if stable t then srcD t else none := rfl
@[simp] theorem lent_lc (o : List Nat) (t : Tg) (k : Ik) (s : List E) (c x : E) (xs : List E) (e : Ev) : lentOf (.lc o t k s c x :: xs) e = lentOf xs e := rfl
@[simp] theorem srcAt_lc (o : List Nat) (g : Tg) (k : Ik) (s : List E) (c x : E) (t : TV) (e : Ev) : srcAt (.lc o g k s c x) t e = if stable t then srcD t else none := rfl
@[simp] theorem lent_ite (a b c : E) (xs : List E) (e : Ev) : lentOf (.ite a b c :: xs) e = lentOf xs e := rfl
@[simp] theorem srcAt_ite (a b c : E) (t : TV) (e : Ev) : srcAt (.ite a b c) t e = if stable t then srcD t else none := rfl
@[simp] theorem lent_neg (a : E) (xs : List E) (e : Ev) : lentOf (.neg a :: xs) e = lentOf xs e := rfl
@[simp] theorem srcAt_neg (a : E) (t : TV) (e : Ev) : srcAt (.neg a) t e = if stable t then srcD t else none := rfl
def srcC : Option D → Option (List D) → Option (List D)
  | some d, some ds => some (d :: ds)
  | _, _ => none
@[simp] theorem srcC_s (d : D) (ds : List D) : srcC (some d) (some ds) = some (d :: ds) := rfl
@[simp] theorem srcs_n (e : Ev) : srcsAt [] [] e = some [] := rfl
@[simp] theorem srcs_c (x : E) (xs : List E) (t : TV) (ts : List TV) (e : Ev) : srcsAt (x :: xs) (t :: ts) e = srcC (srcAt x t e) (srcsAt xs ts e) := by
  simp only [srcsAt]
  cases srcAt x t e <;> cases srcsAt xs ts e <;> rfl
def srcV : Option (Option SL) → Option D
  | some (some (.own o)) => shallow o
  | some (some (.par d)) => some d
  | _ => none
@[simp] theorem srcV_o (o : O) : srcV (some (some (.own o))) = shallow o := rfl
@[simp] theorem srcV_p (d : D) : srcV (some (some (.par d))) = some d := rfl
@[simp] theorem srcAt_v (i : Nat) (t : TV) (e : Ev) : srcAt (.var i) t e = srcV e[i]? := by
  unfold srcAt srcV
  rfl
@[simp] theorem get_z {α : Type} (a : α) (l : List α) : (a :: l)[0]? = some a := rfl
@[simp] theorem get_s {α : Type} (a : α) (l : List α) (n : Nat) : (a :: l)[n + 1]? = l[n]? := rfl
@[simp] theorem get_e {α : Type} (n : Nat) : ([] : List α)[n]? = none := rfl
end TL
namespace TL
open PySem PySem.Spec L2
/-! ### texts as lists of codes -/
def tx (l : List Nat) : Str := ⟨l.toArray⟩
theorem tx_S (l : List Nat) : tx l = SX.S l := rfl
theorem tx_tl (x : Str) : tx x.cps.toList = x := mk_tl x
@[simp] theorem tl_tx (l : List Nat) : (tx l).cps.toList = l := rfl
@[simp] theorem tx_len (l : List Nat) : (tx l).length = l.length := SX.S_len l
@[simp] theorem tx_app (a b : List Nat) : tx a ++ tx b = tx (a ++ b) := SX.S_cat a b
@[simp] theorem tx_beq (a b : List Nat) : (tx a == tx b) = decide (a = b) := SX.S_beq_eq
@[simp] theorem tx_inj (a b : List Nat) : tx a = tx b ↔ a = b := ⟨fun h => SX.S_inj h, fun h => by rw [h]⟩
@[simp] theorem sgn_tx (c : Nat) : sgn c = .str (tx [c]) := rfl
@[simp] theorem ixO_tx {l : List Nat} {i : Int} (h : l.length ≤ 16777216) : ixO (.fz (.str (tx l))) (.int i) = (atI l i).map fun c => .fz (.str (tx [c])) := by
  rw [ixO_s (by rw [tx_len, sL]; exact h)]; rfl
@[simp] theorem occurs_tx (c : Nat) (l : List Nat) : occurs (tx [c]) (tx l) = decide (c ∈ l) := SX.in_one l c
theorem in_tx (c : Nat) (l : List Nat) : inD (.str (tx [c])) (.str (tx l)) = some (decide (c ∈ l)) := by
  show some (occurs _ _) = _
  rw [occurs_tx]
@[simp] theorem In_tx (c : Nat) (l : List Nat) : cmpD .In (.str (tx [c])) (.str (tx l)) = some (decide (c ∈ l)) := in_tx c l
@[simp] theorem NotIn_tx (c : Nat) (l : List Nat) : cmpD .NotIn (.str (tx [c])) (.str (tx l)) = some (!decide (c ∈ l)) := by
  show (inD (.str (tx [c])) (.str (tx l))).map (!·) = _
  rw [in_tx]; rfl
@[simp] theorem repS_tx (l : List Nat) (k : Int) : repS (tx l) k = tx (List.replicate k.toNat l).flatten := rfl
@[simp] theorem mul_s {l : List Nat} {k : Int} (h1 : -4611686018427387904 < k) (h2 : k < 4611686018427387904) (h3 : l.length * k.toNat ≤ 16777216) : binOp .Mult (.own (.fz (.str (tx l)))) (.own (.fz (.int k))) = some (.own (.fz (.str (tx (List.replicate k.toNat l).flatten)))) := by
  show (if decide (k < 2 ^ 62) && decide (-(2 ^ 62) < k) && decide ((tx l).length * k.toNat ≤ sizeLine) then _ else _) = _
  rw [if_pos]
  · rfl
  · rw [tx_len, sL, Bool.and_eq_true, Bool.and_eq_true, decide_eq_true_eq, decide_eq_true_eq, decide_eq_true_eq]
    exact ⟨⟨h2, h1⟩, h3⟩
@[simp] theorem split_tx {a b : List Nat} (hb : b ≠ []) (hk : b.all (· < 256) = true) (h : a.length ≤ 16777214) : metV .split (.own (.fz (.str (tx a)))) (.own (.fz (.str (tx b)))) = some (.own (.lst (fzs ((spl b 0 [] a).map fun l => .str (tx l))))) := by
  show (if ((tx b).length == 0) = false ∧ (tx a).length + 2 ≤ sizeLine then _ else _) = _
  rw [if_pos]
  · congr 3
    rw [tx_S, tx_S, SX.split_S hb hk, List.map_map, fzs_d, List.map_map]; rfl
  · rw [tx_len, tx_len, sL]
    refine ⟨?_, by omega⟩
    cases b with
    | nil => exact absurd rfl hb
    | cons _ _ => rfl
@[simp] theorem isStr_s (x : Str) : isStr (.own (.fz (.str x))) = true := rfl
theorem strsOf_tx : ∀ l : List (List Nat), strsOf (l.map fun x => .str (tx x)) = some (l.map tx)
  | [] => rfl
  | x :: l => by simp only [List.map_cons, strsOf, strsOf_tx l, Option.map_some]
theorem join_tx {ta : TV} {a : List Nat} {tb : TV} {ys : List (List Nat)} (h1 : rd ta = .str (tx a)) (h2 : rd tb = .list (ys.map fun x => .str (tx x))) (h : (ys.map List.length).sum + ys.length * a.length ≤ 16777216) : metV .join ta tb = some (.own (.fz (.str (tx (joinL a ys))))) := by
  unfold metV
  rw [h1, h2]
  dsimp only
  rw [strsOf_tx]
  dsimp only
  have e : (ys.map tx).map (fun x => x.length) = ys.map List.length := by rw [List.map_map]; congr 1
  rw [if_pos]
  · show some (fl (.str (Txt.join (SX.S a) (ys.map SX.S)))) = _
    rw [SX.join_S]; rfl
  · rw [e, List.length_map, tx_len]; exact h
@[simp] theorem join_o {a : List Nat} {ys : List (List Nat)} (h : (ys.map List.length).sum + ys.length * a.length ≤ 16777216) : metV .join (.own (.fz (.str (tx a)))) (.own (.lst (fzs (ys.map fun x => .str (tx x))))) = some (.own (.fz (.str (tx (joinL a ys))))) := join_tx rfl (by simp) h
@[simp] theorem join_b {a : List Nat} {ys : List (List Nat)} (h : (ys.map List.length).sum + ys.length * a.length ≤ 16777216) : metV .join (.own (.fz (.str (tx a)))) (.brw (.lst (fzs (ys.map fun x => .str (tx x))))) = some (.own (.fz (.str (tx (joinL a ys))))) := join_tx rfl (by simp) h
@[simp] theorem join_f {a : List Nat} {ys : List (List Nat)} (h : (ys.map List.length).sum + ys.length * a.length ≤ 16777216) : metV .join (.own (.fz (.str (tx a)))) (.own (.fz (.list (ys.map fun x => .str (tx x))))) = some (.own (.fz (.str (tx (joinL a ys))))) := join_tx rfl rfl h
theorem joinL_nil : ∀ ys : List (List Nat), joinL [] ys = ys.flatten
  | [] => rfl
  | [p] => by simp [joinL]
  | p :: q :: r => by
    show p ++ ([] ++ joinL [] (q :: r)) = _
    rw [joinL_nil (q :: r)]; rfl
/-! ### whole numbers' texts -/
theorem log_ok {n : Nat} (h : n < 10 ^ 100) : n.log2 < 1920 := by
  have : n < 2 ^ 1920 := Nat.lt_trans h (by decide +kernel)
  by_cases h0 : n = 0
  · subst h0; decide
  · exact (Nat.log2_lt h0).mpr this
def numS (i : Int) : List Nat := numL i.toNat
theorem str_nn {i : Int} (h0 : 0 ≤ i) (h1 : i.toNat < 10 ^ 100) : bltV .str [.own (.fz (.int i))] = some (.own (.fz (.str (tx (numS i))))) := by
  obtain ⟨n, rfl⟩ := Int.eq_ofNat_of_zero_le h0
  show (if (n : Int).natAbs.log2 < 1920 then some (fl (.str (toString (n : Int)))) else none) = _
  rw [if_pos (log_ok (by simpa using h1))]
  show some (fl (.str (Str.ofString (toString (n : Int))))) = _
  rw [SX.num_S]
  rfl
@[simp] theorem str_i {i : Int} (h0 : 0 ≤ i) (h1 : i < 10000000000000000000000000000000000000000000000000000000000000000000000000000000000000000000000000000) : bltV .str [.own (.fz (.int i))] = some (.own (.fz (.str (tx (numS i))))) := by
  refine str_nn h0 ?_
  have : ((i.toNat : Nat) : Int) < ((10 ^ 100 : Nat) : Int) := by
    rw [Int.toNat_of_nonneg h0]
    exact Int.lt_of_lt_of_le h1 (by decide +kernel)
  omega
theorem numL_mono {m n : Nat} (h : m ≤ n) : (numL m).length ≤ (numL n).length := by
  induction n using Nat.strongRecOn generalizing m with
  | _ n ih =>
    have ih' : ∀ a b, b < n → a ≤ b → (numL a).length ≤ (numL b).length := fun a b hb hab => ih b hb hab
    by_cases hn : n < 10
    · rw [numL_lt hn, numL_lt (by omega)]; simp
    · rw [numL_step (by omega : 10 ≤ n)]
      by_cases hm : m < 10
      · rw [numL_lt hm]
        simp
      · rw [numL_step (by omega : 10 ≤ m), List.length_append, List.length_append]
        have := ih' (m / 10) (n / 10) (by omega) (by omega)
        simp only [List.length_cons, List.length_nil]
        omega
theorem numS_mono {i j : Int} (h : i ≤ j) : (numS i).length ≤ (numS j).length := numL_mono (by omega)
theorem numS_pos (i : Int) : 1 ≤ (numS i).length := by
  have := numL_ne i.toNat
  unfold numS
  cases h : numL i.toNat with
  | nil => exact absurd h this
  | cons _ _ => simp
theorem numS_le {i : Int} (h1 : i < 10000000000000000000000000000000000000000000000000000000000000000000000000000000000000000000000000000) : (numS i).length ≤ 100 := by
  refine numL_len (by decide) ?_
  by_cases h0 : 0 ≤ i
  · have : ((i.toNat : Nat) : Int) < ((10 ^ 100 : Nat) : Int) := by
      rw [Int.toNat_of_nonneg h0]
      exact Int.lt_of_lt_of_le h1 (by decide +kernel)
    omega
  · have : i.toNat = 0 := by omega
    rw [this]; decide
theorem numS_free {i : Int} {s : Nat} (h : s < 48 ∨ 57 < s) : s ∉ numS i := numL_free h
theorem numS_inj {i j : Int} (h0 : 0 ≤ i) (h1 : 0 ≤ j) (h : numS i = numS j) : i = j := by
  have := numL_inj h
  omega
/-! ### slices -/
theorem cutL_to {α : Type} (xs : List α) {b : Int} (h : 0 ≤ b) : cutL xs none (some b) = xs.take b.toNat := by
  unfold cutL HT.sIx
  dsimp only
  rw [if_neg (by omega), List.drop_zero, Nat.sub_zero]
  by_cases hb : b.toNat ≤ xs.length
  · rw [Nat.min_eq_left hb]
  · rw [Nat.min_eq_right (by omega), List.take_length, List.take_of_length_le (by omega)]
theorem cutL_from {α : Type} (xs : List α) {a : Int} (h : 0 ≤ a) : cutL xs (some a) none = xs.drop a.toNat := by
  unfold cutL HT.sIx
  dsimp only
  rw [if_neg (by omega)]
  by_cases hb : a.toNat ≤ xs.length
  · rw [Nat.min_eq_left hb, List.take_of_length_le (by rw [List.length_drop]; omega)]
  · rw [Nat.min_eq_right (by omega), List.drop_length, List.drop_eq_nil_of_le (by omega)]; simp
theorem cutL_in {α : Type} (xs : List α) {a b : Int} (h : 0 ≤ a) (g : 0 ≤ b) : cutL xs (some a) (some b) = (xs.drop a.toNat).take (b.toNat - a.toNat) := by
  unfold cutL HT.sIx
  dsimp only
  rw [if_neg (by omega), if_neg (by omega)]
  by_cases ha : a.toNat ≤ xs.length
  · rw [Nat.min_eq_left ha]
    by_cases hb : b.toNat ≤ xs.length
    · rw [Nat.min_eq_left hb]
    · rw [Nat.min_eq_right (by omega), List.take_of_length_le (by rw [List.length_drop]; omega), List.take_of_length_le (by rw [List.length_drop]; omega)]
  · rw [Nat.min_eq_right (by omega : xs.length ≤ a.toNat), List.drop_length, List.drop_eq_nil_of_le (by omega : xs.length ≤ a.toNat)]; simp
theorem cutL_init {α : Type} (xs : List α) : cutL xs none (some (-1)) = xs.dropLast := by
  unfold cutL HT.sIx
  dsimp only
  rw [if_pos (by decide), List.drop_zero, Nat.sub_zero, List.dropLast_eq_take]
  congr 1
  omega
theorem cutS_tx (l : List Nat) (lo hi : Option Int) : cutS (tx l) lo hi = tx (cutL l lo hi) := by
  unfold cutS cutL
  rw [tl_tx, tx_len]; rfl
@[simp] theorem slc_tx {l : List Nat} {lo hi : Option Int} (h : l.length ≤ 16777216) : slcV (.own (.fz (.str (tx l)))) lo hi = some (.own (.fz (.str (tx (cutL l lo hi))))) := by
  show (if (tx l).length ≤ sizeLine then _ else _) = _
  rw [tx_len, sL, if_pos h, cutS_tx]
@[simp] theorem slc_o (ds : List D) (lo hi : Option Int) : slcV (.own (.lst (fzs ds))) lo hi = some (.own (.lst (fzs (cutL ds lo hi)))) := by
  unfold slcV
  rw [rd_lst]
  show (match fzAll (fzs ds) with | some ds => _ | none => _) = _
  rw [fzAll_m]; rfl
@[simp] theorem slc_b (ds : List D) (lo hi : Option Int) : slcV (.brw (.lst (fzs ds))) lo hi = some (.own (.lst (fzs (cutL ds lo hi)))) := by
  unfold slcV
  rw [rd_blst]
  have : items (.brw (.lst (fzs ds))) = some (fzs ds) := by
    show (fzAll (fzs ds)).map (List.map O.fz) = _
    rw [fzAll_m]; rfl
  rw [this]
  dsimp only
  rw [fzAll_m]; rfl
@[simp] theorem slc_f (ds : List D) (lo hi : Option Int) : slcV (.own (.fz (.list ds))) lo hi = some (.own (.lst (fzs (cutL ds lo hi)))) := by
  show (match fzAll (fzs ds) with | some ds => _ | none => _) = _
  rw [fzAll_m]; rfl
def prtG (t : TV) (e1 : Ev) : R (Option Int) := match rd t with
  | .int i => .ok (some i) e1
  | _ => .bad
@[simp] theorem prtG_i (i : Int) (e : Ev) : prtG (.own (.fz (.int i))) e = .ok (some i) e := rfl
theorem prt_e {x : E} (h : x ≠ .nul) (r : R TV) (e : Ev) : prt x r e = r.bd prtG := by cases x <;> first | rfl | exact absurd rfl h
@[simp] theorem prt_con (d : D) (r : R TV) (e : Ev) : prt (.con d) r e = r.bd prtG := rfl
@[simp] theorem prt_var (d : Nat) (r : R TV) (e : Ev) : prt (.var d) r e = r.bd prtG := rfl
@[simp] theorem prt_bin (o : Operator) (a b : E) (r : R TV) (e : Ev) : prt (.bin o a b) r e = r.bd prtG := rfl
@[simp] theorem prt_neg (a : E) (r : R TV) (e : Ev) : prt (.neg a) r e = r.bd prtG := rfl
@[simp] theorem prt_ix (a b : E) (r : R TV) (e : Ev) : prt (.ix a b) r e = r.bd prtG := rfl
@[simp] theorem prt_idx (a b : E) (r : R TV) (e : Ev) : prt (.idx a b) r e = r.bd prtG := rfl
@[simp] theorem prt_blt (f : Bf) (l : List E) (r : R TV) (e : Ev) : prt (.blt f l) r e = r.bd prtG := rfl
@[simp] theorem prt_call (i : Nat) (m : List Md) (l : List E) (d : List D) (r : R TV) (e : Ev) : prt (.call i m l d) r e = r.bd prtG := rfl
@[simp] theorem cutL_t0 {α : Type} (xs : List α) {b : Int} (h : 0 ≤ b) : cutL xs none (some b) = xs.take b.toNat := cutL_to xs h
@[simp] theorem cutL_f0 {α : Type} (xs : List α) {a : Int} (h : 0 ≤ a) : cutL xs (some a) none = xs.drop a.toNat := cutL_from xs h
@[simp] theorem cutL_i0 {α : Type} (xs : List α) {a b : Int} (h : 0 ≤ a) (g : 0 ≤ b) : cutL xs (some a) (some b) = (xs.drop a.toNat).take (b.toNat - a.toNat) := cutL_in xs h g
@[simp] theorem cutL_m1 {α : Type} (xs : List α) : cutL xs none (some (-1)) = xs.dropLast := cutL_init xs
@[simp] theorem mul_lo {ds : List D} {k : Int} (h1 : -4611686018427387904 < k) (h2 : k < 4611686018427387904) (h3 : ds.length * k.toNat ≤ 16777216) : binOp .Mult (.own (.lst (fzs ds))) (.own (.fz (.int k))) = some (.own (.lst (fzs (List.replicate k.toNat ds).flatten))) := by
  unfold binOp
  rw [rd_lst]
  dsimp only [rd_fz]
  rw [fzAll_m]
  dsimp only
  rw [if_pos]
  · rfl
  · rw [sL, Bool.and_eq_true, Bool.and_eq_true, decide_eq_true_eq, decide_eq_true_eq, decide_eq_true_eq]
    exact ⟨⟨h2, h1⟩, h3⟩
/-! ### list(..), sums -/
@[simp] theorem list_o (ds : List D) : bltV .list [.own (.lst (fzs ds))] = some (.own (.lst (fzs ds))) := by
  unfold bltV
  dsimp only
  rw [rd_lst]; rfl
@[simp] theorem list_f (ds : List D) : bltV .list [.own (.fz (.list ds))] = some (.own (.lst (fzs ds))) := rfl
@[simp] theorem list_b (ds : List D) : bltV .list [.brw (.lst (fzs ds))] = some (.own (.lst (fzs ds))) := by
  unfold bltV
  dsimp only
  rw [rd_blst]
  dsimp only
  show (items (.brw (.lst (fzs ds)))).map _ = _
  have : items (.brw (.lst (fzs ds))) = some (fzs ds) := by
    show (fzAll (fzs ds)).map (List.map O.fz) = _
    rw [fzAll_m]; rfl
  rw [this]; rfl
@[simp] theorem intsOf_n : intsOf [] = some [] := rfl
@[simp] theorem intsOf_c (i : Int) (r : List D) : intsOf (.int i :: r) = (intsOf r).map (i :: ·) := rfl
@[simp] theorem boolsOf_n : boolsOf [] = some [] := rfl
@[simp] theorem boolsOf_c (i : Bool) (r : List D) : boolsOf (.bool i :: r) = (boolsOf r).map (i :: ·) := rfl
@[simp] theorem intsOf_f {α : Type} (f : α → Int) (xs : List α) : intsOf (xs.map fun a => .int (f a)) = some (xs.map f) := by
  induction xs with
  | nil => rfl
  | cons n ns ih => simp only [List.map_cons, intsOf, ih, Option.map_some]
@[simp] theorem boolsOf_f {α : Type} (f : α → Bool) (xs : List α) : boolsOf (xs.map fun a => .bool (f a)) = some (xs.map f) := by
  induction xs with
  | nil => rfl
  | cons n ns ih => simp only [List.map_cons, boolsOf, ih, Option.map_some]
@[simp] theorem intsOf_map (ns : List Int) : intsOf (ns.map .int) = some ns := by
  have := intsOf_f id ns
  simpa using this
def allG (ob : Option (List Bool)) : Option TV := ob.map fun bs => .own (.fz (.bool (bs.all id)))
def anyG (ob : Option (List Bool)) : Option TV := ob.map fun bs => .own (.fz (.bool (bs.any id)))
def sumG (ob : Option (List Int)) : Option TV := ob.map fun bs => .own (.fz (.int bs.sum))
def maxG : Option (List Int) → Option (List (Int × Int)) → Option TV
  | some (i :: r), _ => some (.own (.fz (.int (maxI (i :: r)))))
  | _, some (p :: r) => some (.own (.fz (pairD (maxP (p :: r)))))
  | _, _ => none
def minG : Option (List Int) → Option (List (Int × Int)) → Option TV
  | some (i :: r), _ => some (.own (.fz (.int (minI (i :: r)))))
  | _, some (p :: r) => some (.own (.fz (pairD (minP (p :: r)))))
  | _, _ => none
@[simp] theorem allG_s (bs : List Bool) : allG (some bs) = some (.own (.fz (.bool (bs.all id)))) := rfl
@[simp] theorem anyG_s (bs : List Bool) : anyG (some bs) = some (.own (.fz (.bool (bs.any id)))) := rfl
@[simp] theorem sumG_s (bs : List Int) : sumG (some bs) = some (.own (.fz (.int bs.sum))) := rfl
@[simp] theorem maxG_s (i : Int) (bs : List Int) (o : Option (List (Int × Int))) : maxG (some (i :: bs)) o = some (.own (.fz (.int (maxI (i :: bs))))) := rfl
@[simp] theorem minG_s (i : Int) (bs : List Int) (o : Option (List (Int × Int))) : minG (some (i :: bs)) o = some (.own (.fz (.int (minI (i :: bs))))) := rfl
@[simp] theorem maxG_p (p : Int × Int) (ps : List (Int × Int)) : maxG none (some (p :: ps)) = some (.own (.fz (pairD (maxP (p :: ps))))) := rfl
@[simp] theorem minG_p (p : Int × Int) (ps : List (Int × Int)) : minG none (some (p :: ps)) = some (.own (.fz (pairD (minP (p :: ps))))) := rfl
@[simp] theorem intsOf_t (d : List D) (r : List D) : intsOf (.tuple d :: r) = none := rfl
theorem pairsOf_map : ∀ ps : List (Int × Int), pairsOf (ps.map pairD) = some ps
  | [] => rfl
  | p :: ps => by
    show (match pairOf (pairD p), pairsOf (ps.map pairD) with | some p, some ps => some (p :: ps) | _, _ => none) = _
    rw [pairsOf_map ps]; rfl
@[simp] theorem all_zo (ds : List D) : bltV .all [.own (.lst (fzs ds))] = allG (boolsOf ds) := by
  unfold bltV
  dsimp only
  rw [rd_lst, toD_fzs]
  rfl
@[simp] theorem all_zb (ds : List D) : bltV .all [.brw (.lst (fzs ds))] = allG (boolsOf ds) := by
  unfold bltV
  dsimp only
  rw [rd_blst, toD_fzs]
  rfl
@[simp] theorem all_zf (ds : List D) : bltV .all [.own (.fz (.list ds))] = allG (boolsOf ds) := rfl
@[simp] theorem any_zo (ds : List D) : bltV .any [.own (.lst (fzs ds))] = anyG (boolsOf ds) := by
  unfold bltV
  dsimp only
  rw [rd_lst, toD_fzs]
  rfl
@[simp] theorem any_zb (ds : List D) : bltV .any [.brw (.lst (fzs ds))] = anyG (boolsOf ds) := by
  unfold bltV
  dsimp only
  rw [rd_blst, toD_fzs]
  rfl
@[simp] theorem any_zf (ds : List D) : bltV .any [.own (.fz (.list ds))] = anyG (boolsOf ds) := rfl
@[simp] theorem sum_zo (ds : List D) : bltV .sum [.own (.lst (fzs ds))] = sumG (intsOf ds) := by
  unfold bltV
  dsimp only
  rw [rd_lst, toD_fzs]
  rfl
@[simp] theorem sum_zb (ds : List D) : bltV .sum [.brw (.lst (fzs ds))] = sumG (intsOf ds) := by
  unfold bltV
  dsimp only
  rw [rd_blst, toD_fzs]
  rfl
@[simp] theorem sum_zf (ds : List D) : bltV .sum [.own (.fz (.list ds))] = sumG (intsOf ds) := rfl
theorem max_one {t : TV} {ds : List D} (h1 : rd t = .list ds) (h2 : fzIt t = some ds) : bltV .max [t] = maxG (intsOf ds) (pairsOf ds) := by
  unfold bltV bestL
  dsimp only
  rw [h1, h2]
  dsimp only
  unfold maxG
  cases intsOf ds with
  | none =>
    cases pairsOf ds with
    | none => rfl
    | some ps => cases ps <;> rfl
  | some ns => cases ns with
    | cons _ _ => rfl
    | nil =>
      cases pairsOf ds with
      | none => rfl
      | some ps => cases ps <;> rfl
@[simp] theorem max_zo (ds : List D) : bltV .max [.own (.lst (fzs ds))] = maxG (intsOf ds) (pairsOf ds) := max_one (by simp) (by simp [fzIt])
@[simp] theorem max_zb (ds : List D) : bltV .max [.brw (.lst (fzs ds))] = maxG (intsOf ds) (pairsOf ds) := max_one (by simp) (by simp [fzIt])
@[simp] theorem max_zf (ds : List D) : bltV .max [.own (.fz (.list ds))] = maxG (intsOf ds) (pairsOf ds) := max_one rfl rfl
@[simp] theorem max_pp (a b c d : Int) : bltV .max2 [.own (.fz (.tuple [.int a, .int b])), .own (.fz (.tuple [.int c, .int d]))] = some (.own (.fz (if ltP2 (a, b) (c, d) then .tuple [.int c, .int d] else .tuple [.int a, .int b]))) := rfl
theorem min_one {t : TV} {ds : List D} (h1 : rd t = .list ds) (h2 : fzIt t = some ds) : bltV .min [t] = minG (intsOf ds) (pairsOf ds) := by
  unfold bltV bestL
  dsimp only
  rw [h1, h2]
  dsimp only
  unfold minG
  cases intsOf ds with
  | none =>
    cases pairsOf ds with
    | none => rfl
    | some ps => cases ps <;> rfl
  | some ns => cases ns with
    | cons _ _ => rfl
    | nil =>
      cases pairsOf ds with
      | none => rfl
      | some ps => cases ps <;> rfl
@[simp] theorem min_zo (ds : List D) : bltV .min [.own (.lst (fzs ds))] = minG (intsOf ds) (pairsOf ds) := min_one (by simp) (by simp [fzIt])
@[simp] theorem min_zb (ds : List D) : bltV .min [.brw (.lst (fzs ds))] = minG (intsOf ds) (pairsOf ds) := min_one (by simp) (by simp [fzIt])
@[simp] theorem min_zf (ds : List D) : bltV .min [.own (.fz (.list ds))] = minG (intsOf ds) (pairsOf ds) := min_one rfl rfl
@[simp] theorem min_pp (a b c d : Int) : bltV .min2 [.own (.fz (.tuple [.int a, .int b])), .own (.fz (.tuple [.int c, .int d]))] = some (.own (.fz (if ltP2 (c, d) (a, b) then .tuple [.int c, .int d] else .tuple [.int a, .int b]))) := rfl
@[simp] theorem lt_pp (a b c d : Int) : cmpD .Lt (.tuple [.int a, .int b]) (.tuple [.int c, .int d]) = some (ltP2 (a, b) (c, d)) := rfl
@[simp] theorem gt_pp (a b c d : Int) : cmpD .Gt (.tuple [.int a, .int b]) (.tuple [.int c, .int d]) = some (ltP2 (c, d) (a, b)) := rfl
@[simp] theorem le_pp (a b c d : Int) : cmpD .LtE (.tuple [.int a, .int b]) (.tuple [.int c, .int d]) = some (!ltP2 (c, d) (a, b)) := rfl
@[simp] theorem ge_pp (a b c d : Int) : cmpD .GtE (.tuple [.int a, .int b]) (.tuple [.int c, .int d]) = some (!ltP2 (a, b) (c, d)) := rfl
end TL
namespace TL
open PySem PySem.Spec L2
/-! ### places, forms, sayings -/
abbrev pl (a b : Int) : D := .tuple [.int a, .int b]
abbrev frm (w h f m : Int) : D := .tuple [.int w, .int h, .int f, .int m]
theorem eq_pl (a b c d : Int) : cmpD .Eq (.tuple [.int a, .int b]) (.tuple [.int c, .int d]) = some (decide (a = c ∧ b = d)) :=
  eqD_nb (n := 1) rfl rfl rfl rfl (by decide) rfl (by simp)
theorem ne_pl (a b c d : Int) : cmpD .NotEq (.tuple [.int a, .int b]) (.tuple [.int c, .int d]) = some (!decide (a = c ∧ b = d)) :=
  neD_nb (n := 1) rfl rfl rfl rfl (by decide) rfl (by simp)
/-- places in order -/
def leP (a b c d : Int) : Prop := a < c ∨ a = c ∧ b ≤ d
theorem dm_mono {p q h : Int} (h1 : 0 < h) (hpq : p ≤ q) : leP (p / h) (p % h) (q / h) (q % h) := by
  unfold leP
  have e1 := Int.emod_add_mul_ediv p h
  have e2 := Int.emod_add_mul_ediv q h
  have l := Int.ediv_le_ediv h1 hpq
  rcases Int.lt_or_eq_of_le l with l | l
  · exact .inl l
  · refine .inr ⟨l, ?_⟩
    rw [l] at e1
    omega
theorem dm_at {a b h : Int} (h3 : 0 ≤ b) (h4 : b < h) : (a * h + b) / h = a ∧ (a * h + b) % h = b := by
  rw [Int.add_comm, Int.add_mul_ediv_right _ _ (by omega), Int.add_mul_emod_self_right, Int.ediv_eq_zero_of_lt h3 h4, Int.emod_eq_of_lt h3 h4, Int.zero_add]
  exact ⟨rfl, rfl⟩
theorem leP_refl (a b : Int) : leP a b a b := .inr ⟨rfl, Int.le_refl _⟩
abbrev Pl := Int × Int
def plD (p : Pl) : D := pl p.1 p.2
@[simp] theorem plD_mk (a b : Int) : plD (a, b) = pl a b := rfl
abbrev c_text : List Nat := [116, 101, 120, 116]
abbrev c_page : List Nat := [112, 97, 103, 101]
abbrev c_row : List Nat := [114, 111, 119]
inductive Say where
  | txt (l : List Nat)
  | pg (k : Nat)
  | rw (k : Nat)
def sayD : Say → D
  | .txt l => .tuple [.str (tx c_text), .str (tx l)]
  | .pg k => .tuple [.str (tx c_page), .int k]
  | .rw k => .tuple [.str (tx c_row), .int k]
def plAt (P : List Pl) (k : Nat) : Pl := P.getD k (0, 0)
theorem atI_pl {P : List Pl} {k : Nat} (h : k < P.length) : atI (P.map plD) (k : Int) = some (pl (plAt P k).1 (plAt P k).2) := by
  rw [atI_nat, List.getElem?_map, List.getElem?_eq_getElem h]
  simp [plAt, plD, List.getD, h]
def saidL (h f : Int) (P : List Pl) : Say → List Nat
  | .txt l => l
  | .pg k => numS (f + (plAt P k).1)
  | .rw k => numS ((plAt P k).1 * h + (plAt P k).2 + 1)
/-- a text: signs from ! to ~ -/
def asc (l : List Nat) : Prop := ∀ c ∈ l, 33 ≤ c ∧ c ≤ 126
def okSay (many : Nat) : Say → Prop
  | .txt l => 1 ≤ l.length ∧ l.length ≤ 60 ∧ asc l
  | .pg k => k < many
  | .rw k => k < many
/-- places that may be handed in: below 10 ** 61 -/
def okPl (h : Int) (P : List Pl) : Prop := ∀ p ∈ P, 0 ≤ p.1 ∧ p.1 < 10000000000000000000000000000000000000000000000000000000000000 ∧ 0 ≤ p.2 ∧ p.2 < h
theorem okPl.at {h : Int} {P : List Pl} (o : okPl h P) {k : Nat} (hk : k < P.length) : 0 ≤ (plAt P k).1 ∧ (plAt P k).1 < 10000000000000000000000000000000000000000000000000000000000000 ∧ 0 ≤ (plAt P k).2 ∧ (plAt P k).2 < h := by
  have : plAt P k ∈ P := by
    unfold plAt
    rw [List.getD_eq_getElem?_getD, List.getElem?_eq_getElem hk]
    exact List.getElem_mem hk
  exact o _ this
theorem numS_asc (i : Int) : asc (numS i) := fun c hc => by
  have := numL_digits i.toNat c hc
  omega
theorem saidL_asc {h f : Int} {P : List Pl} {many : Nat} : ∀ {s : Say}, okSay many s → asc (saidL h f P s)
  | .txt l, o => o.2.2
  | .pg k, _ => numS_asc _
  | .rw k, _ => numS_asc _
theorem row_b {p r h : Int} (h1 : 1 ≤ h) (h2 : h ≤ 60) (p1 : 0 ≤ p) (p2 : p < 10000000000000000000000000000000000000000000000000000000000000) (r1 : 0 ≤ r) (r2 : r < h) : 0 ≤ p * h + r + 1 ∧ p * h + r + 1 < 10000000000000000000000000000000000000000000000000000000000000000000000000000000000000000000000000000 := by
  have a : 0 ≤ p * h := Int.mul_nonneg p1 (by omega)
  have b : p * h ≤ p * 60 := Int.mul_le_mul_of_nonneg_left h2 p1
  omega
theorem saidL_len {h f : Int} {P : List Pl} {s : Say} (o : okSay P.length s) (op : okPl h P) (h1 : 1 ≤ h) (h2 : h ≤ 60) (f2 : f ≤ 1000000000000000000000000000000000000000000000000000000000000) : 1 ≤ (saidL h f P s).length ∧ (saidL h f P s).length ≤ 100 := by
  cases s with
  | txt l => exact ⟨o.1, by have := o.2.1; show l.length ≤ 100; omega⟩
  | pg k =>
    have := op.at (k := k) o
    exact ⟨numS_pos _, numS_le (by omega)⟩
  | rw k =>
    obtain ⟨a, b, c, d⟩ := op.at (k := k) o
    exact ⟨numS_pos _, numS_le (row_b h1 h2 a b c d).2⟩
/-- rows that are filled word by word -/
def fillStep (w : Int) (rows : List (List Nat)) (t : List Nat) : List (List Nat) := match rows.getLast? with
  | some l => if (l.length : Int) + 1 + t.length ≤ w then rows.dropLast ++ [l ++ 32 :: t] else rows ++ [t]
  | none => [t]
def fill (w : Int) (ts : List (List Nat)) : List (List Nat) := ts.foldl (fillStep w) []
/-- how many rows, and how wide the last one -/
def cntStep (w : Int) (s : Int × Int) (z : Int) : Int × Int := if s.1 > 0 ∧ s.2 + 1 + z ≤ w then (s.1, s.2 + 1 + z) else (s.1 + 1, z)
theorem fill_cnt (w : Int) (ts : List (List Nat)) : ((((fill w ts).length : Nat) : Int), (((fill w ts).getLast?.getD []).length : Int)) = (ts.map fun t => (t.length : Int)).foldl (cntStep w) (0, 0) := by
  have key : ∀ (ts : List (List Nat)) (rows : List (List Nat)) (s : Int × Int), s = (((rows.length : Nat) : Int), (((rows.getLast?.getD []).length : Nat) : Int)) →
      ((((ts.foldl (fillStep w) rows).length : Nat) : Int), ((((ts.foldl (fillStep w) rows).getLast?.getD []).length : Nat) : Int)) = (ts.map fun t => (t.length : Int)).foldl (cntStep w) s := by
    intro ts
    induction ts with
    | nil => intro rows s h; exact h.symm
    | cons t ts ih =>
      intro rows s h
      rw [List.foldl_cons, List.map_cons, List.foldl_cons]
      refine ih _ _ ?_
      subst h
      unfold cntStep fillStep
      dsimp only
      rcases List.eq_nil_or_concat rows with rfl | ⟨r, l, rfl⟩
      · rw [if_neg (by simp)]
        simp
      · simp only [List.concat_eq_append, List.getLast?_append, List.getLast?_singleton, Option.some_or, Option.getD_some]
        by_cases c : (l.length : Int) + 1 + t.length ≤ w
        · rw [if_pos ⟨by simp <;> omega, c⟩, if_pos c]
          simp
          all_goals omega
        · rw [if_neg (fun z => c z.2), if_neg c]
          simp
          all_goals omega
  exact key ts [] (0, 0) rfl
abbrev strD (l : List Nat) : D := .str (tx l)
def fHigh (w h : Int) (ts : List (List Nat)) : Int := if (fill w ts).all (fun l => decide ((l.length : Int) ≤ w)) then (if h < (fill w ts).length then h else (fill w ts).length) else h
theorem fillStep_le (w : Int) (rows : List (List Nat)) (t : List Nat) : (∀ l ∈ fillStep w rows t, (l.length : Int) ≤ w) ↔ (∀ l ∈ rows, (l.length : Int) ≤ w) ∧ (t.length : Int) ≤ w := by
  unfold fillStep
  rcases List.eq_nil_or_concat rows with rfl | ⟨r, l, rfl⟩
  · simp
  · simp only [List.concat_eq_append, List.getLast?_append, List.getLast?_singleton, Option.some_or, List.dropLast_concat]
    split
    · rename_i c
      simp only [List.mem_append, List.mem_singleton]
      refine ⟨fun h => ⟨fun x hx => ?_, ?_⟩, fun h x hx => ?_⟩
      · rcases hx with hx | rfl
        · exact h x (.inl hx)
        · omega
      · omega
      · rcases hx with hx | rfl
        · exact h.1 x (.inl hx)
        · simp; omega
    · simp only [List.mem_append, List.mem_singleton]
      refine ⟨fun h => ⟨fun x hx => h x (.inl hx), h t (.inr rfl)⟩, fun h x hx => ?_⟩
      rcases hx with hx | rfl
      · exact h.1 x hx
      · exact h.2
theorem fill_le (w : Int) (ts : List (List Nat)) : (∀ l ∈ fill w ts, (l.length : Int) ≤ w) ↔ ∀ t ∈ ts, (t.length : Int) ≤ w := by
  have key : ∀ (ts rows : List (List Nat)), (∀ l ∈ ts.foldl (fillStep w) rows, (l.length : Int) ≤ w) ↔ (∀ l ∈ rows, (l.length : Int) ≤ w) ∧ ∀ t ∈ ts, (t.length : Int) ≤ w := by
    intro ts
    induction ts with
    | nil => intro rows; simp
    | cons t ts ih =>
      intro rows
      rw [List.foldl_cons, ih, fillStep_le]
      simp only [List.mem_cons, forall_eq_or_imp]
      exact and_assoc
  have := key ts []
  unfold fill
  simpa using this
/-- the height, by widths alone -/
def hCnt (w : Int) (zs : List Int) : Int := (zs.foldl (cntStep w) (0, 0)).1
def zHigh (w h : Int) (zs : List Int) : Int := if zs.all (fun z => decide (z ≤ w)) then (if h < hCnt w zs then h else hCnt w zs) else h
theorem fHigh_z (w h : Int) (ts : List (List Nat)) : fHigh w h ts = zHigh w h (ts.map fun t => (t.length : Int)) := by
  unfold fHigh zHigh hCnt
  have e := fill_le w ts
  have c := congrArg Prod.fst (fill_cnt w ts)
  dsimp only at c
  rw [← c]
  have : ((fill w ts).all fun l => decide ((l.length : Int) ≤ w)) = ((ts.map fun t => (t.length : Int)).all fun z => decide (z ≤ w)) := by
    rw [Bool.eq_iff_iff, List.all_eq_true, List.all_eq_true]
    simp only [decide_eq_true_eq]
    rw [e]
    simp
  rw [this]
def lexL (s t : Int × Int) : Prop := s.1 < t.1 ∨ s.1 = t.1 ∧ s.2 ≤ t.2
theorem cntStep_mono {w z z' : Int} {s s' : Int × Int} (h : lexL s s') (h0 : 0 ≤ z) (hz : z ≤ z') (h1 : 0 ≤ s'.2) : lexL (cntStep w s z) (cntStep w s' z') := by
  unfold lexL at *
  unfold cntStep
  split <;> split <;> dsimp only <;> omega
theorem cntStep_up {w z : Int} (s : Int × Int) (h0 : 0 ≤ z) (h1 : 0 ≤ s.2) : lexL s (cntStep w s z) := by
  unfold lexL cntStep
  split <;> dsimp only <;> omega
theorem cntStep_nn {w z : Int} {s : Int × Int} (h0 : 0 ≤ z) (h : 0 ≤ s.1 ∧ 0 ≤ s.2) : 0 ≤ (cntStep w s z).1 ∧ 0 ≤ (cntStep w s z).2 := by
  unfold cntStep
  split <;> dsimp only <;> omega
theorem cnt_mono {w : Int} {α : Type} {f g : α → Int} : ∀ {xs : List α} {s s' : Int × Int}, lexL s s' → 0 ≤ s'.1 ∧ 0 ≤ s'.2 → (∀ a ∈ xs, 0 ≤ f a ∧ f a ≤ g a) → lexL ((xs.map f).foldl (cntStep w) s) ((xs.map g).foldl (cntStep w) s')
  | [], _, _, h, _, _ => h
  | a :: xs, s, s', h, h0, hf => by
    have ha := hf a (by simp)
    rw [List.map_cons, List.map_cons, List.foldl_cons, List.foldl_cons]
    exact cnt_mono (cntStep_mono h ha.1 ha.2 h0.2) (cntStep_nn (by omega) h0) fun b hb => hf b (by simp [hb])
theorem cnt_nn {w : Int} : ∀ {zs : List Int} {s : Int × Int}, 0 ≤ s.1 ∧ 0 ≤ s.2 → (∀ z ∈ zs, 0 ≤ z) → 0 ≤ (zs.foldl (cntStep w) s).1 ∧ 0 ≤ (zs.foldl (cntStep w) s).2
  | [], _, h, _ => h
  | z :: zs, s, h, hz => by
    rw [List.foldl_cons]
    exact cnt_nn (cntStep_nn (hz z (by simp)) h) fun y hy => hz y (by simp [hy])
theorem zHigh_le (w h : Int) (zs : List Int) : zHigh w h zs ≤ h := by
  unfold zHigh
  split
  · split <;> omega
  · omega
theorem zHigh_nn {w h : Int} (hh : 0 ≤ h) {zs : List Int} (hz : ∀ z ∈ zs, 0 ≤ z) : 0 ≤ zHigh w h zs := by
  have := cnt_nn (w := w) (s := (0, 0)) ⟨by decide, by decide⟩ hz
  unfold zHigh hCnt
  split
  · split <;> omega
  · omega
theorem zHigh_of {w h : Int} {zs ys : List Int} (hc : hCnt w zs ≤ hCnt w ys) (ha : (∀ z ∈ ys, z ≤ w) → ∀ z ∈ zs, z ≤ w) : zHigh w h zs ≤ zHigh w h ys := by
  by_cases a : (ys.all fun z => decide (z ≤ w)) = true
  · have b : (zs.all fun z => decide (z ≤ w)) = true := by
      simp only [List.all_eq_true, decide_eq_true_eq] at a ⊢
      exact ha a
    unfold zHigh
    rw [if_pos a, if_pos b]
    split <;> split <;> omega
  · have : zHigh w h ys = h := by unfold zHigh; rw [if_neg a]
    rw [this]
    exact zHigh_le w h zs
theorem lexL_1 {s t : Int × Int} (h : lexL s t) : s.1 ≤ t.1 := by unfold lexL at h; omega
/-- wider sayings: no lower foot -/
theorem zHigh_mono {w h : Int} {α : Type} {f g : α → Int} {xs : List α} (hf : ∀ a ∈ xs, 0 ≤ f a ∧ f a ≤ g a) : zHigh w h (xs.map f) ≤ zHigh w h (xs.map g) := by
  refine zHigh_of (lexL_1 (cnt_mono (.inr ⟨rfl, Int.le_refl _⟩) ⟨by decide, by decide⟩ hf)) fun ha z hz => ?_
  obtain ⟨a, h1, rfl⟩ := List.mem_map.mp hz
  have := ha (g a) (List.mem_map_of_mem h1)
  have := hf a h1
  omega
/-- one saying more: no lower foot -/
theorem zHigh_ins {w h : Int} {xs ys : List Int} {z : Int} (h0 : 0 ≤ z) (hx : ∀ z ∈ xs, 0 ≤ z) (hy : ∀ z ∈ ys, 0 ≤ z) : zHigh w h (xs ++ ys) ≤ zHigh w h (xs ++ z :: ys) := by
  refine zHigh_of ?_ fun ha y hy => ha y (by simp only [List.mem_append, List.mem_cons] at hy ⊢; rcases hy with hy | hy <;> simp [hy])
  unfold hCnt
  rw [List.foldl_append, List.foldl_append, List.foldl_cons]
  have b := cnt_nn (w := w) (s := (0, 0)) (zs := xs) ⟨by decide, by decide⟩ hx
  have := cnt_mono (w := w) (f := id) (g := id) (xs := ys) (cntStep_up (w := w) (z := z) (xs.foldl (cntStep w) (0, 0)) h0 b.2) (cntStep_nn h0 b) fun a ha => ⟨hy a ha, Int.le_refl _⟩
  rw [List.map_id] at this
  exact lexL_1 this
/-- the height, turn by turn -/
def hiStep (w : Int) (s : Int × Int) (z : Int) : Sum (Int × Int) Unit := if w < z then .inr () else .inl (cntStep w s z)
def hiEnd (h : Int) : Sum (Int × Int) Unit → Int
  | .inl s => if h < s.1 then h else s.1
  | .inr _ => h
theorem hi_eq (w h : Int) (zs : List Int) : hiEnd h (foldE (hiStep w) zs (0, 0)) = zHigh w h zs := by
  have key : ∀ (zs : List Int) (s : Int × Int), foldE (hiStep w) zs s = if zs.all (fun z => decide (z ≤ w)) then .inl (zs.foldl (cntStep w) s) else .inr () := by
    intro zs
    induction zs with
    | nil => intro s; rfl
    | cons z zs ih =>
      intro s
      by_cases c : w < z
      · have e : hiStep w s z = .inr () := if_pos c
        simp only [foldE, e]
        rw [if_neg]
        simp only [List.all_cons, Bool.and_eq_true, decide_eq_true_eq, not_and]
        omega
      · have e : hiStep w s z = .inl (cntStep w s z) := if_neg c
        simp only [foldE, e]
        rw [ih, List.all_cons, decide_eq_true (by omega : z ≤ w), Bool.true_and, List.foldl_cons]
  rw [key]
  unfold zHigh hCnt
  split <;> rfl
/-! ### lists against the empty one -/
theorem eqv_nil (ds : List D) : PyData.eqv (.list ds) (.list []) = ds.isEmpty := by
  cases ds <;> simp [PyData.eqv, PyData.eqvAll]
theorem eq_nil {n : Nat} {ds : List D} (h : sh n (.list ds) = true) (hn : n ≤ 64) : cmpD .Eq (.list ds) (.list []) = some ds.isEmpty := by
  show eqD (.list ds) (.list []) = _
  rw [eqD_shaped (sh_shaped h hn) (sh_shaped (n := 1) rfl (by decide)) rfl, eqv_nil]
theorem ne_nil {n : Nat} {ds : List D} (h : sh n (.list ds) = true) (hn : n ≤ 64) : cmpD .NotEq (.list ds) (.list []) = some !ds.isEmpty := by
  have := eq_nil h hn
  have h : eqD (.list ds) (.list []) = some ds.isEmpty := this
  show (eqD (.list ds) (.list [])).map (!·) = _
  rw [h]; rfl
theorem sh_mono : ∀ {n m : Nat} {d : D}, sh n d = true → n ≤ m → sh m d = true := by
  intro n
  induction n with
  | zero => intro m d h hm; cases d <;> cases m <;> simp_all [sh]
  | succ n ih =>
    intro m d h hm
    cases m with
    | zero => omega
    | succ m =>
      cases d with
      | list xs => simp only [sh, List.all_eq_true] at h ⊢; exact fun x hx => ih (h x hx) (by omega)
      | tuple xs => simp only [sh, List.all_eq_true] at h ⊢; exact fun x hx => ih (h x hx) (by omega)
      | dict k => simp [sh] at h
      | _ => simp_all [sh]
theorem okS_tx {l : List Nat} (h : ∀ c ∈ l, c < 1114112) : okS (tx l) = true := by
  unfold okS
  rw [← Array.all_toList, tl_tx, List.all_eq_true]
  intro c hc
  exact decide_eq_true (h c hc)
theorem sh_tx (n : Nat) {l : List Nat} (h : ∀ c ∈ l, c < 1114112) : sh n (.str (tx l)) = true := by
  cases n <;> exact okS_tx h
theorem sh_list (n : Nat) {α : Type} {xs : List α} {f : α → D} (h : ∀ x ∈ xs, sh n (f x) = true) : sh (n + 1) (.list (xs.map f)) = true := by
  simp only [sh, List.all_eq_true, List.mem_map]
  rintro d ⟨x, hx, rfl⟩
  exact h x hx
theorem nb_list (n : Nat) {α : Type} {xs : List α} {f : α → D} (h : ∀ x ∈ xs, nb n (f x) = true) : nb (n + 1) (.list (xs.map f)) = true := by
  simp only [nb, List.all_eq_true, List.mem_map]
  rintro d ⟨x, hx, rfl⟩
  exact h x hx
/-- two lists of data made by f: == is equality of what they are made of -/
theorem eq_map {n : Nat} {α : Type} {f : α → D} (hf : ∀ x y, f x = f y → x = y) {xs ys : List α} (h1 : ∀ x ∈ xs, sh n (f x) = true ∧ nb n (f x) = true) (h2 : ∀ x ∈ ys, sh n (f x) = true ∧ nb n (f x) = true) (hn : n < 64) {p : Prop} [Decidable p] (hp : xs = ys ↔ p) : cmpD .Eq (.list (xs.map f)) (.list (ys.map f)) = some (decide p) :=
  eqD_nb (sh_list n fun x hx => (h1 x hx).1) (sh_list n fun x hx => (h2 x hx).1) (nb_list n fun x hx => (h1 x hx).2) (nb_list n fun x hx => (h2 x hx).2) hn rfl (by
    rw [PyData.list.injEq]
    refine Iff.trans ⟨fun h => ?_, fun h => by rw [h]⟩ hp
    clear h1 h2 hp
    induction xs generalizing ys with
    | nil => cases ys with
      | nil => rfl
      | cons _ _ => simp at h
    | cons x xs ih => cases ys with
      | nil => simp at h
      | cons y ys =>
        simp only [List.map_cons, List.cons.injEq] at h
        rw [hf _ _ h.1, ih h.2])
theorem ne_of_eq {x y : D} {b : Bool} (h : cmpD .Eq x y = some b) (nd : isDct x = false := by rfl) : cmpD .NotEq x y = some !b := by
  have h : eqD x y = some b := h
  show (if isDct x = true then none else (eqD x y).map (!·)) = _
  rw [nd, h]; rfl
theorem eq_ints (xs ys : List Int) : cmpD .Eq (.list (xs.map .int)) (.list (ys.map .int)) = some (decide (xs = ys)) :=
  eq_map (n := 0) (fun x y h => by simpa using h) (fun x _ => ⟨rfl, rfl⟩) (fun x _ => ⟨rfl, rfl⟩) (by decide) Iff.rfl
theorem plD_inj (x y : Pl) (h : plD x = plD y) : x = y := by
  obtain ⟨a, b⟩ := x
  obtain ⟨c, d⟩ := y
  simp [plD] at h
  rw [h.1, h.2]
theorem eq_pls (P Q : List Pl) : cmpD .Eq (.list (P.map plD)) (.list (Q.map plD)) = some (decide (P = Q)) :=
  eq_map (n := 1) plD_inj (fun x _ => ⟨rfl, rfl⟩) (fun x _ => ⟨rfl, rfl⟩) (by decide) Iff.rfl
theorem ne_pls (P Q : List Pl) : cmpD .NotEq (.list (P.map plD)) (.list (Q.map plD)) = some (!decide (P = Q)) := ne_of_eq (eq_pls P Q)
theorem row_mono {p r q t h : Int} (hle : leP p r q t) (r2 : r < h) (r1 : 0 ≤ r) (t1 : 0 ≤ t) : p * h + r ≤ q * h + t := by
  unfold leP at hle
  rcases hle with hle | ⟨rfl, hle⟩
  · have : (p + 1) * h ≤ q * h := Int.mul_le_mul_of_nonneg_right (by omega) (by omega)
    rw [Int.add_mul] at this
    omega
  · omega
/-- later places: wider sayings -/
theorem saidL_mono {h f : Int} {P Q : List Pl} {s : Say} (o : okSay P.length s) (hl : Q.length = P.length) (op : okPl h P) (oq : okPl h Q) (hle : ∀ k, k < P.length → leP (plAt P k).1 (plAt P k).2 (plAt Q k).1 (plAt Q k).2) : (saidL h f P s).length ≤ (saidL h f Q s).length := by
  cases s with
  | txt l => exact Nat.le_refl _
  | pg k =>
    have := hle k o
    refine numS_mono ?_
    unfold leP at this
    omega
  | rw k =>
    have a := op.at (k := k) o
    have b := oq.at (k := k) (by rw [hl]; exact o)
    refine numS_mono ?_
    have := row_mono (hle k o) a.2.2.2 a.2.2.1 b.2.2.1
    omega
theorem sh_say {many : Nat} {s : Say} (o : okSay many s) : sh 1 (sayD s) = true ∧ nb 1 (sayD s) = true := by
  cases s with
  | txt l =>
    refine ⟨?_, rfl⟩
    have : okS (tx l) = true := okS_tx fun c hc => by have := o.2.2 c hc; omega
    simp only [sayD, sh, List.all_cons, List.all_nil, Bool.and_true, Bool.and_eq_true]
    exact ⟨by decide +kernel, this⟩
  | pg k => exact ⟨by simp only [sayD, sh, List.all_cons, List.all_nil, Bool.and_true, Bool.and_eq_true]; decide +kernel, rfl⟩
  | rw k => exact ⟨by simp only [sayD, sh, List.all_cons, List.all_nil, Bool.and_true, Bool.and_eq_true]; decide +kernel, rfl⟩
theorem eq_self {n : Nat} {x : D} (h : sh n x = true) (g : nb n x = true) (hn : n ≤ 64) (hs : eqS x x = none) : cmpD .Eq x x = some true := by
  rw [eqD_nb h h g g hn hs (p := True) (by simp)]; rfl
theorem ne_self {n : Nat} {x : D} (h : sh n x = true) (g : nb n x = true) (hn : n ≤ 64) (hs : eqS x x = none) : cmpD .NotEq x x = some false := ne_of_eq (eq_self h g hn hs) (by cases x <;> first | rfl | (cases n <;> simp [sh] at h))
theorem plAt_map {α : Type} (f : α → Pl) (xs : List α) {k : Nat} (h : k < xs.length) : plAt (xs.map f) k = f xs[k] := by
  unfold plAt
  rw [List.getD_eq_getElem?_getD, List.getElem?_map, List.getElem?_eq_getElem h]
  rfl
end TL
namespace TL
open PySem PySem.Spec L2
/-! ### words of a row, rows of a text -/
theorem spl1_nil (s : Nat) (acc : List Nat) : spl [s] 0 acc [] = [acc] := rfl
theorem spl1_cons (s : Nat) (acc : List Nat) (c : Nat) (r : List Nat) : spl [s] 0 acc (c :: r) = if c = s then acc :: spl [s] 0 [] r else spl [s] 0 (acc ++ [c]) r := by
  by_cases h : c = s
  · subst h
    rw [if_pos rfl, spl_hit (by simp [pre])]; rfl
  · rw [if_neg h, spl_miss (by simp [pre, h])]
theorem spl1_len (s : Nat) : ∀ (l acc : List Nat), (spl [s] 0 acc l).length ≤ l.length + 1
  | [], _ => by simp [spl1_nil]
  | c :: r, acc => by
    rw [spl1_cons]
    split
    · have := spl1_len s r []
      simp only [List.length_cons]; omega
    · have := spl1_len s r (acc ++ [c])
      simp only [List.length_cons]; omega
theorem spl1_sub (s : Nat) (p : Nat → Prop) : ∀ (l acc : List Nat), (∀ c ∈ l, p c) → (∀ c ∈ acc, p c) → ∀ w ∈ spl [s] 0 acc l, ∀ c ∈ w, p c
  | [], acc, _, ha, w, hw => by
    rw [spl1_nil, List.mem_singleton] at hw
    subst hw; exact ha
  | c :: r, acc, hl, ha, w, hw => by
    rw [spl1_cons] at hw
    split at hw
    · rcases List.mem_cons.mp hw with rfl | hw
      · exact ha
      · exact spl1_sub s p r [] (fun x hx => hl x (by simp [hx])) (by simp) w hw
    · refine spl1_sub s p r (acc ++ [c]) (fun x hx => hl x (by simp [hx])) (fun x hx => ?_) w hw
      rcases List.mem_append.mp hx with hx | hx
      · exact ha x hx
      · rw [List.mem_singleton] at hx; subst hx; exact hl x (by simp)
theorem spl1_free (s : Nat) : ∀ (l acc : List Nat), s ∉ acc → ∀ w ∈ spl [s] 0 acc l, s ∉ w
  | [], acc, ha, w, hw => by
    rw [spl1_nil, List.mem_singleton] at hw
    subst hw; exact ha
  | c :: r, acc, ha, w, hw => by
    rw [spl1_cons] at hw
    split at hw
    · rcases List.mem_cons.mp hw with rfl | hw
      · exact ha
      · exact spl1_free s r [] (by simp) w hw
    · rename_i hc
      refine spl1_free s r (acc ++ [c]) (fun hx => ?_) w hw
      rcases List.mem_append.mp hx with hx | hx
      · exact ha hx
      · rw [List.mem_singleton] at hx; exact hc hx.symm
theorem spl1_wlen (s : Nat) : ∀ (l acc : List Nat), ∀ w ∈ spl [s] 0 acc l, w.length ≤ acc.length + l.length
  | [], acc, w, hw => by
    rw [spl1_nil, List.mem_singleton] at hw
    subst hw; simp
  | c :: r, acc, w, hw => by
    rw [spl1_cons] at hw
    split at hw
    · rcases List.mem_cons.mp hw with rfl | hw
      · simp
      · have := spl1_wlen s r [] w hw
        simp at this ⊢; omega
    · have := spl1_wlen s r (acc ++ [c]) w hw
      simp at this ⊢; omega
def wordsL (a : List Nat) : List (List Nat) := (spl [32] 0 [] a).filter fun w => decide (w ≠ [])
theorem wordsL_mem {a w : List Nat} (h : w ∈ wordsL a) : w ≠ [] ∧ 32 ∉ w ∧ ∀ (p : Nat → Prop), (∀ c ∈ a, p c) → ∀ c ∈ w, p c := by
  unfold wordsL at h
  rw [List.mem_filter, decide_eq_true_eq] at h
  exact ⟨h.2, spl1_free 32 a [] (by simp) w h.1, fun p hp => spl1_sub 32 p a [] hp (by simp) w h.1⟩
theorem wordsL_len (a : List Nat) : (wordsL a).length ≤ a.length + 1 := Nat.le_trans (List.length_filter_le ..) (spl1_len 32 a [])
theorem wordsL_wlen {a w : List Nat} (h : w ∈ wordsL a) : w.length ≤ a.length := by
  unfold wordsL at h
  rw [List.mem_filter] at h
  have := spl1_wlen 32 a [] w h.1
  simpa using this
theorem spl1_nonil (s : Nat) : ∀ (l acc : List Nat), spl [s] 0 acc l ≠ []
  | [], _ => by simp [spl1_nil]
  | c :: r, acc => by
    rw [spl1_cons]
    split
    · simp
    · exact spl1_nonil s r _
/-- of words with one blank between two, the words again -/
theorem words_join {ws : List (List Nat)} (h : ∀ w ∈ ws, w ≠ [] ∧ 32 ∉ w) : wordsL (joinL [32] ws) = ws := by
  unfold wordsL
  cases ws with
  | nil => rfl
  | cons w r =>
    rw [TL.spl_join (by simp) fun p hp => (h p hp).2]
    rw [List.filter_eq_self]
    intro a ha
    exact decide_eq_true (h a ha).1
/-! the same, sign by sign -/
def dueStep (s : List (List Nat) × Bool) (c : Nat) : List (List Nat) × Bool := if c = 32 then (s.1, false) else if s.2 then (s.1.dropLast ++ [s.1.getLast?.getD [] ++ [c]], true) else (s.1 ++ [[c]], true)
theorem due_words (a : List Nat) : (a.foldl dueStep ([], false)).1 = wordsL a := by
  have key : ∀ (r : List Nat), (∀ due, (r.foldl dueStep (due, false)).1 = due ++ (spl [32] 0 [] r).filter fun w => decide (w ≠ [])) ∧ ∀ due acc, acc ≠ [] → (r.foldl dueStep (due ++ [acc], true)).1 = due ++ (spl [32] 0 acc r).filter fun w => decide (w ≠ []) := by
    intro r
    induction r with
    | nil =>
      refine ⟨fun due => by simp [spl1_nil], fun due acc h => by simp [spl1_nil, h]⟩
    | cons c r ih =>
      obtain ⟨i1, i2⟩ := ih
      refine ⟨fun due => ?_, fun due acc h => ?_⟩
      · rw [List.foldl_cons, spl1_cons]
        by_cases hc : c = 32
        · rw [if_pos hc, show dueStep (due, false) c = (due, false) from if_pos hc, i1]
          simp
        · rw [if_neg hc, show dueStep (due, false) c = (due ++ [[c]], true) by unfold dueStep; rw [if_neg hc]; rfl, i2 _ _ (by simp)]
          rfl
      · rw [List.foldl_cons, spl1_cons]
        by_cases hc : c = 32
        · rw [if_pos hc, show dueStep (due ++ [acc], true) c = (due ++ [acc], false) from if_pos hc, i1]
          simp [h]
        · rw [if_neg hc, show dueStep (due ++ [acc], true) c = (due ++ [acc ++ [c]], true) by unfold dueStep; rw [if_neg hc]; simp, i2 _ _ (by simp)]
  exact (key a).1 []
theorem joinL_len (s : List Nat) : ∀ ws : List (List Nat), (joinL s ws).length ≤ (ws.map List.length).sum + ws.length * s.length
  | [] => by simp [joinL]
  | [w] => by simp [joinL]
  | w :: x :: r => by
    have := joinL_len s (x :: r)
    show (w ++ (s ++ joinL s (x :: r))).length ≤ _
    simp only [List.length_append, List.map_cons, List.sum_cons, List.length_cons, Nat.add_mul, Nat.one_mul] at this ⊢
    omega
theorem sum_le (ws : List (List Nat)) {b : Nat} (h : ∀ w ∈ ws, w.length ≤ b) : (ws.map List.length).sum ≤ ws.length * b := by
  induction ws with
  | nil => simp
  | cons w ws ih =>
    have := ih fun x hx => h x (by simp [hx])
    have := h w (by simp)
    simp only [List.map_cons, List.sum_cons, List.length_cons, Nat.add_mul, Nat.one_mul]
    omega
theorem eq_strs {A B : List (List Nat)} (hA : ∀ w ∈ A, ∀ c ∈ w, c < 1114112) (hB : ∀ w ∈ B, ∀ c ∈ w, c < 1114112) : cmpD .Eq (.list (A.map strD)) (.list (B.map strD)) = some (decide (A = B)) :=
  eq_map (n := 0) (fun x y h => by simpa [strD] using h) (fun x hx => ⟨sh_tx 0 (hA x hx), rfl⟩) (fun x hx => ⟨sh_tx 0 (hB x hx), rfl⟩) (by decide) Iff.rfl
end TL
namespace TL
open PySem PySem.Spec L2
/-! ### books -/
structure Wd where
  lead : Int
  kept : Bool
  say : Say
  foot : List Say
def wdD (w : Wd) : D := .tuple [.int w.lead, .bool w.kept, sayD w.say, .list (w.foot.map sayD)]
abbrev bookD (w h f m : Int) (ws : List Wd) : D := .tuple [frm w h f m, .list (ws.map wdD)]
structure okWd (many : Nat) (w : Wd) : Prop where
  l0 : 0 ≤ w.lead
  l1 : w.lead ≤ 4
  say : okSay many w.say
  foot : ∀ s ∈ w.foot, okSay many s
  fl : w.foot.length ≤ 40
structure okFrm (w h f m : Int) : Prop where
  w0 : 1 ≤ w
  w1 : w ≤ 200
  h0 : 1 ≤ h
  h1 : h ≤ 60
  f0 : 0 ≤ f
  f1 : f ≤ 1000000000000000000000000000000000000000000000000000000000000
  m0 : 1 ≤ m
  m1 : m ≤ 60
/-! ### lists by their items -/
theorem len2 {α : Type} {xs : List α} (h : xs.length = 2) : ∃ a b, xs = [a, b] := by
  match xs, h with
  | [a, b], _ => exact ⟨a, b, rfl⟩
theorem len3 {α : Type} {xs : List α} (h : xs.length = 3) : ∃ a b c, xs = [a, b, c] := by
  match xs, h with
  | [a, b, c], _ => exact ⟨a, b, c, rfl⟩
theorem len4 {α : Type} {xs : List α} (h : xs.length = 4) : ∃ a b c d, xs = [a, b, c, d] := by
  match xs, h with
  | [a, b, c, d], _ => exact ⟨a, b, c, d, rfl⟩
theorem len5 {α : Type} {xs : List α} (h : xs.length = 5) : ∃ a b c d e, xs = [a, b, c, d, e] := by
  match xs, h with
  | [a, b, c, d, e], _ => exact ⟨a, b, c, d, e, rfl⟩
theorem len16 {α : Type} {xs : List α} (h : xs.length = 16) : ∃ a0 a1 a2 a3 a4 a5 a6 a7 a8 a9 b0 b1 b2 b3 b4 b5, xs = [a0, a1, a2, a3, a4, a5, a6, a7, a8, a9, b0, b1, b2, b3, b4, b5] := by
  match xs, h with
  | [a0, a1, a2, a3, a4, a5, a6, a7, a8, a9, b0, b1, b2, b3, b4, b5], _ => exact ⟨a0, a1, a2, a3, a4, a5, a6, a7, a8, a9, b0, b1, b2, b3, b4, b5, rfl⟩
theorem atI_some {α : Type} {xs : List α} {i : Int} (h0 : 0 ≤ i) (h1 : i < xs.length) : ∃ x, x ∈ xs ∧ atI xs i = some x := by
  have h : i.toNat < xs.length := by omega
  refine ⟨xs[i.toNat], List.getElem_mem h, ?_⟩
  rw [atI_ok h0 h1, List.getElem?_eq_getElem h]
theorem flat_sing {α β : Type} (f : α → β) : ∀ l : List α, (l.map fun k => [f k]).flatten = l.map f
  | [] => rfl
  | a :: l => by rw [List.map_cons, List.flatten_cons, flat_sing f l]; rfl
theorem sum_sing {α : Type} (f : α → Nat) : ∀ l : List α, ((l.map fun k => [f k]).map List.length).sum = l.length
  | [] => rfl
  | a :: l => by rw [List.map_cons, List.map_cons, List.sum_cons, sum_sing f l]; simp; omega
/-! ### places in order -/
def behindD (h f a b k : Int) : Int × Int := if k = 0 then (a, b) else if k < 3 then (if h ≤ b + k then (a + 1, 0) else (a, b + k)) else if k = 4 ∧ ¬ (f + (a + 1)) % 2 = 1 then (a + 2, 0) else (a + 1, 0)
def fromD (f a b k : Int) : Int × Int := if k = 4 ∧ ¬ (f + a) % 2 = 1 then (a + 1, 0) else (a, b)
theorem behindD_b {h f a b k : Int} (h1 : 1 ≤ h) (h0 : 0 ≤ a) (h3 : 0 ≤ b) (h4 : b < h) (h5 : 0 ≤ k) : 0 ≤ (behindD h f a b k).1 ∧ (behindD h f a b k).1 ≤ a + 2 ∧ 0 ≤ (behindD h f a b k).2 ∧ (behindD h f a b k).2 < h := by
  unfold behindD
  split
  · exact ⟨h0, by dsimp only; omega, h3, h4⟩
  · split
    · split <;> (dsimp only; omega)
    · split <;> (dsimp only; omega)
theorem ltP2_iff (p q : Pl) : ltP2 p q = true ↔ p.1 < q.1 ∨ p.1 = q.1 ∧ p.2 < q.2 := by
  unfold ltP2
  simp
theorem ltP2_not (p q : Pl) : ltP2 p q = false ↔ leP q.1 q.2 p.1 p.2 := by
  rw [← Bool.not_eq_true, ltP2_iff]
  unfold leP
  omega
/-! ### reasons -/
def optD : Option Pl → D
  | none => .none
  | some p => plD p
def wdAt (ws : List Wd) (k : Nat) : Wd := ws.getD k ⟨0, false, .pg 0, []⟩
theorem atI_wd {ws : List Wd} {k : Nat} (h : k < ws.length) : atI (ws.map wdD) (k : Int) = some (wdD (wdAt ws k)) := by
  rw [atI_nat, List.getElem?_map, List.getElem?_eq_getElem h]
  simp [wdAt, List.getD, h]
theorem wdAt_mem {ws : List Wd} {k : Nat} (h : k < ws.length) : wdAt ws k ∈ ws := by
  unfold wdAt
  rw [List.getD_eq_getElem?_getD, List.getElem?_eq_getElem h]
  exact List.getElem_mem h
def spW (h f : Int) (P : List Pl) (x : Wd) : Int := ((saidL h f P x.say).length : Int)
def spH (w h f : Int) (P : List Pl) (x : Wd) : Int := fHigh w h (x.foot.map (saidL h f P))
def seg (ws : List Wd) (j i : Nat) : List Wd := (ws.drop j).take (i + 1 - j)
theorem seg_mem {ws : List Wd} {j i : Nat} {x : Wd} (h : x ∈ seg ws j i) : x ∈ ws := List.mem_of_mem_drop (List.mem_of_mem_take h)
def byAhead (h f : Int) (P : List Pl) (ws : List Wd) (i : Nat) (j : Int) : Option Pl :=
  if j = (i : Int) - 1 then
    let s := if 0 < i then (if ltP2 (plAt P i) (behindD h f (plAt P (i - 1)).1 (plAt P (i - 1)).2 (wdAt ws i).lead) then behindD h f (plAt P (i - 1)).1 (plAt P (i - 1)).2 (wdAt ws i).lead else plAt P i) else plAt P i
    some (fromD f s.1 s.2 (wdAt ws i).lead)
  else none
def byWidth (w h f : Int) (P : List Pl) (ws : List Wd) (i : Nat) (j : Int) : Option Pl :=
  if j < 0 ∨ (i : Int) ≤ j then none else if (i : Int) - j + ((seg ws j.toNat i).map (spW h f P)).sum ≤ w then none else some (behindD h f (plAt P j.toNat).1 (plAt P j.toNat).2 1)
def byHeight (w h f : Int) (P : List Pl) (ws : List Wd) (i : Nat) (j : Int) : Option Pl :=
  if j < 0 ∨ (i : Int) < j ∨ (plAt P j.toNat).1 < (plAt P i).1 then none else if (plAt P i).2 + 1 + ((seg ws j.toNat i).map (spH w h f P)).sum ≤ h then none else some ((plAt P i).1 + 1, 0)
def byNext (P : List Pl) (ws : List Wd) (i : Nat) (j : Int) : Option Pl :=
  if j = (i : Int) + 1 ∧ j < ws.length ∧ (wdAt ws (i + 1)).kept = true then some ((plAt P (i + 1)).1, 0) else none
def byItself (w h f m : Int) (P : List Pl) (ws : List Wd) (i : Nat) (j : Int) : Option Pl :=
  if j = (i : Int) then (if spW h f P (wdAt ws i) ≤ w ∧ spH w h f P (wdAt ws i) < h then none else some (m, 0)) else none
abbrev k_behind : List Nat := [98, 101, 104, 105, 110, 100]
abbrev k_wide : List Nat := [119, 105, 100, 101]
abbrev k_high : List Nat := [104, 105, 103, 104]
abbrev k_kept : List Nat := [107, 101, 112, 116]
abbrev k_never : List Nat := [110, 101, 118, 101, 114]
def reason (w h f m : Int) (P : List Pl) (ws : List Wd) (K : List Nat) (i : Nat) (j : Int) : Option Pl :=
  if K = k_behind then byAhead h f P ws i j else if K = k_wide then byWidth w h f P ws i j else if K = k_high then byHeight w h f P ws i j else if K = k_kept then byNext P ws i j else if K = k_never then byItself w h f m P ws i j else none
def reachP (w h f m : Int) (P : List Pl) (ws : List Wd) (K : List Nat) (i : Nat) (j : Int) : Option Pl := match reason w h f m P ws K i j with
  | some s => if ltP2 (plAt P i) s then some s else none
  | none => none
theorem foldl_sum {α : Type} (f : α → Int) : ∀ (xs : List α) (s : Int), xs.foldl (fun s a => s + f a) s = s + (xs.map f).sum
  | [], s => by simp
  | a :: xs, s => by rw [List.foldl_cons, foldl_sum f xs, List.map_cons, List.sum_cons]; omega
structure okBk (w h f m : Int) (ws : List Wd) (P : List Pl) : Prop where
  fr : okFrm w h f m
  wd : ∀ x ∈ ws, okWd ws.length x
  wl : ws.length ≤ 1000
  pl : okPl h P
  pn : P.length = ws.length
/-! ### a book is equal to itself -/
theorem eqv_refl : ∀ {n : Nat} {x : D}, sh n x = true → PyData.eqv x x = true := by
  have list : ∀ {n : Nat}, (∀ {x : D}, sh n x = true → PyData.eqv x x = true) → ∀ xs : List D, xs.all (sh n) = true → PyData.eqvAll xs xs = true := by
    intro n ih xs
    induction xs with
    | nil => intro _; simp only [PyData.eqvAll]
    | cons x xs ihx =>
      intro h
      simp only [List.all_cons, Bool.and_eq_true] at h
      simp only [PyData.eqvAll, ih h.1, ihx h.2, Bool.and_self]
  intro n
  induction n with
  | zero => intro x h; cases x <;> simp_all [sh, PyData.eqv]
  | succ n ih =>
    intro x h
    cases x with
    | list xs => simp only [PyData.eqv]; exact list ih xs (by simpa [sh] using h)
    | tuple xs => simp only [PyData.eqv]; exact list ih xs (by simpa [sh] using h)
    | _ => simp_all [sh, PyData.eqv]
theorem eq_refl {n : Nat} {x : D} (h : sh n x = true) (hn : n ≤ 64) (hs : eqS x x = none) : cmpD .Eq x x = some true := by
  show eqD x x = _
  rw [eqD_shaped (sh_shaped h hn) (sh_shaped h hn) hs, eqv_refl h]
theorem sh_wd {many : Nat} {x : Wd} (o : okWd many x) : sh 3 (wdD x) = true := by
  have h1 := sh_mono (sh_say o.say).1 (show 1 ≤ 2 by decide)
  have h2 : sh 2 (.list (x.foot.map sayD)) = true := sh_list 1 fun s hs => (sh_say (o.foot s hs)).1
  simp only [wdD, sh, List.all_cons, List.all_nil, Bool.and_true, Bool.and_eq_true]
  exact ⟨trivial, trivial, h1, h2⟩
theorem sh_book {many : Nat} {w h f m : Int} {ws : List Wd} (o : ∀ x ∈ ws, okWd many x) : sh 5 (bookD w h f m ws) = true := by
  have h2 : sh 4 (.list (ws.map wdD)) = true := sh_list 3 fun x hx => sh_wd (o x hx)
  simp only [bookD, sh, List.all_cons, List.all_nil, Bool.and_true, Bool.and_eq_true]
  exact ⟨by decide, h2⟩
theorem eq_book {many : Nat} {w h f m : Int} {ws : List Wd} (o : ∀ x ∈ ws, okWd many x) : cmpD .Eq (bookD w h f m ws) (bookD w h f m ws) = some true := eq_refl (sh_book o) (by decide) rfl
theorem ne_book {many : Nat} {w h f m : Int} {ws : List Wd} (o : ∀ x ∈ ws, okWd many x) : cmpD .NotEq (bookD w h f m ws) (bookD w h f m ws) = some false := ne_of_eq (eq_book o)
/-! ### storing what is not frozen as yet -/
@[simp low] theorem stvG_ll (i : Nat) (e : Ev) (os : List O) : stvG i e (some (some (.own (.lst os)))) = if noInss os then .ok (.fz (.list (os.map toD))) (e.set i (some (.own (.fz (.list (os.map toD)))))) else .bad := by
  show (if noIns (.lst os) then R.ok (O.fz (toD (.lst os))) (e.set i (some (.own (.fz (toD (.lst os)))))) else .bad) = _
  rw [toD_lst]; rfl
@[simp low] theorem stvG_tt (i : Nat) (e : Ev) (os : List O) : stvG i e (some (some (.own (.tup os)))) = if noInss os then .ok (.fz (.tuple (os.map toD))) (e.set i (some (.own (.fz (.tuple (os.map toD)))))) else .bad := by
  show (if noIns (.tup os) then R.ok (O.fz (toD (.tup os))) (e.set i (some (.own (.fz (toD (.tup os)))))) else .bad) = _
  rw [toD_tup]; rfl
end TL
namespace TL
open PySem PySem.Spec L2
/-! ### the last item taken out -/
section
variable (cf : CF) (p : List Nat) (e : Ev)
def popK (p : List Nat) (t : Tg) (r : Nat × List Int) (e1 : Ev) : Option O → R Fl
  | none => .bad
  | some o => (R.lf (modAt e1 r.1 r.2 popF) e1).bd fun e2 _ => (R.lf (asgT p t o e2) e2).bd fun e3 _ => .ok .nx e3
@[simp] theorem popK_s (t : Tg) (r : Nat × List Int) (o : O) : popK p t r e (some o) = (R.lf (modAt e r.1 r.2 popF) e).bd fun e2 _ => (R.lf (asgT p t o e2) e2).bd fun e3 _ => .ok .nx e3 := rfl
def popG (p : List Nat) (t : Tg) (r : Nat × List Int) (e1 : Ev) : R Fl := popK p t r e1 (topO e1 r.1 r.2)
@[simp] theorem popG_d (t : Tg) (r : Nat × List Int) : popG p t r e = popK p t r e (topO e r.1 r.2) := rfl
@[simp] theorem x_asgPop (t : Tg) (q : Pa) : execS cf p (.asgPop t q) e = (evalPa cf q e).bd (popG p t) := by
  simp only [execS]
  cases evalPa cf q e with
  | ok r e1 => simp only [R.bd_ok, popG]; all_goals (cases topO e1 r.1 r.2 <;> rfl)
  | exc c e1 => rfl
  | bad => rfl
def topL : Option O → Option O
  | some (.lst os) => os.getLast?
  | _ => none
@[simp] theorem topL_l (os : List O) : topL (some (.lst os)) = os.getLast? := rfl
def topG (π : List Int) : Option O → Option O
  | some o => topL (subO π o)
  | none => none
@[simp] theorem topG_s (π : List Int) (o : O) : topG π (some o) = topL (subO π o) := rfl
@[simp] theorem topO_d (i : Nat) (π : List Int) : topO e i π = topG π (ownAt e i) := by
  unfold topO topG topL
  all_goals
    cases ownAt e i with
    | none => rfl
    | some o => first | rfl | (dsimp only; cases subO π o <;> first | rfl | (rename_i s; cases s <;> rfl))
@[simp] theorem popF_c (os : List O) (o : O) : popF (.lst (os ++ [o])) = some (.lst os) := by
  unfold popF
  simp
@[simp] theorem last_c (os : List O) (o : O) : (os ++ [o]).getLast? = some o := by simp
def frzK (cf : CF) (p : List Nat) (i : Nat) (s : S) (e : Ev) : Option (Option SL) → R Fl
  | some (some (.own o)) => gd (noIns o) (execS cf p s (e.set i (some (.own (.fz (toD o))))))
  | _ => .bad
@[simp] theorem frzK_s (i : Nat) (s : S) (o : O) : frzK cf p i s e (some (some (.own o))) = gd (noIns o) (execS cf p s (e.set i (some (.own (.fz (toD o)))))) := rfl
@[simp] theorem x_frz (i : Nat) (s : S) : execS cf p (.frz i s) e = frzK cf p i s e e[i]? := by
  simp only [execS]
  unfold frzK gd
  all_goals rfl
/-! ### a part under a name -/
def aliC (i : Nat) (r : Nat × List Int) (o : O) (e : Ev) : Option (Option SL) → Option Ev
  | some (some (.own o')) => (modO r.2 (fun _ => some o') o).map fun o2 => (e.set i none).set r.1 (some (.own o2))
  | _ => none
@[simp] theorem aliC_s (i : Nat) (r : Nat × List Int) (o o' : O) : aliC i r o e (some (some (.own o'))) = (modO r.2 (fun _ => some o') o).map fun o2 => (e.set i none).set r.1 (some (.own o2)) := rfl
@[simp] theorem aliB_d (i : Nat) (r : Nat × List Int) (o : O) : aliB i r o e = aliC i r o e e[i]? := by
  unfold aliB aliC
  all_goals rfl
def aliM (f : Fl) : Option Ev → R Fl
  | some e2 => .ok f e2
  | none => .bad
@[simp] theorem aliM_s (f : Fl) : aliM f (some e) = .ok f e := rfl
def aliN (c : Nat) : Option Ev → R Fl
  | some e2 => .exc c e2
  | none => .bad
@[simp] theorem aliN_s (c : Nat) : aliN c (some e) = .exc c e := rfl
@[simp] theorem aliR_k (i : Nat) (r : Nat × List Int) (o : O) (f : Fl) : aliR i r o (.ok f e) = aliM f (aliB i r o e) := by
  unfold aliR aliM
  all_goals rfl
@[simp] theorem aliR_x (i : Nat) (r : Nat × List Int) (o : O) (c : Nat) : aliR i r o (.exc c e) = aliN c (aliB i r o e) := by
  unfold aliR aliN
  all_goals rfl
def aliL (cf : CF) (p : List Nat) (i : Nat) (ss : List S) (r : Nat × List Int) (e1 : Ev) (o : O) : Option O → R Fl
  | some sub => gd (!p.contains i && decide (i < e1.length) && decide (i ≠ r.1)) (aliR i r o (execSs cf (i :: r.1 :: p) ss ((e1.set r.1 none).set i (some (.own sub)))))
  | none => .bad
@[simp] theorem aliL_s (i : Nat) (ss : List S) (r : Nat × List Int) (o sub : O) : aliL cf p i ss r e o (some sub) = gd (!p.contains i && decide (i < e.length) && decide (i ≠ r.1)) (aliR i r o (execSs cf (i :: r.1 :: p) ss ((e.set r.1 none).set i (some (.own sub))))) := rfl
def aliK (cf : CF) (p : List Nat) (i : Nat) (ss : List S) (r : Nat × List Int) (e1 : Ev) : Option O → R Fl
  | some o => aliL cf p i ss r e1 o (subO r.2 o)
  | none => .bad
@[simp] theorem aliK_s (i : Nat) (ss : List S) (r : Nat × List Int) (o : O) : aliK cf p i ss r e (some o) = aliL cf p i ss r e o (subO r.2 o) := rfl
def aliG (cf : CF) (p : List Nat) (i : Nat) (ss : List S) (r : Nat × List Int) (e1 : Ev) : R Fl := aliK cf p i ss r e1 (ownAt e1 r.1)
@[simp] theorem aliG_d (i : Nat) (ss : List S) (r : Nat × List Int) : aliG cf p i ss r e = aliK cf p i ss r e (ownAt e r.1) := rfl
@[simp] theorem x_ali (i : Nat) (q : Pa) (ss : List S) : execS cf p (.ali i q ss) e = (evalPa cf q e).bd (aliG cf p i ss) := by
  simp only [execS]
  cases evalPa cf q e with
  | ok r e1 =>
    simp only [R.bd_ok, aliG]
    all_goals
      cases ownAt e1 r.1 with
      | none => rfl
      | some o => first | rfl | (dsimp only [aliK]; cases subO r.2 o <;> first | rfl | (dsimp only [aliL]; unfold gd; all_goals rfl))
  | exc c e1 => rfl
  | bad => rfl
end
end TL
namespace TL
open PySem PySem.Spec L2
def gv_SMALL : D := .str (tx [97, 98, 99, 100, 101, 102, 103, 104, 105, 106, 107, 108, 109, 110, 111, 112, 113, 114, 115, 116, 117, 118, 119, 120, 121, 122])
def gv_LONGEST : D := .int 12
def gv_FIGURES : D := .str (tx [48, 49, 50, 51, 52, 53, 54, 55, 56, 57])
def gv_DEEPEST : D := .int 20
def lb_is_name_1 : List S := [.blk [1] [.ifs (.and (.cmp .NotIn (.var 1) (.glb "SMALL" gv_SMALL)) (.cmp .NotIn (.var 1) (.glb "FIGURES" gv_FIGURES))) [.ret (.con (.bool false))] []]]
def f_is_name : Fn := ⟨"is_name", "is_name", ["word", "sign"], [.f],
  [.ifs (.or (.not (.chn .LtE .LtE (.con (.int 1)) (.blt .len [.var 0]) (.glb "LONGEST" gv_LONGEST))) (.cmp .NotIn (.ix (.var 0) (.con (.int 0))) (.glb "SMALL" gv_SMALL))) [.ret (.con (.bool false))] [], .wip [1] (.fors (.nm 1) .sq [.var 0] lb_is_name_1), .ret (.con (.bool true))], none⟩
def f_opens : Fn := ⟨"opens", "opens", ["word"], [.f],
  [.ret (.and (.cmp .Eq (.ix (.var 0) (.con (.int 0))) (.con (.str (tx [91])))) (.call 0 [.f] [.slc (.var 0) (.con (.int 1)) .nul] []))], none⟩
def f_place_in : Fn := ⟨"place_in", "place_in", ["word", "count", "place"], [.f, .f],
  [.ifs (.or (.cmp .Is (.var 1) (.con (.none))) (.or (.cmp .NotEq (.blt .len [.var 0]) (.con (.int 2))) (.or (.cmp .NotEq (.ix (.var 0) (.con (.int 0))) (.con (.str (tx [36])))) (.cmp .NotIn (.ix (.var 0) (.con (.int 1))) (.glb "FIGURES" gv_FIGURES))))) [.ret (.con (.int 0))] [], .asg (.nm 2) (.met .find (.glb "FIGURES" gv_FIGURES) (.ix (.var 0) (.con (.int 1)))), .ifs (.not (.chn .LtE .LtE (.con (.int 1)) (.var 2) (.var 1))) [.raise 0 (tx [])] [], .ret (.var 2)], none⟩
def f_put_node : Fn := ⟨"put_node", "put_node", ["top", "opened", "node", "arguments"], [.io, .io, .f],
  [.ifs (.cmp .Eq (.blt .len [.var 1]) (.con (.int 0))) [.app (.var 0) (.var 2), .retN] [], .ali 3 (.ix (.ix (.var 1) (.neg (.con (.int 1)))) (.con (.int 1))) [.ifs (.cmp .Eq (.blt .len [.var 3]) (.con (.int 0))) [.app (.var 3) (.lst [])] [], .app (.ix (.var 3) (.neg (.con (.int 1)))) (.var 2)]], none⟩
def f_part_argument : Fn := ⟨"part_argument", "part_argument", ["opened", "arguments"], [.io],
  [.ali 1 (.ix (.ix (.var 0) (.neg (.con (.int 1)))) (.con (.int 1))) [.ifs (.cmp .Eq (.blt .len [.var 1]) (.con (.int 0))) [.app (.var 1) (.lst [])] [], .app (.var 1) (.lst [])]], none⟩
def lb_tree_of_1 : List S := [.blk [4, 5, 6, 7] [.ifs (.call 1 [.f] [.var 4] []) [.ifs (.cmp .Eq (.blt .len [.var 3]) (.glb "DEEPEST" gv_DEEPEST)) [.raise 1 (tx [])] [], .app (.var 3) (.tup [.slc (.var 4) (.con (.int 1)) .nul, .lst []])] [.ifs (.and (.cmp .Gt (.blt .len [.var 3]) (.con (.int 0))) (.cmp .Eq (.var 4) (.con (.str (tx [124]))))) [.expr (.cio 4 [.io] [.var 3])] [.ifs (.and (.cmp .Gt (.blt .len [.var 3]) (.con (.int 0))) (.cmp .Eq (.var 4) (.con (.str (tx [93]))))) [.asgPop (.tp [.nm 6, .nm 7]) (.var 3), .expr (.cio 3 [.io, .io, .f] [.var 2, .var 3, .tup [.con (.str (tx [99, 97, 108, 108])), .var 6, .var 7]])] [.asg (.nm 5) (.call 2 [.f, .f] [.var 4, .var 1] []), .ifs (.cmp .Gt (.var 5) (.con (.int 0))) [.expr (.cio 3 [.io, .io, .f] [.var 2, .var 3, .tup [.con (.str (tx [112, 108, 97, 99, 101])), .var 5]])] [.expr (.cio 3 [.io, .io, .f] [.var 2, .var 3, .tup [.con (.str (tx [119, 111, 114, 100])), .var 4]])]]]]]]
def f_tree_of : Fn := ⟨"tree_of", "tree_of", ["words", "count", "top", "opened", "word", "place", "name", "arguments"], [.f, .f],
  [.asg (.nm 2) (.lst []), .asg (.nm 3) (.lst []), .wip [4, 5, 6, 7] (.fors (.nm 4) .sq [.var 0] lb_tree_of_1), .ifs (.cmp .Gt (.blt .len [.var 3]) (.con (.int 0))) [.raise 0 (tx [])] [], .ret (.var 2)], some (.none)⟩
def lb_written_1 : List S := [.blk [3, 4] [.ifs (.cmp .Gt (.var 3) (.con (.int 0))) [.app (.var 1) (.con (.str (tx [124])))] [], .asg (.nm 1) (.bin .Add (.var 1) (.call 6 [.f] [.var 4] []))]]
def lb_written_2 : List S := [.blk [2, 3, 4] [.ifs (.cmp .Eq (.ix (.var 2) (.con (.int 0))) (.con (.str (tx [119, 111, 114, 100])))) [.app (.var 1) (.ix (.var 2) (.con (.int 1)))] [.ifs (.cmp .Eq (.ix (.var 2) (.con (.int 0))) (.con (.str (tx [112, 108, 97, 99, 101])))) [.app (.var 1) (.bin .Add (.con (.str (tx [36]))) (.blt .str [.ix (.var 2) (.con (.int 1))]))] [.app (.var 1) (.bin .Add (.con (.str (tx [91]))) (.ix (.var 2) (.con (.int 1)))), .wip [3, 4] (.fors (.tp [.nm 3, .nm 4]) .enm [.ix (.var 2) (.con (.int 2))] lb_written_1), .app (.var 1) (.con (.str (tx [93])))]]]]
def f_written : Fn := ⟨"written", "written", ["nodes", "words", "node", "k", "argument"], [.f],
  [.asg (.nm 1) (.lst []), .wip [2, 3, 4] (.fors (.nm 2) .sq [.var 0] lb_written_2), .ret (.var 1)], none⟩
def f__law_cell_at : Fn := ⟨"_law_cell_at", "_law_cell_at", ["script", "k"], [.f, .f],
  [.ifs (.cmp .Lt (.var 1) (.blt .len [.var 0])) [.ret (.ix (.var 0) (.var 1))] [], .ret (.con (.int 0))], none⟩
def f__law_draw : Fn := ⟨"_law_draw", "_law_draw", ["cell", "k", "many", "number"], [.f, .f, .f],
  [.asg (.nm 3) (.bin .Mod (.bin .Mult (.bin .Add (.var 0) (.con (.int 1))) (.bin .Add (.con (.int 48271)) (.bin .Mult (.bin .Mult (.con (.int 7919)) (.var 1)) (.var 1)))) (.con (.int 2147483647))), .ret (.bin .Mod (.bin .FloorDiv (.bin .Mod (.bin .Mult (.var 3) (.var 3)) (.con (.int 2147483629))) (.con (.int 7))) (.var 2))], none⟩
def lb__law_alike_1 : List S := [.blk [2] [.ifs (.not (.call 9 [.b, .b] [.ix (.var 0) (.var 2), .ix (.var 1) (.var 2)] [])) [.ret (.con (.bool false))] []]]
def f__law_alike : Fn := ⟨"_law_alike", "_law_alike", ["found", "due", "k"], [.b, .b],
  [.ifs (.isi (.var 1) .bool) [.ret (.and (.isi (.var 0) .bool) (.cmp .Eq (.var 0) (.var 1)))] [], .ifs (.isi (.var 1) .int) [.ret (.and (.isi (.var 0) .int) (.and (.not (.isi (.var 0) .bool)) (.cmp .Eq (.var 0) (.var 1))))] [], .ifs (.isi (.var 1) .str) [.ret (.and (.isi (.var 0) .str) (.cmp .Eq (.var 0) (.var 1)))] [], .ifs (.isi (.var 1) .tuple) [.ifs (.not (.isi (.var 0) .tuple)) [.ret (.con (.bool false))] []] [.ifs (.not (.isi (.var 0) .list)) [.ret (.con (.bool false))] []], .ifs (.cmp .NotEq (.blt .len [.var 0]) (.blt .len [.var 1])) [.ret (.con (.bool false))] [], .wip [2] (.fors (.nm 2) .rng [.blt .len [.var 1]] lb__law_alike_1), .ret (.con (.bool true))], none⟩
def st__law_sign_by_1 : Str := tx [33, 34, 35, 36, 38, 39, 40, 41, 42, 43, 44, 45, 46, 47, 48, 49, 50, 51, 52, 53, 54, 55, 56, 57, 58, 59, 60, 61, 62, 63, 64, 65, 66, 67, 68, 69, 70, 71, 72, 73, 74, 75, 76, 77, 78, 79, 80, 81, 82, 83, 84, 85, 86, 87, 88, 89, 90, 91, 92, 93, 94, 95, 96, 97, 98, 99, 100, 101, 102, 103, 104, 105, 106, 107, 108, 109, 110, 111, 112, 113, 114, 115, 116, 117, 118, 119, 120, 121, 122, 123, 124, 125, 126]
def f__law_sign_by : Fn := ⟨"_law_sign_by", "_law_sign_by", ["cell", "k", "some"], [.f, .f],
  [.asg (.nm 2) (.con (.str st__law_sign_by_1)), .ret (.ix (.var 2) (.call 8 [.f, .f, .f] [.var 0, .var 1, .con (.int 93)] []))], none⟩
def st__law_is_name_1 : Str := tx [97, 98, 99, 100, 101, 102, 103, 104, 105, 106, 107, 108, 109, 110, 111, 112, 113, 114, 115, 116, 117, 118, 119, 120, 121, 122, 48, 49, 50, 51, 52, 53, 54, 55, 56, 57]
def lb__law_is_name_1 : List S := [.blk [1] [.ifs (.cmp .NotIn (.var 1) (.con (.str st__law_is_name_1))) [.ret (.con (.bool false))] []]]
def f__law_is_name : Fn := ⟨"_law_is_name", "_law_is_name", ["word", "sign"], [.f],
  [.ifs (.or (.cmp .Lt (.blt .len [.var 0]) (.con (.int 1))) (.cmp .Gt (.blt .len [.var 0]) (.con (.int 12)))) [.ret (.con (.bool false))] [], .wip [1] (.fors (.nm 1) .sq [.var 0] lb__law_is_name_1), .ret (.cmp .NotIn (.ix (.var 0) (.con (.int 0))) (.con (.str (tx [48, 49, 50, 51, 52, 53, 54, 55, 56, 57]))))], none⟩
def f__law_opens : Fn := ⟨"_law_opens", "_law_opens", ["word"], [.f],
  [.ret (.and (.cmp .Eq (.ix (.var 0) (.con (.int 0))) (.con (.str (tx [91])))) (.call 11 [.f] [.slc (.var 0) (.con (.int 1)) .nul] []))], none⟩
def ce__law_word_1 : E := .call 10 [.f, .f] [.var 0, .bin .Add (.con (.int 10)) (.var 3)] []
@[simp] theorem q_ce__law_word_1 : quiet ce__law_word_1 = true := rfl
def f__law_word : Fn := ⟨"_law_word", "_law_word", ["cell", "most", "way", "k"], [.f, .f],
  [.asg (.nm 2) (.call 8 [.f, .f, .f] [.var 0, .con (.int 1), .con (.int 10)] []), .ifs (.cmp .Lt (.var 2) (.var 1)) [.ret (.bin .Add (.con (.str (tx [91]))) (.slc (.con (.str (tx [97, 98, 99, 100, 101, 102, 103, 104, 105, 106, 107, 108, 109]))) .nul (.bin .Add (.con (.int 1)) (.call 8 [.f, .f, .f] [.var 0, .con (.int 2), .con (.int 12)] []))))] [], .ifs (.cmp .Eq (.var 2) (.con (.int 8))) [.ret (.bin .Add (.con (.str (tx [36]))) (.ix (.con (.str (tx [48, 49, 50, 51, 52, 53, 54, 55, 56, 57]))) (.call 8 [.f, .f, .f] [.var 0, .con (.int 3), .con (.int 10)] [])))] [], .ifs (.cmp .Eq (.var 2) (.con (.int 9))) [.ret (.met .join (.con (.str (tx []))) (.lc [3] (.nm 3) .rng [.bin .Add (.con (.int 1)) (.call 8 [.f, .f, .f] [.var 0, .con (.int 4), .con (.int 3)] [])] .nul ce__law_word_1))] [], .ret (.ix (.lst [.con (.str (tx [93])), .con (.str (tx [124])), .con (.str (tx [93])), .con (.str (tx [93]))]) (.call 8 [.f, .f, .f] [.var 0, .con (.int 5), .con (.int 4)] []))], none⟩
def lb__law_due_1 : List S := [.blk [3] [.ifs (.call 12 [.f] [.var 3] []) [.ifs (.cmp .Eq (.var 2) (.con (.int 20))) [.ret (.con (.str (tx [68, 101, 101, 112])))] [], .asg (.nm 2) (.bin .Add (.var 2) (.con (.int 1)))] [.ifs (.and (.cmp .Gt (.var 2) (.con (.int 0))) (.cmp .Eq (.var 3) (.con (.str (tx [93]))))) [.asg (.nm 2) (.bin .Sub (.var 2) (.con (.int 1)))] [.ifs (.and (.cmp .IsNot (.var 1) (.con (.none))) (.and (.cmp .Eq (.blt .len [.var 3]) (.con (.int 2))) (.and (.cmp .Eq (.ix (.var 3) (.con (.int 0))) (.con (.str (tx [36])))) (.cmp .In (.ix (.var 3) (.con (.int 1))) (.con (.str (tx [48, 49, 50, 51, 52, 53, 54, 55, 56, 57]))))))) [.ifs (.not (.chn .LtE .LtE (.con (.int 1)) (.met .find (.con (.str (tx [48, 49, 50, 51, 52, 53, 54, 55, 56, 57]))) (.ix (.var 3) (.con (.int 1)))) (.var 1))) [.ret (.con (.str (tx [66, 97, 100, 67, 97, 108, 108])))] []] []]]]]
def f__law_due : Fn := ⟨"_law_due", "_law_due", ["words", "count", "many", "word"], [.f, .f],
  [.asg (.nm 2) (.con (.int 0)), .wip [3] (.fors (.nm 3) .sq [.var 0] lb__law_due_1), .ifs (.cmp .Gt (.var 2) (.con (.int 0))) [.ret (.con (.str (tx [66, 97, 100, 67, 97, 108, 108])))] [], .ret (.con (.str (tx [])))], none⟩
def ce__law_words_1 : E := .call 13 [.f, .f] [.var 6, .var 2] []
@[simp] theorem q_ce__law_words_1 : quiet ce__law_words_1 = true := rfl
def lb__law_words_1 : List S := [.blk [5] [.ifs (.call 12 [.f] [.var 5] []) [.asg (.nm 4) (.bin .Add (.var 4) (.con (.int 1)))] [.ifs (.and (.cmp .Eq (.var 5) (.con (.str (tx [93])))) (.cmp .Gt (.var 4) (.con (.int 0)))) [.asg (.nm 4) (.bin .Sub (.var 4) (.con (.int 1)))] []]]]
def f__law_words : Fn := ⟨"_law_words", "_law_words", ["script", "first", "most", "words", "many", "word", "cell"], [.f, .f],
  [.asg (.nm 2) (.ix (.lst [.con (.int 2), .con (.int 3), .con (.int 4), .con (.int 8)]) (.call 8 [.f, .f, .f] [.var 1, .con (.int 6), .con (.int 4)] [])), .asg (.nm 3) (.lc [6] (.nm 6) .sq [.slc (.var 0) .nul (.con (.int 110))] .nul ce__law_words_1), .ifs (.cmp .Gt (.call 8 [.f, .f, .f] [.var 1, .con (.int 7), .con (.int 3)] []) (.con (.int 0))) [.asg (.nm 4) (.con (.int 0)), .wip [5] (.fors (.nm 5) .sq [.var 3] lb__law_words_1), .asg (.nm 3) (.bin .Add (.var 3) (.bin .Mult (.lst [.con (.str (tx [93]))]) (.var 4)))] [], .ret (.var 3)], none⟩
def f__law_refusal : Fn := ⟨"_law_refusal", "_law_refusal", ["words", "count", "which", "e"], [.f, .f],
  [.asg (.nm 2) (.lst []), .tryx [0, 1, 2, 3, 4] [⟨2, [0, 1, 2, 3, 4], some 3, [(2, .lst [.isx 3 1 [1], .isx 3 0 [0], .isv 3]), (2, .add (.var 2) (.lst [.or (.isx 3 4 [4]) (.isx 3 3 [3])]))]⟩] [.expr (.call 5 [.f, .f] [.var 0, .var 1] [])], .ret (.var 2)], none⟩
def f_law : Fn := ⟨"law", "law", ["script", "first", "count", "words", "handed", "due", "which"], [.f],
  [.asg (.nm 1) (.call 7 [.f, .f] [.var 0, .con (.int 0)] []), .asg (.nm 2) (.ix (.lst [.con (.none), .con (.int 0), .con (.int 1), .con (.int 4), .con (.int 9), .con (.int 9)]) (.call 8 [.f, .f, .f] [.var 1, .con (.int 8), .con (.int 6)] [])), .asg (.nm 3) (.call 15 [.f, .f] [.var 0, .var 1] []), .asg (.nm 4) (.blt .list [.var 3]), .asg (.nm 5) (.call 14 [.f, .f] [.var 3, .var 2] []), .asg (.nm 6) (.call 16 [.f, .f] [.var 4, .var 2] []), .ifs (.cmp .NotEq (.var 4) (.var 3)) [.ret (.con (.bool false))] [], .ifs (.cmp .NotEq (.var 5) (.con (.str (tx [])))) [.ret (.cmp .Eq (.var 6) (.lst [.cmp .Eq (.var 5) (.con (.str (tx [68, 101, 101, 112]))), .cmp .Eq (.var 5) (.con (.str (tx [66, 97, 100, 67, 97, 108, 108]))), .con (.bool true), .con (.bool false)]))] [], .ret (.and (.cmp .Eq (.var 6) (.lst [])) (.call 9 [.b, .b] [.call 6 [.f] [.call 5 [.f, .f] [.var 4, .var 2] []] [], .var 3] []))], none⟩
def L : LD := ⟨PySem.Challenge.pw_trueleaf_k12_trees_refused, [(10, f_is_name), (13, f_opens), (14, f_place_in), (15, f_put_node), (16, f_part_argument), (17, f_tree_of), (18, f_written), (20, f__law_cell_at), (21, f__law_draw), (22, f__law_alike), (23, f__law_sign_by), (24, f__law_is_name), (25, f__law_opens), (26, f__law_word), (27, f__law_due), (28, f__law_words), (29, f__law_refusal), (30, f_law)], ["len", "str", "enumerate", "isinstance", "bool", "int", "tuple", "list", "range", "ValueError"], [("SMALL", gv_SMALL), ("LONGEST", gv_LONGEST), ("FIGURES", gv_FIGURES), ("DEEPEST", gv_DEEPEST)], [("BadCall", [0]), ("Deep", [1]), ("TrueleafError", [0, 1, 2, 3, 4]), ("TooLong", [3]), ("NoShort", [4])]⟩
abbrev i_is_name : Nat := 0
abbrev i_opens : Nat := 1
abbrev i_place_in : Nat := 2
abbrev i_put_node : Nat := 3
abbrev i_part_argument : Nat := 4
abbrev i_tree_of : Nat := 5
abbrev i_written : Nat := 6
abbrev i__law_cell_at : Nat := 7
abbrev i__law_draw : Nat := 8
abbrev i__law_alike : Nat := 9
abbrev i__law_sign_by : Nat := 10
abbrev i__law_is_name : Nat := 11
abbrev i__law_opens : Nat := 12
abbrev i__law_word : Nat := 13
abbrev i__law_due : Nat := 14
abbrev i__law_words : Nat := 15
abbrev i__law_refusal : Nat := 16
abbrev i_law : Nat := 17
theorem b_is_name : L.Bd (10, f_is_name) := fun _ _ _ _ _ _ us hl => match us, (show us.length = 1 from hl) with | [_], _ => rfl
theorem b_opens : L.Bd (13, f_opens) := fun _ _ _ _ _ _ us hl => match us, (show us.length = 1 from hl) with | [_], _ => rfl
theorem b_place_in : L.Bd (14, f_place_in) := fun _ _ _ _ _ _ us hl => match us, (show us.length = 2 from hl) with | [_, _], _ => rfl
theorem b_put_node : L.Bd (15, f_put_node) := fun _ _ _ _ _ _ us hl => match us, (show us.length = 3 from hl) with | [_, _, _], _ => rfl
theorem b_part_argument : L.Bd (16, f_part_argument) := fun _ _ _ _ _ _ us hl => match us, (show us.length = 1 from hl) with | [_], _ => rfl
theorem b_tree_of : L.Bd (17, f_tree_of) := fun _ _ _ _ _ _ _ us it => ⟨fun hl => match us, (show us.length = 2 from hl) with | [_, _], _ => ⟨_, rfl, rfl⟩, fun hl => match us, (show us.length = 1 from Nat.succ.inj (show us.length + 1 = 2 from hl)) with | [_], _ => ⟨_, rfl, rfl⟩⟩
theorem b_written : L.Bd (18, f_written) := fun _ _ _ _ _ _ us hl => match us, (show us.length = 1 from hl) with | [_], _ => rfl
theorem b__law_cell_at : L.Bd (20, f__law_cell_at) := fun _ _ _ _ _ _ us hl => match us, (show us.length = 2 from hl) with | [_, _], _ => rfl
theorem b__law_draw : L.Bd (21, f__law_draw) := fun _ _ _ _ _ _ us hl => match us, (show us.length = 3 from hl) with | [_, _, _], _ => rfl
theorem b__law_alike : L.Bd (22, f__law_alike) := fun _ _ _ _ _ _ us hl => match us, (show us.length = 2 from hl) with | [_, _], _ => rfl
theorem b__law_sign_by : L.Bd (23, f__law_sign_by) := fun _ _ _ _ _ _ us hl => match us, (show us.length = 2 from hl) with | [_, _], _ => rfl
theorem b__law_is_name : L.Bd (24, f__law_is_name) := fun _ _ _ _ _ _ us hl => match us, (show us.length = 1 from hl) with | [_], _ => rfl
theorem b__law_opens : L.Bd (25, f__law_opens) := fun _ _ _ _ _ _ us hl => match us, (show us.length = 1 from hl) with | [_], _ => rfl
theorem b__law_word : L.Bd (26, f__law_word) := fun _ _ _ _ _ _ us hl => match us, (show us.length = 2 from hl) with | [_, _], _ => rfl
theorem b__law_due : L.Bd (27, f__law_due) := fun _ _ _ _ _ _ us hl => match us, (show us.length = 2 from hl) with | [_, _], _ => rfl
theorem b__law_words : L.Bd (28, f__law_words) := fun _ _ _ _ _ _ us hl => match us, (show us.length = 2 from hl) with | [_, _], _ => rfl
theorem b__law_refusal : L.Bd (29, f__law_refusal) := fun _ _ _ _ _ _ us hl => match us, (show us.length = 2 from hl) with | [_, _], _ => rfl
theorem b_law : L.Bd (30, f_law) := fun _ _ _ _ _ _ us hl => match us, (show us.length = 1 from hl) with | [_], _ => rfl
theorem bd : ∀ p ∈ L.fns, L.Bd p := List.forall_mem_cons.mpr ⟨b_is_name, List.forall_mem_cons.mpr ⟨b_opens, List.forall_mem_cons.mpr ⟨b_place_in, List.forall_mem_cons.mpr ⟨b_put_node, List.forall_mem_cons.mpr ⟨b_part_argument, List.forall_mem_cons.mpr ⟨b_tree_of, List.forall_mem_cons.mpr ⟨b_written, List.forall_mem_cons.mpr ⟨b__law_cell_at, List.forall_mem_cons.mpr ⟨b__law_draw, List.forall_mem_cons.mpr ⟨b__law_alike, List.forall_mem_cons.mpr ⟨b__law_sign_by, List.forall_mem_cons.mpr ⟨b__law_is_name, List.forall_mem_cons.mpr ⟨b__law_opens, List.forall_mem_cons.mpr ⟨b__law_word, List.forall_mem_cons.mpr ⟨b__law_due, List.forall_mem_cons.mpr ⟨b__law_words, List.forall_mem_cons.mpr ⟨b__law_refusal, List.forall_mem_cons.mpr ⟨b_law, fun p hp => by cases hp⟩⟩⟩⟩⟩⟩⟩⟩⟩⟩⟩⟩⟩⟩⟩⟩⟩⟩
theorem c_is_name (n : Nat) (d0 : D) : callK L.tb (n + 1) 0 [.f d0] = ends f_is_name.ms (execSs (callK L.tb n) [] f_is_name.body [some (.own (.fz d0)), none]) := rfl
theorem c_opens (n : Nat) (d0 : D) : callK L.tb (n + 1) 1 [.f d0] = ends f_opens.ms (execSs (callK L.tb n) [] f_opens.body [some (.own (.fz d0))]) := rfl
theorem c_place_in (n : Nat) (d0 : D) (d1 : D) : callK L.tb (n + 1) 2 [.f d0, .f d1] = ends f_place_in.ms (execSs (callK L.tb n) [] f_place_in.body [some (.own (.fz d0)), some (.own (.fz d1)), none]) := rfl
theorem c_put_node (n : Nat) (d0 : O) (d1 : O) (d2 : D) : callK L.tb (n + 1) 3 [.io d0, .io d1, .f d2] = ends f_put_node.ms (execSs (callK L.tb n) [0, 1] f_put_node.body [some (.own d0), some (.own d1), some (.own (.fz d2)), none]) := rfl
theorem c_part_argument (n : Nat) (d0 : O) : callK L.tb (n + 1) 4 [.io d0] = ends f_part_argument.ms (execSs (callK L.tb n) [0] f_part_argument.body [some (.own d0), none]) := rfl
theorem c_tree_of (n : Nat) (d0 : D) (d1 : D) : callK L.tb (n + 1) 5 [.f d0, .f d1] = ends f_tree_of.ms (execSs (callK L.tb n) [] f_tree_of.body [some (.own (.fz d0)), some (.own (.fz d1)), none, none, none, none, none, none]) := rfl
theorem c_written (n : Nat) (d0 : D) : callK L.tb (n + 1) 6 [.f d0] = ends f_written.ms (execSs (callK L.tb n) [] f_written.body [some (.own (.fz d0)), none, none, none, none]) := rfl
theorem c__law_cell_at (n : Nat) (d0 : D) (d1 : D) : callK L.tb (n + 1) 7 [.f d0, .f d1] = ends f__law_cell_at.ms (execSs (callK L.tb n) [] f__law_cell_at.body [some (.own (.fz d0)), some (.own (.fz d1))]) := rfl
theorem c__law_draw (n : Nat) (d0 : D) (d1 : D) (d2 : D) : callK L.tb (n + 1) 8 [.f d0, .f d1, .f d2] = ends f__law_draw.ms (execSs (callK L.tb n) [] f__law_draw.body [some (.own (.fz d0)), some (.own (.fz d1)), some (.own (.fz d2)), none]) := rfl
theorem c__law_alike (n : Nat) (d0 : D) (d1 : D) : callK L.tb (n + 1) 9 [.b d0, .b d1] = ends f__law_alike.ms (execSs (callK L.tb n) [] f__law_alike.body [some (.par d0), some (.par d1), none]) := rfl
theorem c__law_sign_by (n : Nat) (d0 : D) (d1 : D) : callK L.tb (n + 1) 10 [.f d0, .f d1] = ends f__law_sign_by.ms (execSs (callK L.tb n) [] f__law_sign_by.body [some (.own (.fz d0)), some (.own (.fz d1)), none]) := rfl
theorem c__law_is_name (n : Nat) (d0 : D) : callK L.tb (n + 1) 11 [.f d0] = ends f__law_is_name.ms (execSs (callK L.tb n) [] f__law_is_name.body [some (.own (.fz d0)), none]) := rfl
theorem c__law_opens (n : Nat) (d0 : D) : callK L.tb (n + 1) 12 [.f d0] = ends f__law_opens.ms (execSs (callK L.tb n) [] f__law_opens.body [some (.own (.fz d0))]) := rfl
theorem c__law_word (n : Nat) (d0 : D) (d1 : D) : callK L.tb (n + 1) 13 [.f d0, .f d1] = ends f__law_word.ms (execSs (callK L.tb n) [] f__law_word.body [some (.own (.fz d0)), some (.own (.fz d1)), none, none]) := rfl
theorem c__law_due (n : Nat) (d0 : D) (d1 : D) : callK L.tb (n + 1) 14 [.f d0, .f d1] = ends f__law_due.ms (execSs (callK L.tb n) [] f__law_due.body [some (.own (.fz d0)), some (.own (.fz d1)), none, none]) := rfl
theorem c__law_words (n : Nat) (d0 : D) (d1 : D) : callK L.tb (n + 1) 15 [.f d0, .f d1] = ends f__law_words.ms (execSs (callK L.tb n) [] f__law_words.body [some (.own (.fz d0)), some (.own (.fz d1)), none, none, none, none, none]) := rfl
theorem c__law_refusal (n : Nat) (d0 : D) (d1 : D) : callK L.tb (n + 1) 16 [.f d0, .f d1] = ends f__law_refusal.ms (execSs (callK L.tb n) [] f__law_refusal.body [some (.own (.fz d0)), some (.own (.fz d1)), none, none]) := rfl
theorem c_law (n : Nat) (d0 : D) : callK L.tb (n + 1) 17 [.f d0] = ends f_law.ms (execSs (callK L.tb n) [] f_law.body [some (.own (.fz d0)), none, none, none, none, none, none]) := rfl
theorem chk : L.fns.all L.fnB = true := by decide +kernel
-- LAW id 17 index 30 loose ["TrueleafError", "TooLong", "BadCall", "Deep", "NoShort", "SMALL", "FIGURES", "LONGEST", "is_name", "DEEPEST", "opens", "place_in", "put_node", "part_argument", "tree_of", "written", "_law_cell_at", "_law_draw", "_law_alike", "_law_sign_by", "_law_is_name", "_law_opens", "_law_word", "_law_due", "_law_words", "_law_refusal"]
end TL
namespace TL
open PySem PySem.Spec L2
def cellAt (ns : List Int) (k : Nat) : Int := ns[k]?.getD 0
theorem r__law_cell_at (n : Nat) (ns : List Int) (k : Nat) : callK L.tb (n + 1) i__law_cell_at [.f (.list (ns.map .int)), .f (.int k)] = .ok (.fz (.int (cellAt ns k))) [none, none] := by
  rw [c__law_cell_at]
  by_cases h : k < ns.length
  · have h1 : atI (ns.map PyData.int) (k : Int) = some (.int (cellAt ns k)) := by
      rw [atI_nat]; simp [cellAt, h]
    simp [f__law_cell_at, h, h1]
  · have h1 : cellAt ns k = 0 := by unfold cellAt; rw [List.getElem?_eq_none (by omega)]; rfl
    simp [f__law_cell_at, h, h1]
end TL
namespace TL
open PySem PySem.Spec L2
def drw (c k m : Int) : Int := ((c + 1) * (48271 + 7919 * k * k) % 2147483647) * ((c + 1) * (48271 + 7919 * k * k) % 2147483647) % 2147483629 / 7 % m
theorem r__law_draw (n : Nat) (c k m : Int) (h0 : 0 ≤ k) (h1 : k ≤ 1000) (hm : 0 < m) : callK L.tb (n + 1) i__law_draw [.f (.int c), .f (.int k), .f (.int m)] = .ok (.fz (.int (drw c k m))) [none, none, none] := by
  rw [c__law_draw]
  have a : 0 ≤ 7919 * k * k ∧ 7919 * k * k ≤ 7919000000 := by
    have h2 : k * k ≤ 1000 * 1000 := Int.mul_le_mul h1 h1 h0 (by decide)
    have h3 : 0 ≤ k * k := Int.mul_nonneg h0 h0
    rw [Int.mul_assoc]
    omega
  generalize hz : 7919 * k * k = z at *
  simp -implicitDefEqProofs (disch := first | omega | (simp <;> omega) | fail) [f__law_draw, hz, drw]
theorem drw_b (c k : Int) {m : Int} (hm : 0 < m) : 0 ≤ drw c k m ∧ drw c k m < m := by
  unfold drw
  exact ⟨Int.emod_nonneg _ (by omega), Int.emod_lt_of_pos _ hm⟩
end TL
namespace TL
open PySem PySem.Spec L2
def al : Nat → D → Prop
  | _, .int _ => True
  | _, .str _ => True
  | _, .bool _ => True
  | n + 1, .list xs => xs.length ≤ 1000000 ∧ ∀ x ∈ xs, al n x
  | n + 1, .tuple xs => xs.length ≤ 1000000 ∧ ∀ x ∈ xs, al n x
  | _, _ => False
theorem r__law_alike : ∀ (k n : Nat) (d : D), al k d → callK L.tb (n + k + 1) i__law_alike [.b d, .b d] = .ok (.fz (.bool true)) [none, none] := by
  have seq : ∀ (k n : Nat) (ds : List D) (s : D), (∀ n d, al k d → callK L.tb (n + k + 1) i__law_alike [.b d, .b d] = .ok (.fz (.bool true)) [none, none]) → (∀ x ∈ ds, al k x) →
      (s = .list ds ∨ s = .tuple ds) →
      forGo (turnX (callK L.tb (n + k + 1)) [] (.nm 2) lb__law_alike_1) ((List.range ds.length).map fun k => .int ((k : Nat) : Int)) [some (.par s), some (.par s), none] = .ok .nx [some (.par s), some (.par s), none] := by
    intro k n ds s ih hx hs
    refine forGo_thru (fun k => PyData.int ((k : Nat) : Int)) fun i hi => ?_
    rw [List.mem_range] at hi
    have hm := ih n ds[i] (hx _ (List.getElem_mem hi))
    have ha : atI ds (i : Int) = some ds[i] := by rw [atI_nat, List.getElem?_eq_getElem hi]
    simp only [turnX_d, lb__law_alike_1]
    rcases hs with rfl | rfl
    · simp -implicitDefEqProofs (disch := first | omega | (simp <;> omega) | fail) [ha, hm]
    · simp -implicitDefEqProofs (disch := first | omega | (simp <;> omega) | fail) [ha, hm]
  intro k
  induction k with
  | zero =>
    intro n d h
    rw [c__law_alike]
    cases d with
    | int i => simp -implicitDefEqProofs (disch := first | omega | (simp <;> omega) | fail) [f__law_alike]
    | str i => simp -implicitDefEqProofs (disch := first | omega | (simp <;> omega) | fail) [f__law_alike]
    | bool i => simp -implicitDefEqProofs (disch := first | omega | (simp <;> omega) | fail) [f__law_alike]
    | none => exact h.elim
    | list xs => exact h.elim
    | tuple xs => exact h.elim
    | dict xs => exact h.elim
  | succ k ih =>
    intro n d h
    cases d with
    | int i => rw [c__law_alike]; simp -implicitDefEqProofs (disch := first | omega | (simp <;> omega) | fail) [f__law_alike]
    | str i => rw [c__law_alike]; simp -implicitDefEqProofs (disch := first | omega | (simp <;> omega) | fail) [f__law_alike]
    | bool i => rw [c__law_alike]; simp -implicitDefEqProofs (disch := first | omega | (simp <;> omega) | fail) [f__law_alike]
    | none => exact h.elim
    | dict xs => exact h.elim
    | list xs =>
      obtain ⟨h1, h2⟩ := h
      have hs := seq k n xs _ ih h2 (.inl rfl)
      show callK L.tb ((n + k + 1) + 1) i__law_alike _ = _
      rw [c__law_alike]
      simp -implicitDefEqProofs (disch := first | omega | (simp <;> omega) | fail) [f__law_alike, hs]
    | tuple xs =>
      obtain ⟨h1, h2⟩ := h
      have hs := seq k n xs _ ih h2 (.inr rfl)
      show callK L.tb ((n + k + 1) + 1) i__law_alike _ = _
      rw [c__law_alike]
      simp -implicitDefEqProofs (disch := first | omega | (simp <;> omega) | fail) [f__law_alike, hs]
end TL
namespace TL
open PySem PySem.Spec L2
def SB : List Nat := [33, 34, 35, 36, 38, 39, 40, 41, 42, 43, 44, 45, 46, 47, 48, 49, 50, 51, 52, 53, 54, 55, 56, 57, 58, 59, 60, 61, 62, 63, 64, 65, 66, 67, 68, 69, 70, 71, 72, 73, 74, 75, 76, 77, 78, 79, 80, 81, 82, 83, 84, 85, 86, 87, 88, 89, 90, 91, 92, 93, 94, 95, 96, 97, 98, 99, 100, 101, 102, 103, 104, 105, 106, 107, 108, 109, 110, 111, 112, 113, 114, 115, 116, 117, 118, 119, 120, 121, 122, 123, 124, 125, 126]
def sgB (c k : Int) : Nat := SB.getD (drw c k 93).toNat 33
theorem sgB_asc (c k : Int) : 33 ≤ sgB c k ∧ sgB c k ≤ 126 := by
  have ha : asc SB := by unfold asc SB; decide
  refine ha _ ?_
  unfold sgB
  have := drw_b c k (m := 93) (by decide)
  have h : (drw c k 93).toNat < SB.length := by
    have : SB.length = 93 := rfl
    omega
  rw [List.getD_eq_getElem?_getD, List.getElem?_eq_getElem h]
  exact List.getElem_mem h
theorem SB_at (c k : Int) : atI SB (drw c k 93) = some (sgB c k) := by
  have := drw_b c k (m := 93) (by decide)
  have h : (drw c k 93).toNat < SB.length := by
    have : SB.length = 93 := rfl
    omega
  unfold sgB
  rw [atI_ok (by omega) (by rw [show SB.length = 93 from rfl]; omega), List.getD_eq_getElem?_getD, List.getElem?_eq_getElem h]
  rfl
theorem r__law_sign_by (n : Nat) (c k : Int) (h0 : 0 ≤ k) (h1 : k ≤ 1000) : callK L.tb (n + 2) i__law_sign_by [.f (.int c), .f (.int k)] = .ok (.fz (.str (tx [sgB c k]))) [none, none] := by
  rw [c__law_sign_by]
  have hs : st__law_sign_by_1 = tx SB := by decide +kernel
  have hl : SB.length ≤ 16777216 := by decide
  have hd := r__law_draw n c k 93 h0 h1 (by decide)
  simp -implicitDefEqProofs (disch := first | omega | (simp <;> omega) | fail) [f__law_sign_by, hs, hd, SB_at, hl]
end TL
namespace TL
open PySem PySem.Spec L2
def smL : List Nat := [97, 98, 99, 100, 101, 102, 103, 104, 105, 106, 107, 108, 109, 110, 111, 112, 113, 114, 115, 116, 117, 118, 119, 120, 121, 122]
def fgL : List Nat := [48, 49, 50, 51, 52, 53, 54, 55, 56, 57]
def nmL : List Nat := [97, 98, 99, 100, 101, 102, 103, 104, 105, 106, 107, 108, 109, 110, 111, 112, 113, 114, 115, 116, 117, 118, 119, 120, 121, 122, 48, 49, 50, 51, 52, 53, 54, 55, 56, 57]
theorem fgL_e : [48, 49, 50, 51, 52, 53, 54, 55, 56, 57] = fgL := rfl
theorem sm_e : gv_SMALL = .str (tx smL) := rfl
theorem fg_e : gv_FIGURES = .str (tx fgL) := rfl
theorem lo_e : gv_LONGEST = .int 12 := rfl
theorem nm_mem (c : Nat) : decide (c ∈ nmL) = (decide (c ∈ smL) || decide (c ∈ fgL)) := by
  have : nmL = smL ++ fgL := rfl
  rw [this, Bool.eq_iff_iff]
  simp
theorem sm_nf {c : Nat} (h : c ∈ smL) : c ∉ fgL := by
  have : ∀ c ∈ smL, c ∉ fgL := by decide
  exact this c h
def okC (c : Nat) : Bool := decide (c ∈ smL) || decide (c ∈ fgL)
def isN : List Nat → Bool
  | [] => false
  | c :: w => decide (w.length < 12) && decide (c ∈ smL) && w.all okC
theorem isn_loop (n : Nat) (x0 : Option SL) (l : List Nat) : forGo (turnX (callK L.tb n) [] (.nm 1) lb_is_name_1) (l.map sgn) [x0, none] = if l.all okC then .ok .nx [x0, none] else .ok (.ret (.fz (.bool false))) [x0, none] := by
  refine forGo_all sgn okC (.fz (.bool false)) [x0, none] fun c _ => ?_
  simp only [turnX_d, lb_is_name_1]
  by_cases h1 : c ∈ smL
  · simp -implicitDefEqProofs (disch := first | omega | (simp <;> omega) | fail) [sm_e, fg_e, okC, h1]
  · by_cases h2 : c ∈ fgL
    · simp -implicitDefEqProofs (disch := first | omega | (simp <;> omega) | fail) [sm_e, fg_e, okC, h1, h2]
    · simp -implicitDefEqProofs (disch := first | omega | (simp <;> omega) | fail) [sm_e, fg_e, okC, h1, h2]
theorem isN_c (c : Nat) (w : List Nat) : isN (c :: w) = (decide (w.length < 12) && decide (c ∈ smL) && w.all okC) := rfl
theorem r_is_name (n : Nat) (w : List Nat) (hw : w.length ≤ 1000) : callK L.tb (n + 1) i_is_name [.f (.str (tx w))] = .ok (.fz (.bool (isN w))) [none] := by
  rw [c_is_name]
  cases w with
  | nil => simp -implicitDefEqProofs (disch := first | omega | (simp <;> omega) | fail) [f_is_name, lo_e, isN]
  | cons c w =>
    have hl := isn_loop n (some (.own (.fz (.str (tx (c :: w)))))) (c :: w)
    simp only [List.length_cons] at hw
    simp only [List.map_cons, sgn_tx] at hl
    have g0 : ¬ (w.length : Int) + 1 < 1 := by omega
    by_cases h1 : w.length < 12
    · have g1 : ¬ (12 : Int) < (w.length : Int) + 1 := by omega
      by_cases h2 : c ∈ smL
      · have h3 : (c :: w).all okC = w.all okC := by simp [okC, h2]
        rw [h3] at hl
        cases h4 : w.all okC with
        | true =>
          rw [h4, if_pos rfl] at hl
          simp -implicitDefEqProofs (disch := first | omega | (simp <;> omega) | fail) [f_is_name, lo_e, sm_e, isN_c, hl, h1, h2, h4, g0, g1]
        | false =>
          rw [h4, if_neg (by decide)] at hl
          simp -implicitDefEqProofs (disch := first | omega | (simp <;> omega) | fail) [f_is_name, lo_e, sm_e, isN_c, hl, h1, h2, h4, g0, g1]
      · simp -implicitDefEqProofs (disch := first | omega | (simp <;> omega) | fail) [f_is_name, lo_e, sm_e, isN_c, h1, h2, g0, g1]
    · have g1 : ¬ (w.length : Int) + 1 ≤ 12 := by omega
      simp -implicitDefEqProofs (disch := first | omega | (simp <;> omega) | fail) [f_is_name, lo_e, sm_e, isN_c, h1, g0, g1]
end TL
namespace TL
open PySem PySem.Spec L2
theorem nm_e : st__law_is_name_1 = tx nmL := rfl
theorem isn_loop2 (n : Nat) (x0 : Option SL) (l : List Nat) : forGo (turnX (callK L.tb n) [] (.nm 1) lb__law_is_name_1) (l.map sgn) [x0, none] = if l.all okC then .ok .nx [x0, none] else .ok (.ret (.fz (.bool false))) [x0, none] := by
  refine forGo_all sgn okC (.fz (.bool false)) [x0, none] fun c _ => ?_
  simp only [turnX_d, lb__law_is_name_1]
  have e := nm_mem c
  unfold okC
  rw [← e]
  by_cases h1 : c ∈ nmL
  · simp -implicitDefEqProofs (disch := first | omega | (simp <;> omega) | fail) [nm_e, h1]
  · simp -implicitDefEqProofs (disch := first | omega | (simp <;> omega) | fail) [nm_e, h1]
theorem r__law_is_name (n : Nat) (w : List Nat) (hw : w.length ≤ 1000) : callK L.tb (n + 1) i__law_is_name [.f (.str (tx w))] = .ok (.fz (.bool (isN w))) [none] := by
  rw [c__law_is_name]
  cases w with
  | nil => simp -implicitDefEqProofs (disch := first | omega | (simp <;> omega) | fail) [f__law_is_name, isN]
  | cons c w =>
    have hl := isn_loop2 n (some (.own (.fz (.str (tx (c :: w)))))) (c :: w)
    simp only [List.length_cons] at hw
    simp only [List.map_cons, sgn_tx] at hl
    have g0 : ¬ (w.length : Int) + 1 < 1 := by omega
    by_cases h1 : w.length < 12
    · have h12 : ¬ (12 : Int) < (w.length : Int) + 1 := by omega
      cases h4 : (c :: w).all okC with
      | false =>
        rw [h4, if_neg (by decide)] at hl
        have : isN (c :: w) = false := by
          rw [isN_c]
          simp only [List.all_cons, okC] at h4
          by_cases h2 : c ∈ smL
          · have : w.all okC = false := by
              have h5 := h4
              rw [decide_eq_true h2, Bool.true_or, Bool.true_and] at h5
              exact h5
            rw [this, Bool.and_false]
          · simp [h2]
        simp -implicitDefEqProofs (disch := first | omega | (simp <;> omega) | fail) [f__law_is_name, hl, h1, h12, g0, this]
      | true =>
        rw [h4, if_pos rfl] at hl
        have : isN (c :: w) = !decide (c ∈ fgL) := by
          rw [isN_c]
          simp only [List.all_cons, Bool.and_eq_true] at h4
          rw [h4.2]
          have h5 : okC c = true := h4.1
          unfold okC at h5
          by_cases h2 : c ∈ smL
          · simp [h2, h1, sm_nf h2]
          · have : c ∈ fgL := by simpa [h2] using h5
            simp [h2, this]
        by_cases h6 : c ∈ fgL
        · simp -implicitDefEqProofs (disch := first | omega | (simp <;> omega) | fail) [f__law_is_name, fgL_e, hl, h1, h12, g0, this, h6]
        · simp -implicitDefEqProofs (disch := first | omega | (simp <;> omega) | fail) [f__law_is_name, fgL_e, hl, h1, h12, g0, this, h6]
    · have h12 : (12 : Int) < (w.length : Int) + 1 := by omega
      simp -implicitDefEqProofs (disch := first | omega | (simp <;> omega) | fail) [f__law_is_name, isN_c, h1, h12]
def plS : List Nat := [112, 108, 97, 105, 110]
def HD : List (Nat × List Nat) := [(35, [109, 97, 114, 107]), (64, [110, 117, 109, 98, 101, 114]), (38, [112, 97, 103, 101]), (94, [114, 111, 119]), (126, [102, 111, 111, 116])]
def hdD (p : Nat × List Nat) : D := .tuple [.str (tx [p.1]), .str (tx p.2)]
end TL
namespace TL
open PySem PySem.Spec L2
def paS (e : Ev) (r : Nat × List Int) (k : Int) : Option O → R (Nat × List Int)
  | some _ => .ok (r.1, r.2 ++ [k]) e
  | none => .bad
@[simp] theorem paS_s (e : Ev) (r : Nat × List Int) (k : Int) (o : O) : paS e r k (some o) = .ok (r.1, r.2 ++ [k]) e := rfl
def paI (r : Nat × List Int) (t : TV) (e2 : Ev) : R (Nat × List Int) := match rd t with
  | .int k => paS e2 r k (subAt e2 r.1 (r.2 ++ [k]))
  | _ => .bad
@[simp] theorem paI_i (e : Ev) (r : Nat × List Int) (k : Int) : paI r (.own (.fz (.int k))) e = paS e r k (subAt e r.1 (r.2 ++ [k])) := rfl
def paK (cf : CF) (x : E) (r : Nat × List Int) (e1 : Ev) : R (Nat × List Int) := (evalE cf x e1).bd (paI r)
@[simp] theorem paK_d (cf : CF) (x : E) (r : Nat × List Int) (e : Ev) : paK cf x r e = (evalE cf x e).bd (paI r) := rfl
@[simp] theorem evalPa_i (cf : CF) (q : Pa) (x : E) (e : Ev) : evalPa cf (.ix q x) e = gd (quiet x) ((evalPa cf q e).bd (paK cf x)) := by
  simp only [evalPa, gd]
  split
  · cases evalPa cf q e with
    | ok r e1 =>
      simp only [R.bd_ok, paK]
      cases evalE cf x e1 with
      | ok t e2 =>
        simp only [R.bd_ok]
        unfold paI paS
        cases rd t <;> first | rfl | (dsimp only; cases subAt e2 r.1 (r.2 ++ [_]) <;> rfl)
      | exc c e2 => rfl
      | bad => rfl
    | exc c e1 => rfl
    | bad => rfl
  · rfl
def subG (π : List Int) : Option O → Option O
  | some o => subO π o
  | none => none
@[simp] theorem subG_s (π : List Int) (o : O) : subG π (some o) = subO π o := rfl
@[simp] theorem subAt_c (e : Ev) (i : Nat) (k : Int) (π : List Int) : subAt e i (k :: π) = subG (k :: π) (ownG e[i]?) := by
  unfold subAt
  rw [ownAt_d]
  cases ownG e[i]? <;> rfl
@[simp] theorem subO_t (k : Int) (π : List Int) (os : List O) : subO (k :: π) (.tup os) = (atI os k).bind (subO π) := rfl
@[simp] theorem subO_l (k : Int) (π : List Int) (os : List O) : subO (k :: π) (.lst os) = (atI os k).bind (subO π) := rfl
@[simp] theorem modO_20 (π : List Int) (f : O → Option O) (a b : O) : modO (0 :: π) f (.tup [a, b]) = (modO π f a).map fun o => .tup [o, b] := rfl
@[simp] theorem modO_21 (π : List Int) (f : O → Option O) (a b : O) : modO (1 :: π) f (.tup [a, b]) = (modO π f b).map fun o => .tup [a, o] := rfl
end TL
namespace TL
open PySem PySem.Spec L2
inductive Nd where
  | w (t : List Nat)
  | p (k : Fin 10)
  | c (nm : List Nat) (as : List (List Nd))
def cWord : List Nat := [119, 111, 114, 100]
def cPlace : List Nat := [112, 108, 97, 99, 101]
def cCall : List Nat := [99, 97, 108, 108]
mutual
def ndD : Nd → D
  | .w t => .tuple [strD cWord, strD t]
  | .p k => .tuple [strD cPlace, .int ((k.val : Nat) : Int)]
  | .c nm as => .tuple [strD cCall, strD nm, .list (ndDss as)]
def ndDs : List Nd → List D
  | [] => []
  | n :: r => ndD n :: ndDs r
def ndDss : List (List Nd) → List D
  | [] => []
  | a :: r => .list (ndDs a) :: ndDss r
end
mutual
def wrN : Nd → List (List Nat)
  | .w t => [t]
  | .p k => [[36, 48 + k.val]]
  | .c nm as => (91 :: nm) :: (wrA as ++ [[93]])
def wrL : List Nd → List (List Nat)
  | [] => []
  | n :: r => wrN n ++ wrL r
def wrA : List (List Nd) → List (List Nat)
  | [] => []
  | a :: r => wrL a ++ wrB r
def wrB : List (List Nd) → List (List Nat)
  | [] => []
  | a :: r => [124] :: (wrL a ++ wrB r)
end
theorem ndDs_app (a b : List Nd) : ndDs (a ++ b) = ndDs a ++ ndDs b := by
  induction a with
  | nil => rfl
  | cons n a ih => simp only [List.cons_append, ndDs, ih]
theorem wrL_app (a b : List Nd) : wrL (a ++ b) = wrL a ++ wrL b := by
  induction a with
  | nil => rfl
  | cons n a ih => simp only [List.cons_append, wrL, ih, List.append_assoc]
theorem wrB_app (a b : List (List Nd)) : wrB (a ++ b) = wrB a ++ wrB b := by
  induction a with
  | nil => rfl
  | cons n a ih => simp only [List.cons_append, wrB, ih, List.append_assoc]
theorem wrA_app {a : List (List Nd)} (h : a ≠ []) (b : List (List Nd)) : wrA (a ++ b) = wrA a ++ wrB b := by
  cases a with
  | nil => exact absurd rfl h
  | cons n a => simp only [List.cons_append, wrA, wrB_app, List.append_assoc]
abbrev Fr := List Nat × List (List Nd)
def agO (a : List Nd) : O := .lst (fzs (ndDs a))
def frO (fr : Fr) : O := .tup [.fz (strD fr.1), .lst (fr.2.map agO)]
theorem toD_ag (as : List (List Nd)) : (as.map agO).map toD = ndDss as := by
  induction as with
  | nil => rfl
  | cons a as ih =>
    rw [List.map_cons, List.map_cons, ih]
    show toD (.lst (fzs (ndDs a))) :: _ = .list (ndDs a) :: _
    simp
theorem noI_ag (as : List (List Nd)) : noInss (as.map agO) = true := by
  induction as with
  | nil => rfl
  | cons a as ih =>
    show noInss (.lst (fzs (ndDs a)) :: as.map agO) = true
    simp [ih]
def frW (fs : List Fr) : List (List Nat) := (fs.map fun fr => (91 :: fr.1) :: wrA fr.2).flatten
theorem frW_app (a b : List Fr) : frW (a ++ b) = frW a ++ frW b := by unfold frW; rw [List.map_append, List.flatten_append]
theorem frW_one (fr : Fr) : frW [fr] = (91 :: fr.1) :: wrA fr.2 := by unfold frW; simp
def putA (as : List (List Nd)) (n : Nd) : List (List Nd) := match as.getLast? with
  | none => [[n]]
  | some a => as.dropLast ++ [a ++ [n]]
theorem putA_c (as : List (List Nd)) (a : List Nd) (n : Nd) : putA (as ++ [a]) n = as ++ [a ++ [n]] := by
  unfold putA
  simp
theorem wrA_put (as : List (List Nd)) (n : Nd) : wrA (putA as n) = wrA as ++ wrN n := by
  rcases List.eq_nil_or_concat as with rfl | ⟨as, a, rfl⟩
  · simp [putA, wrA, wrL, wrB]
  · rw [List.concat_eq_append, putA_c]
    have e : wrL (a ++ [n]) = wrL a ++ wrN n := by rw [wrL_app]; simp [wrL]
    cases as with
    | nil => simp only [List.nil_append, wrA, wrB, e, List.append_nil]
    | cons b as =>
      rw [wrA_app (by simp), wrA_app (by simp)]
      simp only [wrB, e, List.append_nil, List.append_assoc, List.cons_append]
def partA (as : List (List Nd)) : List (List Nd) := if as = [] then [[], []] else as ++ [[]]
theorem wrA_part (as : List (List Nd)) : wrA (partA as) = wrA as ++ [[124]] := by
  unfold partA
  split
  · rename_i h; subst h; simp [wrA, wrB, wrL]
  · rename_i h
    rw [wrA_app h]
    simp [wrB, wrL]
theorem modO_k (k : Int) (os : List O) (π : List Int) (f : O → Option O) : modO (k :: π) f (.lst os) = match L2.ixN os.length k with
    | some j => match os[j]? with
      | some o => (modO π f o).map fun o' => O.lst (os.set j o')
      | none => none
    | none => none := by
  simp only [modO]
  all_goals rfl
theorem modO_n1 (os : List O) (o : O) (π : List Int) (f : O → Option O) : modO (-1 :: π) f (.lst (os ++ [o])) = (modO π f o).map fun o' => .lst (os ++ [o']) := by
  have h : L2.ixN (os ++ [o]).length (-1) = some os.length := by
    unfold L2.ixN
    rw [if_neg (by decide), List.length_append, List.length_singleton, if_pos (by omega)]
    congr 1
    omega
  rw [modO_k, h]
  simp
theorem modO_s1 (o : O) (π : List Int) (f : O → Option O) : modO (-1 :: π) f (.lst [o]) = (modO π f o).map fun o' => .lst [o'] := modO_n1 [] o π f
theorem atI_s1 {α : Type} (o : α) : atI [o] (-1) = some o := atI_last [] o
theorem app_0 (x : O) : appF x (.lst []) = some (.lst [x]) := appF_o (os := []) (by decide)
theorem app_1 (x y : O) : appF x (.lst [y]) = some (.lst [y, x]) := appF_o (os := [y]) (by simp)
theorem put_top (n : Nat) (T : List D) (d : D) (hT : T.length ≤ 1000) : callK L.tb (n + 1) i_put_node [.io (.lst (fzs T)), .io (.lst []), .f d] = .ok (.fz .none) [some (.lst (fzs (T ++ [d]))), some (.lst []), none] := by
  rw [c_put_node]
  simp -implicitDefEqProofs (disch := first | omega | (simp <;> omega) | fail) [f_put_node]
theorem put_in (n : Nat) (T : List D) (fr : List O) (nm : D) (as : List O) (z : List D) (d : D) (hz : z.length ≤ 1000) : callK L.tb (n + 1) i_put_node [.io (.lst (fzs T)), .io (.lst (fr ++ [.tup [.fz nm, .lst (as ++ [.lst (fzs z)])]])), .f d]
    = .ok (.fz .none) [some (.lst (fzs T)), some (.lst (fr ++ [.tup [.fz nm, .lst (as ++ [.lst (fzs (z ++ [d]))])]])), none] := by
  rw [c_put_node]
  have hl : ¬ ((fr.length : Int) + 1 = 0) := by omega
  have hl2 : ¬ ((as.length : Int) + 1 = 0) := by omega
  simp -implicitDefEqProofs (disch := first | omega | (simp <;> omega) | fail) [f_put_node, modO_n1, hl, hl2]
theorem put_first (n : Nat) (T : List D) (fr : List O) (nm : D) (d : D) : callK L.tb (n + 1) i_put_node [.io (.lst (fzs T)), .io (.lst (fr ++ [.tup [.fz nm, .lst []]])), .f d]
    = .ok (.fz .none) [some (.lst (fzs T)), some (.lst (fr ++ [.tup [.fz nm, .lst [.lst (fzs [d])]]])), none] := by
  rw [c_put_node]
  have hl : ¬ ((fr.length : Int) + 1 = 0) := by omega
  simp -implicitDefEqProofs (disch := first | omega | (simp <;> omega) | fail) [f_put_node, modO_n1, hl, app_0, modO_s1, atI_s1]
theorem part_in (n : Nat) (fr : List O) (nm : D) (as : List O) (h0 : as ≠ []) (hl : as.length ≤ 1000) : callK L.tb (n + 1) i_part_argument [.io (.lst (fr ++ [.tup [.fz nm, .lst as]]))] = .ok (.fz .none) [some (.lst (fr ++ [.tup [.fz nm, .lst (as ++ [.lst (fzs [])])]]))] := by
  rw [c_part_argument]
  have hap := appF_o (os := as) (x := .lst (fzs [])) (by omega)
  simp -implicitDefEqProofs (disch := first | omega | (simp <;> omega) | fail) [f_part_argument, modO_n1, h0, hap]
theorem part_first (n : Nat) (fr : List O) (nm : D) : callK L.tb (n + 1) i_part_argument [.io (.lst (fr ++ [.tup [.fz nm, .lst []]]))] = .ok (.fz .none) [some (.lst (fr ++ [.tup [.fz nm, .lst [.lst (fzs []), .lst (fzs [])]]]))] := by
  rw [c_part_argument]
  simp -implicitDefEqProofs (disch := first | omega | (simp <;> omega) | fail) [f_part_argument, modO_n1, app_0, app_1]
def okW (w : List Nat) : Prop := w ≠ [] ∧ w.length ≤ 16 ∧ ∀ c ∈ w, 33 ≤ c ∧ c ≤ 126
def opW : List Nat → Bool
  | [] => false
  | c :: r => decide (c = 91) && isN r
theorem tx1 (a b : Nat) : (tx [a] = tx [b]) = (a = b) := propext ⟨fun z => by have := (tx_inj _ _).mp z; simpa using this, fun z => by rw [z]⟩
theorem r_opens (n : Nat) {w : List Nat} (h : okW w) : callK L.tb (n + 2) i_opens [.f (strD w)] = .ok (.fz (.bool (opW w))) [none] := by
  rw [c_opens]
  obtain ⟨h1, h2, _⟩ := h
  cases w with
  | nil => exact absurd rfl h1
  | cons c r =>
    simp only [List.length_cons] at h2
    have hn := r_is_name n r (by omega)
    by_cases e : c = 91
    · subst e
      simp -implicitDefEqProofs (disch := first | omega | (simp <;> omega) | fail) [f_opens, hn, opW]
    · simp -implicitDefEqProofs (disch := first | omega | (simp <;> omega) | fail) [f_opens, tx1, e, opW]
theorem r__law_opens (n : Nat) {w : List Nat} (h : okW w) : callK L.tb (n + 2) i__law_opens [.f (strD w)] = .ok (.fz (.bool (opW w))) [none] := by
  rw [c__law_opens]
  obtain ⟨h1, h2, _⟩ := h
  cases w with
  | nil => exact absurd rfl h1
  | cons c r =>
    simp only [List.length_cons] at h2
    have hn := r__law_is_name n r (by omega)
    by_cases e : c = 91
    · subst e
      simp -implicitDefEqProofs (disch := first | omega | (simp <;> omega) | fail) [f__law_opens, hn, opW]
    · simp -implicitDefEqProofs (disch := first | omega | (simp <;> omega) | fail) [f__law_opens, tx1, e, opW]
def cD : Option Nat → D
  | none => .none
  | some k => .int ((k : Nat) : Int)
def plW (cnt : Option Nat) (w : List Nat) : Option Nat := match cnt, w with
  | some k, [a, d] => if a = 36 ∧ d ∈ fgL then (if 1 ≤ d - 48 ∧ d - 48 ≤ k then some (d - 48) else none) else some 0
  | _, _ => some 0
theorem fg_find : ∀ d ∈ fgL, metV .find (.own (.fz (.str (tx fgL)))) (.own (.fz (.str (tx [d])))) = some (.own (.fz (.int (((d - 48 : Nat)) : Int)))) := by
  have : ∀ d ∈ fgL, Txt.find (tx fgL) (tx [d]) = (((d - 48 : Nat)) : Int) := by decide +kernel
  intro d hd
  show some (fl (.int (Txt.find _ _))) = _
  rw [this d hd]
theorem r_place_in (n : Nat) (cnt : Option Nat) {w : List Nat} (h : okW w) : callK L.tb (n + 1) i_place_in [.f (strD w), .f (cD cnt)] = match plW cnt w with
    | some k => .ok (.fz (.int ((k : Nat) : Int))) [none, none]
    | none => .exc 0 [none, none] := by
  rw [c_place_in]
  obtain ⟨h1, h2, _⟩ := h
  cases cnt with
  | none => simp -implicitDefEqProofs (disch := first | omega | (simp <;> omega) | fail) [f_place_in, cD, plW]
  | some k =>
    have hcd : cD (some k) = .int ((k : Nat) : Int) := rfl
    rw [hcd]
    by_cases hl : w.length = 2
    · obtain ⟨a, d, rfl⟩ : ∃ a d, w = [a, d] := by
        match w, hl with
        | [a, d], _ => exact ⟨a, d, rfl⟩
      by_cases ha : a = 36
      · subst ha
        by_cases hd : d ∈ fgL
        · have hf := fg_find d hd
          unfold plW
          simp only [hd, true_and, if_true]
          obtain ⟨v, hv⟩ : ∃ v : Nat, v = d - 48 := ⟨_, rfl⟩
          rw [← hv] at hf ⊢
          by_cases hb : 1 ≤ v ∧ v ≤ k
          · rw [if_pos hb]
            show _ = CR.ok (.fz (.int ((v : Nat) : Int))) [none, none]
            have b1 : (1 : Int) ≤ ((v : Nat) : Int) := by omega
            have b2 : ((v : Nat) : Int) ≤ ((k : Nat) : Int) := by omega
            clear hv
            generalize ((v : Nat) : Int) = V at *
            generalize ((k : Nat) : Int) = K at *
            simp -implicitDefEqProofs (disch := first | omega | (simp <;> omega) | fail) [f_place_in, cD, fg_e, hd, hf, b1, b2]
          · rw [if_neg hb]
            show _ = CR.exc 0 [none, none]
            by_cases b1 : (1 : Int) ≤ ((v : Nat) : Int)
            · have b2 : ¬ ((v : Nat) : Int) ≤ ((k : Nat) : Int) := by omega
              clear hv
              generalize ((v : Nat) : Int) = V at *
              generalize ((k : Nat) : Int) = K at *
              simp -implicitDefEqProofs (disch := first | omega | (simp <;> omega) | fail) [f_place_in, cD, fg_e, hd, hf, b1, b2]
            · clear hv
              generalize ((v : Nat) : Int) = V at *
              generalize ((k : Nat) : Int) = K at *
              simp -implicitDefEqProofs (disch := first | omega | (simp <;> omega) | fail) [f_place_in, cD, fg_e, hd, hf, b1]
        · simp -implicitDefEqProofs (disch := first | omega | (simp <;> omega) | fail) [f_place_in, cD, fg_e, hd, plW]
      · simp -implicitDefEqProofs (disch := first | omega | (simp <;> omega) | fail) [f_place_in, cD, fg_e, tx1, ha, plW]
    · have e : plW (some k) w = some 0 := by
        unfold plW
        split
        · rename_i a d; simp at hl
        · rfl
      have hl2 : ¬ ((w.length : Int) = 2) := by omega
      rw [e]
      simp -implicitDefEqProofs (disch := first | omega | (simp <;> omega) | fail) [f_place_in, cD, hl2]
end TL
namespace TL
open PySem PySem.Spec L2
theorem ndDs_len (T : List Nd) : (ndDs T).length = T.length := by
  induction T with
  | nil => rfl
  | cons x T ih => simp only [ndDs, List.length_cons, ih]
theorem wrN_pos (n : Nd) : 1 ≤ (wrN n).length := by cases n <;> simp [wrN]
theorem wrL_len (T : List Nd) : T.length ≤ (wrL T).length := by
  induction T with
  | nil => exact Nat.le_refl _
  | cons x T ih => have := wrN_pos x; simp only [wrL, List.length_cons, List.length_append]; omega
theorem wrB_len (as : List (List Nd)) : as.length ≤ (wrB as).length := by
  induction as with
  | nil => exact Nat.le_refl _
  | cons x T ih => simp only [wrB, List.length_cons, List.length_append]; omega
theorem wrA_len (as : List (List Nd)) : as.length ≤ (wrA as).length + 1 := by
  cases as with
  | nil => exact Nat.zero_le _
  | cons x T => have := wrB_len T; simp only [wrA, List.length_cons, List.length_append]; omega
theorem wrA_last (as : List (List Nd)) (a : List Nd) : a.length ≤ (wrA (as ++ [a])).length := by
  have h := wrL_len a
  cases as with
  | nil => simp only [List.nil_append, wrA, List.length_append]; omega
  | cons b as =>
    rw [wrA_app (by simp)]
    simp only [wrB, List.length_append, List.length_cons]
    omega
theorem frO_1 (fs : List Fr) (nm : List Nat) (as : List (List Nd)) : (fs ++ [(nm, as)]).map frO = fs.map frO ++ [.tup [.fz (strD nm), .lst (as.map agO)]] := by
  rw [List.map_append]
  simp only [List.map_cons, List.map_nil, frO]
theorem agO_1 (as : List (List Nd)) (a : List Nd) : (as ++ [a]).map agO = as.map agO ++ [.lst (fzs (ndDs a))] := by
  rw [List.map_append]
  simp only [List.map_cons, List.map_nil, agO]
theorem ndDs_1 (T : List Nd) (n : Nd) : ndDs (T ++ [n]) = ndDs T ++ [ndD n] := by
  rw [ndDs_app]
  simp only [ndDs]
theorem put12 {T : List Nd} {fs : List Fr} {ws : List (List Nat)} (h : wrL T ++ frW fs = ws) (hl : ws.length ≤ 1000) (nd : Nd) : ∃ T' fs', wrL T' ++ frW fs' = ws ++ wrN nd ∧ fs'.length = fs.length ∧
    ∀ n, callK L.tb (n + 1) i_put_node [.io (.lst (fzs (ndDs T))), .io (.lst (fs.map frO)), .f (ndD nd)] = .ok (.fz .none) [some (.lst (fzs (ndDs T'))), some (.lst (fs'.map frO)), none] := by
  have h1 := congrArg List.length h
  rw [List.length_append] at h1
  have h2 := wrL_len T
  rcases List.eq_nil_or_concat fs with rfl | ⟨fs, fr, rfl⟩
  · refine ⟨T ++ [nd], [], ?_, rfl, ?_⟩
    · rw [← h, wrL_app]
      simp [wrL, frW]
    · intro n
      have := put_top n (ndDs T) (ndD nd) (by rw [ndDs_len]; omega)
      rw [ndDs_1, List.map_nil]
      exact this
  · rw [List.concat_eq_append] at h h1 ⊢
    obtain ⟨nm, as⟩ := fr
    rw [frW_app, frW_one, List.length_append, List.length_cons] at h1
    simp only at h1
    refine ⟨T, fs ++ [(nm, putA as nd)], ?_, by simp, ?_⟩
    · rw [← h, frW_app, frW_app, frW_one, frW_one, wrA_put]
      simp
    · rw [frO_1, frO_1]
      rcases List.eq_nil_or_concat as with rfl | ⟨as, a, rfl⟩
      · intro n
        have := put_first n (ndDs T) (fs.map frO) (strD nm) (ndD nd)
        have e : (putA [] nd).map agO = [.lst (fzs [ndD nd])] := by simp only [putA, List.getLast?_nil, List.map_cons, List.map_nil, agO, ndDs]
        rw [e, List.map_nil]
        exact this
      · rw [List.concat_eq_append] at h1 ⊢
        have h3 := wrA_last as a
        rw [putA_c, agO_1, agO_1, ndDs_1]
        intro n
        have := put_in n (ndDs T) (fs.map frO) (strD nm) (as.map agO) (ndDs a) (ndD nd) (by rw [ndDs_len]; omega)
        exact this
theorem part12 {T : List Nd} {fs : List Fr} {ws : List (List Nat)} (h : wrL T ++ frW fs = ws) (hl : ws.length ≤ 900) (hf : fs ≠ []) : ∃ fs', wrL T ++ frW fs' = ws ++ [[124]] ∧ fs'.length = fs.length ∧
    ∀ n, callK L.tb (n + 1) i_part_argument [.io (.lst (fs.map frO))] = .ok (.fz .none) [some (.lst (fs'.map frO))] := by
  have h1 := congrArg List.length h
  rw [List.length_append] at h1
  rcases List.eq_nil_or_concat fs with rfl | ⟨fs, fr, rfl⟩
  · exact absurd rfl hf
  · rw [List.concat_eq_append] at h h1 ⊢
    obtain ⟨nm, as⟩ := fr
    rw [frW_app, frW_one, List.length_append, List.length_cons] at h1
    simp only at h1
    have h3 := wrA_len as
    refine ⟨fs ++ [(nm, partA as)], ?_, by simp, ?_⟩
    · rw [← h, frW_app, frW_app, frW_one, frW_one, wrA_part]
      simp
    · rw [frO_1, frO_1]
      unfold partA
      by_cases e : as = []
      · subst e
        have e2 : ([[], []] : List (List Nd)).map agO = [.lst (fzs []), .lst (fzs [])] := by simp only [List.map_cons, List.map_nil, agO, ndDs]
        rw [if_pos rfl, e2, List.map_nil]
        exact fun n => part_first n (fs.map frO) (strD nm)
      · have e3 : ndDs [] = [] := by simp only [ndDs]
        have := fun n => part_in n (fs.map frO) (strD nm) (as.map agO) (by simpa using e) (by rw [List.length_map]; omega)
        rw [if_neg e, agO_1, e3]
        exact this
end TL
namespace TL
open PySem PySem.Spec L2
theorem dp_e : gv_DEEPEST = .int 20 := rfl
def dueS (c : Nat) : List Nat := if c = 1 then [68, 101, 101, 112] else [66, 97, 100, 67, 97, 108, 108]
theorem word12 (cnt : Option Nat) {w : List Nat} (hw : okW w) {T : List Nd} {fs : List Fr} {ws : List (List Nat)} (h : wrL T ++ frW fs = ws) (hl : ws.length ≤ 900) (hd : fs.length ≤ 20) (x0 y0 : SL) :
    (∃ T' fs', wrL T' ++ frW fs' = ws ++ [w] ∧ fs'.length ≤ 20 ∧
      (∀ n, goes (turnX (callK L.tb (n + 2)) [] (.nm 4) lb_tree_of_1 (strD w) [some x0, some (.own (.fz (cD cnt))), some (.own (.lst (fzs (ndDs T)))), some (.own (.lst (fs.map frO))), none, none, none, none])
        [some x0, some (.own (.fz (cD cnt))), some (.own (.lst (fzs (ndDs T')))), some (.own (.lst (fs'.map frO))), none, none, none, none]) ∧
      (∀ n, goes (turnX (callK L.tb (n + 2)) [] (.nm 3) lb__law_due_1 (strD w) [some y0, some (.own (.fz (cD cnt))), some (.own (.fz (.int ((fs.length : Nat) : Int)))), none])
        [some y0, some (.own (.fz (cD cnt))), some (.own (.fz (.int ((fs'.length : Nat) : Int)))), none])) ∨
    ∃ c, c < 2 ∧ (∀ n, turnX (callK L.tb (n + 2)) [] (.nm 4) lb_tree_of_1 (strD w) [some x0, some (.own (.fz (cD cnt))), some (.own (.lst (fzs (ndDs T)))), some (.own (.lst (fs.map frO))), none, none, none, none] = .exc c [some x0, some (.own (.fz (cD cnt))), some (.own (.lst (fzs (ndDs T)))), some (.own (.lst (fs.map frO))), none, none, none, none]) ∧
      (∀ n, turnX (callK L.tb (n + 2)) [] (.nm 3) lb__law_due_1 (strD w) [some y0, some (.own (.fz (cD cnt))), some (.own (.fz (.int ((fs.length : Nat) : Int)))), none] = .ok (.ret (.fz (strD (dueS c)))) [some y0, some (.own (.fz (cD cnt))), some (.own (.fz (.int ((fs.length : Nat) : Int)))), none]) := by
  have ho := fun n => r_opens n hw
  have hlo := fun n => r__law_opens n hw
  have hfl : (((fs.map frO).length : Nat) : Int) = ((fs.length : Nat) : Int) := by rw [List.length_map]
  cases eo : opW w with
  | true =>
    rw [eo] at ho hlo
    obtain ⟨nm, rfl⟩ : ∃ nm, w = 91 :: nm := by
      cases w with
      | nil => cases eo
      | cons c r =>
        unfold opW at eo
        simp only [Bool.and_eq_true, decide_eq_true_eq] at eo
        exact ⟨r, by rw [eo.1]⟩
    by_cases h20 : fs.length = 20
    · right
      have hI : ((fs.length : Nat) : Int) = 20 := by omega
      rw [hI] at hfl ⊢
      have hwl := hw.2.1
      clear h hl
      generalize fs.map frO = FR at *
      generalize ndDs T = TD at *
      refine ⟨1, by decide, ?_, ?_⟩
      · intro n
        simp only [turnX_d, lb_tree_of_1]
        simp -implicitDefEqProofs (disch := first | omega | (simp <;> omega) | fail) [ho, hfl, dp_e]
      · intro n
        simp only [turnX_d, lb__law_due_1, dueS]
        simp -implicitDefEqProofs (disch := first | omega | (simp <;> omega) | fail) [hlo]
    · left
      have hI : ¬ ((fs.length : Nat) : Int) = 20 := by omega
      have hap := appF_o (os := fs.map frO) (x := .tup [.fz (strD nm), .lst (fzs [])]) (by rw [List.length_map]; omega)
      refine ⟨T, fs ++ [(nm, [])], ?_, by simp; omega, ?_, ?_⟩
      · rw [← h, frW_app, frW_one]
        simp [wrA]
      · have e : (fs ++ [(nm, [])]).map frO = fs.map frO ++ [.tup [.fz (strD nm), .lst (fzs [])]] := by rw [frO_1, List.map_nil]; rfl
        have hwl := hw.2.1
        rw [e]
        simp only [List.length_cons] at hwl
        clear h hl e
        generalize fs.map frO = FR at *
        generalize ndDs T = TD at *
        intro n
        simp only [turnX_d, lb_tree_of_1]
        simp -implicitDefEqProofs (disch := first | omega | (simp <;> omega) | fail) [ho, hfl, dp_e, hI, hap]
      · have e : (((fs ++ [(nm, [])]).length : Nat) : Int) = ((fs.length : Nat) : Int) + 1 := by simp
        rw [e]
        generalize ((fs.length : Nat) : Int) = F at *
        intro n
        simp only [turnX_d, lb__law_due_1]
        simp -implicitDefEqProofs (disch := first | omega | (simp <;> omega) | fail) [hlo, hI]
  | false =>
    rw [eo] at ho hlo
    have hwne := hw.1
    by_cases hb : fs ≠ [] ∧ w = [124]
    · left
      obtain ⟨hb1, rfl⟩ := hb
      obtain ⟨fs', p1, p2, p3⟩ := part12 h hl hb1
      refine ⟨T, fs', p1, by omega, ?_, ?_⟩
      · have hpos : (0 : Int) < ((fs.length : Nat) : Int) := by
          cases fs with
          | nil => exact absurd rfl hb1
          | cons a l => simp only [List.length_cons]; omega
        clear h hl
        generalize fs.map frO = FR at *
        generalize fs'.map frO = FR2 at *
        generalize ndDs T = TD at *
        generalize ((fs.length : Nat) : Int) = F at *
        intro n
        simp only [turnX_d, lb_tree_of_1]
        simp -implicitDefEqProofs (disch := first | omega | (simp <;> omega) | fail) [ho, hfl, hpos, p3]
      · rw [p2]
        generalize ((fs.length : Nat) : Int) = F at *
        intro n
        simp only [turnX_d, lb__law_due_1]
        cases cnt with
        | none => simp -implicitDefEqProofs (disch := first | omega | (simp <;> omega) | fail) [hlo, cD]
        | some k =>
          have hcd : cD (some k) = .int ((k : Nat) : Int) := rfl
          rw [hcd]
          generalize ((k : Nat) : Int) = K at *
          simp -implicitDefEqProofs (disch := first | omega | (simp <;> omega) | fail) [hlo]
    · by_cases hc : fs ≠ [] ∧ w = [93]
      · left
        obtain ⟨hc1, rfl⟩ := hc
        rcases List.eq_nil_or_concat fs with rfl | ⟨fs, fr, rfl⟩
        · exact absurd rfl hc1
        · rw [List.concat_eq_append] at *
          obtain ⟨nm, as⟩ := fr
          -- the call taken out, put as a node
          have hlen := congrArg List.length h
          rw [frW_app, frW_one, List.length_append, List.length_append] at hlen
          obtain ⟨T', fs', q1, q2, q3⟩ := put12 (T := T) (fs := fs) (ws := wrL T ++ frW fs) rfl (by rw [List.length_append]; omega) (.c nm as)
          refine ⟨T', fs', ?_, by rw [List.length_append] at hd; omega, ?_, ?_⟩
          · rw [q1, ← h, frW_app, frW_one]
            simp [wrN]
          · have hpos : (0 : Int) < (((fs ++ [(nm, as)]).length : Nat) : Int) := by rw [List.length_append, List.length_singleton]; omega
            have e1 := frO_1 fs nm as
            have hnd : ndD (.c nm as) = .tuple [strD cCall, strD nm, .list (ndDss as)] := by simp only [ndD]
            rw [hnd] at q3
            have ht := toD_ag as
            have hn := noI_ag as
            have hcl : strD cCall = .str (tx [99, 97, 108, 108]) := rfl
            rw [hcl] at q3
            rw [e1] at hfl ⊢
            clear h hl q1 hlen hnd e1
            generalize as.map agO = AS at *
            generalize fs.map frO = FR at *
            generalize fs'.map frO = FR2 at *
            generalize ndDss as = ASD at *
            generalize ndDs T' = TD2 at *
            generalize ndDs T = TD at *
            generalize (((fs ++ [(nm, as)]).length : Nat) : Int) = F at *
            intro n
            simp only [turnX_d, lb_tree_of_1]
            simp -implicitDefEqProofs (disch := first | omega | (simp <;> omega) | fail) [ho, hfl, hpos, ht, hn, q3]
          · have e : (((fs ++ [(nm, as)]).length : Nat) : Int) - 1 = ((fs'.length : Nat) : Int) := by rw [List.length_append, List.length_singleton]; omega
            have hpos : (0 : Int) < (((fs ++ [(nm, as)]).length : Nat) : Int) := by rw [List.length_append, List.length_singleton]; omega
            generalize (((fs ++ [(nm, as)]).length : Nat) : Int) = F at *
            generalize ((fs'.length : Nat) : Int) = F2 at *
            intro n
            simp only [turnX_d, lb__law_due_1]
            simp -implicitDefEqProofs (disch := first | omega | (simp <;> omega) | fail) [hlo, hpos, e]
      · -- a place, or a word as it stands
        have hpl := fun n => r_place_in (n + 1) cnt hw
        have hbar : (0 : Int) < ((fs.length : Nat) : Int) → ¬ w = [124] ∧ ¬ w = [93] := fun z => by
          have hf : fs ≠ [] := fun e => by rw [e] at z; exact absurd z (by simp)
          exact ⟨fun e => hb ⟨hf, e⟩, fun e => hc ⟨hf, e⟩⟩
        by_cases hp : ∃ k d, cnt = some k ∧ w = [36, d] ∧ d ∈ fgL
        · obtain ⟨k, d, rfl, rfl, hdf⟩ := hp
          have hcd : cD (some k) = .int ((k : Nat) : Int) := rfl
          rw [hcd] at hpl ⊢
          have hf := fg_find d hdf
          have hd48 : 48 ≤ d := by
            have : ∀ d ∈ fgL, 48 ≤ d := by decide
            exact this d hdf
          have hpv : plW (some k) [36, d] = if 1 ≤ d - 48 ∧ d - 48 ≤ k then some (d - 48) else none := by
            unfold plW
            simp only [hdf, true_and, if_true]
          rw [hpv] at hpl
          obtain ⟨v, hv⟩ : ∃ v : Nat, v = d - 48 := ⟨_, rfl⟩
          rw [← hv] at hf hpl
          have hne1 : ¬ tx [36, d] = tx [124] := fun e => by have := (tx_inj _ _).mp e; simp at this
          have hne2 : ¬ tx [36, d] = tx [93] := fun e => by have := (tx_inj _ _).mp e; simp at this
          have hfc : fgL = [48, 49, 50, 51, 52, 53, 54, 55, 56, 57] := rfl
          by_cases hvk : 1 ≤ v ∧ v ≤ k
          · left
            rw [if_pos hvk] at hpl
            simp only at hpl
            have hv9 : v < 10 := by
              have : ∀ d ∈ fgL, d ≤ 57 := by decide
              have := this d hdf
              omega
            obtain ⟨T', fs', q1, q2, q3⟩ := put12 h (by omega) (.p ⟨v, hv9⟩)
            have hnd : ndD (.p ⟨v, hv9⟩) = .tuple [strD cPlace, .int ((v : Nat) : Int)] := by simp only [ndD]
            have hcl : strD cPlace = .str (tx [112, 108, 97, 99, 101]) := rfl
            rw [hnd, hcl] at q3
            refine ⟨T', fs', ?_, by omega, ?_, ?_⟩
            · rw [q1]
              simp only [wrN]
              rw [show 48 + v = d by omega]
            · have b0 : (0 : Int) < ((v : Nat) : Int) := by omega
              clear h hl q1 hvk hnd hv hbar hv9
              generalize fs.map frO = FR at *
              generalize fs'.map frO = FR2 at *
              generalize ndDs T' = TD2 at *
              generalize ndDs T = TD at *
              generalize ((fs.length : Nat) : Int) = F at *
              generalize ((v : Nat) : Int) = V at *
              generalize ((k : Nat) : Int) = K at *
              intro n
              simp only [turnX_d, lb_tree_of_1]
              by_cases hF : 0 < F
              · simp -implicitDefEqProofs (disch := first | omega | (simp <;> omega) | fail) [ho, hfl, hF, hne1, hne2, hpl, b0, q3]
              · simp -implicitDefEqProofs (disch := first | omega | (simp <;> omega) | fail) [ho, hfl, hF, hpl, b0, q3]
            · rw [q2]
              have b1 : (1 : Int) ≤ ((v : Nat) : Int) := by omega
              have b2 : ((v : Nat) : Int) ≤ ((k : Nat) : Int) := by omega
              clear hv hvk
              generalize ((fs.length : Nat) : Int) = F at *
              generalize ((v : Nat) : Int) = V at *
              generalize ((k : Nat) : Int) = K at *
              intro n
              simp only [turnX_d, lb__law_due_1, fgL_e]
              by_cases hF : 0 < F
              · simp -implicitDefEqProofs (disch := first | omega | (simp <;> omega) | fail) [hlo, hF, hne2, hdf, hf, b1, b2]
              · simp -implicitDefEqProofs (disch := first | omega | (simp <;> omega) | fail) [hlo, hF, hdf, hf, b1, b2]
          · right
            rw [if_neg hvk] at hpl
            simp only at hpl
            refine ⟨0, by decide, ?_, ?_⟩
            · clear h hl hv hbar
              generalize fs.map frO = FR at *
              generalize ndDs T = TD at *
              generalize ((fs.length : Nat) : Int) = F at *
              generalize ((k : Nat) : Int) = K at *
              intro n
              simp only [turnX_d, lb_tree_of_1]
              by_cases hF : 0 < F
              · simp -implicitDefEqProofs (disch := first | omega | (simp <;> omega) | fail) [ho, hfl, hF, hne1, hne2, hpl]
              · simp -implicitDefEqProofs (disch := first | omega | (simp <;> omega) | fail) [ho, hfl, hF, hpl]
            · have hbb : ((1 : Int) ≤ ((v : Nat) : Int) ∧ ¬ ((v : Nat) : Int) ≤ ((k : Nat) : Int)) ∨ ¬ (1 : Int) ≤ ((v : Nat) : Int) := by omega
              clear hv hvk
              generalize ((fs.length : Nat) : Int) = F at *
              generalize ((v : Nat) : Int) = V at *
              generalize ((k : Nat) : Int) = K at *
              intro n
              simp only [turnX_d, lb__law_due_1, fgL_e, dueS]
              rcases hbb with ⟨b1, b2⟩ | b1
              · by_cases hF : 0 < F
                · simp -implicitDefEqProofs (disch := first | omega | (simp <;> omega) | fail) [hlo, hF, hne2, hdf, hf, b1, b2]
                · simp -implicitDefEqProofs (disch := first | omega | (simp <;> omega) | fail) [hlo, hF, hdf, hf, b1, b2]
              · by_cases hF : 0 < F
                · simp -implicitDefEqProofs (disch := first | omega | (simp <;> omega) | fail) [hlo, hF, hne2, hdf, hf, b1]
                · simp -implicitDefEqProofs (disch := first | omega | (simp <;> omega) | fail) [hlo, hF, hdf, hf, b1]
        · left
          have hpv : plW cnt w = some 0 := by
            unfold plW
            split
            · rename_i k a d
              rw [if_neg fun z => hp ⟨k, d, rfl, by rw [z.1], z.2⟩]
            · rfl
          rw [hpv] at hpl
          simp only at hpl
          obtain ⟨T', fs', q1, q2, q3⟩ := put12 h (by omega) (.w w)
          have hnd : ndD (.w w) = .tuple [strD cWord, strD w] := by simp only [ndD]
          have hcl : strD cWord = .str (tx [119, 111, 114, 100]) := rfl
          rw [hnd, hcl] at q3
          refine ⟨T', fs', ?_, by omega, ?_, ?_⟩
          · rw [q1]
            simp only [wrN]
          · clear h hl q1 hnd hp hpv
            generalize fs.map frO = FR at *
            generalize fs'.map frO = FR2 at *
            generalize ndDs T' = TD2 at *
            generalize ndDs T = TD at *
            generalize cD cnt = CD at *
            generalize ((fs.length : Nat) : Int) = F at *
            intro n
            simp only [turnX_d, lb_tree_of_1]
            by_cases hF : 0 < F
            · obtain ⟨m1, m2⟩ := hbar hF
              simp -implicitDefEqProofs (disch := first | omega | (simp <;> omega) | fail) [ho, hfl, hF, m1, m2, hpl, q3]
            · simp -implicitDefEqProofs (disch := first | omega | (simp <;> omega) | fail) [ho, hfl, hF, hpl, q3]
          · rw [q2]
            have hwl := hw.2.1
            clear h hl q1 q2 q3 hnd hpl hpv
            generalize ((fs.length : Nat) : Int) = F at *
            intro n
            simp only [turnX_d, lb__law_due_1, fgL_e]
            cases cnt with
            | none =>
              by_cases hF : 0 < F
              · obtain ⟨m1, m2⟩ := hbar hF
                simp -implicitDefEqProofs (disch := first | omega | (simp <;> omega) | fail) [hlo, hF, m2, cD]
              · simp -implicitDefEqProofs (disch := first | omega | (simp <;> omega) | fail) [hlo, hF, cD]
            | some k =>
              have hcd : cD (some k) = .int ((k : Nat) : Int) := rfl
              rw [hcd]
              by_cases h2 : w.length = 2
              · obtain ⟨a, d, rfl⟩ : ∃ a d, w = [a, d] := by
                  match w, h2 with
                  | [a, d], _ => exact ⟨a, d, rfl⟩
                generalize ((k : Nat) : Int) = K at *
                by_cases ha : a = 36
                · subst ha
                  have hdf : d ∉ fgL := fun z => hp ⟨k, d, rfl, rfl, z⟩
                  by_cases hF : 0 < F
                  · obtain ⟨m1, m2⟩ := hbar hF
                    simp -implicitDefEqProofs (disch := first | omega | (simp <;> omega) | fail) [hlo, hF, m2, hdf]
                  · simp -implicitDefEqProofs (disch := first | omega | (simp <;> omega) | fail) [hlo, hF, hdf]
                · by_cases hF : 0 < F
                  · obtain ⟨m1, m2⟩ := hbar hF
                    simp -implicitDefEqProofs (disch := first | omega | (simp <;> omega) | fail) [hlo, hF, m2, tx1, ha]
                  · simp -implicitDefEqProofs (disch := first | omega | (simp <;> omega) | fail) [hlo, hF, tx1, ha]
              · have hl2 : ¬ ((w.length : Int) = 2) := by omega
                generalize ((k : Nat) : Int) = K at *
                by_cases hF : 0 < F
                · obtain ⟨m1, m2⟩ := hbar hF
                  simp -implicitDefEqProofs (disch := first | omega | (simp <;> omega) | fail) [hlo, hF, m2, hl2]
                · simp -implicitDefEqProofs (disch := first | omega | (simp <;> omega) | fail) [hlo, hF, hl2]
end TL
namespace TL
open PySem PySem.Spec L2
theorem loop12 (cnt : Option Nat) (x0 y0 : SL) : ∀ (rs : List (List Nat)) (T : List Nd) (fs : List Fr) (ws : List (List Nat)), (∀ w ∈ rs, okW w) → wrL T ++ frW fs = ws → ws.length + rs.length ≤ 900 → fs.length ≤ 20 →
    (∃ T' fs', wrL T' ++ frW fs' = ws ++ rs ∧
      (∀ n, forGo (turnX (callK L.tb (n + 2)) [] (.nm 4) lb_tree_of_1) (rs.map strD) [some x0, some (.own (.fz (cD cnt))), some (.own (.lst (fzs (ndDs T)))), some (.own (.lst (fs.map frO))), none, none, none, none]
        = .ok .nx [some x0, some (.own (.fz (cD cnt))), some (.own (.lst (fzs (ndDs T')))), some (.own (.lst (fs'.map frO))), none, none, none, none]) ∧
      (∀ n, forGo (turnX (callK L.tb (n + 2)) [] (.nm 3) lb__law_due_1) (rs.map strD) [some y0, some (.own (.fz (cD cnt))), some (.own (.fz (.int ((fs.length : Nat) : Int)))), none]
        = .ok .nx [some y0, some (.own (.fz (cD cnt))), some (.own (.fz (.int ((fs'.length : Nat) : Int)))), none])) ∨
    ∃ c T' fs', c < 2 ∧ (∀ n, forGo (turnX (callK L.tb (n + 2)) [] (.nm 4) lb_tree_of_1) (rs.map strD) [some x0, some (.own (.fz (cD cnt))), some (.own (.lst (fzs (ndDs T)))), some (.own (.lst (fs.map frO))), none, none, none, none]
        = .exc c [some x0, some (.own (.fz (cD cnt))), some (.own (.lst (fzs (ndDs T')))), some (.own (.lst (List.map frO fs'))), none, none, none, none]) ∧
      (∀ n, forGo (turnX (callK L.tb (n + 2)) [] (.nm 3) lb__law_due_1) (rs.map strD) [some y0, some (.own (.fz (cD cnt))), some (.own (.fz (.int ((fs.length : Nat) : Int)))), none]
        = .ok (.ret (.fz (strD (dueS c)))) [some y0, some (.own (.fz (cD cnt))), some (.own (.fz (.int ((List.length fs' : Nat) : Int)))), none])
  | [], T, fs, ws, _, h, _, _ => .inl ⟨T, fs, by rw [h, List.append_nil], fun _ => rfl, fun _ => rfl⟩
  | w :: rs, T, fs, ws, hr, h, hl, hd => by
    simp only [List.length_cons] at hl
    rcases word12 cnt (hr w (by simp)) h (by omega) hd x0 y0 with ⟨T1, fs1, a1, a2, a3, a4⟩ | ⟨c, a1, a2, a3⟩
    · rcases loop12 cnt x0 y0 rs T1 fs1 (ws ++ [w]) (fun x hx => hr x (by simp [hx])) a1 (by simp; omega) a2 with ⟨T2, fs2, b1, b2, b3⟩ | ⟨c, T2, fs2, b1, b2, b3⟩
      · refine .inl ⟨T2, fs2, ?_, ?_, ?_⟩
        · rw [b1]; simp
        · intro n; rw [List.map_cons, forGo_goes (a3 n), b2]
        · intro n; rw [List.map_cons, forGo_goes (a4 n), b3]
      · refine .inr ⟨c, T2, fs2, b1, ?_, ?_⟩
        · intro n; rw [List.map_cons, forGo_goes (a3 n), b2]
        · intro n; rw [List.map_cons, forGo_goes (a4 n), b3]
    · refine .inr ⟨c, T, fs, a1, ?_, ?_⟩
      · intro n
        rw [List.map_cons]
        simp only [forGo, a2]
      · intro n
        rw [List.map_cons]
        simp only [forGo, a3]
theorem both12 (cnt : Option Nat) (ws : List (List Nat)) (hw : ∀ w ∈ ws, okW w) (hl : ws.length ≤ 800) :
    (∃ T, wrL T = ws ∧ (∀ n, callK L.tb (n + 3) i_tree_of [.f (.list (ws.map strD)), .f (cD cnt)] = .ok (.lst (fzs (ndDs T))) [none, none]) ∧
      (∀ n, callK L.tb (n + 3) i__law_due [.f (.list (ws.map strD)), .f (cD cnt)] = .ok (.fz (strD [])) [none, none])) ∨
    ∃ c, c < 2 ∧ (∀ n, callK L.tb (n + 3) i_tree_of [.f (.list (ws.map strD)), .f (cD cnt)] = .exc c [none, none]) ∧
      (∀ n, callK L.tb (n + 3) i__law_due [.f (.list (ws.map strD)), .f (cD cnt)] = .ok (.fz (strD (dueS c))) [none, none]) := by
  have e1 := fun n => c_tree_of (n + 2) (.list (ws.map strD)) (cD cnt)
  have e2 := fun n => c__law_due (n + 2) (.list (ws.map strD)) (cD cnt)
  have h0 : wrL [] ++ frW [] = [] := by simp [wrL, frW]
  have hnd : ndDs [] = [] := by simp only [ndDs]
  rcases loop12 cnt (.own (.fz (.list (ws.map strD)))) (.own (.fz (.list (ws.map strD)))) ws [] [] [] hw h0 (by simp; omega) (by simp) with ⟨T, fs, a1, a2, a3⟩ | ⟨c, T, fs, a1, a2, a3⟩
  · rw [hnd] at a2
    simp only [List.map_nil, List.length_nil, List.nil_append] at a1 a2 a3
    rw [show (O.lst [] : O) = .lst (fzs []) from rfl] at a2
    rw [show (((0 : Nat) : Nat) : Int) = 0 from rfl] at a3
    by_cases hf : fs = []
    · left
      subst hf
      simp only [List.map_nil, List.length_nil] at a2 a3
      rw [show (O.lst [] : O) = .lst (fzs []) from rfl] at a2
      rw [show (((0 : Nat) : Nat) : Int) = 0 from rfl] at a3
      refine ⟨T, by rw [← a1]; simp [frW], ?_, ?_⟩
      · intro n
        rw [e1]
        generalize ws.map strD = WD at *
        generalize ndDs T = TD at *
        generalize cD cnt = CD at *
        simp -implicitDefEqProofs (disch := first | omega | (simp <;> omega) | fail) [f_tree_of, a2]
      · intro n
        rw [e2]
        generalize ws.map strD = WD at *
        generalize cD cnt = CD at *
        simp -implicitDefEqProofs (disch := first | omega | (simp <;> omega) | fail) [f__law_due, a3]
    · right
      have hp : (0 : Int) < ((fs.length : Nat) : Int) := by
        cases fs with
        | nil => exact absurd rfl hf
        | cons a l => simp only [List.length_cons]; omega
      have hp2 : (((fs.map frO).length : Nat) : Int) = ((fs.length : Nat) : Int) := by rw [List.length_map]
      refine ⟨0, by decide, ?_, ?_⟩
      · intro n
        rw [e1]
        generalize ws.map strD = WD at *
        generalize ndDs T = TD at *
        generalize cD cnt = CD at *
        generalize fs.map frO = FR at *
        generalize ((fs.length : Nat) : Int) = F at *
        simp -implicitDefEqProofs (disch := first | omega | (simp <;> omega) | fail) [f_tree_of, a2, hp2, hp]
      · intro n
        rw [e2]
        generalize ws.map strD = WD at *
        generalize cD cnt = CD at *
        generalize ((fs.length : Nat) : Int) = F at *
        simp only [dueS]
        simp -implicitDefEqProofs (disch := first | omega | (simp <;> omega) | fail) [f__law_due, a3, hp]
  · rw [hnd] at a2
    simp only [List.map_nil, List.length_nil] at a2 a3
    rw [show (O.lst [] : O) = .lst (fzs []) from rfl] at a2
    rw [show (((0 : Nat) : Nat) : Int) = 0 from rfl] at a3
    refine .inr ⟨c, a1, ?_, ?_⟩
    · intro n
      rw [e1]
      generalize ws.map strD = WD at *
      generalize ndDs T = TD at *
      generalize cD cnt = CD at *
      generalize fs.map frO = FR at *
      simp -implicitDefEqProofs (disch := first | omega | (simp <;> omega) | fail) [f_tree_of, a2]
    · intro n
      rw [e2]
      generalize ws.map strD = WD at *
      generalize cD cnt = CD at *
      generalize ((fs.length : Nat) : Int) = F at *
      generalize dueS c = S at *
      simp -implicitDefEqProofs (disch := first | omega | (simp <;> omega) | fail) [f__law_due, a3]
end TL
namespace TL
open PySem PySem.Spec L2
theorem ndDss_map (as : List (List Nd)) : ndDss as = as.map fun a => .list (ndDs a) := by
  induction as with
  | nil => rfl
  | cons a as ih => simp only [ndDss, List.map_cons, ih]
theorem ndDs_map (T : List Nd) : ndDs T = T.map ndD := by
  induction T with
  | nil => rfl
  | cons a as ih => simp only [ndDs, List.map_cons, ih]
theorem numS_fin (k : Fin 10) : numS ((k.val : Nat) : Int) = [48 + k.val] := by
  unfold numS
  rw [Int.toNat_natCast, numL_lt k.isLt]
theorem wr_args (m : Nat) (x0 x2 : Option SL) : ∀ (as : List (List Nd)) (k : Nat) (acc : List (List Nat)), (∀ a ∈ as, callK L.tb m i_written [.f (.list (ndDs a))] = .ok (.lst (fzs ((wrL a).map strD))) [none]) → acc.length + (wrB as).length ≤ 2000 →
    forGo (turnX (callK L.tb m) [] (.tp [.nm 3, .nm 4]) lb_written_1) ((as.zipIdx k).map fun p => .tuple [.int ((p.2 : Nat) : Int), .list (ndDs p.1)]) [x0, some (.own (.lst (fzs (acc.map strD)))), x2, none, none]
      = .ok .nx [x0, some (.own (.lst (fzs ((acc ++ if k = 0 then wrA as else wrB as).map strD)))), x2, none, none]
  | [], k, acc, _, _ => by
    have : (if k = 0 then wrA [] else wrB []) = [] := by split <;> simp only [wrA, wrB]
    rw [this, List.append_nil]
    rfl
  | a :: as, k, acc, ih, hl => by
    simp only [wrB, List.length_cons, List.length_append] at hl
    have ha := ih a (by simp)
    rw [List.zipIdx_cons, List.map_cons]
    have hg : goes (turnX (callK L.tb m) [] (.tp [.nm 3, .nm 4]) lb_written_1 (.tuple [.int ((k : Nat) : Int), .list (ndDs a)]) [x0, some (.own (.lst (fzs (acc.map strD)))), x2, none, none])
        [x0, some (.own (.lst (fzs ((acc ++ if k = 0 then wrL a else [124] :: wrL a).map strD)))), x2, none, none] := by
      have hal : (acc.map strD).length ≤ 2000 := by rw [List.length_map]; omega
      have hwl : ((wrL a).map strD).length ≤ 2000 := by rw [List.length_map]; omega
      simp only [turnX_d, lb_written_1]
      by_cases hk : k = 0
      · subst hk
        rw [if_pos rfl, List.map_append]
        generalize (wrL a).map strD = WD at *
        generalize acc.map strD = AD at *
        generalize ndDs a = ND at *
        simp -implicitDefEqProofs (disch := first | omega | (simp <;> omega) | fail) [ha]
      · have hk2 : (0 : Int) < ((k : Nat) : Int) := by omega
        rw [if_neg hk, List.map_append, List.map_cons]
        generalize (wrL a).map strD = WD at *
        generalize acc.map strD = AD at *
        generalize ndDs a = ND at *
        generalize ((k : Nat) : Int) = K at *
        simp -implicitDefEqProofs (disch := first | omega | (simp <;> omega) | fail) [ha, hk2]
    rw [forGo_goes hg]
    have := wr_args m x0 x2 as (k + 1) (acc ++ if k = 0 then wrL a else [124] :: wrL a) (fun b hb => ih b (by simp [hb])) (by
      have : (if k = 0 then wrL a else [124] :: wrL a).length ≤ (wrL a).length + 1 := by
        split
        · omega
        · simp only [List.length_cons]; omega
      rw [List.length_append]
      omega)
    have e2 : ((acc ++ if k = 0 then wrL a else [124] :: wrL a) ++ if k + 1 = 0 then wrA as else wrB as) = (acc ++ if k = 0 then wrA (a :: as) else wrB (a :: as)) := by
      rw [if_neg (by omega : ¬ k + 1 = 0)]
      by_cases hk : k = 0
      · simp only [hk, if_true, wrA, List.append_assoc]
      · simp only [hk, if_false, wrB, List.append_assoc, List.cons_append]
    rw [this, e2]
theorem wrB_wrA (as : List (List Nd)) : (wrB as).length ≤ (wrA as).length + 1 := by
  cases as with
  | nil => exact Nat.zero_le _
  | cons a as => simp only [wrA, wrB, List.length_cons]; omega
theorem wrA_in {as : List (List Nd)} {a : List Nd} (h : a ∈ as) : (wrL a).length ≤ (wrA as).length := by
  have hB : ∀ as : List (List Nd), a ∈ as → (wrL a).length + 1 ≤ (wrB as).length := by
    intro as h
    induction as with
    | nil => cases h
    | cons b as ih =>
      simp only [wrB, List.length_cons, List.length_append]
      rcases List.mem_cons.mp h with rfl | h
      · omega
      · have := ih h; omega
  cases as with
  | nil => cases h
  | cons b as =>
    simp only [wrA, List.length_append]
    rcases List.mem_cons.mp h with rfl | h
    · omega
    · have := hB as h; omega
theorem wrA_mem {as : List (List Nd)} {a : List Nd} (h : a ∈ as) {w : List Nat} (hw : w ∈ wrL a) : w ∈ wrA as := by
  have hB : ∀ as : List (List Nd), a ∈ as → w ∈ wrB as := by
    intro as h
    induction as with
    | nil => cases h
    | cons b as ih =>
      simp only [wrB, List.mem_cons, List.mem_append]
      rcases List.mem_cons.mp h with rfl | h
      · exact .inr (.inl hw)
      · exact .inr (.inr (ih h))
  cases as with
  | nil => cases h
  | cons b as =>
    simp only [wrA, List.mem_append]
    rcases List.mem_cons.mp h with rfl | h
    · exact .inl hw
    · exact .inr (hB as h)
theorem r_written : ∀ (d n : Nat) (T : List Nd), (wrL T).length ≤ d → d ≤ 400 → (∀ w ∈ wrL T, w.length ≤ 1000) → callK L.tb (n + d + 1) i_written [.f (.list (ndDs T))] = .ok (.lst (fzs ((wrL T).map strD))) [none] := by
  intro d
  induction d with
  | zero =>
    intro n T h _ _
    cases T with
    | nil => rw [c_written, ndDs_map]; simp -implicitDefEqProofs (disch := first | omega | (simp <;> omega) | fail) [f_written, wrL]
    | cons x T => have := wrN_pos x; simp only [wrL, List.length_append] at h; omega
  | succ d ih =>
    intro n T h hd hln
    have e := c_written (n + d + 1) (.list (ndDs T))
    rw [show n + (d + 1) + 1 = n + d + 1 + 1 by omega, e]
    have hloop := forGo_pre (f := turnX (callK L.tb (n + d + 1)) [] (.nm 2) lb_written_2) (fun pre : List Nd => [some (.own (.fz (.list (ndDs T)))), some (.own (.lst (fzs ((wrL pre).map strD)))), none, none, none]) ndD T fun pre x r hx => by
      rw [hx, wrL_app] at h hln
      simp only [wrL, List.length_append] at h
      rw [wrL_app]
      have hwx : wrL [x] = wrN x := by simp only [wrL, List.append_nil]
      rw [hwx]
      have hal : ((wrL pre).map strD).length ≤ 2000 := by rw [List.length_map]; omega
      generalize hT : some (SL.own (.fz (.list (ndDs T)))) = x0
      clear hT e
      have hpl : (wrL pre).length ≤ 400 := by omega
      cases x with
      | w t =>
        have hn : ndD (.w t) = .tuple [strD cWord, strD t] := by simp only [ndD]
        have hw : wrN (.w t) = [t] := by simp only [wrN]
        rw [hn, hw, List.map_append]
        have hcl : strD cWord = .str (tx [119, 111, 114, 100]) := rfl
        rw [hcl]
        generalize (wrL pre).map strD = AD at *
        simp only [turnX_d, lb_written_2]
        simp -implicitDefEqProofs (disch := first | omega | (simp <;> omega) | fail)
      | p k =>
        have hn : ndD (.p k) = .tuple [strD cPlace, .int ((k.val : Nat) : Int)] := by simp only [ndD]
        have hw : wrN (.p k) = [[36, 48 + k.val]] := by simp only [wrN]
        rw [hn, hw, List.map_append]
        have hcl : strD cPlace = .str (tx [112, 108, 97, 99, 101]) := rfl
        have hs := numS_fin k
        have hk0 : (0 : Int) ≤ ((k.val : Nat) : Int) := by omega
        have hk9 : ((k.val : Nat) : Int) < 10 := by omega
        rw [hcl]
        generalize (wrL pre).map strD = AD at *
        generalize ((k.val : Nat) : Int) = K at *
        simp only [turnX_d, lb_written_2]
        simp -implicitDefEqProofs (disch := first | omega | (simp <;> omega) | fail) [hs]
      | c nm as =>
        have hn : ndD (.c nm as) = .tuple [strD cCall, strD nm, .list (as.map fun a => .list (ndDs a))] := by simp only [ndD, ndDss_map]
        have hw : wrN (.c nm as) = (91 :: nm) :: (wrA as ++ [[93]]) := by simp only [wrN]
        rw [hw] at h ⊢
        simp only [List.length_cons, List.length_append] at h
        rw [hn]
        have hcl : strD cCall = .str (tx [99, 97, 108, 108]) := rfl
        have hB := wrB_wrA as
        have hnm := hln (91 :: nm) (by simp [wrL, wrN])
        simp only [List.length_cons] at hnm
        have hA := wrA_len as
        have ha := wr_args (n + d + 1) x0 (some (.own (.fz (.tuple [strD cCall, strD nm, .list (as.map fun a => .list (ndDs a))])))) as 0 (wrL pre ++ [91 :: nm]) (fun a ha => ih n a (by have := wrA_in ha; omega) (by omega) (fun w hw => hln w (by simp only [wrL, wrN, List.mem_append, List.mem_cons]; exact .inr (.inl (.inr (.inl (wrA_mem ha hw))))))) (by simp; omega)
        rw [if_pos rfl, List.append_assoc, List.map_append, List.map_append, List.map_cons] at ha
        simp only [List.singleton_append, List.map_append, List.map_cons, List.map_nil] at ha
        have hal3 : (wrA as).map strD = (wrA as).map strD := rfl
        have hwl : ((wrA as).map strD).length ≤ 2000 := by rw [List.length_map]; omega
        simp only [List.map_append, List.map_cons, List.map_nil]
        rw [hcl] at ha ⊢
        have hs1 : strD nm = .str (tx nm) := rfl
        have hs2 : strD (91 :: nm) = .str (tx (91 :: nm)) := rfl
        have hs3 : strD [93] = .str (tx [93]) := rfl
        rw [hs1] at ha ⊢
        rw [hs2] at ha ⊢
        rw [hs3]
        clear hs1 hs2 hs3 hln h hw hn hB hA ih hx hpl hal3
        generalize (wrL pre).map strD = AD at *
        generalize (wrA as).map strD = WD at *
        simp only [turnX_d, lb_written_2]
        simp -implicitDefEqProofs (disch := first | omega | (simp <;> omega) | fail) [ha]
    have hnil : wrL [] = [] := by simp only [wrL]
    simp only [hnil, List.map_nil] at hloop
    rw [← ndDs_map] at hloop
    generalize (wrL T).map strD = WD at *
    generalize ndDs T = TD at *
    simp -implicitDefEqProofs (disch := first | omega | (simp <;> omega) | fail) [f_written, hloop]
end TL
-- depth 200
-- uses c_cellat c_draw c_alike c_signby c_isn c_isn2 c_paths c_tree12 c_loop12 c_loop12b c_both12 c_written12
namespace TL
open PySem PySem.Spec L2
def abL : List Nat := [97, 98, 99, 100, 101, 102, 103, 104, 105, 106, 107, 108, 109]
theorem r__law_word (n : Nat) (c m : Int) : ∃ w, okW w ∧ callK L.tb (n + 3) i__law_word [.f (.int c), .f (.int m)] = .ok (.fz (strD w)) [none, none] := by
  rw [c__law_word]
  have d1 := r__law_draw (n + 1) c 1 10 (by decide) (by decide) (by decide)
  have d2 := r__law_draw (n + 1) c 2 12 (by decide) (by decide) (by decide)
  have d3 := r__law_draw (n + 1) c 3 10 (by decide) (by decide) (by decide)
  have d4 := r__law_draw (n + 1) c 4 3 (by decide) (by decide) (by decide)
  have d5 := r__law_draw (n + 1) c 5 4 (by decide) (by decide) (by decide)
  have b2 := drw_b c 2 (m := 12) (by decide)
  have b3 := drw_b c 3 (m := 10) (by decide)
  have b4 := drw_b c 4 (m := 3) (by decide)
  have b5 := drw_b c 5 (m := 4) (by decide)
  generalize drw c 1 10 = q1 at *
  generalize drw c 2 12 = q2 at *
  generalize drw c 3 10 = q3 at *
  generalize drw c 4 3 = q4 at *
  generalize drw c 5 4 = q5 at *
  by_cases h1 : q1 < m
  · refine ⟨91 :: abL.take (1 + q2).toNat, ⟨by simp, ?_, ?_⟩, ?_⟩
    · simp only [List.length_cons, List.length_take]
      have : abL.length = 13 := rfl
      omega
    · intro x hx
      rcases List.mem_cons.mp hx with rfl | hx
      · omega
      · have : ∀ x ∈ abL, 33 ≤ x ∧ x ≤ 126 := by decide
        exact this x (List.mem_of_mem_take hx)
    · have hab : [97, 98, 99, 100, 101, 102, 103, 104, 105, 106, 107, 108, 109] = abL := rfl
      have hl : abL.length = 13 := rfl
      generalize abL = A at *
      simp -implicitDefEqProofs (disch := first | omega | (simp <;> omega) | fail) [f__law_word, d1, d2, h1, hab]
  · by_cases h8 : q1 = 8
    · have ha : atI [48, 49, 50, 51, 52, 53, 54, 55, 56, 57] q3 = some (48 + q3.toNat) := by
        rcases (by omega : q3 = 0 ∨ q3 = 1 ∨ q3 = 2 ∨ q3 = 3 ∨ q3 = 4 ∨ q3 = 5 ∨ q3 = 6 ∨ q3 = 7 ∨ q3 = 8 ∨ q3 = 9) with rfl | rfl | rfl | rfl | rfl | rfl | rfl | rfl | rfl | rfl <;> rfl
      refine ⟨[36, 48 + q3.toNat], ⟨by simp, by simp, ?_⟩, ?_⟩
      · intro x hx
        simp only [List.mem_cons, List.not_mem_nil, or_false] at hx
        omega
      · subst h8
        simp -implicitDefEqProofs (disch := first | omega | (simp <;> omega) | fail) [f__law_word, d1, d3, ha, h1]
    · by_cases h9 : q1 = 9
      · refine ⟨(List.range (1 + q4).toNat).map fun k : Nat => sgB c (10 + (k : Int)), ⟨?_, ?_, ?_⟩, ?_⟩
        · intro e
          have := congrArg List.length e
          simp at this; omega
        · simp; omega
        · intro x hx
          obtain ⟨k, _, rfl⟩ := List.mem_map.mp hx
          have := sgB_asc c (10 + (k : Int))
          omega
        · have hlc : resL [3] (.nm 3) .rng (evalTs (callK L.tb (n + 2)) [.bin .Add (.con (.int 1)) (.call 8 [.f, .f, .f] [.var 0, .con (.int 4), .con (.int 3)] [])]) (cndE (callK L.tb (n + 2)) .nul) (stvE (callK L.tb (n + 2)) ce__law_word_1) [some (.own (.fz (.int c))), some (.own (.fz (.int m))), some (.own (.fz (.int q1))), none]
            = .ok (.own (.lst (fzs (((List.range (1 + q4).toNat).map fun k : Nat => [sgB c (10 + (k : Int))]).map strD)))) [some (.own (.fz (.int c))), some (.own (.fz (.int m))), some (.own (.fz (.int q1))), none] := by
            rw [resL_map (xs := List.range (1 + q4).toNat) (fun k => .int ((k : Nat) : Int)) (fun k : Nat => strD [sgB c (10 + (k : Int))]) (ts := [.own (.fz (.int (1 + q4)))]) (by simp -implicitDefEqProofs (disch := first | omega | (simp <;> omega) | fail) [d4]) rfl (ds := [.int (1 + q4)]) rfl (walk_r0 (by omega) (by omega)) (fun k hk => ?_) (by simp; omega), List.map_map]
            · rfl
            · rw [List.mem_range] at hk
              have s := r__law_sign_by n c (10 + (k : Int)) (by omega) (by omega)
              apply Exists.intro
              apply And.intro
              · rw [turnL_d]
                simp -implicitDefEqProofs (disch := first | omega | (simp <;> omega) | fail) [ce__law_word_1, compl, s]
                rfl
              · rfl
          have hj := join_o (a := []) (ys := (List.range (1 + q4).toNat).map fun k : Nat => [sgB c (10 + (k : Int))]) (by
            rw [List.map_map]
            have : ((List.range (1 + q4).toNat).map (List.length ∘ fun k : Nat => [sgB c (10 + (k : Int))])).sum ≤ 10 := by
              have e : (List.length ∘ fun k : Nat => [sgB c (10 + (k : Int))]) = fun _ => 1 := rfl
              rw [e, List.map_const', List.sum_replicate_nat, List.length_range]
              omega
            simp only [List.length_nil, Nat.mul_zero]
            exact Nat.le_trans this (by decide))
          rw [joinL_nil] at hj
          have hfl : ((List.range (1 + q4).toNat).map fun k : Nat => [sgB c (10 + (k : Int))]).flatten = (List.range (1 + q4).toNat).map fun k : Nat => sgB c (10 + (k : Int)) := by
            rw [← List.flatMap_def]
            induction List.range (1 + q4).toNat with
            | nil => rfl
            | cons a l ih => rw [List.flatMap_cons, ih, List.map_cons]; rfl
          rw [hfl] at hj
          have hmm : ((List.range (1 + q4).toNat).map fun k : Nat => [sgB c (10 + (k : Int))]).map strD = ((List.range (1 + q4).toNat).map fun k : Nat => [sgB c (10 + (k : Int))]).map fun x => .str (tx x) := rfl
          rw [hmm] at hlc
          generalize (((List.range (1 + q4).toNat).map fun k : Nat => [sgB c (10 + (k : Int))]).map fun x => PyData.str (tx x)) = YS at *
          generalize ((List.range (1 + q4).toNat).map fun k : Nat => sgB c (10 + (k : Int))) = ZS at *
          subst h9
          simp -implicitDefEqProofs (disch := first | omega | (simp <;> omega) | fail) [f__law_word, d1, h1, hlc, hj]
      · rcases (by omega : q5 = 0 ∨ q5 = 1 ∨ q5 = 2 ∨ q5 = 3) with rfl | rfl | rfl | rfl
        · exact ⟨[93], ⟨by simp, by simp, by simp⟩, by simp -implicitDefEqProofs (disch := first | omega | (simp <;> omega) | fail) [f__law_word, d1, h1, h8, h9, d5]⟩
        · exact ⟨[124], ⟨by simp, by simp, by simp⟩, by simp -implicitDefEqProofs (disch := first | omega | (simp <;> omega) | fail) [f__law_word, d1, h1, h8, h9, d5]⟩
        · exact ⟨[93], ⟨by simp, by simp, by simp⟩, by simp -implicitDefEqProofs (disch := first | omega | (simp <;> omega) | fail) [f__law_word, d1, h1, h8, h9, d5]⟩
        · exact ⟨[93], ⟨by simp, by simp, by simp⟩, by simp -implicitDefEqProofs (disch := first | omega | (simp <;> omega) | fail) [f__law_word, d1, h1, h8, h9, d5]⟩
theorem r__law_refusal (n : Nat) (ws : D) (cnt : Option Nat) (c : Nat) (hc : c < 2) (h : callK L.tb (n + 1) i_tree_of [.f ws, .f (cD cnt)] = .exc c [none, none]) :
    callK L.tb (n + 2) i__law_refusal [.f ws, .f (cD cnt)] = .ok (.lst (fzs [.bool (decide (c = 1)), .bool (decide (c = 0)), .bool true, .bool false])) [none, none] := by
  rw [c__law_refusal]
  generalize cD cnt = CD at *
  rcases (by omega : c = 0 ∨ c = 1) with rfl | rfl
  · simp -implicitDefEqProofs (disch := first | omega | (simp <;> omega) | fail) [f__law_refusal, h]
  · simp -implicitDefEqProofs (disch := first | omega | (simp <;> omega) | fail) [f__law_refusal, h]
theorem r__law_refusal0 (n : Nat) (ws : D) (cnt : Option Nat) (o : List D) (h : callK L.tb (n + 1) i_tree_of [.f ws, .f (cD cnt)] = .ok (.lst (fzs o)) [none, none]) :
    callK L.tb (n + 2) i__law_refusal [.f ws, .f (cD cnt)] = .ok (.lst (fzs [])) [none, none] := by
  rw [c__law_refusal]
  generalize cD cnt = CD at *
  simp -implicitDefEqProofs (disch := first | omega | (simp <;> omega) | fail) [f__law_refusal, h]
theorem many12 (n : Nat) (x0 x1 x2 x3 : Option SL) : ∀ (ws : List (List Nat)) (k : Nat), (∀ w ∈ ws, okW w) → ∃ k', k' ≤ k + ws.length ∧
    forGo (turnX (callK L.tb (n + 2)) [3] (.nm 5) lb__law_words_1) (ws.map strD) [x0, x1, x2, x3, some (.own (.fz (.int ((k : Nat) : Int)))), none, none] = .ok .nx [x0, x1, x2, x3, some (.own (.fz (.int ((k' : Nat) : Int)))), none, none]
  | [], k, _ => ⟨k, by simp, rfl⟩
  | w :: ws, k, h => by
    have ho := r__law_opens n (h w (by simp))
    have hg : ∃ k1, k1 ≤ k + 1 ∧ goes (turnX (callK L.tb (n + 2)) [3] (.nm 5) lb__law_words_1 (strD w) [x0, x1, x2, x3, some (.own (.fz (.int ((k : Nat) : Int)))), none, none]) [x0, x1, x2, x3, some (.own (.fz (.int ((k1 : Nat) : Int)))), none, none] := by
      cases eo : opW w with
      | true =>
        rw [eo] at ho
        refine ⟨k + 1, by omega, ?_⟩
        rw [Int.natCast_add, Int.natCast_one]
        generalize ((k : Nat) : Int) = K at *
        simp only [turnX_d, lb__law_words_1]
        simp -implicitDefEqProofs (disch := first | omega | (simp <;> omega) | fail) [ho]
      | false =>
        rw [eo] at ho
        by_cases h1 : w = [93]
        · subst h1
          by_cases h2 : k = 0
          · subst h2
            refine ⟨0, by omega, ?_⟩
            simp only [turnX_d, lb__law_words_1]
            simp -implicitDefEqProofs (disch := first | omega | (simp <;> omega) | fail) [ho]
          · refine ⟨k - 1, by omega, ?_⟩
            rw [show (((k - 1 : Nat) : Nat) : Int) = ((k : Nat) : Int) - 1 by omega]
            have h3 : (0 : Int) < ((k : Nat) : Int) := by omega
            generalize ((k : Nat) : Int) = K at *
            simp only [turnX_d, lb__law_words_1]
            simp -implicitDefEqProofs (disch := first | omega | (simp <;> omega) | fail) [ho, h3]
        · refine ⟨k, by omega, ?_⟩
          generalize ((k : Nat) : Int) = K at *
          simp only [turnX_d, lb__law_words_1]
          simp -implicitDefEqProofs (disch := first | omega | (simp <;> omega) | fail) [ho, h1]
    obtain ⟨k1, a1, a2⟩ := hg
    obtain ⟨k2, b1, b2⟩ := many12 n x0 x1 x2 x3 ws k1 fun x hx => h x (by simp [hx])
    refine ⟨k2, by simp only [List.length_cons]; omega, ?_⟩
    rw [List.map_cons, forGo_goes a2, b2]
theorem r__law_words (n : Nat) (ns : List Int) (c : Int) (hl : ns.length ≤ 63) : ∃ ws : List (List Nat), (∀ w ∈ ws, okW w) ∧ ws.length ≤ 126 ∧ callK L.tb (n + 4) i__law_words [.f (.list (ns.map .int)), .f (.int c)] = .ok (.lst (fzs (ws.map strD))) [none, none] := by
  have d6 := r__law_draw (n + 2) c 6 4 (by decide) (by decide) (by decide)
  have d7 := r__law_draw (n + 2) c 7 3 (by decide) (by decide) (by decide)
  have b6 := drw_b c 6 (m := 4) (by decide)
  have b7 := drw_b c 7 (m := 3) (by decide)
  obtain ⟨m, hm⟩ : ∃ m, atI [2, 3, 4, 8] (drw c 6 4) = some (m : Int) := by
    obtain ⟨m, _, h⟩ := atI_some (xs := ([2, 3, 4, 8] : List Int)) (i := drw c 6 4) (by omega) (by simp; omega)
    exact ⟨m, h⟩
  have hm2 : atI [PyData.int 2, .int 3, .int 4, .int 8] (drw c 6 4) = some (.int m) := by
    have := atI_map PyData.int ([2, 3, 4, 8] : List Int) (drw c 6 4)
    rw [hm] at this
    exact this
  have hw : ∃ f : Int → List Nat, ∀ c, okW (f c) ∧ callK L.tb (n + 3) i__law_word [.f (.int c), .f (.int m)] = .ok (.fz (strD (f c))) [none, none] :=
    ⟨fun c => Classical.choose (r__law_word n c m), fun c => Classical.choose_spec (r__law_word n c m)⟩
  obtain ⟨f, hf⟩ := hw
  have htk : List.take 110 (ns.map PyData.int) = ns.map .int := List.take_of_length_le (by simp; omega)
  have hlc : resL [6] (.nm 6) .sq (evalTs (callK L.tb (n + 3)) [.slc (.var 0) .nul (.con (.int 110))]) (cndE (callK L.tb (n + 3)) .nul) (stvE (callK L.tb (n + 3)) ce__law_words_1) [some (.own (.fz (.list (ns.map .int)))), some (.own (.fz (.int c))), some (.own (.fz (.int m))), none, none, none, none]
      = .ok (.own (.lst (fzs ((ns.map f).map strD)))) [some (.own (.fz (.list (ns.map .int)))), some (.own (.fz (.int c))), some (.own (.fz (.int m))), none, none, none, none] := by
    rw [resL_map (xs := ns) .int (fun c => strD (f c)) (ts := [.own (.lst (fzs (ns.map .int)))]) (by simp -implicitDefEqProofs (disch := first | omega | (simp <;> omega) | fail) [htk]) rfl (ds := [.list (ns.map .int)]) (by simp) rfl (fun c _ => ?_) (by omega), List.map_map]
    · rfl
    · have hr := (hf c).2
      apply Exists.intro
      apply And.intro
      · rw [turnL_d]
        simp -implicitDefEqProofs (disch := first | omega | (simp <;> omega) | fail) [ce__law_words_1, compl, hr]
        rfl
      · rfl
  have hok : ∀ w ∈ ns.map f, okW w := fun w hw => by
    obtain ⟨x, _, rfl⟩ := List.mem_map.mp hw
    exact (hf x).1
  have hlen : (ns.map f).length ≤ 63 := by rw [List.length_map]; exact hl
  clear hf htk
  generalize ns.map f = ws at *
  rw [show n + 4 = n + 3 + 1 from rfl, c__law_words]
  generalize drw c 6 4 = q6 at *
  generalize drw c 7 3 = q7 at *
  generalize ns.map PyData.int = NS at *
  by_cases h7 : 0 < q7
  · obtain ⟨k, k1, k2⟩ := many12 (n + 1) (some (.own (.fz (.list NS)))) (some (.own (.fz (.int c)))) (some (.own (.fz (.int m)))) (some (.par (.list (ws.map strD)))) ws 0 hok
    rw [show (((0 : Nat) : Nat) : Int) = 0 from rfl] at k2
    refine ⟨ws ++ List.replicate k [93], ?_, by simp; omega, ?_⟩
    · intro w h
      rcases List.mem_append.mp h with h | h
      · exact hok w h
      · rw [(List.mem_replicate.mp h).2]
        exact ⟨by simp, by simp, by simp⟩
    · have hrep : (List.replicate k ([PyData.str (tx [93])] : List D)).flatten = (List.replicate k [93]).map strD := by
        clear k2 k1
        induction k with
        | zero => rfl
        | succ k ih => rw [List.replicate_succ, List.flatten_cons, ih, List.replicate_succ, List.map_cons]; rfl
      have hwl : (ws.map strD).length ≤ 63 := by rw [List.length_map]; exact hlen
      rw [List.map_append]
      have hrl : ((List.replicate k [93]).map strD).length ≤ 63 := by rw [List.length_map, List.length_replicate]; omega
      have hmul := mul_lo (ds := [PyData.str (tx [93])]) (k := ((k : Nat) : Int)) (by omega) (by omega) (by simp; omega)
      rw [Int.toNat_natCast, hrep] at hmul
      have hk2 : ((k : Nat) : Int) ≤ 63 := by omega
      clear hrep hok k1
      generalize (List.replicate k [93]).map strD = RP at *
      generalize ws.map strD = WD at *
      generalize ((k : Nat) : Int) = K at *
      simp -implicitDefEqProofs (disch := first | omega | (simp <;> omega) | fail) [f__law_words, d6, d7, hm2, hlc, h7, k2, hmul]
  · refine ⟨ws, hok, by omega, ?_⟩
    generalize ws.map strD = WD at *
    simp -implicitDefEqProofs (disch := first | omega | (simp <;> omega) | fail) [f__law_words, d6, d7, hm2, hlc, h7]
theorem main (ns : List Int) (hl : ns.length ≤ 63) (_ : ∀ z ∈ ns, Builtin.Int.intBits z ≤ 1048576) : ∃ outs, callK L.tb 200 i_law [.f (.list (ns.map .int))] = .ok (.fz (.bool true)) outs := by
  refine ⟨[none], ?_⟩
  show callK L.tb (199 + 1) i_law _ = _
  rw [c_law]
  have hc0 : callK L.tb 199 i__law_cell_at [.f (.list (ns.map .int)), .f (.int 0)] = .ok (.fz (.int (cellAt ns 0))) [none, none] := r__law_cell_at 198 ns 0
  generalize cellAt ns 0 = c at *
  have d8 := r__law_draw 198 c 8 6 (by decide) (by decide) (by decide)
  have b8 := drw_b c 8 (m := 6) (by decide)
  obtain ⟨ws, w1, w2, w3⟩ := r__law_words 195 ns c hl
  generalize drw c 8 6 = q at *
  obtain ⟨cnt, hcnt⟩ : ∃ cnt, atI [PyData.none, .int 0, .int 1, .int 4, .int 9, .int 9] q = some (cD cnt) := by
    rcases (by omega : q = 0 ∨ q = 1 ∨ q = 2 ∨ q = 3 ∨ q = 4 ∨ q = 5) with rfl | rfl | rfl | rfl | rfl | rfl
    · exact ⟨none, rfl⟩
    · exact ⟨some 0, rfl⟩
    · exact ⟨some 1, rfl⟩
    · exact ⟨some 4, rfl⟩
    · exact ⟨some 9, rfl⟩
    · exact ⟨some 9, rfl⟩
  have hne : cmpD .NotEq (.list (ws.map strD)) (.list (ws.map strD)) = some false := by
    have hB : ∀ w ∈ ws, ∀ c ∈ w, c < 1114112 := fun w hw c hc => by
      have := (w1 w hw).2.2 c hc
      omega
    have := eq_strs (A := ws) (B := ws) hB hB
    rw [decide_eq_true rfl] at this
    exact ne_of_eq this
  have hb1 : cmpD .Eq (.list [.bool false, .bool true, .bool true, .bool false]) (.list [.bool false, .bool true, .bool true, .bool false]) = some true := by decide +kernel
  have hb2 : cmpD .Eq (.list [.bool true, .bool false, .bool true, .bool false]) (.list [.bool true, .bool false, .bool true, .bool false]) = some true := by decide +kernel
  have hnil : cmpD .Eq (.list []) (.list []) = some true := rfl
  have hnn : cmpD .NotEq (strD []) (.str (tx [])) = some false := by decide +kernel
  have hal : callK L.tb 199 i__law_alike [.b (.list (ws.map strD)), .b (.list (ws.map strD))] = .ok (.fz (.bool true)) [none, none] := r__law_alike 1 197 _ ⟨by simp; omega, fun x hx => by
    obtain ⟨w, _, rfl⟩ := List.mem_map.mp hx
    exact True.intro⟩
  rcases both12 cnt ws w1 (by omega) with ⟨T, t1, t2, t3⟩ | ⟨k, k1, k2, k3⟩
  · have hr := r__law_refusal0 197 (.list (ws.map strD)) cnt (ndDs T) (t2 195)
    have t2 := t2 196
    have t3 := t3 196
    have hw := r_written 126 72 T (by rw [t1]; omega) (by omega) (by rw [t1]; exact fun w h => by have := (w1 w h).2.1; omega)
    rw [t1] at hw
    clear t1
    generalize ndDs T = TD at *
    generalize ws.map strD = WD at *
    generalize cD cnt = CD at *
    generalize ns.map PyData.int = NS at *
    simp -implicitDefEqProofs (disch := first | omega | (simp <;> omega) | fail) [f_law, hc0, d8, w3, hcnt, t2, t3, hr, hne, hal, hw, hnil, hnn]
  · have hr := r__law_refusal 197 (.list (ws.map strD)) cnt k k1 (k2 195)
    have k2 := k2 196
    have k3 := k3 196
    generalize ws.map strD = WD at *
    generalize cD cnt = CD at *
    generalize ns.map PyData.int = NS at *
    rcases (by omega : k = 0 ∨ k = 1) with rfl | rfl
    · simp only [dueS] at k3
      simp -implicitDefEqProofs (disch := first | omega | (simp <;> omega) | fail) [f_law, hc0, d8, w3, hcnt, k2, k3, hr, hne, hb1, hb2]
    · simp only [dueS] at k3
      simp -implicitDefEqProofs (disch := first | omega | (simp <;> omega) | fail) [f_law, hc0, d8, w3, hcnt, k2, k3, hr, hne, hb1, hb2]
end TL
set_option maxHeartbeats 0
namespace TL
open PySem PySem.Spec PyProof.Rows L2
abbrev RR : PySem.W.OpenRow := PySem.W.OpenLaw.row PySem.Challenge.rw_trueleaf_k12_trees_refused
abbrev hk : PySem.W.Hook := hookG 4 L.facts L.defs L.ex
def loose : List Str := (["TrueleafError", "TooLong", "BadCall", "Deep", "NoShort", "SMALL", "FIGURES", "LONGEST", "is_name", "DEEPEST", "opens", "place_in", "put_node", "part_argument", "tree_of"] : List Str) ++ (["written", "_law_cell_at", "_law_draw", "_law_alike", "_law_sign_by", "_law_is_name", "_law_opens", "_law_word", "_law_due", "_law_words", "_law_refusal"] : List Str)
def ob (s : PySem.W.SharedT) : He.AlD × Bool := obsG 4 L.facts L.defs L.ex (HandSHeadRun.getT s)
theorem ob_eq (s : PySem.W.SharedT) : ob s = hk.obs s.abs := obsG_eq (HandSHeadRun.getT_eq s)
theorem run (w : World) : HandSHeadRun.RunEq RR (PySem.W.view RR.prog [30]) hk ob 12000 loose w := by
  intro os
  kernel_rfl
end TL
open PySem PySem.W PySem.Calls PyProof.Rows
theorem PySem.Challenge.cw_trueleaf_k12_trees_refused_holds : PySem.Challenge.rw_trueleaf_k12_trees_refused.Holds := by
  w_on; o_law
  refine HandSHeadRun.head_any (r := TL.RR) (q := view TL.RR.prog [30]) (H := TL.hk) (ob := TL.ob) (M := 12000) (loose := TL.loose) (d := HandSHeadRun.topDef TL.RR.prog 30) (kwd := []) TL.ob_eq
    (by kernel_rfl) (fun s => by kernel_rfl) TL.run (by kernel_rfl) (by kernel_rfl) (by kernel_rfl) (by rfl)
    (by first | assumption | decide +kernel) (by decide +kernel) ⟨rfl, rfl, rfl, rfl, rfl, by decide +kernel⟩ ?hw ?hc
  case hw => w_witness2
  case hc =>
    refine LamX.walk_ofTsE (l := PySem.Challenge.rw_trueleaf_k12_trees_refused) (n := 63) (k := 200) (x := "script") (CX := fun w => L2.CX PySem.Challenge.pw_trueleaf_k12_trees_refused w)
      rfl (by decide) (by kernel_rfl) ⟨rfl, by decide, by decide⟩ ?F ?hX
    case F =>
      intro w mg fa h Y G hmg0
      obtain ⟨K, KX, c, hx0⟩ := Y
      have hmg : mg ("law" : PySem.Str) = some (.ref fa) := by
        have e : (HandSHeadRun.topDef TL.RR.prog 30).name = ("law" : PySem.Str) := by kernel_rfl
        rw [← e]
        exact hmg0
      exact TL.LD.law TL.chk TL.bd KX G c hx0 (id := 17) rfl rfl rfl rfl hmg TL.main rfl
    case hX =>
      intro w H s e s' z
      obtain ⟨_, _, _, _, _, _, _, _, _, _, _, _, z⟩ := z
      exact z
