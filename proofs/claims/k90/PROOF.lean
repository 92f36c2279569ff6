import PyProof.Rows.All
import Wide.All
import OpenK.AllK
import Wide.FinOn
import HandS.ForMost
import HandS.IsInst
import HandS.Style
import HandS.Walk
import HandS.Deep
import PySem.Challenge.RW_lassoproof_k90_branching_rows
set_option Elab.async false
set_option linter.all false
set_option maxRecDepth 100000
set_option maxHeartbeats 4000000
/-! Values as plain data over the hand layer: what an expression gives, what a block does, without addresses. -/
namespace Dv
open PySem PySem.Spec PyProof.Rows L2

/-- plain data; scr: the list that is handed in (read, never written) -/
inductive D where
  | non | bl (b : Bool) | int (i : Int) | str (s : Str) | lst (xs : List D) | tup (xs : List D) | scr (ns : List Int) | obj (C : Addr) (fs : List (Str × D)) | dic (kvs : List (Key × D)) | dit (kvs : List (List Key × D)) | adr (p : Addr)

mutual
/-- the value v is the data d, by what is laid for good in F -/
inductive Is (K : PySem.W.Frag) (F : Hp) : V → D → Prop
  | non : Is K F .non .non
  | bl (b : Bool) : Is K F (.bl b) (.bl b)
  | int (i : Int) : Is K F (.int i) (.int i)
  | str (s : Str) : Is K F (.str s) (.str s)
  | lst {a : Addr} {vs : List V} {ds : List D} : F a = some (.lst vs) → IsA K F vs ds → Is K F (.ref a) (.lst ds)
  | tup {a : Addr} {vs : List V} {ds : List D} : F a = some (.tup vs) → IsA K F vs ds → Is K F (.ref a) (.tup ds)
  | scr {a : Addr} {ns : List Int} : SqL K F a (ns.map V.int) → Is K F (.ref a) (.scr ns)
  /-- a thing of one's own, by its address -/
  | adr (p : Addr) : Is K F (.ref p) (.adr p)
  | obj {a C dx : Addr} {fs : List (Str × V)} {gs : List (Str × D)} : F a = some (.ins C dx fs) → fs.map (·.1) = gs.map (·.1) → IsA K F (fs.map (·.2)) (gs.map (·.2)) → Is K F (.ref a) (.obj C gs)
  | dic {a : Addr} {fs : List (Key × V)} {gs : List (Key × D)} : F a = some (.dK fs) → fs.map (·.1) = gs.map (·.1) → IsA K F (fs.map (·.2)) (gs.map (·.2)) → Is K F (.ref a) (.dic gs)
  | dit {a : Addr} {fs : List (List Key × V)} {gs : List (List Key × D)} : F a = some (.dT fs) → fs.map (·.1) = gs.map (·.1) → IsA K F (fs.map (·.2)) (gs.map (·.2)) → Is K F (.ref a) (.dit gs)
inductive IsA (K : PySem.W.Frag) (F : Hp) : List V → List D → Prop
  | nil : IsA K F [] []
  | cons {v : V} {vs : List V} {d : D} {ds : List D} : Is K F v d → IsA K F vs ds → IsA K F (v :: vs) (d :: ds)
end

theorem sqt_up {K : PySem.W.Frag} {F F' : Hp} {a : Addr} {xs : List V} (e : Same F F') (h : F a = some (.tup xs)) : SqT K F' a xs := .inl (.inl (e _ _ h))
theorem sqt_mono {K : PySem.W.Frag} {F F' : Hp} {a : Addr} {xs : List V} (e : Same F F') (h : SqT K F a xs) : SqT K F' a xs := by
  rcases h with (h | ⟨o, h⟩) | h
  · exact .inl (.inl (e _ _ h))
  · exact .inl (.inr ⟨o, e _ _ h⟩)
  · exact .inr h

section
variable {K : PySem.W.Frag} {F F' : Hp}
theorem is_mono (e : Same F F') : (∀ v d, Is K F v d → Is K F' v d) ∧ (∀ vs ds, IsA K F vs ds → IsA K F' vs ds) :=
  ⟨fun v d h => @Is.rec K F (fun v d _ => Is K F' v d) (fun vs ds _ => IsA K F' vs ds) .non .bl .int .str (fun h1 _ i => .lst (e _ _ h1) i) (fun h1 _ i => .tup (e _ _ h1) i) (fun h1 => .scr (Same.seq e h1)) .adr
    (fun h1 h2 _ i => .obj (e _ _ h1) h2 i) (fun h1 h2 _ i => .dic (e _ _ h1) h2 i) (fun h1 h2 _ i => .dit (e _ _ h1) h2 i) .nil (fun _ _ i j => .cons i j) v d h,
   fun v d h => @IsA.rec K F (fun v d _ => Is K F' v d) (fun vs ds _ => IsA K F' vs ds) .non .bl .int .str (fun h1 _ i => .lst (e _ _ h1) i) (fun h1 _ i => .tup (e _ _ h1) i) (fun h1 => .scr (Same.seq e h1)) .adr
    (fun h1 h2 _ i => .obj (e _ _ h1) h2 i) (fun h1 h2 _ i => .dic (e _ _ h1) h2 i) (fun h1 h2 _ i => .dit (e _ _ h1) h2 i) .nil (fun _ _ i j => .cons i j) v d h⟩
theorem Is.mono {v : V} {d : D} (h : Is K F v d) (e : Same F F') : Is K F' v d := (is_mono e).1 v d h
theorem IsA.mono {v : List V} {d : List D} (h : IsA K F v d) (e : Same F F') : IsA K F' v d := (is_mono e).2 v d h
theorem IsA.length : ∀ {vs : List V} {ds : List D}, IsA K F vs ds → vs.length = ds.length
  | [], _, h => by cases h; rfl
  | v :: vs, _, h => by
    cases h with
    | cons _ t => exact congrArg Nat.succ (IsA.length t)
theorem IsA.get : ∀ {vs : List V} {ds : List D} {i : Nat} {d : D}, IsA K F vs ds → ds[i]? = some d → ∃ v, vs[i]? = some v ∧ Is K F v d
  | [], _, _, _, h, e => by cases h; simp at e
  | v :: vs, _, i, d, h, e => by
    cases h with
    | cons r t =>
      cases i with
      | zero => simp at e; subst e; exact ⟨_, rfl, r⟩
      | succ i =>
        obtain ⟨v, h1, h2⟩ := IsA.get (i := i) (d := d) t (by simpa using e)
        exact ⟨v, by simpa using h1, h2⟩
theorem IsA.get' : ∀ {vs : List V} {ds : List D} {i : Nat} {v : V}, IsA K F vs ds → vs[i]? = some v → ∃ d, ds[i]? = some d ∧ Is K F v d
  | [], _, _, _, h, e => by simp at e
  | u :: vs, _, i, v, h, e => by
    cases h with
    | cons r t =>
      cases i with
      | zero => simp at e; subst e; exact ⟨_, rfl, r⟩
      | succ i =>
        obtain ⟨d, h1, h2⟩ := IsA.get' (i := i) (v := v) t (by simpa using e)
        exact ⟨d, by simpa using h1, h2⟩
theorem IsA.append : ∀ {vs us : List V} {ds es : List D}, IsA K F vs ds → IsA K F us es → IsA K F (vs ++ us) (ds ++ es)
  | [], _, _, _, h, s => by cases h; exact s
  | v :: vs, _, _, _, h, s => by
    cases h with
    | cons r t => exact .cons r (IsA.append t s)
theorem IsA.snoc {vs : List V} {ds : List D} {v : V} {d : D} (h : IsA K F vs ds) (r : Is K F v d) : IsA K F (vs ++ [v]) (ds ++ [d]) := h.append (.cons r .nil)
theorem IsA.take : ∀ {vs : List V} {ds : List D} (n : Nat), IsA K F vs ds → IsA K F (vs.take n) (ds.take n)
  | _, _, 0, _ => .nil
  | [], _, _ + 1, h => by cases h; exact .nil
  | v :: vs, _, n + 1, h => by
    cases h with
    | cons r t => exact .cons r (IsA.take n t)
theorem IsA.drop : ∀ {vs : List V} {ds : List D} (n : Nat), IsA K F vs ds → IsA K F (vs.drop n) (ds.drop n)
  | _, _, 0, r => r
  | [], _, _ + 1, h => by cases h; exact .nil
  | v :: vs, _, n + 1, h => by
    cases h with
    | cons r t => exact IsA.drop n t
theorem IsA.set : ∀ {vs : List V} {ds : List D} {v : V} {d : D} (i : Nat), IsA K F vs ds → Is K F v d → IsA K F (vs.set i v) (ds.set i d)
  | [], _, _, _, _, h, _ => by cases h; exact .nil
  | v :: vs, _, _, _, i, h, q => by
    cases h with
    | cons r t =>
      cases i with
      | zero => exact .cons q t
      | succ i => exact .cons r (IsA.set i t q)
theorem IsA.rep {vs : List V} {ds : List D} (h : IsA K F vs ds) : ∀ n : Nat, IsA K F (List.replicate n vs).flatten (List.replicate n ds).flatten
  | 0 => .nil
  | n + 1 => by
    rw [List.replicate_succ, List.replicate_succ, List.flatten_cons, List.flatten_cons]
    exact h.append (IsA.rep h n)
theorem IsA.reverse {vs : List V} {ds : List D} (h : IsA K F vs ds) : IsA K F vs.reverse ds.reverse := by
  induction vs generalizing ds with
  | nil => cases h; exact .nil
  | cons v vs ih =>
    cases h with
    | cons r t =>
      rw [List.reverse_cons, List.reverse_cons]
      exact (ih t).snoc r
theorem IsA.ints : ∀ {vs : List V} {ns : List Int}, IsA K F vs (ns.map D.int) → vs = ns.map V.int
  | vs, [], h => by
    rw [List.map_nil] at h
    cases h
    rfl
  | vs, n :: ns, h => by
    rw [List.map_cons] at h
    cases h with
    | cons h1 h2 =>
      cases h1
      rw [List.map_cons, IsA.ints h2]
theorem IsA.strs : ∀ {vs : List V} {ns : List Str}, IsA K F vs (ns.map D.str) → vs = ns.map V.str
  | vs, [], h => by
    rw [List.map_nil] at h
    cases h
    rfl
  | vs, n :: ns, h => by
    rw [List.map_cons] at h
    cases h with
    | cons h1 h2 =>
      cases h1
      rw [List.map_cons, IsA.strs h2]
theorem IsA.bls : ∀ {vs : List V} {ns : List Bool}, IsA K F vs (ns.map D.bl) → vs = ns.map V.bl
  | vs, [], h => by
    rw [List.map_nil] at h
    cases h
    rfl
  | vs, n :: ns, h => by
    rw [List.map_cons] at h
    cases h with
    | cons h1 h2 =>
      cases h1
      rw [List.map_cons, IsA.bls h2]
theorem IsA.of_strs : ∀ (ns : List Str), IsA K F (ns.map V.str) (ns.map D.str)
  | [] => .nil
  | _ :: ns => .cons (.str _) (IsA.of_strs ns)
theorem IsA.of_ints : ∀ (ns : List Int), IsA K F (ns.map V.int) (ns.map D.int)
  | [] => .nil
  | _ :: ns => .cons (.int _) (IsA.of_ints ns)
end

/-! ### how heaps go on -/
/-- F (laid for good) and H (all that is tracked) go on: what was laid stays, what was tracked stays, what was not laid for good is not laid now -/
structure Go (F H F' H' : Hp) : Prop where
  ff : Same F F'
  fh : Same F' H'
  kp : Same H H'
  nf : ∀ a o, H a = some o → F a = none → F' a = none
theorem Go.refl {F H : Hp} (e : Same F H) : Go F H F H := ⟨.refl _, e, .refl _, fun _ _ _ h => h⟩
theorem Go.trans {F H F1 H1 F2 H2 : Hp} (a : Go F H F1 H1) (b : Go F1 H1 F2 H2) : Go F H F2 H2 :=
  ⟨a.ff.trans b.ff, b.fh, a.kp.trans b.kp, fun x o h1 h2 => b.nf x o (a.kp x o h1) (a.nf x o h1 h2)⟩
theorem same_new {H : Hp} {p : Addr} {o : HO} (h : H p = none) : Same H (upd H p o) := fun a u e => by
  rw [upd_ne (ne_of_none e h)]
  exact e
/-- a new object is tracked, not laid for good -/
theorem Go.newH {F H : Hp} {p : Addr} {o : HO} (e : Same F H) (h : H p = none) : Go F H F (upd H p o) :=
  ⟨.refl _, e.trans (same_new h), same_new h, fun _ _ _ q => q⟩
/-- a new object is laid for good -/
theorem Go.newF {F H : Hp} {p : Addr} {o : HO} (e : Same F H) (h : H p = none) : Go F H (upd F p o) (upd H p o) := by
  have hf : F p = none := Same.free e h
  refine ⟨same_new hf, fun a u q => ?_, same_new h, fun a u q r => ?_⟩
  · by_cases z : a = p
    · subst z
      rw [upd_same] at q ⊢
      exact q
    · rw [upd_ne z] at q ⊢
      exact e _ _ q
  · rw [upd_ne (ne_of_none q h)]
    exact r
/-- what is tracked at A is laid for good -/
def lay (F H : Hp) (A : List Addr) : Hp := fun a => if a ∈ A then H a else F a
theorem lay_in {F H : Hp} {A : List Addr} {a : Addr} (h : a ∈ A) : lay F H A a = H a := if_pos h
theorem lay_out {F H : Hp} {A : List Addr} {a : Addr} (h : a ∉ A) : lay F H A a = F a := if_neg h
theorem lay_same {F H : Hp} {A : List Addr} (n : ∀ a ∈ A, F a = none) : Same F (lay F H A) := fun a o e => by
  rw [lay_out fun m => by rw [n a m] at e; cases e]
  exact e
theorem lay_sub {F H : Hp} {A : List Addr} (e : Same F H) : Same (lay F H A) H := fun a o q => by
  by_cases m : a ∈ A
  · rw [lay_in m] at q
    exact q
  · rw [lay_out m] at q
    exact e _ _ q
/-- what is new since H is laid for good -/
theorem Go.lay {F H F1 H1 : Hp} {A : List Addr} (g : Go F H F1 H1) (n : ∀ a ∈ A, H a = none ∧ F1 a = none) : Go F H (Dv.lay F1 H1 A) H1 :=
  ⟨g.ff.trans (lay_same fun a m => (n a m).2), lay_sub g.fh, g.kp, fun a o q r => by
    rw [lay_out fun m => by rw [(n a m).1] at q; cases q]
    exact g.nf a o q r⟩

/-! ### what is one's own: trees of lists, objects, dicts that may still be written -/
inductive OT where
  | fz (d : D) | lst (ts : List OT) | obj (C : Addr) (fs : List (Str × OT)) | dic (kvs : List (Key × OT)) | dit (kvs : List (List Key × OT))
mutual
/-- v is the tree t: A, the addresses of its parts -/
inductive Own (K : PySem.W.Frag) (F H : Hp) : V → OT → List Addr → Prop
  | fz {v : V} {d : D} : Is K F v d → Own K F H v (.fz d) []
  | lst {p : Addr} {vs : List V} {ts : List OT} {A : List Addr} : H p = some (.lst vs) → OwnA K F H vs ts A → Own K F H (.ref p) (.lst ts) (p :: A)
  | obj {p C dx : Addr} {vs : List (Str × V)} {ts : List (Str × OT)} {A : List Addr} : H p = some (.ins C dx vs) → vs.map (·.1) = ts.map (·.1) → OwnA K F H (vs.map (·.2)) (ts.map (·.2)) A → Own K F H (.ref p) (.obj C ts) (p :: A)
  | dic {p : Addr} {vs : List (Key × V)} {ts : List (Key × OT)} {A : List Addr} : H p = some (.dK vs) → vs.map (·.1) = ts.map (·.1) → OwnA K F H (vs.map (·.2)) (ts.map (·.2)) A → Own K F H (.ref p) (.dic ts) (p :: A)
  | dit {p : Addr} {vs : List (List Key × V)} {ts : List (List Key × OT)} {A : List Addr} : H p = some (.dT vs) → vs.map (·.1) = ts.map (·.1) → OwnA K F H (vs.map (·.2)) (ts.map (·.2)) A → Own K F H (.ref p) (.dit ts) (p :: A)
inductive OwnA (K : PySem.W.Frag) (F H : Hp) : List V → List OT → List Addr → Prop
  | nil : OwnA K F H [] [] []
  | cons {v : V} {vs : List V} {t : OT} {ts : List OT} {A B : List Addr} : Own K F H v t A → OwnA K F H vs ts B → OwnA K F H (v :: vs) (t :: ts) (A ++ B)
end
mutual
/-- the tree as data -/
def fr : OT → D
  | .fz d => d
  | .lst ts => .lst (frA ts)
  | .obj C fs => .obj C (frS fs)
  | .dic kvs => .dic (frK kvs)
  | .dit kvs => .dit (frT kvs)
def frA : List OT → List D
  | [] => []
  | t :: ts => fr t :: frA ts
def frS : List (Str × OT) → List (Str × D)
  | [] => []
  | (k, t) :: ts => (k, fr t) :: frS ts
def frK : List (Key × OT) → List (Key × D)
  | [] => []
  | (k, t) :: ts => (k, fr t) :: frK ts
def frT : List (List Key × OT) → List (List Key × D)
  | [] => []
  | (k, t) :: ts => (k, fr t) :: frT ts
end
theorem frA_map : ∀ ts : List OT, frA ts = ts.map fr
  | [] => by rw [frA]; rfl
  | t :: ts => by rw [frA, frA_map ts, List.map_cons]
theorem frS_keys : ∀ ts : List (Str × OT), (frS ts).map (·.1) = ts.map (·.1) ∧ (frS ts).map (·.2) = frA (ts.map (·.2))
  | [] => by rw [frS]; exact ⟨rfl, by rw [List.map_nil, List.map_nil, frA]⟩
  | (k, t) :: ts => by
    rw [frS, List.map_cons, List.map_cons, List.map_cons, List.map_cons, (frS_keys ts).1, (frS_keys ts).2, frA]
    exact ⟨rfl, rfl⟩
theorem frK_keys : ∀ ts : List (Key × OT), (frK ts).map (·.1) = ts.map (·.1) ∧ (frK ts).map (·.2) = frA (ts.map (·.2))
  | [] => by rw [frK]; exact ⟨rfl, by rw [List.map_nil, List.map_nil, frA]⟩
  | (k, t) :: ts => by
    rw [frK, List.map_cons, List.map_cons, List.map_cons, List.map_cons, (frK_keys ts).1, (frK_keys ts).2, frA]
    exact ⟨rfl, rfl⟩
theorem frT_keys : ∀ ts : List (List Key × OT), (frT ts).map (·.1) = ts.map (·.1) ∧ (frT ts).map (·.2) = frA (ts.map (·.2))
  | [] => by rw [frT]; exact ⟨rfl, by rw [List.map_nil, List.map_nil, frA]⟩
  | (k, t) :: ts => by
    rw [frT, List.map_cons, List.map_cons, List.map_cons, List.map_cons, (frT_keys ts).1, (frT_keys ts).2, frA]
    exact ⟨rfl, rfl⟩
theorem frA_fz : ∀ ds : List D, frA (ds.map .fz) = ds
  | [] => by rw [List.map_nil, frA]
  | d :: ds => by rw [List.map_cons, frA, fr, frA_fz ds]

section
variable {K : PySem.W.Frag} {F H F' H' : Hp}
/-- a statement on trees, shown for their parts -/
theorem own_rec {P : V → OT → List Addr → Prop} {R : List V → List OT → List Addr → Prop} (h1 : ∀ v d, Is K F v d → P v (.fz d) []) (h2 : ∀ p vs ts A, H p = some (.lst vs) → OwnA K F H vs ts A → R vs ts A → P (.ref p) (.lst ts) (p :: A))
    (h3 : ∀ p C dx (vs : List (Str × V)) (ts : List (Str × OT)) A, H p = some (.ins C dx vs) → vs.map (·.1) = ts.map (·.1) → OwnA K F H (vs.map (·.2)) (ts.map (·.2)) A → R (vs.map (·.2)) (ts.map (·.2)) A → P (.ref p) (.obj C ts) (p :: A))
    (h4 : ∀ p (vs : List (Key × V)) (ts : List (Key × OT)) A, H p = some (.dK vs) → vs.map (·.1) = ts.map (·.1) → OwnA K F H (vs.map (·.2)) (ts.map (·.2)) A → R (vs.map (·.2)) (ts.map (·.2)) A → P (.ref p) (.dic ts) (p :: A))
    (h5 : ∀ p (vs : List (List Key × V)) (ts : List (List Key × OT)) A, H p = some (.dT vs) → vs.map (·.1) = ts.map (·.1) → OwnA K F H (vs.map (·.2)) (ts.map (·.2)) A → R (vs.map (·.2)) (ts.map (·.2)) A → P (.ref p) (.dit ts) (p :: A))
    (h6 : R [] [] []) (h7 : ∀ v vs t ts A B, P v t A → R vs ts B → R (v :: vs) (t :: ts) (A ++ B)) : (∀ v t A, Own K F H v t A → P v t A) ∧ (∀ vs ts A, OwnA K F H vs ts A → R vs ts A) :=
  ⟨fun v t A h => @Own.rec K F H (fun v t A _ => P v t A) (fun vs ts A _ => R vs ts A) (fun q => h1 _ _ q) (fun q r i => h2 _ _ _ _ q r i) (fun q e r i => h3 _ _ _ _ _ _ q e r i) (fun q e r i => h4 _ _ _ _ q e r i) (fun q e r i => h5 _ _ _ _ q e r i) h6 (fun _ _ i j => h7 _ _ _ _ _ _ i j) v t A h,
   fun v t A h => @OwnA.rec K F H (fun v t A _ => P v t A) (fun vs ts A _ => R vs ts A) (fun q => h1 _ _ q) (fun q r i => h2 _ _ _ _ q r i) (fun q e r i => h3 _ _ _ _ _ _ q e r i) (fun q e r i => h4 _ _ _ _ q e r i) (fun q e r i => h5 _ _ _ _ q e r i) h6 (fun _ _ i j => h7 _ _ _ _ _ _ i j) v t A h⟩
theorem own_mono (e : Same F F') : (∀ v t A, Own K F H v t A → (∀ a ∈ A, ∀ o, H a = some o → H' a = some o) → Own K F' H' v t A) ∧ (∀ vs ts A, OwnA K F H vs ts A → (∀ a ∈ A, ∀ o, H a = some o → H' a = some o) → OwnA K F' H' vs ts A) :=
  own_rec (P := fun v t A => (∀ a ∈ A, ∀ o, H a = some o → H' a = some o) → Own K F' H' v t A) (R := fun v t A => (∀ a ∈ A, ∀ o, H a = some o → H' a = some o) → OwnA K F' H' v t A) (fun v d q _ => .fz (q.mono e)) (fun p vs ts A q _ i k => .lst (k p List.mem_cons_self _ q) (i fun a m => k a (List.mem_cons_of_mem _ m)))
    (fun p C dx vs ts A q z _ i k => .obj (k p List.mem_cons_self _ q) z (i fun a m => k a (List.mem_cons_of_mem _ m))) (fun p vs ts A q z _ i k => .dic (k p List.mem_cons_self _ q) z (i fun a m => k a (List.mem_cons_of_mem _ m))) (fun p vs ts A q z _ i k => .dit (k p List.mem_cons_self _ q) z (i fun a m => k a (List.mem_cons_of_mem _ m)))
    (fun _ => .nil) fun v vs t ts A B i j k => .cons (i fun a m => k a (List.mem_append_left _ m)) (j fun a m => k a (List.mem_append_right _ m))
theorem Own.mono {v : V} {t : OT} {A : List Addr} (h : Own K F H v t A) (e : Same F F') (k : ∀ a ∈ A, ∀ o, H a = some o → H' a = some o) : Own K F' H' v t A := (own_mono e).1 v t A h k
theorem OwnA.mono {v : List V} {t : List OT} {A : List Addr} (h : OwnA K F H v t A) (e : Same F F') (k : ∀ a ∈ A, ∀ o, H a = some o → H' a = some o) : OwnA K F' H' v t A := (own_mono e).2 v t A h k
theorem own_dom : (∀ v t A, Own K F H v t A → ∀ a ∈ A, ∃ o, H a = some o) ∧ (∀ vs ts A, OwnA K F H vs ts A → ∀ a ∈ A, ∃ o, H a = some o) :=
  own_rec (P := fun v t A => ∀ a ∈ A, ∃ o, H a = some o) (R := fun v t A => ∀ a ∈ A, ∃ o, H a = some o) (fun _ _ _ a m => by cases m) (fun p vs ts A q _ i a m => (List.mem_cons.mp m).elim (fun z => ⟨_, z ▸ q⟩) (i a)) (fun p C dx vs ts A q _ _ i a m => (List.mem_cons.mp m).elim (fun z => ⟨_, z ▸ q⟩) (i a))
    (fun p vs ts A q _ _ i a m => (List.mem_cons.mp m).elim (fun z => ⟨_, z ▸ q⟩) (i a)) (fun p vs ts A q _ _ i a m => (List.mem_cons.mp m).elim (fun z => ⟨_, z ▸ q⟩) (i a)) (fun a m => by cases m) fun v vs t ts A B i j a m => (List.mem_append.mp m).elim (i a) (j a)
theorem Own.dom {v : V} {t : OT} {A : List Addr} (h : Own K F H v t A) : ∀ a ∈ A, ∃ o, H a = some o := own_dom.1 v t A h
theorem OwnA.dom {v : List V} {t : List OT} {A : List Addr} (h : OwnA K F H v t A) : ∀ a ∈ A, ∃ o, H a = some o := own_dom.2 v t A h
/-- lists, objects, dicts -/
def nodeO : HO → Prop
  | .lst _ => True
  | .ins _ _ _ => True
  | .dK _ => True
  | .dT _ => True
  | _ => False
theorem own_node : (∀ v t A, Own K F H v t A → ∀ a ∈ A, ∃ o, H a = some o ∧ nodeO o) ∧ (∀ vs ts A, OwnA K F H vs ts A → ∀ a ∈ A, ∃ o, H a = some o ∧ nodeO o) :=
  own_rec (P := fun v t A => ∀ a ∈ A, ∃ o, H a = some o ∧ nodeO o) (R := fun v t A => ∀ a ∈ A, ∃ o, H a = some o ∧ nodeO o) (fun _ _ _ a m => by cases m) (fun p vs ts A q _ i a m => (List.mem_cons.mp m).elim (fun z => ⟨.lst vs, z ▸ q, trivial⟩) (i a)) (fun p C dx vs ts A q _ _ i a m => (List.mem_cons.mp m).elim (fun z => ⟨.ins C dx vs, z ▸ q, trivial⟩) (i a))
    (fun p vs ts A q _ _ i a m => (List.mem_cons.mp m).elim (fun z => ⟨.dK vs, z ▸ q, trivial⟩) (i a)) (fun p vs ts A q _ _ i a m => (List.mem_cons.mp m).elim (fun z => ⟨.dT vs, z ▸ q, trivial⟩) (i a)) (fun a m => by cases m) fun v vs t ts A B i j a m => (List.mem_append.mp m).elim (i a) (j a)
/-- laid for good, it is its data -/
theorem own_fr (e : Same F F') : (∀ v t A, Own K F H v t A → (∀ a ∈ A, F' a = H a) → Is K F' v (fr t)) ∧ (∀ vs ts A, OwnA K F H vs ts A → (∀ a ∈ A, F' a = H a) → IsA K F' vs (frA ts)) :=
  own_rec (P := fun v t A => (∀ a ∈ A, F' a = H a) → Is K F' v (fr t)) (R := fun vs ts A => (∀ a ∈ A, F' a = H a) → IsA K F' vs (frA ts)) (fun v d q _ => by rw [fr]; exact q.mono e) (fun p vs ts A q _ i k => by
      rw [fr]
      exact .lst ((k p List.mem_cons_self).trans q) (i fun a m => k a (List.mem_cons_of_mem _ m)))
    (fun p C dx vs ts A q z _ i k => by
      rw [fr]
      exact .obj ((k p List.mem_cons_self).trans q) (z.trans (frS_keys ts).1.symm) (by rw [(frS_keys ts).2]; exact i fun a m => k a (List.mem_cons_of_mem _ m)))
    (fun p vs ts A q z _ i k => by
      rw [fr]
      exact .dic ((k p List.mem_cons_self).trans q) (z.trans (frK_keys ts).1.symm) (by rw [(frK_keys ts).2]; exact i fun a m => k a (List.mem_cons_of_mem _ m)))
    (fun p vs ts A q z _ i k => by
      rw [fr]
      exact .dit ((k p List.mem_cons_self).trans q) (z.trans (frT_keys ts).1.symm) (by rw [(frT_keys ts).2]; exact i fun a m => k a (List.mem_cons_of_mem _ m)))
    (fun _ => by rw [frA]; exact .nil) fun v vs t ts A B i j k => by
      rw [frA]
      exact .cons (i fun a m => k a (List.mem_append_left _ m)) (j fun a m => k a (List.mem_append_right _ m))
theorem Own.fr {v : V} {t : OT} {A : List Addr} (h : Own K F H v t A) (e : Same F F') (k : ∀ a ∈ A, F' a = H a) : Is K F' v (fr t) := (own_fr e).1 v t A h k
theorem Own.lay {v : V} {t : OT} {A : List Addr} (h : Own K F H v t A) (n : ∀ a ∈ A, F a = none) : Is K (lay F H A) v (Dv.fr t) := h.fr (lay_same n) fun _ m => lay_in m
theorem OwnA.length : ∀ {vs : List V} {ts : List OT} {A : List Addr}, OwnA K F H vs ts A → vs.length = ts.length
  | [], _, _, h => by cases h; rfl
  | v :: vs, _, _, h => by
    cases h with
    | cons _ t => exact congrArg Nat.succ (OwnA.length t)
theorem OwnA.fz : ∀ {vs : List V} {ds : List D}, IsA K F vs ds → OwnA K F H vs (ds.map .fz) []
  | [], _, h => by cases h; exact .nil
  | v :: vs, _, h => by
    cases h with
    | cons r t => exact .cons (.fz r) (OwnA.fz t)
theorem OwnA.unfz : ∀ {vs : List V} {ds : List D} {A : List Addr}, OwnA K F H vs (ds.map .fz) A → IsA K F vs ds ∧ A = []
  | _, [], _, h => by
    rw [List.map_nil] at h
    cases h
    exact ⟨.nil, rfl⟩
  | _, d :: ds, _, h => by
    rw [List.map_cons] at h
    cases h with
    | cons r t =>
      cases r with
      | fz r =>
        obtain ⟨h1, h2⟩ := OwnA.unfz t
        exact ⟨.cons r h1, by rw [h2]; rfl⟩
theorem OwnA.append : ∀ {vs us : List V} {ts ss : List OT} {A B : List Addr}, OwnA K F H vs ts A → OwnA K F H us ss B → OwnA K F H (vs ++ us) (ts ++ ss) (A ++ B)
  | [], _, _, _, _, _, h, s => by cases h; exact s
  | v :: vs, _, _, _, _, _, h, s => by
    cases h with
    | cons r t =>
      rw [List.append_assoc]
      exact .cons r (OwnA.append t s)
/-- a part, by its place: it, and what is put there -/
theorem OwnA.at : ∀ {vs : List V} {ts : List OT} {A : List Addr} {i : Nat} {t : OT}, OwnA K F H vs ts A → ts[i]? = some t → ∃ v A1 B A2, vs[i]? = some v ∧ Own K F H v t B ∧ A = A1 ++ (B ++ A2) ∧
    ∀ (F' H' : Hp) (v' : V) (t' : OT) (B' : List Addr), Same F F' → Own K F' H' v' t' B' → (∀ a ∈ A1 ++ A2, ∀ o, H a = some o → H' a = some o) → OwnA K F' H' (vs.set i v') (ts.set i t') (A1 ++ (B' ++ A2))
  | [], _, _, _, _, h, e => by cases h; simp at e
  | v :: vs, _, _, i, t, h, e => by
    cases h with
    | @cons _ _ u ts A B r q =>
      cases i with
      | zero =>
        simp at e
        subst e
        exact ⟨v, [], A, B, rfl, r, rfl, fun F' H' v' t' B' sm h' k => (show OwnA K F' H' (v' :: vs) (t' :: ts) (B' ++ B) from .cons h' (q.mono sm fun a m => k a (by simpa using m)))⟩
      | succ i =>
        obtain ⟨w, A1, B1, A2, e1, e2, e3, e4⟩ := OwnA.at (i := i) (t := t) q (by simpa using e)
        refine ⟨w, A ++ A1, B1, A2, by simpa using e1, e2, by rw [e3, List.append_assoc], fun F' H' v' t' B' sm h' k => ?_⟩
        rw [List.append_assoc]
        refine .cons (r.mono sm fun a m => k a (List.mem_append_left _ (List.mem_append_left _ m))) (e4 F' H' v' t' B' sm h' fun a m => k a ?_)
        rw [List.append_assoc]
        exact List.mem_append_right _ m
end

/-! ### a frame's names -/
/-- un: not looked at; da: data laid for good; ow: a tree of one's own, that may still grow -/
inductive Sl where
  | un | da (d : D) | tr (o : Option Addr) (t : OT)
abbrev Sl.ow (t : OT) : Sl := .tr none t
/-- .. at a known address -/
abbrev Sl.slf (p : Addr) (t : OT) : Sl := .tr (some p) t
/-- a list of one's own of items laid for good -/
def Sl.ol (xs : List D) : Sl := .ow (.lst (xs.map .fz))
def SlotOk (K : PySem.W.Frag) (F H : Hp) (o : Option (Option V)) (s : Sl) (A : List Addr) : Prop := match s with
  | .un => True
  | .da d => ∃ v, o = some (some v) ∧ Is K F v d
  | .tr q t => ∃ v, o = some (some v) ∧ Own K F H v t A ∧ ∀ p, q = some p → v = .ref p
structure Hold (K : PySem.W.Frag) (H0 F H : Hp) (σ : L2.St) (Γ : List Sl) : Prop where
  len : σ.length = Γ.length
  fh : Same F H
  h0 : Same H0 H
  ex : ∃ fp : Nat → List Addr, (∀ (i : Nat) (s : Sl), Γ[i]? = some s → SlotOk K F H σ[i]? s (fp i)) ∧ (∀ i a, a ∈ fp i → F a = none ∧ H0 a = none ∧ ∃ o, H a = some o) ∧ (∀ i, (fp i).Nodup) ∧ (∀ i j a, a ∈ fp i → a ∈ fp j → i = j)
/-- what is laid for good grows, by things that the entry did not know -/
structure Tr (H0 F F' : Hp) : Prop where
  ff : Same F F'
  nf : ∀ a o, H0 a = some o → F a = none → F' a = none
theorem Tr.refl {H0 F : Hp} : Tr H0 F F := ⟨.refl _, fun _ _ _ h => h⟩
theorem Tr.trans {H0 F F1 F2 : Hp} (a : Tr H0 F F1) (b : Tr H0 F1 F2) : Tr H0 F F2 := ⟨a.ff.trans b.ff, fun x o h1 h2 => b.nf x o h1 (a.nf x o h1 h2)⟩
theorem Go.tr {H0 F H F' H' : Hp} (g : Go F H F' H') (h : Same H0 H) : Tr H0 F F' := ⟨g.ff, fun a o h1 h2 => g.nf a o (h a o h1) h2⟩
section
variable {K : PySem.W.Frag} {H0 F H F' H' : Hp} {σ : L2.St} {Γ : List Sl}
theorem Hold.da (h : Hold K H0 F H σ Γ) (i : Nat) (d : D) (e : Γ[i]? = some (.da d)) : ∃ v : V, σ[i]? = some (some v) ∧ Is K F v d := by
  obtain ⟨fp, h1, _⟩ := h.ex
  exact h1 i _ e
/-- a list of one's own -/
theorem Hold.ol (h : Hold K H0 F H σ Γ) (i : Nat) (xs : List D) (e : Γ[i]? = some (.ol xs)) : ∃ (p : Addr) (vs : List V), σ[i]? = some (some (V.ref p)) ∧ F p = none ∧ H0 p = none ∧ H p = some (.lst vs) ∧ IsA K F vs xs := by
  obtain ⟨fp, h1, h2, _⟩ := h.ex
  obtain ⟨v, e1, o, _⟩ := h1 i _ e
  generalize hA : fp i = A at o
  cases o with
  | @lst p vs ts A q r =>
    have m : p ∈ fp i := by rw [hA]; exact List.mem_cons_self
    obtain ⟨n1, n2, _⟩ := h2 i p m
    exact ⟨p, vs, e1, n1, n2, q, r.unfz.1⟩
theorem SlotOk.go (g : Go F H F' H') {o : Option (Option V)} {s : Sl} {A : List Addr} (h : SlotOk K F H o s A) : SlotOk K F' H' o s A := by
  cases s with
  | un => trivial
  | da d =>
    obtain ⟨v, e, r⟩ := h
    exact ⟨v, e, r.mono g.ff⟩
  | tr q t =>
    obtain ⟨v, e, r, z⟩ := h
    exact ⟨v, e, r.mono g.ff fun a _ o q => g.kp a o q, z⟩
theorem Hold.go (h : Hold K H0 F H σ Γ) (g : Go F H F' H') : Hold K H0 F' H' σ Γ := by
  obtain ⟨fp, h1, h2, h3, h4⟩ := h.ex
  refine ⟨h.len, g.fh, h.h0.trans g.kp, fp, fun i s e => (h1 i s e).go g, fun i a m => ?_, h3, h4⟩
  obtain ⟨n1, n2, o, e⟩ := h2 i a m
  exact ⟨g.nf a o e n1, n2, o, g.kp a o e⟩
theorem Hold.tr (h : Hold K H0 F H σ Γ) (g : Go F H F' H') : Tr H0 F F' := g.tr h.h0
theorem set_at {α : Type} {l : List α} {i : Nat} {x y : α} (h : (l.set i x)[i]? = some y) : i < l.length ∧ x = y := by
  have hl : i < l.length := by
    have := (List.getElem?_eq_some_iff.mp h).1
    simpa using this
  rw [List.getElem?_set_self hl] at h
  exact ⟨hl, Option.some.inj h⟩
def fput (fp : Nat → List Addr) (i : Nat) (A : List Addr) : Nat → List Addr := fun j => if j = i then A else fp j
theorem fput_eq {fp : Nat → List Addr} {i j : Nat} {A : List Addr} (h : j = i) : fput fp i A j = A := if_pos h
theorem fput_ne {fp : Nat → List Addr} {i j : Nat} {A : List Addr} (h : j ≠ i) : fput fp i A j = fp j := if_neg h
/-- one slot anew, with its own addresses -/
theorem Hold.put (h : Hold K H0 F H σ Γ) {o : Option V} {s : Sl} {A : List Addr} (i : Nat) (r : i < Γ.length → SlotOk K F H (some o) s A) (n : ∀ a ∈ A, F a = none ∧ H0 a = none ∧ ∃ o, H a = some o) (nd : A.Nodup)
    (fr : ∀ (fp : Nat → List Addr) (j : Nat) (a : Addr), (∀ (i : Nat) (s : Sl), Γ[i]? = some s → SlotOk K F H σ[i]? s (fp i)) → (∀ i a, a ∈ fp i → F a = none ∧ H0 a = none ∧ ∃ o, H a = some o) → (∀ i j a, a ∈ fp i → a ∈ fp j → i = j) → j ≠ i → a ∈ A → a ∉ fp j) : Hold K H0 F H (σ.set i o) (Γ.set i s) := by
  obtain ⟨fp, h1, h2, h3, h4⟩ := h.ex
  refine ⟨by simp [h.len], h.fh, h.h0, fput fp i A, fun j s' e => ?_, fun j a m => ?_, fun j => ?_, fun j k a m1 m2 => ?_⟩
  · by_cases z : i = j
    · subst z
      obtain ⟨hl, e1⟩ := set_at e
      subst e1
      rw [List.getElem?_set_self (by rw [h.len]; exact hl), fput_eq rfl]
      exact r hl
    · rw [List.getElem?_set_ne z] at e ⊢
      rw [fput_ne (Ne.symm z)]
      exact h1 j s' e
  · by_cases z : j = i
    · rw [fput_eq z] at m
      exact n a m
    · rw [fput_ne z] at m
      exact h2 j a m
  · by_cases z : j = i
    · rw [fput_eq z]
      exact nd
    · rw [fput_ne z]
      exact h3 j
  · by_cases z1 : j = i
    · by_cases z2 : k = i
      · exact z1.trans z2.symm
      · rw [fput_eq z1] at m1
        rw [fput_ne z2] at m2
        exact absurd m2 (fr fp k a h1 h2 h4 z2 m1)
    · by_cases z2 : k = i
      · rw [fput_ne z1] at m1
        rw [fput_eq z2] at m2
        exact absurd m1 (fr fp j a h1 h2 h4 z1 m2)
      · rw [fput_ne z1] at m1
        rw [fput_ne z2] at m2
        exact h4 j k a m1 m2
/-- a name is stored: data -/
theorem Hold.setD (h : Hold K H0 F H σ Γ) {v : V} {d : D} (i : Nat) (r : Is K F v d) : Hold K H0 F H (σ.set i (some v)) (Γ.set i (.da d)) :=
  h.put (A := []) i (fun _ => ⟨v, rfl, r⟩) (fun a m => by cases m) List.nodup_nil fun fp j a _ _ _ _ m => by cases m
/-- a name is stored: a new tree of one's own -/
theorem Hold.setN (h : Hold K H0 F H σ Γ) (g : Go F H F' H') {v : V} {t : OT} {A : List Addr} (i : Nat) (r : Own K F' H' v t A) (nd : A.Nodup) (n : ∀ a ∈ A, H a = none ∧ F' a = none) : Hold K H0 F' H' (σ.set i (some v)) (Γ.set i (.ow t)) := by
  obtain ⟨fp, h1, h2, h3, h4⟩ := h.ex
  refine ⟨by simp [h.len], g.fh, h.h0.trans g.kp, fput fp i A, fun j s' e => ?_, fun j a m => ?_, fun j => ?_, fun j k a m1 m2 => ?_⟩
  · by_cases z : i = j
    · subst z
      obtain ⟨hl, e1⟩ := set_at e
      subst e1
      rw [List.getElem?_set_self (by rw [h.len]; exact hl), fput_eq rfl]
      exact ⟨v, rfl, r, fun _ z => nomatch z⟩
    · rw [List.getElem?_set_ne z] at e ⊢
      rw [fput_ne (Ne.symm z)]
      exact (h1 j s' e).go g
  · by_cases z : j = i
    · rw [fput_eq z] at m
      exact ⟨(n a m).2, Same.free h.h0 (n a m).1, r.dom a m⟩
    · rw [fput_ne z] at m
      obtain ⟨n1, n2, o, e⟩ := h2 j a m
      exact ⟨g.nf a o e n1, n2, o, g.kp a o e⟩
  · by_cases z : j = i
    · rw [fput_eq z]
      exact nd
    · rw [fput_ne z]
      exact h3 j
  · have old : ∀ l, a ∈ A → a ∈ fp l → False := fun l q1 q2 => by
      obtain ⟨_, _, o, e⟩ := h2 l a q2
      rw [(n a q1).1] at e
      cases e
    by_cases z1 : j = i
    · by_cases z2 : k = i
      · exact z1.trans z2.symm
      · rw [fput_eq z1] at m1
        rw [fput_ne z2] at m2
        exact (old k m1 m2).elim
    · by_cases z2 : k = i
      · rw [fput_ne z1] at m1
        rw [fput_eq z2] at m2
        exact (old j m2 m1).elim
      · rw [fput_ne z1] at m1
        rw [fput_ne z2] at m2
        exact h4 j k a m1 m2
/-- a tree of one's own is written: within its addresses, or by new ones -/
theorem Hold.mutG (h : Hold K H0 F H σ Γ) {i : Nat} {q : Option Addr} {t : OT} (hi : Γ[i]? = some (.tr q t)) : ∃ v A, σ[i]? = some (some v) ∧ Own K F H v t A ∧ A.Nodup ∧ (∀ a ∈ A, F a = none ∧ H0 a = none) ∧ (∀ p, q = some p → v = .ref p) ∧
    ∀ (F' H' : Hp) (t' : OT) (A' : List Addr), Same F F' → Same F' H' → (∀ a, a ∉ A → ∀ o, H a = some o → F a = none → F' a = none) → Own K F' H' v t' A' → A'.Nodup → (∀ a ∈ A', (a ∈ A ∨ H a = none) ∧ F' a = none) → (∀ a, a ∉ A → ∀ o, H a = some o → H' a = some o) → Hold K H0 F' H' σ (Γ.set i (.tr q t')) := by
  obtain ⟨fp, h1, h2, h3, h4⟩ := h.ex
  obtain ⟨v, e1, r, hq⟩ := h1 i _ hi
  have hl : i < Γ.length := (List.getElem?_eq_some_iff.mp hi).1
  refine ⟨v, fp i, e1, r, h3 i, fun a m => ⟨(h2 i a m).1, (h2 i a m).2.1⟩, hq, fun F' H' t' A' ff fh nf r' nd' n' k => ?_⟩
  have nofp0 : ∀ a o, H0 a = some o → a ∉ fp i := fun a o q m => by
    rw [(h2 i a m).2.1] at q
    cases q
  refine ⟨by simp [h.len], fh, fun a o q => k a (nofp0 a o q) o (h.h0 a o q), fput fp i A', fun j s' e => ?_, fun j a m => ?_, fun j => ?_, fun j l a m1 m2 => ?_⟩
  · by_cases z : i = j
    · subst z
      obtain ⟨_, e2⟩ := set_at e
      subst e2
      rw [fput_eq rfl]
      exact ⟨v, e1, r', hq⟩
    · rw [List.getElem?_set_ne z] at e
      rw [fput_ne (Ne.symm z)]
      have q := h1 j s' e
      cases s' with
      | un => trivial
      | da d =>
        obtain ⟨w, q1, q2⟩ := q
        exact ⟨w, q1, q2.mono ff⟩
      | tr qq u =>
        obtain ⟨w, q1, q2, q3⟩ := q
        exact ⟨w, q1, q2.mono ff fun a m o x => k a (fun m' => z (h4 i j a m' m)) o x, q3⟩
  · by_cases z : j = i
    · rw [fput_eq z] at m
      obtain ⟨q, q2⟩ := n' a m
      refine ⟨q2, ?_, r'.dom a m⟩
      rcases q with q | q
      · exact (h2 i a q).2.1
      · exact Same.free h.h0 q
    · rw [fput_ne z] at m
      obtain ⟨n1, n2, o, x⟩ := h2 j a m
      exact ⟨nf a (fun m' => z (h4 j i a m m')) o x n1, n2, o, k a (fun m' => z (h4 j i a m m')) o x⟩
  · by_cases z : j = i
    · rw [fput_eq z]
      exact nd'
    · rw [fput_ne z]
      exact h3 j
  · have old : ∀ l, l ≠ i → a ∈ A' → a ∈ fp l → False := fun l hl q1 q2 => by
      rcases (n' a q1).1 with q | q
      · exact hl (h4 l i a q2 q)
      · obtain ⟨_, _, o, x⟩ := h2 l a q2
        rw [q] at x
        cases x
    by_cases z1 : j = i
    · by_cases z2 : l = i
      · exact z1.trans z2.symm
      · rw [fput_eq z1] at m1
        rw [fput_ne z2] at m2
        exact (old l z2 m1 m2).elim
    · by_cases z2 : l = i
      · rw [fput_ne z1] at m1
        rw [fput_eq z2] at m2
        exact (old j z1 m2 m1).elim
      · rw [fput_ne z1] at m1
        rw [fput_ne z2] at m2
        exact h4 j l a m1 m2
theorem Hold.mut (h : Hold K H0 F H σ Γ) {i : Nat} {q : Option Addr} {t : OT} (hi : Γ[i]? = some (.tr q t)) : ∃ v A, σ[i]? = some (some v) ∧ Own K F H v t A ∧ A.Nodup ∧ (∀ a ∈ A, F a = none ∧ H0 a = none) ∧ (∀ p, q = some p → v = .ref p) ∧
    ∀ (H' : Hp) (t' : OT) (A' : List Addr), Own K F H' v t' A' → A'.Nodup → (∀ a ∈ A', a ∈ A ∨ (H a = none ∧ F a = none)) → (∀ a, a ∉ A → ∀ o, H a = some o → H' a = some o) → Hold K H0 F H' σ (Γ.set i (.tr q t')) := by
  obtain ⟨v, A, e1, r, nd, n, hq, k⟩ := h.mutG hi
  refine ⟨v, A, e1, r, nd, n, hq, fun H' t' A' r' nd' n' k' => k F H' t' A' (.refl _) (fun a o x => k' a (fun m => by rw [(n a m).1] at x; cases x) o (h.fh a o x)) (fun _ _ _ _ x => x) r' nd' (fun a m => ?_) k'⟩
  rcases n' a m with q | q
  · exact ⟨.inl q, (n a q).1⟩
  · exact ⟨.inr q.1, q.2⟩
/-- a list of one's own, its items laid for good, is written -/
theorem Hold.write (h : Hold K H0 F H σ Γ) {p : Addr} {us : List V} {xs ys : List D} {i : Nat} (hi : Γ[i]? = some (.ol xs)) (hp : σ[i]? = some (some (.ref p))) (r : IsA K F us ys) : Hold K H0 F (upd H p (.lst us)) σ (Γ.set i (.ol ys)) := by
  obtain ⟨v, A, e1, o, nd, n, _, k⟩ := h.mut hi
  rw [hp] at e1
  cases e1
  cases o with
  | @lst _ vs ts A q w =>
    obtain ⟨w1, w2⟩ := w.unfz
    subst w2
    refine k _ _ [p] (.lst upd_same (.fz r)) (by simp) (fun a m => .inl m) fun a m o x => ?_
    rw [upd_ne (fun z => m (by rw [z]; exact List.mem_cons_self))]
    exact x
/-- forgetting -/
inductive Sub : List Sl → List Sl → Prop
  | nil : Sub [] []
  | un {s : Sl} {a b : List Sl} : Sub a b → Sub (s :: a) (.un :: b)
  | eq {s t : Sl} {a b : List Sl} : s = t → Sub a b → Sub (s :: a) (t :: b)
theorem Sub.refl : ∀ (a : List Sl), Sub a a
  | [] => .nil
  | _ :: a => .eq rfl (Sub.refl a)
theorem Sub.length {a b : List Sl} (h : Sub a b) : a.length = b.length := by
  induction h with
  | nil => rfl
  | un _ ih => exact congrArg Nat.succ ih
  | eq _ _ ih => exact congrArg Nat.succ ih
theorem Sub.get {a b : List Sl} (h : Sub a b) : ∀ {i : Nat} {s : Sl}, b[i]? = some s → s = .un ∨ a[i]? = some s := by
  induction h with
  | nil => intro i s e; simp at e
  | un _ ih =>
    intro i s e
    cases i with
    | zero => simp at e; exact .inl e.symm
    | succ i => simp at e; simpa using ih e
  | eq q _ ih =>
    intro i s e
    cases i with
    | zero => simp at e; subst q; subst e; exact .inr (by simp)
    | succ i => simp at e; simpa using ih e
theorem Hold.sub {Γ' : List Sl} (h : Hold K H0 F H σ Γ) (s : Sub Γ Γ') : Hold K H0 F H σ Γ' := by
  obtain ⟨fp, h1, h2, h3, h4⟩ := h.ex
  refine ⟨h.len.trans s.length, h.fh, h.h0, fp, fun i s' e => ?_, h2, h3, h4⟩
  rcases s.get e with z | z
  · subst z
    trivial
  · exact h1 i s' z
/-- a tree of one's own is laid for good -/
theorem Hold.freeze (h : Hold K H0 F H σ Γ) {i : Nat} {q : Option Addr} {t : OT} (hi : Γ[i]? = some (.tr q t)) : ∃ F', Tr H0 F F' ∧ Same F' H ∧ (∀ a o, F' a = some o → F a = none → H a = some o) ∧ Hold K H0 F' H σ (Γ.set i (.da (fr t))) := by
  obtain ⟨fp, h1, h2, h3, h4⟩ := h.ex
  obtain ⟨v, e1, r, _⟩ := h1 i _ hi
  have hl : i < Γ.length := (List.getElem?_eq_some_iff.mp hi).1
  have nF : ∀ a ∈ fp i, F a = none := fun a m => (h2 i a m).1
  have sm : Same F (lay F H (fp i)) := lay_same nF
  refine ⟨lay F H (fp i), ⟨sm, fun a o q r => ?_⟩, lay_sub h.fh, fun a o q _ => lay_sub h.fh a o q, by simp [h.len], lay_sub h.fh, h.h0, fput fp i [], fun j s' e => ?_, fun j a m => ?_, fun j => ?_, fun j l a m1 m2 => ?_⟩
  · rw [lay_out fun m => by rw [(h2 i a m).2.1] at q; cases q]
    exact r
  · by_cases z : i = j
    · subst z
      obtain ⟨_, e2⟩ := set_at e
      subst e2
      exact ⟨v, e1, r.lay nF⟩
    · rw [List.getElem?_set_ne z] at e
      rw [fput_ne (Ne.symm z)]
      have q := h1 j s' e
      cases s' with
      | un => trivial
      | da d =>
        obtain ⟨w, q1, q2⟩ := q
        exact ⟨w, q1, q2.mono sm⟩
      | tr qq u =>
        obtain ⟨w, q1, q2, q3⟩ := q
        exact ⟨w, q1, q2.mono sm fun _ _ _ x => x, q3⟩
  · by_cases z : j = i
    · rw [fput_eq z] at m
      cases m
    · rw [fput_ne z] at m
      obtain ⟨n1, n2, n3⟩ := h2 j a m
      refine ⟨?_, n2, n3⟩
      rw [lay_out fun m' => z (h4 j i a m m')]
      exact n1
  · by_cases z : j = i
    · rw [fput_eq z]
      exact List.nodup_nil
    · rw [fput_ne z]
      exact h3 j
  · by_cases z1 : j = i
    · rw [fput_eq z1] at m1
      cases m1
    · by_cases z2 : l = i
      · rw [fput_eq z2] at m2
        cases m2
      · rw [fput_ne z1] at m1
        rw [fput_ne z2] at m2
        exact h4 j l a m1 m2
theorem Hold.wipe (h : Hold K H0 F H σ Γ) (j : Nat) : Hold K H0 F H (σ.set j none) (Γ.set j .un) :=
  h.put (o := none) (A := []) j (fun _ => trivial) (fun a m => by cases m) List.nodup_nil fun fp j a _ _ _ _ m => by cases m
end
theorem fr_ol {xs : List D} : fr (.lst (xs.map .fz)) = .lst xs := by rw [fr, frA_fz]
end Dv

namespace Dv
open PySem PySem.Spec PyProof.Rows L2

section
variable {X : Cx}
theorem wkE {e : Expr} {t t' : TE} (h : PE X e t) (k : ∀ σ H Q, t' σ H Q → t σ H Q) : PE X e t' := ⟨fun pins s σ H Q I q => h.run pins s σ H Q I (k σ H Q q)⟩
theorem wkT {e : Expr} {t t' : TT} (h : PT X e t) (k : ∀ σ H Q, t' σ H Q → t σ H Q) : PT X e t' := ⟨fun pins s σ H Q I q => h.run pins s σ H Q I (k σ H Q q)⟩
theorem wkW {e : Expr} {t t' : TT} (h : PW X e t) (k : ∀ σ H Q, t' σ H Q → t σ H Q) : PW X e t' := ⟨fun wh pins s σ H Q I q => h.run wh pins s σ H Q I (k σ H Q q)⟩
theorem wkA {e : List Expr} {t t' : TA} (h : PA X e t) (k : ∀ σ H Q, t' σ H Q → t σ H Q) : PA X e t' := ⟨fun pos pins s σ H Q I q => h.run pos pins s σ H Q I (k σ H Q q)⟩
theorem wkO {e : Option Expr} {t t' : TO} (h : PO X e t) (k : ∀ σ H Q, t' σ H Q → t σ H Q) : PO X e t' := ⟨fun pins s σ H Q I q => h.run pins s σ H Q I (k σ H Q q)⟩
theorem wkI {tg e : Expr} {t t' : TI} (h : PI X tg e t) (k : ∀ σ H Q, t' σ H Q → t σ H Q) : PI X tg e t' := ⟨fun pins s σ H Q I q => h.run pins s σ H Q I (k σ H Q q)⟩
theorem wkS {e : Stmt} {t t' : TS} (h : PS X e t) (k : ∀ D σ H, t' D σ H → t D σ H) : PS X e t' := ⟨fun pins s σ H D I q => h.run pins s σ H D I (k D σ H q)⟩
theorem wkSs {e : List Stmt} {t t' : TS} (h : PSs X e t) (k : ∀ D σ H, t' D σ H → t D σ H) : PSs X e t' := ⟨fun pins s σ H D I q => h.run pins s σ H D I (k D σ H q)⟩
end

section
variable (K : PySem.W.Frag) (H0 : Hp) (Γ : List Sl)
def rEv (d : D) : TE := fun σ H Q => ∃ F, Hold K H0 F H σ Γ ∧ ∀ v F' H', Go F H F' H' → Is K F' v d → Q v H'
/-- a new list of one's own -/
def rEo (xs : List D) : TE := fun σ H Q => ∃ F, Hold K H0 F H σ Γ ∧ ∀ p vs F' H', Go F H F' H' → H p = none → F' p = none → H' p = some (.lst vs) → IsA K F' vs xs → Q (.ref p) H'
/-- a list to be read -/
def rEr (xs : List D) : TE := fun σ H Q => ∃ F, Hold K H0 F H σ Γ ∧ ∀ p vs F' H', Go F H F' H' → H' p = some (.lst vs) → IsA K F' vs xs → Q (.ref p) H'
/-- a new tree of one's own -/
def rEn (t : OT) : TE := fun σ H Q => ∃ F, Hold K H0 F H σ Γ ∧ ∀ v A F' H', Go F H F' H' → Own K F' H' v t A → A.Nodup → (∀ a ∈ A, H a = none ∧ F' a = none) → Q v H'
def rEt (b : Bool) : TT := fun σ H Q => ∃ F, Hold K H0 F H σ Γ ∧ ∀ F' H', Go F H F' H' → Q b H'
def rEa (ds : List D) : TA := fun σ H Q => ∃ F, Hold K H0 F H σ Γ ∧ ∀ vs F' H', Go F H F' H' → IsA K F' vs ds → Q vs H'
def rEp (o : Option Int) : TO := fun σ H Q => ∃ F, Hold K H0 F H σ Γ ∧ ∀ F' H', Go F H F' H' → Q o H'
end
def Ev (X : Cx) (H0 : Hp) (Γ : List Sl) (e : Expr) (d : D) : Prop := PE X e (rEv X.K H0 Γ d)
def Eo (X : Cx) (H0 : Hp) (Γ : List Sl) (e : Expr) (xs : List D) : Prop := PE X e (rEo X.K H0 Γ xs)
def En (X : Cx) (H0 : Hp) (Γ : List Sl) (e : Expr) (t : OT) : Prop := PE X e (rEn X.K H0 Γ t)
def Er (X : Cx) (H0 : Hp) (Γ : List Sl) (e : Expr) (xs : List D) : Prop := PE X e (rEr X.K H0 Γ xs)
def Et (X : Cx) (H0 : Hp) (Γ : List Sl) (e : Expr) (b : Bool) : Prop := PT X e (rEt X.K H0 Γ b)
def Ew (X : Cx) (H0 : Hp) (Γ : List Sl) (e : Expr) (b : Bool) : Prop := PW X e (rEt X.K H0 Γ b)
def Ea (X : Cx) (H0 : Hp) (Γ : List Sl) (es : List Expr) (ds : List D) : Prop := PA X es (rEa X.K H0 Γ ds)
def Ep (X : Cx) (H0 : Hp) (Γ : List Sl) (e : Option Expr) (o : Option Int) : Prop := PO X e (rEp X.K H0 Γ o)
/-- a comparison -/
def Ec (X : Cx) (H0 : Hp) (Γ : List Sl) (op : CmpOp) (a b : Expr) (k : Bool) : Prop :=
  ∃ r ta tb, OpR X (compareOp op) r ∧ PE X a ta ∧ PE X b tb ∧ ∀ σ H (Q : VK), (∃ F, Hold X.K H0 F H σ Γ ∧ ∀ F' H', Go F H F' H' → Q (.bl k) H') → tOp r ta tb σ H Q

theorem atI_is {K : PySem.W.Frag} {F : Hp} {vs : List V} {ds : List D} {i : Int} {d : D} (h : IsA K F vs ds) (e : atI ds i = some d) : ∃ v, atI vs i = some v ∧ Is K F v d := by
  unfold atI at e ⊢
  rw [h.length]
  cases q : ixN ds.length i with
  | none =>
    rw [q] at e
    cases e
  | some j =>
    rw [q] at e
    exact h.get e
theorem atI_map {α β : Type} {f : α → β} {xs : List α} {i : Int} {x : α} (e : atI xs i = some x) : atI (xs.map f) i = some (f x) := by
  unfold atI at e ⊢
  rw [List.length_map]
  cases q : ixN xs.length i with
  | none =>
    rw [q] at e
    cases e
  | some j =>
    rw [q] at e
    have e' : xs[j]? = some x := e
    show (xs.map f)[j]? = some (f x)
    rw [List.getElem?_map, e']
    rfl
/-- a slice -/
def cutL {α : Type} (xs : List α) (lo hi : Option Int) : List α := (xs.drop (HT.sIx xs.length 0 lo)).take (HT.sIx xs.length xs.length hi - HT.sIx xs.length 0 lo)
theorem cutL_is {K : PySem.W.Frag} {F : Hp} {vs : List V} {ds : List D} (h : IsA K F vs ds) (lo hi : Option Int) : IsA K F (cutV vs lo hi) (cutL ds lo hi) := by
  unfold cutV cutL
  rw [h.length]
  exact (h.drop _).take _

section
variable {X : Cx} {H0 : Hp} {Γ : List Sl} {a b c e : Expr} {d d1 d2 : D} {xs ys : List D} {pos : Pos}

/-! ### names, constants -/
theorem ev_i {i j} : Ev X H0 Γ (.Constant (.int i) j pos) (.int i) := wkE pe_int fun _ H _ ⟨F, h, k⟩ => k _ F H (.refl h.fh) (.int i)
theorem ev_b {i j} : Ev X H0 Γ (.Constant (.bool i) j pos) (.bl i) := wkE pe_bl fun _ H _ ⟨F, h, k⟩ => k _ F H (.refl h.fh) (.bl i)
theorem ev_n {j} : Ev X H0 Γ (.Constant .none j pos) .non := wkE pe_non fun _ H _ ⟨F, h, k⟩ => k _ F H (.refl h.fh) .non
theorem ev_s {i j} : Ev X H0 Γ (.Constant (.str i) j pos) (.str i) := wkE pe_str fun _ H _ ⟨F, h, k⟩ => k _ F H (.refl h.fh) (.str i)
theorem ev_v (i : Nat) {x : Str} (hΓ : Γ[i]? = some (.da d) := by rfl) (hN : X.N[i]? = some x := by rfl) (hv : Vis X.env.scope x := by first | exact Or.inl rfl | exact Or.inr (Or.inl rfl) | exact Or.inr (Or.inr rfl)) (hd : (x == ("__debug__" : Str)) = false := by decide)
    (hcd : (x == ("__classdict__" : Str)) = false := by decide) : Ev X H0 Γ (.Name x pos) d := wkE (pe_var (i := i) hN hv hd hcd) fun σ H Q ⟨F, h, k⟩ => by
  obtain ⟨v, e1, e2⟩ := h.da i d hΓ
  exact ⟨v, e1, k v F H (.refl h.fh) e2⟩
theorem er_v (i : Nat) {x : Str} (hΓ : Γ[i]? = some (.ol xs) := by rfl) (hN : X.N[i]? = some x := by rfl) (hv : Vis X.env.scope x := by first | exact Or.inl rfl | exact Or.inr (Or.inl rfl) | exact Or.inr (Or.inr rfl)) (hd : (x == ("__debug__" : Str)) = false := by decide)
    (hcd : (x == ("__classdict__" : Str)) = false := by decide) : Er X H0 Γ (.Name x pos) xs := wkE (pe_var (i := i) hN hv hd hcd) fun σ H Q ⟨F, h, k⟩ => by
  obtain ⟨p, vs, e1, e2, e3, e4, e5⟩ := h.ol i xs hΓ
  exact ⟨_, e1, k p vs F H (.refl h.fh) e4 e5⟩
/-- a constant of the module -/
theorem ev_g {x : Str} {v : V} {u : Value} (hm : X.mg x = some u) (r : RelV v u) (hd : ∀ F, Is X.K F v d) (hg : Gl X x := by rfl) (hdb : (x == ("__debug__" : Str)) = false := by decide) : Ev X H0 Γ (.Name x pos) d :=
  wkE (pe_glob hg hm r hdb) fun _ H _ ⟨F, h, k⟩ => k _ F H (.refl h.fh) (hd F)
theorem ev_gS {x : Str} {t : Tok} {s : Str} (hm : X.mg x = some (.str s t)) (hg : Gl X x := by rfl) (hdb : (x == ("__debug__" : Str)) = false := by decide) : Ev X H0 Γ (.Name x pos) (.str s) := ev_g (v := .str s) hm ⟨_, rfl⟩ (fun _ => .str s) hg hdb
theorem ev_gI {x : Str} {t : Tok} {s : Int} (hm : X.mg x = some (.int s t)) (hg : Gl X x := by rfl) (hdb : (x == ("__debug__" : Str)) = false := by decide) : Ev X H0 Γ (.Name x pos) (.int s) := ev_g (v := .int s) hm ⟨_, rfl⟩ (fun _ => .int s) hg hdb

theorem ev_o (h : Eo X H0 Γ e xs) : Ev X H0 Γ e (.lst xs) := wkE h fun σ H Q ⟨F, h, k⟩ => ⟨F, h, fun p vs F' H' g n1 n2 e1 e2 => by
  have g' := g.lay (A := [p]) fun a m => by
    cases List.mem_singleton.mp m
    exact ⟨n1, n2⟩
  exact k _ _ H' g' (.lst ((lay_in (List.mem_singleton.mpr rfl)).trans e1) (e2.mono (lay_same fun a m => by
    cases List.mem_singleton.mp m
    exact n2)))⟩
theorem en_o (h : Eo X H0 Γ e xs) : En X H0 Γ e (.lst (xs.map .fz)) := wkE h fun σ H Q ⟨F, h, k⟩ => ⟨F, h, fun p vs F' H' g n1 n2 e1 e2 => k _ [p] F' H' g (.lst e1 (.fz e2)) (by simp) fun a m => by
  cases List.mem_singleton.mp m
  exact ⟨n1, n2⟩⟩
theorem ev_new {t : OT} (h : En X H0 Γ e t) : Ev X H0 Γ e (fr t) := wkE h fun σ H Q ⟨F, h, k⟩ => ⟨F, h, fun v A F' H' g o nd n => k v _ H' (g.lay n) (o.lay fun a m => (n a m).2)⟩
theorem er_d (h : Ev X H0 Γ e (.lst xs)) : Er X H0 Γ e xs := wkE h fun σ H Q ⟨F, h, k⟩ => ⟨F, h, fun v F' H' g r => by
  cases r with
  | lst e1 e2 => exact k _ _ F' H' g (g.fh _ _ e1) e2⟩
theorem er_o (h : Eo X H0 Γ e xs) : Er X H0 Γ e xs := wkE h fun σ H Q ⟨F, h, k⟩ => ⟨F, h, fun p vs F' H' g n1 n2 e1 e2 => k p vs F' H' g e1 e2⟩
theorem ev_eq (h : Ev X H0 Γ e d1) (q : d1 = d2) : Ev X H0 Γ e d2 := q ▸ h
theorem eo_eq (h : Eo X H0 Γ e xs) (q : xs = ys) : Eo X H0 Γ e ys := q ▸ h
theorem er_eq (h : Er X H0 Γ e xs) (q : xs = ys) : Er X H0 Γ e ys := q ▸ h
theorem et_eq {k k' : Bool} (h : Et X H0 Γ e k) (q : k = k') : Et X H0 Γ e k' := q ▸ h

/-! ### arguments -/
theorem ea_nil : Ea X H0 Γ [] [] := wkA pa_nil fun σ H Q ⟨F, h, k⟩ => k [] F H (.refl h.fh) .nil
theorem ea_cons {es : List Expr} {ds : List D} (h1 : Ev X H0 Γ e d) (h2 : Ea X H0 Γ es ds) (hs : starEach (e :: es) X.env = (false, eval e X.env) :: starEach es X.env := by rfl) : Ea X H0 Γ (e :: es) (d :: ds) :=
  wkA (pa_cons h1 h2 hs) fun σ H Q ⟨F, h, k⟩ => ⟨F, h, fun v F1 H1 g1 r1 => ⟨F1, h.go g1, fun vs F2 H2 g2 r2 => k (v :: vs) F2 H2 (g1.trans g2) (.cons (r1.mono g2.ff) r2)⟩⟩

/-! ### operators -/
theorem ev_op {op : Operator} {r : R2} (ho : OpR X (binaryOp op) r) (ha : Ev X H0 Γ a d1) (hb : Ev X H0 Γ b d2)
    (hr : ∀ F H x y (Q : VK), Same F H → Is X.K F x d1 → Is X.K F y d2 → (∀ v F' H', Go F H F' H' → Is X.K F' v d → Q v H') → r x y H Q) : Ev X H0 Γ (.BinOp a op b pos) d :=
  wkE (pe_op ho ha hb) fun σ H Q ⟨F, h, k⟩ => ⟨F, h, fun x F1 H1 g1 r1 => ⟨F1, h.go g1, fun y F2 H2 g2 r2 => hr F2 H2 x y Q g2.fh (r1.mono g2.ff) r2 fun v F' H' g3 r3 => k v F' H' ((g1.trans g2).trans g3) r3⟩⟩
theorem ev_opI0 {op : Operator} {g : Int → Int → Int} {i j : Int} (ho : OpR X (binaryOp op) (rI0 fun i j => .int (g i j))) (ha : Ev X H0 Γ a (.int i)) (hb : Ev X H0 Γ b (.int j)) : Ev X H0 Γ (.BinOp a op b pos) (.int (g i j)) :=
  ev_op ho ha hb fun F H x y Q sm r1 r2 k => by
    cases r1
    cases r2
    exact ⟨i, j, rfl, rfl, k _ F H (.refl sm) (.int _)⟩
theorem ev_opI {op : Operator} {C : Int → Int → Prop} {g : Int → Int → Int} {i j : Int} (ho : OpR X (binaryOp op) (rI C fun i j => .int (g i j))) (ha : Ev X H0 Γ a (.int i)) (hb : Ev X H0 Γ b (.int j)) (hc : C i j) : Ev X H0 Γ (.BinOp a op b pos) (.int (g i j)) :=
  ev_op ho ha hb fun F H x y Q sm r1 r2 k => by
    cases r1
    cases r2
    exact ⟨i, j, rfl, rfl, hc, k _ F H (.refl sm) (.int _)⟩
theorem ev_add {i j : Int} (ha : Ev X H0 Γ a (.int i)) (hb : Ev X H0 Γ b (.int j)) : Ev X H0 Γ (.BinOp a .Add b pos) (.int (i + j)) := ev_opI0 op_add ha hb
theorem ev_sub {i j : Int} (ha : Ev X H0 Γ a (.int i)) (hb : Ev X H0 Γ b (.int j)) : Ev X H0 Γ (.BinOp a .Sub b pos) (.int (i - j)) := ev_opI0 op_sub ha hb
/-- one factor below 2 ^ 64 -/
theorem ev_mul {i j : Int} (ha : Ev X H0 Γ a (.int i)) (hb : Ev X H0 Γ b (.int j)) (hc : CMul i j := by first | exact .inl ⟨by omega, by omega⟩ | exact .inr ⟨by omega, by omega⟩) : Ev X H0 Γ (.BinOp a .Mult b pos) (.int (i * j)) := ev_opI op_mul ha hb hc
theorem ev_div {i j : Int} (ha : Ev X H0 Γ a (.int i)) (hb : Ev X H0 Γ b (.int j)) (hc : CDiv i j := by exact ⟨by omega, by omega⟩) : Ev X H0 Γ (.BinOp a .FloorDiv b pos) (.int (i / j)) := ev_opI op_fdiv ha hb hc
theorem ev_mod {i j : Int} (ha : Ev X H0 Γ a (.int i)) (hb : Ev X H0 Γ b (.int j)) (hc : 0 < j := by omega) : Ev X H0 Γ (.BinOp a .Mod b pos) (.int (i % j)) := ev_opI op_mod ha hb hc
theorem ev_pow {i j : Int} (ha : Ev X H0 Γ a (.int i)) (hb : Ev X H0 Γ b (.int j)) (hc : CPow i j := by exact ⟨by omega, by omega, by decide⟩) : Ev X H0 Γ (.BinOp a .Pow b pos) (.int (i ^ j.toNat)) := ev_opI op_pow ha hb hc
theorem ev_neg {i : Int} (ha : Ev X H0 Γ a (.int i)) : Ev X H0 Γ (.UnaryOp .USub a pos) (.int (-i)) :=
  wkE (pe_un un_neg ha) fun σ H Q ⟨F, h, k⟩ => ⟨F, h, fun x F1 H1 g1 r1 => by
    cases r1
    exact ⟨i, rfl, k _ F1 H1 g1 (.int _)⟩⟩
theorem ev_addS {s t : Str} (ha : Ev X H0 Γ a (.str s)) (hb : Ev X H0 Γ b (.str t)) (hz : s.length + t.length ≤ sizeLine) : Ev X H0 Γ (.BinOp a .Add b pos) (.str (s ++ t)) :=
  ev_op op_add_str ha hb fun F H x y Q sm r1 r2 k => by
    cases r1
    cases r2
    exact ⟨s, t, rfl, rfl, hz, k _ F H (.refl sm) (.str _)⟩
/-- two lists in a row -/
theorem eo_cat (ha : Er X H0 Γ a xs) (hb : Er X H0 Γ b ys) (hz : xs.length + ys.length ≤ sizeLine) : Eo X H0 Γ (.BinOp a .Add b pos) (xs ++ ys) :=
  wkE (pe_op op_cat ha hb) fun σ H Q ⟨F, h, k⟩ => ⟨F, h, fun p vs F1 H1 g1 e1 r1 => ⟨F1, h.go g1, fun q us F2 H2 g2 e2 r2 =>
    ⟨p, q, vs, us, rfl, rfl, g2.kp _ _ e1, e2, by rw [r1.length, r2.length]; exact hz, fun n hn => k n _ F2 _ ((g1.trans g2).trans (.newH g2.fh hn)) (Same.free (g1.trans g2).kp hn) (Same.free g2.fh hn) upd_same ((r1.mono g2.ff).append r2)⟩⟩⟩
theorem eo_rep {n : Int} (ha : Er X H0 Γ a xs) (hb : Ev X H0 Γ b (.int n)) (h1 : -(2 ^ 63) ≤ n ∧ n < 2 ^ 63) (hz : xs.length * n.toNat ≤ sizeLine) : Eo X H0 Γ (.BinOp a .Mult b pos) (List.replicate n.toNat xs).flatten :=
  wkE (pe_op op_rep ha hb) fun σ H Q ⟨F, h, k⟩ => ⟨F, h, fun p vs F1 H1 g1 e1 r1 => ⟨F1, h.go g1, fun y F2 H2 g2 r2 => by
    cases r2
    exact ⟨p, n, vs, rfl, rfl, g2.kp _ _ e1, h1.1, h1.2, by rw [r1.length]; exact hz, fun q hn => k q _ F2 _ ((g1.trans g2).trans (.newH g2.fh hn)) (Same.free (g1.trans g2).kp hn) (Same.free g2.fh hn) upd_same ((r1.mono g2.ff).rep _)⟩⟩⟩

/-! ### displays -/
theorem eo_lst {es : List Expr} (h : Ea X H0 Γ es xs) (hz : xs.length ≤ sizeLine := by exact Nat.le_of_ble_eq_true rfl) : Eo X H0 Γ (.List es pos) xs :=
  wkE (pe_lst h) fun σ H Q ⟨F, h, k⟩ => ⟨F, h, fun vs F1 H1 g1 r1 => ⟨by rw [r1.length]; exact hz, fun p hp => k p vs F1 _ (g1.trans (.newH g1.fh hp)) (Same.free g1.kp hp) (Same.free g1.fh hp) upd_same r1⟩⟩
theorem ev_tup {es : List Expr} {x1} (h : Ea X H0 Γ es xs) (hz : xs.length ≤ sizeLine := by exact Nat.le_of_ble_eq_true rfl) : Ev X H0 Γ (.Tuple es x1 pos) (.tup xs) :=
  wkE (pe_tup h) fun σ H Q ⟨F, h, k⟩ => ⟨F, h, fun vs F1 H1 g1 r1 => ⟨by rw [r1.length]; exact hz, fun p hp => k _ _ _ (g1.trans (.newF g1.fh hp)) (.tup upd_same (r1.mono (same_new (Same.free g1.fh hp))))⟩⟩

/-! ### subscripts, slices -/
theorem ev_ix {i : Int} (ha : Er X H0 Γ a xs) (hb : Ev X H0 Γ b (.int i)) (e : atI xs i = some d) (hs : PlainIx b := by exact fun _ _ => rfl) : Ev X H0 Γ (.Subscript a b pos) d :=
  wkE (pe_ix ix_list ha hb hs) fun σ H Q ⟨F, h, k⟩ => ⟨F, h, fun p vs F1 H1 g1 e1 r1 => ⟨F1, h.go g1, fun y F2 H2 g2 r2 => by
    cases r2
    obtain ⟨v, q1, q2⟩ := atI_is (r1.mono g2.ff) e
    exact ⟨p, vs, i, v, rfl, rfl, .of (g2.kp _ _ e1), q1, k v F2 H2 (g1.trans g2) q2⟩⟩⟩
theorem ev_ixT {i : Int} (ha : Ev X H0 Γ a (.tup xs)) (hb : Ev X H0 Γ b (.int i)) (e : atI xs i = some d) (hs : PlainIx b := by exact fun _ _ => rfl) : Ev X H0 Γ (.Subscript a b pos) d :=
  wkE (pe_ix ix_tup ha hb hs) fun σ H Q ⟨F, h, k⟩ => ⟨F, h, fun x F1 H1 g1 r1 => ⟨F1, h.go g1, fun y F2 H2 g2 r2 => by
    cases r2
    cases r1 with
    | tup e1 r1 =>
      obtain ⟨v, q1, q2⟩ := atI_is (r1.mono g2.ff) e
      exact ⟨_, _, i, v, rfl, rfl, sqt_up (g2.ff.trans g2.fh) e1, q1, k v F2 H2 (g1.trans g2) q2⟩⟩⟩
theorem ev_ixC {ns : List Int} {i n : Int} (ha : Ev X H0 Γ a (.scr ns)) (hb : Ev X H0 Γ b (.int i)) (e : atI ns i = some n) (hs : PlainIx b := by exact fun _ _ => rfl) : Ev X H0 Γ (.Subscript a b pos) (.int n) :=
  wkE (pe_ix ix_list ha hb hs) fun σ H Q ⟨F, h, k⟩ => ⟨F, h, fun x F1 H1 g1 r1 => ⟨F1, h.go g1, fun y F2 H2 g2 r2 => by
    cases r2
    cases r1 with
    | scr e1 => exact ⟨_, _, i, _, rfl, rfl, Same.seq (g2.ff.trans g2.fh) e1, atI_map e, k _ F2 H2 (g1.trans g2) (.int n)⟩⟩⟩
theorem ev_ixS {s : Str} {i : Int} {c : Nat} (ha : Ev X H0 Γ a (.str s)) (hb : Ev X H0 Γ b (.int i)) (e : atI s.cps.toList i = some c) (hz : s.length ≤ sizeLine) (hs : PlainIx b := by exact fun _ _ => rfl) : Ev X H0 Γ (.Subscript a b pos) (.str ⟨#[c]⟩) :=
  wkE (pe_ix ix_str ha hb hs) fun σ H Q ⟨F, h, k⟩ => ⟨F, h, fun x F1 H1 g1 r1 => ⟨F1, h.go g1, fun y F2 H2 g2 r2 => by
    cases r2
    cases r1
    exact ⟨s, i, c, rfl, rfl, hz, e, k _ F2 H2 (g1.trans g2) (.str _)⟩⟩⟩
theorem ep_n : Ep X H0 Γ none none := wkO po_none fun σ H Q ⟨F, h, k⟩ => k F H (.refl h.fh)
theorem ep_s {i : Int} (h : Ev X H0 Γ e (.int i)) : Ep X H0 Γ (some e) (some i) := wkO (po_some h) fun σ H Q ⟨F, h, k⟩ => ⟨F, h, fun v F1 H1 g1 r1 => by
  cases r1
  exact ⟨i, rfl, k F1 H1 g1⟩⟩
theorem eo_sl {lo hi : Option Expr} {l u : Option Int} {p2 : Pos} (he : Er X H0 Γ e xs) (hl : Ep X H0 Γ lo l) (hu : Ep X H0 Γ hi u) : Eo X H0 Γ (.Subscript e (.Slice lo hi none p2) pos) (cutL xs l u) :=
  wkE (pe_slice sl_list he hl hu) fun σ H Q ⟨F, h, k⟩ => ⟨F, h, fun p vs F1 H1 g1 e1 r1 => ⟨F1, h.go g1, fun F2 H2 g2 => ⟨F2, (h.go g1).go g2, fun F3 H3 g3 =>
    ⟨p, vs, rfl, .of (g3.kp _ _ (g2.kp _ _ e1)), fun q hq => k q _ F3 _ (((g1.trans g2).trans g3).trans (.newH g3.fh hq)) (Same.free ((g1.trans g2).trans g3).kp hq) (Same.free g3.fh hq) upd_same (cutL_is (r1.mono (g2.ff.trans g3.ff)) l u)⟩⟩⟩⟩
theorem ev_slS {lo hi : Option Expr} {l u : Option Int} {p2 : Pos} {s : Str} (he : Ev X H0 Γ e (.str s)) (hl : Ep X H0 Γ lo l) (hu : Ep X H0 Γ hi u) (hz : s.length ≤ sizeLine) : Ev X H0 Γ (.Subscript e (.Slice lo hi none p2) pos) (.str (cutS s l u)) :=
  wkE (pe_slice sl_str he hl hu) fun σ H Q ⟨F, h, k⟩ => ⟨F, h, fun v F1 H1 g1 r1 => ⟨F1, h.go g1, fun F2 H2 g2 => ⟨F2, (h.go g1).go g2, fun F3 H3 g3 => by
    cases r1
    exact ⟨s, rfl, hz, k _ F3 H3 ((g1.trans g2).trans g3) (.str _)⟩⟩⟩⟩

/-! ### built-ins -/
theorem ev_cb {id : String} {r : List V → Hp → VK → Prop} {x : Str} {p : Pos} {es : List Expr} {ds : List D} (hc : CallR X (.builtin id) r) (hm : X.mg x = none) (hv : bootBuiltins x = some (.builtin id)) (ha : Ea X H0 Γ (e :: es) ds)
    (hr : ∀ F H vs (Q : VK), Same F H → IsA X.K F vs ds → (∀ v F' H', Go F H F' H' → Is X.K F' v d → Q v H') → r vs H Q) (hg : Gl X x := by rfl) (hn : x ≠ "__name__" := by decide) (hdb : (x == ("__debug__" : Str)) = false := by decide)
    (he : starEach (e :: es) X.env = (false, eval e X.env) :: starEach es X.env := by rfl) (hpl : (backTo pos (starEach es X.env)).any (·.1) = false := by rfl) : Ev X H0 Γ (.Call (.Name x p) (e :: es) [] pos) d :=
  wkE (pe_callB hc hg hm hv ha hn hdb he hpl) fun σ H Q ⟨F, h, k⟩ => ⟨F, h, fun vs F1 H1 g1 r1 => hr F1 H1 vs Q g1.fh r1 fun v F' H' g2 r2 => k v F' H' (g1.trans g2) r2⟩
theorem ev_ct {T : String} {r : List V → Hp → VK → Prop} {x : Str} {p : Pos} {es : List Expr} {ds : List D} (hc : CallR X (.type T) r) (hm : X.mg x = none) (hv : bootBuiltins x = some (.type T)) (ha : Ea X H0 Γ (e :: es) ds)
    (hr : ∀ F H vs (Q : VK), Same F H → IsA X.K F vs ds → (∀ v F' H', Go F H F' H' → Is X.K F' v d → Q v H') → r vs H Q) (hg : Gl X x := by rfl) (hn : x ≠ "__name__" := by decide) (hdb : (x == ("__debug__" : Str)) = false := by decide)
    (he : starEach (e :: es) X.env = (false, eval e X.env) :: starEach es X.env := by rfl) (hpl : (backTo pos (starEach es X.env)).any (·.1) = false := by rfl) : Ev X H0 Γ (.Call (.Name x p) (e :: es) [] pos) d :=
  wkE (pe_callTy hc hg hm hv ha hn hdb he hpl) fun σ H Q ⟨F, h, k⟩ => ⟨F, h, fun vs F1 H1 g1 r1 => hr F1 H1 vs Q g1.fh r1 fun v F' H' g2 r2 => k v F' H' (g1.trans g2) r2⟩
theorem isa1 {K : PySem.W.Frag} {F : Hp} {vs : List V} {d : D} (h : IsA K F vs [d]) : ∃ v, vs = [v] ∧ Is K F v d := by
  cases h with
  | cons h1 h2 =>
    cases h2
    exact ⟨_, rfl, h1⟩
theorem isa2 {K : PySem.W.Frag} {F : Hp} {vs : List V} {d d' : D} (h : IsA K F vs [d, d']) : ∃ v u, vs = [v, u] ∧ Is K F v d ∧ Is K F u d' := by
  cases h with
  | cons h1 h2 =>
    obtain ⟨u, rfl, q⟩ := isa1 h2
    exact ⟨_, _, rfl, h1, q⟩
theorem ev_len {p : Pos} (hm : X.mg "len" = none) (ha : Er X H0 Γ e xs) (hg : Gl X "len" := by rfl) (he : starEach [e] X.env = (false, eval e X.env) :: starEach [] X.env := by rfl) : Ev X H0 Γ (.Call (.Name "len" p) [e] [] pos) (.int (xs.length : Int)) :=
  wkE (pe_callB call_len_seq hg hm PySem.boot_len (pa_cons ha pa_nil he) (by decide) (by decide) he) fun σ H Q ⟨F, h, k⟩ => ⟨F, h, fun p vs F1 H1 g1 e1 r1 => ⟨p, vs, rfl, .inl (.of e1), by
    have q := k _ F1 H1 g1 (.int ((xs.length : Nat) : Int))
    rw [← r1.length] at q
    exact q⟩⟩
theorem ev_lenT {p : Pos} (hm : X.mg "len" = none) (ha : Ev X H0 Γ e (.tup xs)) (hg : Gl X "len" := by rfl) (he : starEach [e] X.env = (false, eval e X.env) :: starEach [] X.env := by rfl) : Ev X H0 Γ (.Call (.Name "len" p) [e] [] pos) (.int (xs.length : Int)) :=
  wkE (pe_callB call_len_seq hg hm PySem.boot_len (pa_cons ha pa_nil he) (by decide) (by decide) he) fun σ H Q ⟨F, h, k⟩ => ⟨F, h, fun v F1 H1 g1 r1 => by
    cases r1 with
    | tup e1 r1 =>
      refine ⟨_, _, rfl, .inr (sqt_up g1.fh e1), ?_⟩
      rw [r1.length]
      exact k _ F1 H1 g1 (.int _)⟩
theorem ev_lenC {p : Pos} {ns : List Int} (hm : X.mg "len" = none) (ha : Ev X H0 Γ e (.scr ns)) (hg : Gl X "len" := by rfl) (he : starEach [e] X.env = (false, eval e X.env) :: starEach [] X.env := by rfl) : Ev X H0 Γ (.Call (.Name "len" p) [e] [] pos) (.int (ns.length : Int)) :=
  wkE (pe_callB call_len_seq hg hm PySem.boot_len (pa_cons ha pa_nil he) (by decide) (by decide) he) fun σ H Q ⟨F, h, k⟩ => ⟨F, h, fun v F1 H1 g1 r1 => by
    cases r1 with
    | scr e1 =>
      refine ⟨_, _, rfl, .inl (Same.seq g1.fh e1), ?_⟩
      rw [List.length_map]
      exact k _ F1 H1 g1 (.int _)⟩
theorem ev_lenS {p : Pos} {s : Str} (hm : X.mg "len" = none) (ha : Ev X H0 Γ e (.str s)) (hz : s.length ≤ sizeLine) (hg : Gl X "len" := by rfl) (he : starEach [e] X.env = (false, eval e X.env) :: starEach [] X.env := by rfl) : Ev X H0 Γ (.Call (.Name "len" p) [e] [] pos) (.int (s.length : Int)) :=
  wkE (pe_callB call_len hg hm PySem.boot_len (pa_cons ha pa_nil he) (by decide) (by decide) he) fun σ H Q ⟨F, h, k⟩ => ⟨F, h, fun v F1 H1 g1 r1 => by
    cases r1
    exact ⟨_, s.length, rfl, ⟨hz, rfl⟩, k _ F1 H1 g1 (.int _)⟩⟩
theorem ev_intI {p : Pos} {i : Int} (hm : X.mg "int" = none) (ha : Ev X H0 Γ e (.int i)) (hg : Gl X "int" := by rfl) (he : starEach [e] X.env = (false, eval e X.env) :: starEach [] X.env := by rfl) : Ev X H0 Γ (.Call (.Name "int" p) [e] [] pos) (.int i) :=
  ev_ct call_int1 hm boot_int (ea_cons ha ea_nil he) (fun F H vs Q sm r k => by
    obtain ⟨v, rfl, q⟩ := isa1 r
    cases q
    exact .inl ⟨i, rfl, k _ F H (.refl sm) (.int i)⟩) hg (by decide) (by decide) he
theorem ev_intB {p : Pos} {i : Bool} (hm : X.mg "int" = none) (ha : Ev X H0 Γ e (.bl i)) (hg : Gl X "int" := by rfl) (he : starEach [e] X.env = (false, eval e X.env) :: starEach [] X.env := by rfl) : Ev X H0 Γ (.Call (.Name "int" p) [e] [] pos) (.int (if i then 1 else 0)) :=
  ev_ct call_int1 hm boot_int (ea_cons ha ea_nil he) (fun F H vs Q sm r k => by
    obtain ⟨v, rfl, q⟩ := isa1 r
    cases q
    exact .inr ⟨i, rfl, k _ F H (.refl sm) (.int _)⟩) hg (by decide) (by decide) he
theorem ev_intS {p : Pos} {s : Str} {n : Int} (hm : X.mg "int" = none) (ha : Ev X H0 Γ e (.str s)) (hn : PySem.intText? s = some n) (hz : s.length ≤ 640) (hg : Gl X "int" := by rfl) (he : starEach [e] X.env = (false, eval e X.env) :: starEach [] X.env := by rfl) : Ev X H0 Γ (.Call (.Name "int" p) [e] [] pos) (.int n) :=
  ev_ct call_int_str hm boot_int (ea_cons ha ea_nil he) (fun F H vs Q sm r k => by
    obtain ⟨v, rfl, q⟩ := isa1 r
    cases q
    exact ⟨s, n, rfl, hn, hz, k _ F H (.refl sm) (.int _)⟩) hg (by decide) (by decide) he
theorem ev_strI {p : Pos} {i : Int} (hm : X.mg "str" = none) (ha : Ev X H0 Γ e (.int i)) (hz : i.natAbs.log2 < 1920) (hg : Gl X "str" := by rfl) (he : starEach [e] X.env = (false, eval e X.env) :: starEach [] X.env := by rfl) : Ev X H0 Γ (.Call (.Name "str" p) [e] [] pos) (.str (toString i)) :=
  ev_ct call_str_int hm boot_str (ea_cons ha ea_nil he) (fun F H vs Q sm r k => by
    obtain ⟨v, rfl, q⟩ := isa1 r
    cases q
    exact ⟨i, rfl, hz, k _ F H (.refl sm) (.str _)⟩) hg (by decide) (by decide) he
theorem ev_tupL {p : Pos} (hm : X.mg "tuple" = none) (ha : Er X H0 Γ e xs) (hg : Gl X "tuple" := by rfl) (he : starEach [e] X.env = (false, eval e X.env) :: starEach [] X.env := by rfl) : Ev X H0 Γ (.Call (.Name "tuple" p) [e] [] pos) (.tup xs) :=
  wkE (pe_callTy call_tuple_of hg hm boot_tuple (pa_cons ha pa_nil he) (by decide) (by decide) he) fun σ H Q ⟨F, h, k⟩ => ⟨F, h, fun p vs F1 H1 g1 e1 r1 => ⟨p, vs, rfl, .inl ⟨.of e1, fun l hl =>
    k _ _ _ (g1.trans (.newF g1.fh hl)) (.tup upd_same (r1.mono (same_new (Same.free g1.fh hl))))⟩⟩⟩
theorem eo_listL {p : Pos} (hm : X.mg "list" = none) (ha : Er X H0 Γ e xs) (hg : Gl X "list" := by rfl) (he : starEach [e] X.env = (false, eval e X.env) :: starEach [] X.env := by rfl) : Eo X H0 Γ (.Call (.Name "list" p) [e] [] pos) xs :=
  wkE (pe_callTy call_list_of hg hm boot_list (pa_cons ha pa_nil he) (by decide) (by decide) he) fun σ H Q ⟨F, h, k⟩ => ⟨F, h, fun p vs F1 H1 g1 e1 r1 => ⟨p, vs, rfl, .inl (.of e1), fun l hl =>
    k l vs F1 _ (g1.trans (.newH g1.fh hl)) (Same.free g1.kp hl) (Same.free g1.fh hl) upd_same r1⟩⟩
theorem eo_listT {p : Pos} (hm : X.mg "list" = none) (ha : Ev X H0 Γ e (.tup xs)) (hg : Gl X "list" := by rfl) (he : starEach [e] X.env = (false, eval e X.env) :: starEach [] X.env := by rfl) : Eo X H0 Γ (.Call (.Name "list" p) [e] [] pos) xs :=
  wkE (pe_callTy call_list_of hg hm boot_list (pa_cons ha pa_nil he) (by decide) (by decide) he) fun σ H Q ⟨F, h, k⟩ => ⟨F, h, fun v F1 H1 g1 r1 => by
    cases r1 with
    | tup e1 r1 => exact ⟨_, _, rfl, .inr (sqt_up g1.fh e1), fun l hl => k l _ F1 _ (g1.trans (.newH g1.fh hl)) (Same.free g1.kp hl) (Same.free g1.fh hl) upd_same r1⟩⟩
theorem ev_all {p : Pos} {bs : List Bool} (hm : X.mg "all" = none) (ha : Er X H0 Γ e (bs.map D.bl)) (hc : X.calm = true := by rfl) (hg : Gl X "all" := by rfl) (he : starEach [e] X.env = (false, eval e X.env) :: starEach [] X.env := by rfl) : Ev X H0 Γ (.Call (.Name "all" p) [e] [] pos) (.bl (bs.all id)) :=
  wkE (pe_callB (cr_all hc) hg hm boot_all (pa_cons ha pa_nil he) (by decide) (by decide) he) fun σ H Q ⟨F, h, k⟩ => ⟨F, h, fun p vs F1 H1 g1 e1 r1 => by
    rw [r1.bls] at e1
    exact ⟨p, bs, rfl, .of e1, k _ F1 H1 g1 (.bl _)⟩⟩
theorem ev_any {p : Pos} {bs : List Bool} (hm : X.mg "any" = none) (ha : Er X H0 Γ e (bs.map D.bl)) (hc : X.calm = true := by rfl) (hg : Gl X "any" := by rfl) (he : starEach [e] X.env = (false, eval e X.env) :: starEach [] X.env := by rfl) : Ev X H0 Γ (.Call (.Name "any" p) [e] [] pos) (.bl (bs.any id)) :=
  wkE (pe_callB (cr_any hc) hg hm (by decide +kernel) (pa_cons ha pa_nil he) (by decide) (by decide) he) fun σ H Q ⟨F, h, k⟩ => ⟨F, h, fun p vs F1 H1 g1 e1 r1 => by
    rw [r1.bls] at e1
    exact ⟨p, bs, rfl, .of e1, k _ F1 H1 g1 (.bl _)⟩⟩
/-- isinstance with a built-in type: by kitB -/
def tyD : D → Option String
  | .non => some "NoneType" | .bl _ => some "bool" | .int _ => some "int" | .str _ => some "str" | .lst _ => some "list" | .tup _ => some "tuple" | .scr _ => some "list" | .adr _ => none | .obj _ _ => none | .dic _ => some "dict" | .dit _ => some "dict"
theorem tyx_of {K : PySem.W.Frag} {F H : Hp} {v : V} {d : D} {n : String} (sm : Same F H) (h : Is K F v d) (e : tyD d = some n) : TyX K H v (.type n) := by
  cases h with
  | non => cases e; exact .base .non
  | bl b => cases e; exact .base (.bl b)
  | int i => cases e; exact .base (.int i)
  | str s => cases e; exact .base (.str s)
  | lst h1 h2 => cases e; exact .base (.lst (sm _ _ h1))
  | tup h1 h2 =>
    cases e
    exact .base (.tup (sm _ _ h1))
  | scr h1 =>
    cases e
    rcases h1 with (h1 | ⟨o, h1⟩) | ⟨o, its, n, h1, h2, h3⟩
    · exact .base (.lst (sm _ _ h1))
    · exact .base (.frz (sm _ _ h1))
    · exact .kList h1 h2
  | obj h1 h2 => cases e
  | adr p => cases e
  | dic h1 h2 => cases e; exact .base (.dK (sm _ _ h1))
  | dit h1 h2 => cases e; exact .base (.dT (sm _ _ h1))
theorem ev_isi {p p2 : Pos} {T : Str} {U W : String} {k : Bool} (hm : X.mg "isinstance" = none) (ha : Ev X H0 Γ e d) (hT : X.mg T = none) (hU : bootBuiltins T = some (.type U)) (hd : tyD d = some W) (hk : kitB W U = some k := by decide +kernel)
    (hg : Gl X "isinstance" := by rfl) (hg2 : Gl X T := by rfl) (hn : T ≠ "__name__" := by decide) (hdb : (T == ("__debug__" : Str)) = false := by decide)
    (he : starEach [e, .Name T p2] X.env = (false, eval e X.env) :: starEach [.Name T p2] X.env := by rfl) (he2 : starEach [.Name T p2] X.env = (false, eval (.Name T p2) X.env) :: starEach [] X.env := by rfl) (hpl : (backTo pos (starEach [.Name T p2] X.env)).any (·.1) = false := by rfl) :
    Ev X H0 Γ (.Call (.Name "isinstance" p) [e, .Name T p2] [] pos) (.bl k) :=
  wkE (pe_callB call_isi hg hm boot_isinstance (pa_cons ha (pa_cons (pe_bltn (v := .ty U) hg2 hT hU rfl hn hdb) pa_nil he2) he) (by decide) (by decide) he hpl) fun σ H Q ⟨F, h, q⟩ => ⟨F, h, fun v F1 H1 g1 r1 =>
    ⟨v, .ty U, .type W, .type U, k, rfl, .ty U, tyx_of g1.fh r1 hd, kit_ty hk, q _ F1 H1 g1 (.bl k)⟩⟩

/-! ### comparisons -/
theorem ec_of {op : CmpOp} {r : R2} {k : Bool} (ho : OpR X (compareOp op) r) (ha : Ev X H0 Γ a d1) (hb : Ev X H0 Γ b d2)
    (hr : ∀ F H x y (Q : VK), Same F H → Is X.K F x d1 → Is X.K F y d2 → Q (.bl k) H → r x y H Q) : Ec X H0 Γ op a b k :=
  ⟨r, _, _, ho, ha, hb, fun σ H Q ⟨F, h, q⟩ => ⟨F, h, fun x F1 H1 g1 r1 => ⟨F1, h.go g1, fun y F2 H2 g2 r2 => hr F2 H2 x y Q g2.fh (r1.mono g2.ff) r2 (q F2 H2 (g1.trans g2))⟩⟩⟩
theorem ev_c {op : CmpOp} {k : Bool} (h : Ec X H0 Γ op a b k) (hm : behindInMarks op b = false := by first | exact nomark _ | with_unfolding_all rfl) : Ev X H0 Γ (.Compare a [op] [b] pos) (.bl k) := by
  obtain ⟨r, ta, tb, ho, ha, hb, h⟩ := h
  exact wkE (pe_cmpR ho ha hb hm) fun σ H Q ⟨F, h1, q⟩ => h σ H Q ⟨F, h1, fun F' H' g => q _ F' H' g (.bl k)⟩
theorem et_c {op : CmpOp} {k : Bool} (h : Ec X H0 Γ op a b k) (hm : behindInMarks op b = false := by first | exact nomark _ | with_unfolding_all rfl) : Et X H0 Γ (.Compare a [op] [b] pos) k := by
  obtain ⟨r, ta, tb, ho, ha, hb, h⟩ := h
  exact wkT (pt_cmpR ho ha hb hm) fun σ H Q ⟨F, h1, q⟩ => h σ H _ ⟨F, h1, fun F' H' g => ⟨k, rfl, q F' H' g⟩⟩
theorem ec_I {op : CmpOp} {g : Int → Int → Bool} {i j : Int} (ho : OpR X (compareOp op) (rI0 fun i j => .bl (g i j))) (ha : Ev X H0 Γ a (.int i)) (hb : Ev X H0 Γ b (.int j)) : Ec X H0 Γ op a b (g i j) :=
  ec_of ho ha hb fun F H x y Q sm r1 r2 q => by
    cases r1
    cases r2
    exact ⟨i, j, rfl, rfl, q⟩
theorem ec_lt {i j : Int} (ha : Ev X H0 Γ a (.int i)) (hb : Ev X H0 Γ b (.int j)) : Ec X H0 Γ .Lt a b (decide (i < j)) := ec_I op_lt ha hb
theorem ec_le {i j : Int} (ha : Ev X H0 Γ a (.int i)) (hb : Ev X H0 Γ b (.int j)) : Ec X H0 Γ .LtE a b (decide (i ≤ j)) := ec_I op_le ha hb
theorem ec_gt {i j : Int} (ha : Ev X H0 Γ a (.int i)) (hb : Ev X H0 Γ b (.int j)) : Ec X H0 Γ .Gt a b (decide (j < i)) := ec_I op_gt ha hb
theorem ec_ge {i j : Int} (ha : Ev X H0 Γ a (.int i)) (hb : Ev X H0 Γ b (.int j)) : Ec X H0 Γ .GtE a b (decide (j ≤ i)) := ec_I op_ge ha hb
/-- scalars -/
def valD : D → Option V
  | .non => some .non | .bl b => some (.bl b) | .int i => some (.int i) | .str s => some (.str s) | _ => none
theorem is_val {K : PySem.W.Frag} {F : Hp} {v u : V} {d : D} (h : Is K F v d) (e : valD d = some u) : v = u := by
  cases h <;> cases e <;> rfl
theorem ec_eq {u v : V} (ha : Ev X H0 Γ a d1) (hb : Ev X H0 Γ b d2) (e1 : valD d1 = some u := by rfl) (e2 : valD d2 = some v := by rfl) (hs : scal u v = true := by rfl) : Ec X H0 Γ .Eq a b (decide (u = v)) :=
  ec_of op_eq ha hb fun F H x y Q sm r1 r2 q => by
    cases is_val r1 e1
    cases is_val r2 e2
    exact ⟨hs, q⟩
theorem ec_ne {u v : V} (ha : Ev X H0 Γ a d1) (hb : Ev X H0 Γ b d2) (e1 : valD d1 = some u := by rfl) (e2 : valD d2 = some v := by rfl) (hs : scal u v = true := by rfl) : Ec X H0 Γ .NotEq a b (!decide (u = v)) :=
  ec_of op_ne ha hb fun F H x y Q sm r1 r2 q => by
    cases is_val r1 e1
    cases is_val r2 e2
    exact ⟨hs, q⟩
theorem deq_i {i j : Int} : decide (V.int i = V.int j) = decide (i = j) := by
  rw [Bool.eq_iff_iff]
  simp
theorem deq_s {i j : Str} : decide (V.str i = V.str j) = decide (i = j) := by
  rw [Bool.eq_iff_iff]
  simp
theorem ec_eqI {i j : Int} (ha : Ev X H0 Γ a (.int i)) (hb : Ev X H0 Γ b (.int j)) : Ec X H0 Γ .Eq a b (decide (i = j)) := deq_i ▸ ec_eq ha hb
theorem ec_neI {i j : Int} (ha : Ev X H0 Γ a (.int i)) (hb : Ev X H0 Γ b (.int j)) : Ec X H0 Γ .NotEq a b (!decide (i = j)) := deq_i ▸ ec_ne ha hb
theorem ec_eqS {i j : Str} (ha : Ev X H0 Γ a (.str i)) (hb : Ev X H0 Γ b (.str j)) : Ec X H0 Γ .Eq a b (decide (i = j)) := deq_s ▸ ec_eq ha hb
theorem ec_neS {i j : Str} (ha : Ev X H0 Γ a (.str i)) (hb : Ev X H0 Γ b (.str j)) : Ec X H0 Γ .NotEq a b (!decide (i = j)) := deq_s ▸ ec_ne ha hb
/-- is None, is not None; is False .. of bools -/
def isNone : D → Bool
  | .non => true
  | _ => false
theorem is_none {K : PySem.W.Frag} {F : Hp} {v : V} {d : D} (h : Is K F v d) : decide (v = .non) = isNone d := by
  cases h <;> rfl
theorem ec_isN (ha : Ev X H0 Γ a d) (hb : Ev X H0 Γ b .non) : Ec X H0 Γ .Is a b (isNone d) :=
  ec_of op_isN ha hb fun F H x y Q sm r1 r2 q => by
    cases r2
    exact ⟨rfl, by rw [is_none r1]; exact q⟩
theorem ec_notN (ha : Ev X H0 Γ a d) (hb : Ev X H0 Γ b .non) : Ec X H0 Γ .IsNot a b (!isNone d) :=
  ec_of op_notN ha hb fun F H x y Q sm r1 r2 q => by
    cases r2
    exact ⟨rfl, by rw [is_none r1]; exact q⟩
/-- a sign in a text -/
theorem ec_inS {s t : Str} (ha : Ev X H0 Γ a (.str s)) (hb : Ev X H0 Γ b (.str t)) : Ec X H0 Γ .In a b (!(Builtin.Str.occurrences t s 0 t.length 1).isEmpty) :=
  ec_of op_in_str ha hb fun F H x y Q sm r1 r2 q => by
    cases r1
    cases r2
    exact ⟨s, t, rfl, rfl, q⟩
theorem ec_niS {s t : Str} (ha : Ev X H0 Γ a (.str s)) (hb : Ev X H0 Γ b (.str t)) : Ec X H0 Γ .NotIn a b (!(!(Builtin.Str.occurrences t s 0 t.length 1).isEmpty)) :=
  ec_of op_notin_str ha hb fun F H x y Q sm r1 r2 q => by
    cases r1
    cases r2
    exact ⟨s, t, rfl, rfl, q⟩

theorem ec_inC {c : Nat} {t : Str} (ha : Ev X H0 Γ a (.str ⟨#[c]⟩)) (hb : Ev X H0 Γ b (.str t)) : Ec X H0 Γ .In a b (decide (c ∈ t.cps.toList)) :=
  ec_of op_in_sign ha hb fun F H x y Q sm r1 r2 q => by
    cases r1
    cases r2
    exact ⟨c, t, rfl, rfl, q⟩
theorem ec_niC {c : Nat} {t : Str} (ha : Ev X H0 Γ a (.str ⟨#[c]⟩)) (hb : Ev X H0 Γ b (.str t)) : Ec X H0 Γ .NotIn a b (!decide (c ∈ t.cps.toList)) :=
  ec_of op_notIn_sign ha hb fun F H x y Q sm r1 r2 q => by
    cases r1
    cases r2
    exact ⟨c, t, rfl, rfl, q⟩

/-! ### data compared at any depth -/
mutual
def toPy : D → PyData
  | .non => .none
  | .bl b => .bool b
  | .int i => .int i
  | .str s => .str s
  | .lst xs => .list (toPyA xs)
  | .tup xs => .tuple (toPyA xs)
  | .scr ns => .list (ns.map .int)
  | _ => .none
def toPyA : List D → List PyData
  | [] => []
  | x :: xs => toPy x :: toPyA xs
end
mutual
/-- no object, no script within -/
def datD : D → Bool
  | .lst xs => datA xs
  | .tup xs => datA xs
  | .obj _ _ => false
  | .dic _ => false
  | .dit _ => false
  | .scr _ => false
  | .adr _ => false
  | _ => true
def datA : List D → Bool
  | [] => true
  | x :: xs => datD x && datA xs
end
mutual
theorem dp_of {K : PySem.W.Frag} {F H : Hp} (sm : Same F H) : ∀ (d : D) (v : V), datD d = true → Is K F v d → Dp K H v (toPy d)
  | .non, _, _, h => by cases h; exact .non
  | .bl b, _, _, h => by cases h; exact .bl b
  | .int i, _, _, h => by cases h; exact .int i
  | .str s, _, _, h => by cases h; exact .str s
  | .lst ds, _, p, h => by
    cases h with
    | lst h1 h2 => exact .lst (.of (sm _ _ h1)) (dp_all sm ds _ p h2)
  | .tup ds, _, p, h => by
    cases h with
    | tup h1 h2 => exact .tup (sqt_up sm h1) (dp_all sm ds _ p h2)
  | .scr ns, _, p, h => by cases p
  | .adr _, _, p, h => by cases p
  | .obj C gs, _, p, h => by cases p
  | .dic _, _, p, h => by cases p
  | .dit _, _, p, h => by cases p
theorem dp_all {K : PySem.W.Frag} {F H : Hp} (sm : Same F H) : ∀ (ds : List D) (vs : List V), datA ds = true → IsA K F vs ds → DpAll K H vs (toPyA ds)
  | [], _, _, h => by cases h; exact .nil
  | d :: ds, _, p, h => by
    rw [datA, Bool.and_eq_true] at p
    cases h with
    | cons h1 h2 => exact .cons (dp_of sm d _ p.1 h1) (dp_all sm ds _ p.2 h2)
end
theorem ec_eqD (ha : Ev X H0 Γ a d1) (hb : Ev X H0 Γ b d2) (p1 : datD d1 = true) (p2 : datD d2 = true) (s1 : SeqAt.shaped (toPy d1) = true) (s2 : SeqAt.shaped (toPy d2) = true) (hu : X.A.units + 64 < cLine) : Ec X H0 Γ .Eq a b (PyData.eqv (toPy d1) (toPy d2)) :=
  ec_of (op_eqD hu) ha hb fun F H x y Q sm r1 r2 q => ⟨_, _, dp_of sm d1 x p1 r1, dp_of sm d2 y p2 r2, s1, s2, q⟩
theorem ec_neD (ha : Ev X H0 Γ a d1) (hb : Ev X H0 Γ b d2) (p1 : datD d1 = true) (p2 : datD d2 = true) (s1 : SeqAt.shaped (toPy d1) = true) (s2 : SeqAt.shaped (toPy d2) = true) (hu : X.A.units + 64 < cLine) : Ec X H0 Γ .NotEq a b (!PyData.eqv (toPy d1) (toPy d2)) :=
  ec_of (op_neD hu) ha hb fun F H x y Q sm r1 r2 q => ⟨_, _, dp_of sm d1 x p1 r1, dp_of sm d2 y p2 r2, s1, s2, q⟩

/-! ### tests -/
theorem ev_not {k : Bool} (h : Ev X H0 Γ a (.bl k)) : Ev X H0 Γ (.UnaryOp .Not a pos) (.bl (!k)) := wkE (pe_not h) fun σ H Q ⟨F, h, q⟩ => ⟨F, h, fun v F' H' g r => by
  cases r
  exact ⟨k, rfl, q _ F' H' g (.bl _)⟩⟩
theorem ev_one {op} (h : Ev X H0 Γ a d) : Ev X H0 Γ (.BoolOp op [a] pos) d := pe_one h
theorem ev_and {rest : List Expr} {k l : Bool} (ha : Ev X H0 Γ a (.bl k)) (hb : k = true → Ev X H0 Γ (.BoolOp .And (b :: rest) pos) (.bl l)) : Ev X H0 Γ (.BoolOp .And (a :: b :: rest) pos) (.bl (k && l)) := by
  cases k with
  | true =>
    exact wkE (pe_and ha (hb rfl)) fun σ H Q ⟨F, h, q⟩ => ⟨F, h, fun v F' H' g r => by
      cases r
      exact ⟨true, rfl, ⟨F', h.go g, fun u F2 H2 g2 r2 => q u F2 H2 (g.trans g2) r2⟩⟩⟩
  | false =>
    exact wkE (pe_and ha ⟨fun pins s σ H Q I (q : False) => q.elim⟩) fun σ H Q ⟨F, h, q⟩ => ⟨F, h, fun v F' H' g r => by
      cases r
      exact ⟨false, rfl, q _ F' H' g (.bl false)⟩⟩
theorem ev_or {rest : List Expr} {k l : Bool} (ha : Ev X H0 Γ a (.bl k)) (hb : k = false → Ev X H0 Γ (.BoolOp .Or (b :: rest) pos) (.bl l)) : Ev X H0 Γ (.BoolOp .Or (a :: b :: rest) pos) (.bl (k || l)) := by
  cases k with
  | false =>
    exact wkE (pe_or ha (hb rfl)) fun σ H Q ⟨F, h, q⟩ => ⟨F, h, fun v F' H' g r => by
      cases r
      exact ⟨false, rfl, ⟨F', h.go g, fun u F2 H2 g2 r2 => q u F2 H2 (g.trans g2) r2⟩⟩⟩
  | true =>
    exact wkE (pe_or ha ⟨fun pins s σ H Q I (q : False) => q.elim⟩) fun σ H Q ⟨F, h, q⟩ => ⟨F, h, fun v F' H' g r => by
      cases r
      exact ⟨true, rfl, q _ F' H' g (.bl true)⟩⟩
theorem et_not {k : Bool} (h : Et X H0 Γ a k) : Et X H0 Γ (.UnaryOp .Not a pos) (!k) := wkT (pt_not h) fun σ H Q ⟨F, h, q⟩ => ⟨F, h, fun F' H' g => q F' H' g⟩
theorem et_w {k : Bool} (h : Ew X H0 Γ a k) : Et X H0 Γ a k := PW.pt h
theorem ew_and1 {k : Bool} (h : Et X H0 Γ a k) : Ew X H0 Γ (.BoolOp .And [a] pos) k := pw_and1 h
theorem ew_or1 {k : Bool} (h : Et X H0 Γ a k) : Ew X H0 Γ (.BoolOp .Or [a] pos) k := pw_or1 h
theorem ew_and {rest : List Expr} {k l : Bool} (ha : Et X H0 Γ a k) (hb : k = true → Ew X H0 Γ (.BoolOp .And (b :: rest) pos) l) : Ew X H0 Γ (.BoolOp .And (a :: b :: rest) pos) (k && l) := by
  cases k with
  | true =>
    exact wkW (pw_and ha (hb rfl)) fun σ H Q ⟨F, h, q⟩ => ⟨F, h, fun F' H' g => ⟨F', h.go g, fun F2 H2 g2 => q F2 H2 (g.trans g2)⟩⟩
  | false =>
    exact wkW (pw_and ha ⟨fun wh pins s σ H Q I (q : False) => q.elim⟩) fun σ H Q ⟨F, h, q⟩ => ⟨F, h, fun F' H' g => q F' H' g⟩
theorem ew_or {rest : List Expr} {k l : Bool} (ha : Et X H0 Γ a k) (hb : k = false → Ew X H0 Γ (.BoolOp .Or (b :: rest) pos) l) : Ew X H0 Γ (.BoolOp .Or (a :: b :: rest) pos) (k || l) := by
  cases k with
  | false =>
    exact wkW (pw_or ha (hb rfl)) fun σ H Q ⟨F, h, q⟩ => ⟨F, h, fun F' H' g => ⟨F', h.go g, fun F2 H2 g2 => q F2 H2 (g.trans g2)⟩⟩
  | true =>
    exact wkW (pw_or ha ⟨fun wh pins s σ H Q I (q : False) => q.elim⟩) fun σ H Q ⟨F, h, q⟩ => ⟨F, h, fun F' H' g => q F' H' g⟩
/-- a value's truth -/
theorem et_b {k : Bool} (h : Ev X H0 Γ e (.bl k)) (he : ∀ whole, isTrue e X.env whole = (do let v ← whole; standAt e.pos; holding [v] (truthy v)) := by exact fun _ => rfl) : Et X H0 Γ e k :=
  wkT (pt_truth h he) fun σ H Q ⟨F, h, q⟩ => ⟨F, h, fun v F' H' g r => by
    cases r
    exact ⟨k, rfl, q F' H' g⟩⟩
theorem et_l (h : Er X H0 Γ e xs) (he : ∀ whole, isTrue e X.env whole = (do let v ← whole; standAt e.pos; holding [v] (truthy v)) := by exact fun _ => rfl) : Et X H0 Γ e (!xs.isEmpty) :=
  wkT (pt_truth h he) fun σ H Q ⟨F, h, q⟩ => ⟨F, h, fun p vs F' H' g e1 r1 => ⟨!xs.isEmpty, .inl ⟨vs, .of e1, by
    cases r1 <;> rfl⟩, q F' H' g⟩⟩
theorem et_i {i : Int} (h : Ev X H0 Γ e (.int i)) (he : ∀ whole, isTrue e X.env whole = (do let v ← whole; standAt e.pos; holding [v] (truthy v)) := by exact fun _ => rfl) : Et X H0 Γ e (i != 0) :=
  wkT (pt_truth h he) fun σ H Q ⟨F, h, q⟩ => ⟨F, h, fun v F' H' g r => by
    cases r
    exact ⟨i != 0, rfl, q F' H' g⟩⟩
theorem ev_if {k : Bool} (hc : Et X H0 Γ c k) (ha : k = true → Ev X H0 Γ a d) (hb : k = false → Ev X H0 Γ b d) : Ev X H0 Γ (.IfExp c a b pos) d := by
  cases k with
  | true => exact wkE (pe_ifExp hc (ha rfl) ⟨fun pins s σ H Q I (q : False) => q.elim⟩) fun σ H Q ⟨F, h, q⟩ => ⟨F, h, fun F' H' g => ⟨F', h.go g, fun v F2 H2 g2 r => q v F2 H2 (g.trans g2) r⟩⟩
  | false => exact wkE (pe_ifExp hc ⟨fun pins s σ H Q I (q : False) => q.elim⟩ (hb rfl)) fun σ H Q ⟨F, h, q⟩ => ⟨F, h, fun F' H' g => ⟨F', h.go g, fun v F2 H2 g2 r => q v F2 H2 (g.trans g2) r⟩⟩

/-! ### texts -/
theorem ev_join {apos : Pos} {s : Str} {ts : List Str} (ho : Ev X H0 Γ a (.str s)) (he : Er X H0 Γ e (ts.map D.str)) (hz : (ts.map (·.length)).sum + ts.length * s.length ≤ 16777216) (hs : starEach [e] X.env = [(false, eval e X.env)] := by rfl)
    (hbase : attributeBase a "join" X.env (eval a X.env) = eval a X.env := by rfl) (hline : (apos.endLine == pos.line) = true := by rfl) : Ev X H0 Γ (.Call (.Attribute a "join" apos) [e] [] pos) (.str (Txt.join s ts)) :=
  wkE (pe_join ho he hs hbase hline) fun σ H Q ⟨F, h, q⟩ => ⟨F, h, fun v F1 H1 g1 r1 => by
    cases r1
    exact ⟨⟨s, rfl⟩, F1, h.go g1, fun p vs F2 H2 g2 e2 r2 => by
      rw [r2.strs] at e2
      exact ⟨s, p, ts, rfl, rfl, .inl (.of e2), hz, q _ F2 H2 (g1.trans g2) (.str _)⟩⟩⟩
theorem eo_split {apos : Pos} {s t : Str} (ho : Ev X H0 Γ a (.str s)) (he : Ev X H0 Γ e (.str t)) (ht : (t.length == 0) = false := by decide) (hz : s.length + 2 ≤ sizeLine) (hs : starEach [e] X.env = [(false, eval e X.env)] := by rfl)
    (hbase : attributeBase a "split" X.env (eval a X.env) = eval a X.env := by rfl) (hline : (apos.endLine == pos.line) = true := by rfl) : Eo X H0 Γ (.Call (.Attribute a "split" apos) [e] [] pos) ((Txt.split s t).map D.str) :=
  wkE (pe_split ho he hs hbase hline) fun σ H Q ⟨F, h, q⟩ => ⟨F, h, fun v F1 H1 g1 r1 => by
    cases r1
    exact ⟨⟨s, rfl⟩, F1, h.go g1, fun y F2 H2 g2 r2 => by
      cases r2
      exact ⟨s, t, rfl, rfl, ht, hz, fun p hp => q p _ F2 _ ((g1.trans g2).trans (.newH g2.fh hp)) (Same.free (g1.trans g2).kp hp) (Same.free g2.fh hp) upd_same (IsA.of_strs _)⟩⟩⟩

/-! ### a def of the text called -/
def SpD (K : PySem.W.Frag) (S : List D → D → Prop) : Sp := fun vs H Q _ => ∃ F ds r, Same F H ∧ IsA K F vs ds ∧ S ds r ∧ ∀ v F' H', Go F H F' H' → Is K F' v r → Q v H'
theorem ev_call {k : Nat} {f : Addr} {fd : FuncData} {ps : List Str} {S : List D → D → Prop} {x : Str} {p : Pos} {es : List Expr} {ds : List D} {r : D} (F : FnOk X.prog X.w X.K X.mg X.base CX0 k f fd ps (SpD X.K S)) (hr : Room k X.A) (hm : X.mg x = some (.ref f))
    (hk : PySem.W.keepIn X.K (.ref f) = true) (hb : Binds X.K fd ps []) (ha : Ea X H0 Γ (e :: es) ds) (hS : S ds r) (hg : Gl X x := by rfl) (hdb : (x == ("__debug__" : Str)) = false := by decide)
    (he : starEach (e :: es) X.env = (false, eval e X.env) :: starEach es X.env := by rfl) (hpl : (backTo pos (starEach es X.env)).any (·.1) = false := by rfl) : Ev X H0 Γ (.Call (.Name x p) (e :: es) [] pos) r :=
  wkE (pe_call F hr hg hm hk hb .nil pass0 ha hdb he hpl) fun σ H Q ⟨F, h, q⟩ => ⟨F, h, fun vs F1 H1 g1 r1 => ⟨F1, ds, r, g1.fh, by rw [List.append_nil]; exact r1, hS, fun v F' H' g2 r2 => q v F' H' (g1.trans g2) r2⟩⟩
end
end Dv

namespace Dv
open PySem PySem.Spec PyProof.Rows L2

/-! ### what is walked -/
def rEi (K : PySem.W.Frag) (H0 : Hp) (Γ : List Sl) (xs : List D) : TI := fun σ H R => ∃ F, Hold K H0 F H σ Γ ∧ ∀ (J : It) (G : Hp → Prop) (Y : Nat → Hp → V → Hp → Prop) (F1 H1 : Hp), Go F H F1 H1 → Walk J xs.length G Y → (∀ H', Same F1 H' → G H') →
  (∀ (i : Nat) (x : V) (d : D) (F2 H2 H3 : Hp), Same F1 F2 → Same F2 H2 → xs[i]? = some d → Y i H2 x H3 → ∃ F3, Go F2 H2 F3 H3 ∧ Is K F3 x d) → R J H1
def Ei (X : Cx) (H0 : Hp) (Γ : List Sl) (tg iter : Expr) (xs : List D) : Prop := PI X tg iter (rEi X.K H0 Γ xs)

section
variable {X : Cx} {H0 : Hp} {Γ : List Sl} {tg a b e iter : Expr} {d : D} {xs ys : List D} {pos : Pos}
theorem ei_l (h : Ev X H0 Γ e (.lst xs)) : Ei X H0 Γ tg e xs := wkI (pi_list h) fun σ H R ⟨F, h, k⟩ => ⟨F, h, fun v F1 H1 g1 r1 => by
  cases r1 with
  | @lst a vs _ e1 r1 =>
    refine ⟨a, rfl, ⟨vs, .of (g1.fh _ _ e1)⟩, k _ _ _ F1 H1 g1 (by rw [← r1.length]; exact walk_list) (fun H' sm => SqL.of (sm _ _ e1)) fun i x d F2 H2 H3 s1 s2 q y => ?_⟩
    obtain ⟨rfl, y⟩ := y
    obtain ⟨d', q1, q2⟩ := r1.get' y
    rw [q] at q1
    cases q1
    exact ⟨F2, .refl s2, q2.mono s1⟩⟩
theorem ei_t (h : Ev X H0 Γ e (.tup xs)) : Ei X H0 Γ tg e xs := wkI (pi_tup h) fun σ H R ⟨F, h, k⟩ => ⟨F, h, fun v F1 H1 g1 r1 => by
  cases r1 with
  | @tup a vs _ e1 r1 =>
    refine ⟨a, rfl, ⟨vs, sqt_up g1.fh e1⟩, k _ _ _ F1 H1 g1 (by rw [← r1.length]; exact walk_tup) (fun H' sm => sqt_up sm e1) fun i x d F2 H2 H3 s1 s2 q y => ?_⟩
    obtain ⟨rfl, y⟩ := y
    obtain ⟨d', q1, q2⟩ := r1.get' y
    rw [q] at q1
    cases q1
    exact ⟨F2, .refl s2, q2.mono s1⟩⟩
theorem ei_c {ns : List Int} (h : Ev X H0 Γ e (.scr ns)) : Ei X H0 Γ tg e (ns.map D.int) := wkI (pi_list h) fun σ H R ⟨F, h, k⟩ => ⟨F, h, fun v F1 H1 g1 r1 => by
  cases r1 with
  | @scr a _ e1 =>
    refine ⟨a, rfl, ⟨_, Same.seq g1.fh e1⟩, k _ _ _ F1 H1 g1 (by rw [List.length_map, ← List.length_map (f := V.int)]; exact walk_list) (fun H' sm => Same.seq sm e1) fun i x d F2 H2 H3 s1 s2 q y => ?_⟩
    obtain ⟨rfl, y⟩ := y
    obtain ⟨d', q1, q2⟩ := (IsA.of_ints (K := X.K) (F := F2) ns).get' y
    rw [q] at q1
    cases q1
    exact ⟨F2, .refl s2, q2⟩⟩
theorem ei_s {s : Str} (h : Ev X H0 Γ e (.str s)) : Ei X H0 Γ tg e (s.cps.toList.map fun c => D.str ⟨#[c]⟩) := wkI (pi_str h) fun σ H R ⟨F, h, k⟩ => ⟨F, h, fun v F1 H1 g1 r1 => by
  cases r1
  refine ⟨s, rfl, k _ _ _ F1 H1 g1 (by rw [List.length_map, Array.length_toList]; exact walk_str) (fun H' sm => trivial) fun i x d F2 H2 H3 s1 s2 q y => ?_⟩
  obtain ⟨rfl, c, y, rfl⟩ := y
  rw [List.getElem?_map] at q
  rw [← Array.getElem?_toList] at y
  rw [y] at q
  cases q
  exact ⟨F2, .refl s2, .str _⟩⟩
theorem ei_r1 {p : Pos} {n : Int} (hm : X.mg "range" = none) (h : Ev X H0 Γ e (.int n)) (hn : -(2 ^ 62) ≤ n ∧ n < 2 ^ 62 := by omega) (hg : Gl X "range" := by rfl) (he : starEach [e] X.env = (false, eval e X.env) :: starEach [] X.env := by rfl) (hs : starEach [e] X.env = [(false, eval e X.env)] := by rfl) :
    Ei X H0 Γ tg (.Call (.Name "range" p) [e] [] pos) ((List.range n.toNat).map fun k => D.int (k : Nat)) :=
  wkI (pi_range1 hg hm (pa_cons h pa_nil he) hs) fun σ H R ⟨F, h, k⟩ => ⟨F, h, fun v F1 H1 g1 r1 => by
    cases r1
    refine ⟨n, rfl, hn.1, hn.2, k _ _ _ F1 H1 g1 (by rw [List.length_map, List.length_range]; exact walk_range) (fun H' sm => trivial) fun i x d F2 H2 H3 s1 s2 q y => ?_⟩
    obtain ⟨rfl, rfl⟩ := y
    rw [List.getElem?_map] at q
    obtain ⟨j, q1, q2⟩ := Option.map_eq_some_iff.mp q
    obtain ⟨q3, q4⟩ := List.getElem?_eq_some_iff.mp q1
    rw [List.getElem_range] at q4
    subst q4
    subst q2
    have z : V.int (0 + ((i : Nat) : Int)) = V.int ((i : Nat) : Int) := by rw [Int.zero_add]
    exact ⟨F2, .refl s2, by show Is X.K F2 (V.int (0 + ((i : Nat) : Int))) _; rw [z]; exact .int _⟩⟩
theorem ei_r2 {p : Pos} {m n : Int} (hm : X.mg "range" = none) (h1 : Ev X H0 Γ a (.int m)) (h2 : Ev X H0 Γ b (.int n)) (hn : (-(2 ^ 62) ≤ m ∧ m < 2 ^ 62 ∧ -(2 ^ 62) ≤ n ∧ n < 2 ^ 62) := by omega) (hg : Gl X "range" := by rfl)
    (he : starEach [a, b] X.env = (false, eval a X.env) :: starEach [b] X.env := by rfl) (he2 : starEach [b] X.env = (false, eval b X.env) :: starEach [] X.env := by rfl) (hs : starEach [a, b] X.env = [(false, eval a X.env), (false, eval b X.env)] := by rfl) (hs2 : starEach [b] X.env = [(false, eval b X.env)] := by rfl) :
    Ei X H0 Γ tg (.Call (.Name "range" p) [a, b] [] pos) ((List.range (n - m).toNat).map fun k => D.int (m + (k : Nat))) :=
  wkI (pi_range2 hg hm (pa_cons h1 (pa_cons h2 pa_nil he2) he) hs hs2) fun σ H R ⟨F, h, k⟩ => ⟨F, h, fun v F1 H1 g1 r1 => ⟨F1, h.go g1, fun u F2 H2 g2 r2 => by
    cases r1
    cases r2
    refine ⟨m, n, rfl, hn, k _ _ _ F2 H2 (g1.trans g2) (by rw [List.length_map, List.length_range]; exact walk_range) (fun H' sm => trivial) fun i x d F2 H2 H3 s1 s2 q y => ?_⟩
    obtain ⟨rfl, rfl⟩ := y
    rw [List.getElem?_map] at q
    obtain ⟨j, q1, q2⟩ := Option.map_eq_some_iff.mp q
    obtain ⟨q3, q4⟩ := List.getElem?_eq_some_iff.mp q1
    rw [List.getElem_range] at q4
    subst q4
    subst q2
    exact ⟨F2, .refl s2, .int _⟩⟩⟩
/-- enumerate(a list) -/
def enumD (xs : List D) : List D := (List.range xs.length).map fun i => D.tup [.int (i : Nat), xs.getD i .non]
theorem ei_en {p tpos : Pos} {elts : List Expr} {kk : Nat} (hm : X.mg "enumerate" = none) (h : Ev X H0 Γ e (.lst xs)) (hg : Gl X "enumerate" := by rfl) (he : starEach [e] X.env = (false, eval e X.env) :: starEach [] X.env := by rfl) (hs : starEach [e] X.env = [(false, eval e X.env)] := by rfl) :
    Ei X H0 Γ (.Tuple elts kk tpos) (.Call (.Name "enumerate" p) [e] [] pos) (enumD xs) :=
  wkI (pi_enum hg hm (pa_cons h pa_nil he) hs) fun σ H R ⟨F, h, k⟩ => ⟨F, h, fun v F1 H1 g1 r1 => by
    cases r1 with
    | @lst a vs _ e1 r1 =>
      refine ⟨a, vs, rfl, .of (g1.fh _ _ e1), k _ _ _ F1 H1 g1 (by unfold enumD; rw [List.length_map, List.length_range, ← r1.length]; exact walk_enum) (fun H' sm => SqL.of (sm _ _ e1)) fun i x d F2 H2 H3 s1 s2 q y => ?_⟩
      obtain ⟨T, x1, y1, rfl, nT, rfl, f1, f2⟩ := y
      cases f1
      obtain ⟨d', q1, q2⟩ := r1.get' f2
      unfold enumD at q
      rw [List.getElem?_map] at q
      obtain ⟨j, z1, z2⟩ := Option.map_eq_some_iff.mp q
      obtain ⟨z3, z4⟩ := List.getElem?_eq_some_iff.mp z1
      rw [List.getElem_range] at z4
      subst z4
      subst z2
      rw [List.getD_eq_getElem?_getD, q1]
      exact ⟨_, .newF s2 nT, .tup upd_same (.cons (.int _) (.cons (q2.mono (s1.trans (same_new (Same.free s2 nT)))) .nil))⟩⟩
/-- zip of two lists -/
def zipD (xs ys : List D) : List D := (xs.zip ys).map fun p => D.tup [p.1, p.2]
theorem ei_zip {p tpos : Pos} {elts : List Expr} {kk : Nat} (hm : X.mg "zip" = none) (h1 : Ev X H0 Γ a (.lst xs)) (h2 : Ev X H0 Γ b (.lst ys)) (hg : Gl X "zip" := by rfl)
    (he : starEach [a, b] X.env = (false, eval a X.env) :: starEach [b] X.env := by rfl) (he2 : starEach [b] X.env = (false, eval b X.env) :: starEach [] X.env := by rfl) (hpl : (backTo pos (starEach [b] X.env)).any (·.1) = false := by rfl) :
    Ei X H0 Γ (.Tuple elts kk tpos) (.Call (.Name "zip" p) [a, b] [] pos) (zipD xs ys) :=
  wkI (pi_zip hg hm (pa_cons h1 (pa_cons h2 pa_nil he2) he) he hpl) fun σ H R ⟨F, h, k⟩ => ⟨F, h, fun v F1 H1 g1 r1 => ⟨F1, h.go g1, fun u F2 H2 g2 r2 => by
    cases r1 with
    | @lst a vs _ e1 r1 =>
      cases r2 with
      | @lst b us _ e2 r2 =>
        refine ⟨a, b, vs, us, rfl, .of (g2.kp _ _ (g1.fh _ _ e1)), .of (g2.fh _ _ e2), k _ _ _ F2 H2 (g1.trans g2) (walk_zip (xs := vs) (ys := us) (by unfold zipD; rw [List.length_map, List.length_zip, r1.length, r2.length])) (fun H' sm => ⟨SqL.of (sm _ _ (g2.ff _ _ e1)), SqL.of (sm _ _ e2)⟩) fun i x d F3 H3 H4 s1 s2 q y => ?_⟩
        obtain ⟨T, x1, y1, rfl, nT, rfl, f1, f2⟩ := y
        obtain ⟨d1, q1, q2⟩ := r1.get' f1
        obtain ⟨d2, q3, q4⟩ := r2.get' f2
        unfold zipD at q
        rw [List.getElem?_map, show (xs.zip ys)[i]? = some (d1, d2) from List.getElem?_zip_eq_some.mpr ⟨q1, q3⟩] at q
        cases q
        have sm := s1.trans (same_new (o := HO.tup [x1, y1]) (Same.free s2 nT))
        exact ⟨_, .newF s2 nT, .tup upd_same (.cons (q2.mono (g2.ff.trans sm)) (.cons (q4.mono sm) .nil))⟩⟩⟩
end

/-! ### targets -/
/-- data d is given to a target: Γ becomes Γ' -/
def Tg (X : Cx) (H0 : Hp) (tg : Expr) (U : D → List Sl → List Sl → Prop) : Prop := ∃ g : TG, PG X tg g ∧ ∀ d Γ Γ', U d Γ Γ' → ∀ F H σ v (Q : L2.St → Hp → Prop), Hold X.K H0 F H σ Γ → Is X.K F v d → (∀ σ', Hold X.K H0 F H σ' Γ' → Q σ' H) → g v σ H Q
def Tgs (X : Cx) (H0 : Hp) (tgs : List Expr) (U : List D → List Sl → List Sl → Prop) : Prop := ∃ g : TGs, PGs X tgs g ∧ ∀ ds Γ Γ', U ds Γ Γ' → ∀ F H σ vs (Q : L2.St → Hp → Prop), Hold X.K H0 F H σ Γ → IsA X.K F vs ds → (∀ σ', Hold X.K H0 F H σ' Γ' → Q σ' H) → g vs σ H Q
def uN (i : Nat) : D → List Sl → List Sl → Prop := fun d Γ Γ' => Γ' = Γ.set i (.da d)
def uT (U : List D → List Sl → List Sl → Prop) : D → List Sl → List Sl → Prop := fun d Γ Γ' => ∃ ds, d = .tup ds ∧ U ds Γ Γ'
def uNil : List D → List Sl → List Sl → Prop := fun ds Γ Γ' => ds = [] ∧ Γ' = Γ
def uCons (U : D → List Sl → List Sl → Prop) (W : List D → List Sl → List Sl → Prop) : List D → List Sl → List Sl → Prop := fun ds Γ Γ' => ∃ d r Γ1, ds = d :: r ∧ U d Γ Γ1 ∧ W r Γ1 Γ'
section
variable {X : Cx} {H0 : Hp} {e : Expr} {es : List Expr} {pos : Pos} {x : Str}
theorem tg_n (i : Nat) (hN : X.N.Nodup) (hi : X.N[i]? = some x := by rfl) (hx : Loc X.env.scope x := by first | exact .inl rfl | exact .inr rfl) (hf : X.fn x = true ∨ X.env.scope.names.lookup x = some .local := by first | exact .inl rfl | exact .inr rfl | assumption) :
    Tg X H0 (.Name x pos) (uN i) := ⟨_, pg_name (i := i) hN hi hx hf, fun d Γ Γ' u F H σ v Q h r k => by
  cases (show Γ' = Γ.set i (.da d) from u)
  exact k _ (h.setD i r)⟩
theorem tg_nil : Tgs X H0 [] uNil := ⟨_, pgs_nil, fun ds Γ Γ' u F H σ vs Q h r k => by
  obtain ⟨rfl, rfl⟩ := u
  cases r
  exact ⟨rfl, k _ h⟩⟩
theorem tg_cons {U : D → List Sl → List Sl → Prop} {W : List D → List Sl → List Sl → Prop} (h1 : Tg X H0 e U) (h2 : Tgs X H0 es W) (hs : (assignEach (e :: es) X.env).map (·.2) = assign e X.env :: (assignEach es X.env).map (·.2) := by rfl) :
    Tgs X H0 (e :: es) (uCons U W) := by
  obtain ⟨g1, p1, k1⟩ := h1
  obtain ⟨g2, p2, k2⟩ := h2
  refine ⟨_, pgs_cons p1 p2 hs, fun ds Γ Γ' u F H σ vs Q h r k => ?_⟩
  obtain ⟨d, rr, Γ1, rfl, u1, u2⟩ := u
  cases r with
  | cons r1 r2 => exact ⟨_, _, rfl, k1 d Γ Γ1 u1 F H σ _ _ h r1 fun σ1 h1 => k2 _ Γ1 Γ' u2 F H σ1 _ _ h1 r2 k⟩
theorem tg_t {k : Nat} {U : List D → List Sl → List Sl → Prop} {n : Nat} (h : Tgs X H0 es U) (hU : ∀ ds Γ Γ', U ds Γ Γ' → ds.length = n) (hc : X.calm = true := by rfl) (hn : (assignEach es X.env).length = n := by rfl) (hst : (assignEach es X.env).findIdx? (·.1) = none := by rfl) : Tg X H0 (.Tuple es k pos) (uT U) := by
  obtain ⟨g, p, q⟩ := h
  refine ⟨_, pg_tup hc p hn hst, fun d Γ Γ' u F H σ v Q h r k => ?_⟩
  obtain ⟨ds, rfl, u⟩ := u
  cases r with
  | tup e1 r1 => exact ⟨_, _, rfl, sqt_up h.fh e1, r1.length.trans (hU _ _ _ u), q ds Γ Γ' u F H σ _ Q h r1 k⟩
theorem u_len0 : ∀ ds Γ Γ', uNil ds Γ Γ' → ds.length = 0 := fun _ _ _ u => by rw [u.1]; rfl
theorem u_len {n : Nat} {U : D → List Sl → List Sl → Prop} {W : List D → List Sl → List Sl → Prop} (h : ∀ ds Γ Γ', W ds Γ Γ' → ds.length = n) : ∀ ds Γ Γ', uCons U W ds Γ Γ' → ds.length = n + 1 := fun _ _ _ u => by
  obtain ⟨d, r, Γ1, rfl, _, u2⟩ := u
  rw [List.length_cons, h _ _ _ u2]
end

/-! ### comprehensions -/
section
variable {X : Cx} {H0 : Hp} {Γ : List Sl} {tg iter elt : Expr} {xs : List D} {pos : Pos}
theorem wipe_set {σ : L2.St} {j : Nat} {x : Option V} : wipe ((wipe σ [j]).set j x) [j] = wipe σ [j] := by
  show ((σ.set j none).set j x).set j none = σ.set j none
  rw [List.set_set, List.set_set]
/-- the block's names: Γ without the slot j, then the item there -/
abbrev blkΓ (Γ : List Sl) (j : Nat) (x : D) : List Sl := (Γ.set j .un).set j (.da x)
/-- the items are inj of ys -/
theorem lc_read {K : PySem.W.Frag} {α : Type} {ys : List α} {inj : α → D} {j : Nat} {p : α → Bool} {f : α → D} (hz : ys.length ≤ sizeLine) {σ : L2.St} {H : Hp} {Q : VK} (h : rEo K H0 Γ ((ys.filter p).map f) σ H Q) :
    tLc (rEi K H0 Γ (ys.map inj)) (gName j) (fun σ H Q => ∃ y, y ∈ ys ∧ rEt K H0 (blkΓ Γ j (inj y)) (p y) σ H Q) (fun σ H Q => ∃ y, y ∈ ys ∧ p y = true ∧ rEv K H0 (blkΓ Γ j (inj y)) (f y) σ H Q) [j] σ H Q := by
  obtain ⟨F, h, k⟩ := h
  refine ⟨F, h, fun J G Y F1 H1 g1 w hG hY D hD => ?_⟩
  have hF1 : F1 D = none := Same.free g1.fh hD
  rw [List.length_map] at w
  refine lc_it (g := gName j) (tt := fun σ H Q => ∃ y, y ∈ ys ∧ rEt K H0 (blkΓ Γ j (inj y)) (p y) σ H Q) (te := fun σ H Q => ∃ y, y ∈ ys ∧ p y = true ∧ rEv K H0 (blkΓ Γ j (inj y)) (f y) σ H Q) (vs := [j]) (σ := σ) (Qd := fun H => Q (.ref D) H) w (fun i H' => ∃ F2 acc, Go F1 H1 F2 H' ∧ F2 D = none ∧ H' D = some (.lst acc) ∧ IsA K F2 acc (((ys.take i).filter p).map f)) ⟨F1, [], .newH g1.fh hD, hF1, upd_same, .nil⟩ (fun i H' _ ⟨F2, acc, g2, _⟩ => hG H' (g2.ff.trans g2.fh)) (fun i x H2 H3 hi ⟨F2, acc, g2, n2, e2, r2⟩ y => ?_) fun H' ⟨F2, acc, g2, n2, e2, r2⟩ => ?_
  · have hx : ys[i]? = some ys[i] := by simp [hi]
    have hx' : (ys.map inj)[i]? = some (inj ys[i]) := by rw [List.getElem?_map, hx]; rfl
    obtain ⟨F3, g3, r3⟩ := hY i x (inj ys[i]) F2 H2 H3 g2.ff g2.fh hx' y
    have mem : ys[i] ∈ ys := List.getElem_mem hi
    have hold : Hold K H0 F3 H3 ((L2.wipe σ [j]).set j (some x)) (blkΓ Γ j (inj ys[i])) := Hold.setD (σ := L2.wipe σ [j]) ((((h.go g1).go g2).go g3).wipe j) j r3
    have tk : ys.take (i + 1) = ys.take i ++ [ys[i]] := by rw [List.take_add_one, hx]; rfl
    have e3 : H3 D = some (.lst acc) := g3.kp _ _ e2
    have n3 : F3 D = none := g3.nf D _ e2 n2
    have hl : acc.length < sizeLine := by
      rw [r2.length, List.length_map]
      have := List.length_filter_le p (ys.take i)
      rw [List.length_take] at this
      omega
    refine ⟨wipe_set, ys[i], mem, F3, hold, fun F4 H4 g4 => ?_⟩
    have e4 : H4 D = some (.lst acc) := g4.kp _ _ e3
    have n4 : F4 D = none := g4.nf D _ e3 n3
    have go4 : Go F1 H1 F4 H4 := (g2.trans g3).trans g4
    cases hp : p ys[i] with
    | false =>
      refine ⟨F4, acc, go4, n4, e4, ?_⟩
      rw [tk, List.filter_append, List.filter_cons, if_neg (by rw [hp]; decide)]
      show IsA K F4 acc (List.map f (List.filter p (List.take i ys) ++ []))
      rw [List.append_nil]
      exact r2.mono (g3.ff.trans g4.ff)
    | true =>
      refine ⟨ys[i], mem, hp, F4, hold.go g4, fun v F5 H5 g5 r5 => ?_⟩
      have e5 : H5 D = some (.lst acc) := g5.kp _ _ e4
      have n5 : F5 D = none := g5.nf D _ e4 n4
      have go5 : Go F1 H1 F5 H5 := go4.trans g5
      refine ⟨acc, e5, hl, F5, acc ++ [v], ⟨go5.ff, fun a o q => ?_, fun a o q => ?_, go5.nf⟩, n5, upd_same, ?_⟩
      · rw [upd_ne (ne_of_none q n5)]
        exact go5.fh _ _ q
      · rw [upd_ne (ne_of_none q hD)]
        exact go5.kp _ _ q
      · rw [tk, List.filter_append, List.map_append, List.filter_cons, if_pos hp]
        exact (r2.mono (g3.ff.trans (g4.ff.trans g5.ff))).snoc r5
  · have gg : Go F1 H1 F2 H' := g2
    refine k D acc F2 H' (g1.trans g2) (Same.free g1.kp hD) n2 e2 ?_
    rw [List.take_length] at r2
    exact r2
theorem eo_lc {α : Type} {ys : List α} {inj : α → D} {ifs : List Expr} {scope : Scope} {nm : Str} (j : Nat) {p : α → Bool} {f : α → D} (hc : X.calm = true) (hN : X.N.Nodup) (hi : Ei X H0 Γ tg iter (ys.map inj)) (ok : BlkOk X.N X.env.scope scope [(nm, j)]) (hz : ys.length ≤ sizeLine)
    (hg : ∀ (s : Shared) (H : Hp) (C : Addr) (cl : List (Str × Addr)) (fp : List Addr), PG (X.blk s H scope (compEnvC scope cl C X.env) fp) tg (gName j))
    (ht : ∀ y ∈ ys, ∀ (s : Shared) (H : Hp) (C : Addr) (cl : List (Str × Addr)) (fp : List Addr), PTs (X.blk s H scope (compEnvC scope cl C X.env) fp) ifs (rEt X.K H0 (blkΓ Γ j (inj y)) (p y)))
    (he : ∀ y ∈ ys, p y = true → ∀ (s : Shared) (H : Hp) (C : Addr) (cl : List (Str × Addr)) (fp : List Addr), Ev (X.blk s H scope (compEnvC scope cl C X.env) fp) H0 (blkΓ Γ j (inj y)) elt (f y))
    (hs : ∀ x, foldedSetIterable iter X.env x = pure x := by intro _; rfl) : Eo X H0 Γ (.ListComp elt [⟨tg, iter, ifs, 0⟩] scope pos) ((ys.filter p).map f) :=
  wkE (pe_lc (own := [(nm, j)]) (g := gName j) (tt := fun σ H Q => ∃ y, y ∈ ys ∧ rEt X.K H0 (blkΓ Γ j (inj y)) (p y) σ H Q) (te := fun σ H Q => ∃ y, y ∈ ys ∧ p y = true ∧ rEv X.K H0 (blkΓ Γ j (inj y)) (f y) σ H Q) hc hN hi ok hg
    (fun s H C cl fp => ⟨fun pins s' σ H' Q I ⟨x, m, q⟩ => (ht x m s H C cl fp).run pins s' σ H' Q I q⟩) (fun s H C cl fp => ⟨fun pins s' σ H' Q I ⟨x, m, hp, q⟩ => (he x m hp s H C cl fp).run pins s' σ H' Q I q⟩) hs) fun σ H Q q => lc_read hz q
theorem filter_tt {α : Type} (ys : List α) : ys.filter (fun _ => true) = ys := List.filter_eq_self.mpr fun _ _ => rfl
/-- without a test -/
theorem eo_lc1 {α : Type} {ys : List α} {inj : α → D} {scope : Scope} {nm : Str} (j : Nat) {f : α → D} (hc : X.calm = true) (hN : X.N.Nodup) (hi : Ei X H0 Γ tg iter (ys.map inj)) (ok : BlkOk X.N X.env.scope scope [(nm, j)]) (hz : ys.length ≤ sizeLine)
    (hg : ∀ (s : Shared) (H : Hp) (C : Addr) (cl : List (Str × Addr)) (fp : List Addr), PG (X.blk s H scope (compEnvC scope cl C X.env) fp) tg (gName j))
    (he : ∀ y ∈ ys, ∀ (s : Shared) (H : Hp) (C : Addr) (cl : List (Str × Addr)) (fp : List Addr), Ev (X.blk s H scope (compEnvC scope cl C X.env) fp) H0 (blkΓ Γ j (inj y)) elt (f y))
    (hs : ∀ x, foldedSetIterable iter X.env x = pure x := by intro _; rfl) : Eo X H0 Γ (.ListComp elt [⟨tg, iter, [], 0⟩] scope pos) (ys.map f) := by
  have h := eo_lc (pos := pos) (p := fun _ => true) (f := f) j hc hN hi ok hz hg (fun y _ s H C cl fp => ⟨fun pins s' σ H' Q I ⟨F, h, k⟩ => pts_nil.run pins s' σ H' Q I (k F H' (.refl h.fh))⟩) (fun y m _ => he y m) hs
  rw [filter_tt] at h
  exact h
theorem pts_no {X' : Cx} {Γ' : List Sl} : PTs X' [] (rEt X'.K H0 Γ' true) := ⟨fun pins s σ H Q I ⟨F, h, k⟩ => pts_nil.run pins s σ H Q I (k F H (.refl h.fh))⟩
theorem pts_1 {X' : Cx} {Γ' : List Sl} {c : Expr} {k : Bool} (h : Et X' H0 Γ' c k) : PTs X' [c] (rEt X'.K H0 Γ' k) := pts_one h
end

/-! ### statements -/
structure Kt where
  nx : List Sl → Prop
  rt : D → List Sl → Prop
  bk : List Sl → Prop := fun _ => False
  ct : List Sl → Prop := fun _ => False
  /-- a tree of one's own is handed back -/
  rn : OT → List Sl → Prop := fun _ _ => False
def Pass1 (K : PySem.W.Frag) (H0 F : Hp) (M : List Sl → Prop) (N : L2.St → Hp → Prop) : Prop := ∀ F' H' σ' Γ', Tr H0 F F' → Hold K H0 F' H' σ' Γ' → M Γ' → N σ' H'
structure KOk (K : PySem.W.Frag) (H0 F : Hp) (κ : Kt) (E : Ends) : Prop where
  nx : Pass1 K H0 F κ.nx E.nx
  rt : ∀ F' H' σ' Γ' v d, Tr H0 F F' → Hold K H0 F' H' σ' Γ' → Is K F' v d → κ.rt d Γ' → E.rt v H'
  bk : Pass1 K H0 F κ.bk E.bk
  ct : Pass1 K H0 F κ.ct E.ct
  rn : ∀ F' H' σ' Γ' v t A, Tr H0 F F' → Hold K H0 F' H' σ' Γ' → Own K F' H' v t A → A.Nodup → (∀ a ∈ A, F' a = none ∧ H0 a = none) → κ.rn t Γ' → E.rt v H'
theorem Pass1.tr {K : PySem.W.Frag} {H0 F F' : Hp} {M : List Sl → Prop} {N : L2.St → Hp → Prop} (h : Pass1 K H0 F M N) (t : Tr H0 F F') : Pass1 K H0 F' M N := fun F2 H2 σ2 Γ2 t2 => h F2 H2 σ2 Γ2 (t.trans t2)
theorem KOk.tr {K : PySem.W.Frag} {H0 F F' : Hp} {κ : Kt} {E : Ends} (h : KOk K H0 F κ E) (t : Tr H0 F F') : KOk K H0 F' κ E := ⟨h.nx.tr t, fun F2 H2 σ2 Γ2 v d t2 => h.rt F2 H2 σ2 Γ2 v d (t.trans t2), h.bk.tr t, h.ct.tr t, fun F2 H2 σ2 Γ2 v d A t2 => h.rn F2 H2 σ2 Γ2 v d A (t.trans t2)⟩
def rRs (K : PySem.W.Frag) (H0 : Hp) (Γ : List Sl) (κ : Kt) : TS := fun E σ H => ∃ F, Hold K H0 F H σ Γ ∧ KOk K H0 F κ E
def Rn (X : Cx) (H0 : Hp) (Γ : List Sl) (st : Stmt) (κ : Kt) : Prop := PS X st (rRs X.K H0 Γ κ)
def Rs (X : Cx) (H0 : Hp) (Γ : List Sl) (sts : List Stmt) (κ : Kt) : Prop := PSs X sts (rRs X.K H0 Γ κ)

section
variable {X : Cx} {H0 : Hp} {Γ Γ' : List Sl} {st : Stmt} {rest body : List Stmt} {κ : Kt} {tg iter a b c e : Expr} {d : D} {xs ys : List D} {pos : Pos} {x : Str}
theorem rs_nil (h : κ.nx Γ) : Rs X H0 Γ [] κ := wkSs pss_nil fun E σ H ⟨F, hh, k⟩ => k.nx F H σ Γ .refl hh h
theorem rs_cons (M : List Sl → Prop) (h1 : Rn X H0 Γ st { κ with nx := M }) (h2 : ∀ Γ', M Γ' → Rs X H0 Γ' rest κ) : Rs X H0 Γ (st :: rest) κ :=
  wkSs (pss_cons (u := fun E σ H => ∃ Γ' F, M Γ' ∧ Hold X.K H0 F H σ Γ' ∧ KOk X.K H0 F κ E) h1 ⟨fun pins s σ H E I ⟨Γ', F, m, h, k⟩ => (h2 Γ' m).run pins s σ H E I ⟨F, h, k⟩⟩) fun E σ H ⟨F, h, k⟩ =>
    ⟨F, h, fun F' H' σ' Γ' t h' m => ⟨Γ', F', m, h', k.tr t⟩, k.rt, k.bk, k.ct, k.rn⟩
theorem rs_last (h : Rn X H0 Γ st κ) : Rs X H0 Γ [st] κ := pss_one h
theorem rs_sub (s : Sub Γ Γ') (h : Rs X H0 Γ' rest κ) : Rs X H0 Γ rest κ := wkSs h fun E σ H ⟨F, hh, k⟩ => ⟨F, hh.sub s, k⟩
theorem rs_freezeT (i : Nat) {q : Option Addr} {t : OT} (hi : Γ[i]? = some (.tr q t)) (h : Rs X H0 (Γ.set i (.da (fr t))) rest κ) : Rs X H0 Γ rest κ := wkSs h fun E σ H ⟨F, hh, k⟩ => by
  obtain ⟨F', t, _, _, h'⟩ := hh.freeze hi
  exact ⟨F', h', k.tr t⟩
theorem rs_freeze (i : Nat) (hi : Γ[i]? = some (.ol xs)) (h : Rs X H0 (Γ.set i (.da (.lst xs))) rest κ) : Rs X H0 Γ rest κ := rs_freezeT i hi (by rw [fr_ol]; exact h)
theorem rs_mono {κ' : Kt} (h : Rs X H0 Γ rest κ') (h1 : ∀ Γ, κ'.nx Γ → κ.nx Γ) (h2 : ∀ d Γ, κ'.rt d Γ → κ.rt d Γ) (h3 : ∀ Γ, κ'.bk Γ → κ.bk Γ) (h4 : ∀ Γ, κ'.ct Γ → κ.ct Γ) (h5 : ∀ d Γ, κ'.rn d Γ → κ.rn d Γ) : Rs X H0 Γ rest κ := wkSs h fun E σ H ⟨F, hh, k⟩ =>
  ⟨F, hh, fun F' H' σ' Γ' t g m => k.nx F' H' σ' Γ' t g (h1 _ m), fun F' H' σ' Γ' v d t g r m => k.rt F' H' σ' Γ' v d t g r (h2 _ _ m), fun F' H' σ' Γ' t g m => k.bk F' H' σ' Γ' t g (h3 _ m), fun F' H' σ' Γ' t g m => k.ct F' H' σ' Γ' t g (h4 _ m), fun F' H' σ' Γ' v d A t g r nd n m => k.rn F' H' σ' Γ' v d A t g r nd n (h5 _ _ m)⟩
/-! ### a statement -/
theorem rn_set (i : Nat) {pos' : Pos} (hN : X.N.Nodup) (he : Ev X H0 Γ e d) (hk : κ.nx (Γ.set i (.da d))) (hi : X.N[i]? = some x := by rfl) (hx : Loc X.env.scope x := by first | exact .inl rfl | exact .inr rfl) (hs : swapsWith e (some (.Name x pos')) pos.line X.env = pure false := by rfl)
    (hf : X.fn x = true ∨ X.env.scope.names.lookup x = some .local := by first | exact .inl rfl | exact .inr rfl | assumption) : Rn X H0 Γ (.Assign [.Name x pos'] e pos) κ :=
  wkS (ps_set (i := i) hN hi hx he hs hf) fun E σ H ⟨F, h, k⟩ => ⟨F, h, fun v F' H' g r => k.nx F' H' _ _ (h.tr g) ((h.go g).setD i r) hk⟩
theorem Hold.setO {K : PySem.W.Frag} {F H F' H' : Hp} {σ : L2.St} (h : Hold K H0 F H σ Γ) (g : Go F H F' H') {p : Addr} {vs : List V} (i : Nat) (n1 : H p = none) (n2 : F' p = none) (e : H' p = some (.lst vs)) (r : IsA K F' vs xs) : Hold K H0 F' H' (σ.set i (some (.ref p))) (Γ.set i (.ol xs)) :=
  h.setN g (A := [p]) i (.lst e (.fz r)) (by simp) fun a m => by
    cases List.mem_singleton.mp m
    exact ⟨n1, n2⟩
theorem rn_setO (i : Nat) {pos' : Pos} (hN : X.N.Nodup) (he : Eo X H0 Γ e xs) (hk : κ.nx (Γ.set i (.ol xs))) (hi : X.N[i]? = some x := by rfl) (hx : Loc X.env.scope x := by first | exact .inl rfl | exact .inr rfl) (hs : swapsWith e (some (.Name x pos')) pos.line X.env = pure false := by rfl)
    (hf : X.fn x = true ∨ X.env.scope.names.lookup x = some .local := by first | exact .inl rfl | exact .inr rfl | assumption) : Rn X H0 Γ (.Assign [.Name x pos'] e pos) κ :=
  wkS (ps_set (i := i) hN hi hx he hs hf) fun E σ H ⟨F, h, k⟩ => ⟨F, h, fun p vs F' H' g n1 n2 e1 r1 => k.nx F' H' _ _ (h.tr g) (h.setO g i n1 n2 e1 r1) hk⟩
theorem rs_set (i : Nat) {pos' : Pos} (hN : X.N.Nodup) (he : Ev X H0 Γ e d) (hk : Rs X H0 (Γ.set i (.da d)) rest κ) (hi : X.N[i]? = some x := by rfl) (hx : Loc X.env.scope x := by first | exact .inl rfl | exact .inr rfl) (hs : swapsWith e (some (.Name x pos')) pos.line X.env = pure false := by rfl)
    (hf : X.fn x = true ∨ X.env.scope.names.lookup x = some .local := by first | exact .inl rfl | exact .inr rfl | assumption) : Rs X H0 Γ (.Assign [.Name x pos'] e pos :: rest) κ :=
  rs_cons (fun Γ' => Γ' = Γ.set i (.da d)) (rn_set i hN he rfl hi hx hs hf) fun Γ' q => q ▸ hk
theorem rs_setO (i : Nat) {pos' : Pos} (hN : X.N.Nodup) (he : Eo X H0 Γ e xs) (hk : Rs X H0 (Γ.set i (.ol xs)) rest κ) (hi : X.N[i]? = some x := by rfl) (hx : Loc X.env.scope x := by first | exact .inl rfl | exact .inr rfl) (hs : swapsWith e (some (.Name x pos')) pos.line X.env = pure false := by rfl)
    (hf : X.fn x = true ∨ X.env.scope.names.lookup x = some .local := by first | exact .inl rfl | exact .inr rfl | assumption) : Rs X H0 Γ (.Assign [.Name x pos'] e pos :: rest) κ :=
  rs_cons (fun Γ' => Γ' = Γ.set i (.ol xs)) (rn_setO i hN he rfl hi hx hs hf) fun Γ' q => q ▸ hk
/-- name = [..] on one line, owned -/
theorem rs_setLc (i : Nat) {py : Pos} {elt : Expr} {α : Type} {ys : List α} {inj : α → D} {ifs : List Expr} {scope : Scope} {nm y : Str} {spos : Pos} (j : Nat) {p : α → Bool} {f : α → D} (hc : X.calm = true) (hN : X.N.Nodup) (hi : Ei X H0 Γ tg iter (ys.map inj)) (ok : BlkOk X.N X.env.scope scope [(nm, j)]) (hz : ys.length ≤ sizeLine)
    (hg : ∀ (s : Shared) (H : Hp) (C : Addr) (cl : List (Str × Addr)) (fp : List Addr), PG (X.blk s H scope (compEnvC scope cl C X.env) fp) tg (gName j))
    (ht : ∀ y ∈ ys, ∀ (s : Shared) (H : Hp) (C : Addr) (cl : List (Str × Addr)) (fp : List Addr), PTs (X.blk s H scope (compEnvC scope cl C X.env) fp) ifs (rEt X.K H0 (blkΓ Γ j (inj y)) (p y)))
    (he : ∀ y ∈ ys, p y = true → ∀ (s : Shared) (H : Hp) (C : Addr) (cl : List (Str × Addr)) (fp : List Addr), Ev (X.blk s H scope (compEnvC scope cl C X.env) fp) H0 (blkΓ Γ j (inj y)) elt (f y))
    (hk : Rs X H0 (Γ.set i (.ol ((ys.filter p).map f))) rest κ)
    (hy : X.N[i]? = some y := by rfl) (hyl : X.env.scope.names.lookup y = some .local := by rfl) (hsw : swapsWith (.ListComp elt [⟨tg, iter, ifs, 0⟩] scope pos) (some (.Name y py)) spos.line X.env = pure true := by exact sw_true rfl rfl rfl (by decide +kernel))
    (hs : ∀ x, foldedSetIterable iter X.env x = pure x := by intro _; rfl) : Rs X H0 Γ (.Assign [.Name y py] (.ListComp elt [⟨tg, iter, ifs, 0⟩] scope pos) spos :: rest) κ :=
  rs_cons (fun Γ' => Γ' = Γ.set i (.ol ((ys.filter p).map f))) (wkS (ps_setLc (i := i) (own := [(nm, j)]) (g := gName j) (tt := fun σ H Q => ∃ y, y ∈ ys ∧ rEt X.K H0 (blkΓ Γ j (inj y)) (p y) σ H Q) (te := fun σ H Q => ∃ y, y ∈ ys ∧ p y = true ∧ rEv X.K H0 (blkΓ Γ j (inj y)) (f y) σ H Q) hc hN hy hyl hsw hi ok hg
    (fun s H C cl fp => ⟨fun pins s' σ H' Q I ⟨x, m, q⟩ => (ht x m s H C cl fp).run pins s' σ H' Q I q⟩) (fun s H C cl fp => ⟨fun pins s' σ H' Q I ⟨x, m, hp, q⟩ => (he x m hp s H C cl fp).run pins s' σ H' Q I q⟩) hs) fun E σ H ⟨F, h, k⟩ =>
      lc_read hz ⟨F, h, fun p vs F' H' g n1 n2 e1 r1 => k.nx F' H' _ _ (h.tr g) (h.setO g i n1 n2 e1 r1) rfl⟩) fun Γ' q => q ▸ hk
theorem rs_setLc1 (i : Nat) {py : Pos} {elt : Expr} {α : Type} {ys : List α} {inj : α → D} {scope : Scope} {nm y : Str} {spos : Pos} (j : Nat) {f : α → D} (hc : X.calm = true) (hN : X.N.Nodup) (hi : Ei X H0 Γ tg iter (ys.map inj)) (ok : BlkOk X.N X.env.scope scope [(nm, j)]) (hz : ys.length ≤ sizeLine)
    (hg : ∀ (s : Shared) (H : Hp) (C : Addr) (cl : List (Str × Addr)) (fp : List Addr), PG (X.blk s H scope (compEnvC scope cl C X.env) fp) tg (gName j))
    (he : ∀ y ∈ ys, ∀ (s : Shared) (H : Hp) (C : Addr) (cl : List (Str × Addr)) (fp : List Addr), Ev (X.blk s H scope (compEnvC scope cl C X.env) fp) H0 (blkΓ Γ j (inj y)) elt (f y))
    (hk : Rs X H0 (Γ.set i (.ol (ys.map f))) rest κ)
    (hy : X.N[i]? = some y := by rfl) (hyl : X.env.scope.names.lookup y = some .local := by rfl) (hsw : swapsWith (.ListComp elt [⟨tg, iter, [], 0⟩] scope pos) (some (.Name y py)) spos.line X.env = pure true := by exact sw_true rfl rfl rfl (by decide +kernel))
    (hs : ∀ x, foldedSetIterable iter X.env x = pure x := by intro _; rfl) : Rs X H0 Γ (.Assign [.Name y py] (.ListComp elt [⟨tg, iter, [], 0⟩] scope pos) spos :: rest) κ :=
  rs_setLc (p := fun _ => true) (f := f) i j hc hN hi ok hz hg (fun y _ s H C cl fp => ⟨fun pins s' σ H' Q I ⟨F, h, k⟩ => pts_nil.run pins s' σ H' Q I (k F H' (.refl h.fh))⟩) (fun y m _ => he y m) (by rw [filter_tt]; exact hk) hy hyl hsw hs
/-- any target -/
theorem rs_tg {U : D → List Sl → List Sl → Prop} (ht : Tg X H0 tg U) (he : Ev X H0 Γ e d) (hU : U d Γ Γ') (hk : Rs X H0 Γ' rest κ) (hs : swapsWithSole [tg] e pos.line X.env = pure false := by rfl) (hw : swappedStores [tg] e X.env = pure none := by rfl)
    (h1 : (assignEach [tg] X.env).map (·.2) = [assign tg X.env] := by rfl) : Rs X H0 Γ (.Assign [tg] e pos :: rest) κ := by
  obtain ⟨g, pg, q⟩ := ht
  exact rs_cons (fun Γ1 => Γ1 = Γ') (wkS (ps_asg he pg hs hw h1) fun E σ H ⟨F, h, k⟩ => ⟨F, h, fun v F' H' g1 r => q d Γ Γ' hU F' H' σ v _ (h.go g1) r fun σ' h' => k.nx F' H' σ' Γ' (h.tr g1) h' rfl⟩) fun Γ1 z => z ▸ hk
/-- name op= e, ints -/
theorem rs_augI (i : Nat) {pos' : Pos} {op : Operator} {f : Int → Int → Int} {m n : Int} (ho : PIp X op (ipI f)) (hN : X.N.Nodup) (he : Ev X H0 Γ e (.int n)) (hk : Rs X H0 (Γ.set i (.da (.int (f m n)))) rest κ) (hΓ : Γ[i]? = some (.da (.int m)) := by rfl) (hi : X.N[i]? = some x := by rfl)
    (hx : Loc X.env.scope x := by first | exact .inl rfl | exact .inr rfl) (hf : X.fn x = true ∨ X.env.scope.names.lookup x = some .local := by first | exact .inl rfl | exact .inr rfl | assumption) : Rs X H0 Γ (.AugAssign (.Name x pos') op e pos :: rest) κ :=
  rs_cons (fun Γ' => Γ' = Γ.set i (.da (.int (f m n)))) (wkS (ps_aug (i := i) hN hi hx he ho hf) fun E σ H ⟨F, h, k⟩ => by
    obtain ⟨v, e1, r1⟩ := h.da i _ hΓ
    cases r1
    exact ⟨_, e1, F, h, fun u F' H' g r => by
      cases r
      exact ⟨m, n, rfl, rfl, k.nx F' H' _ _ (h.tr g) ((h.go g).setD i (.int _)) rfl⟩⟩) fun Γ' q => q ▸ hk
/-- xs.append(e) -/
theorem rs_app (i : Nat) {apos cpos p : Pos} (he : Ev X H0 Γ e d) (hk : Rs X H0 (Γ.set i (.ol (xs ++ [d]))) rest κ) (hz : xs.length < sizeLine) (hΓ : Γ[i]? = some (.ol xs) := by rfl) (hN : X.N[i]? = some x := by rfl)
    (hv : Vis X.env.scope x := by first | exact Or.inl rfl | exact Or.inr (Or.inl rfl) | exact Or.inr (Or.inr rfl)) (hdb : (x == ("__debug__" : Str)) = false := by decide) (hcd : (x == ("__classdict__" : Str)) = false := by decide)
    (hse : starEach [e] X.env = (false, eval e X.env) :: starEach [] X.env := by rfl)
    (hbase : attributeBase (.Name x p) "append" X.env (eval (.Name x p) X.env) = eval (.Name x p) X.env := by rfl)
    (hfew : ((backTo cpos (starEach [e] X.env)).all (fun x => !x.1) && (backToKw cpos (keywordEach [] X.env)).all (fun x => x.1.isSome)
      && decide (([e] : List Expr).length + ([] : List Keyword).length + (if ([] : List Keyword).isEmpty then 0 else 1) < 30)) = true := by rfl)
    (hline : (apos.endLine == cpos.line) = true := by rfl) (hpl : (backTo cpos (starEach [] X.env)).any (·.1) = false := by rfl)
    (hsw : swapsWith (.Call (.Attribute (.Name x p) "append" apos) [e] [] cpos) none pos.line X.env = pure false := by rfl) :
    Rs X H0 Γ (.Expr (.Call (.Attribute (.Name x p) "append" apos) [e] [] cpos) pos :: rest) κ :=
  rs_cons (fun Γ' => Γ' = Γ.set i (.ol (xs ++ [d]))) (wkS (ps_expr (pe_bm PySem.F.plainAttrs_list PySem.F.slot_list_append PySem.F.type_list_append mt_append (pe_var (i := i) hN hv hdb hcd) (pa_cons he pa_nil hse) hbase hfew hline hse hpl) hsw) fun E σ H ⟨F, h, k⟩ => by
    obtain ⟨p, vs, e1, e2, e3, e4, e5⟩ := h.ol i xs hΓ
    refine ⟨_, e1, .inl ⟨rfl, vs, .of e4⟩, F, h, fun v F' H' g r => ⟨p, vs, v, rfl, rfl, g.kp _ _ e4, by rw [e5.length]; exact hz, ?_⟩⟩
    exact k.nx F' _ _ _ (h.tr g) ((h.go g).write hΓ e1 ((e5.mono g.ff).snoc r)) rfl) fun Γ' q => q ▸ hk
/-- xs[k] = e -/
theorem rs_put (i : Nat) {p tpos : Pos} {k : Int} {j : Nat} (he : Ev X H0 Γ e d) (hb : Ev X H0 Γ b (.int k)) (hj : ixN xs.length k = some j) (hk : Rs X H0 (Γ.set i (.ol (xs.set j d))) rest κ) (hΓ : Γ[i]? = some (.ol xs) := by rfl) (hN : X.N[i]? = some x := by rfl)
    (hv : Vis X.env.scope x := by first | exact Or.inl rfl | exact Or.inr (Or.inl rfl) | exact Or.inr (Or.inr rfl)) (hdb : (x == ("__debug__" : Str)) = false := by decide) (hcd : (x == ("__classdict__" : Str)) = false := by decide)
    (ha : ∀ v, assign (.Subscript (.Name x p) b tpos) X.env v = (do
      let ov ← holding [v] (eval (.Name x p) X.env)
      let iv ← holding [v, ov] (eval b X.env)
      standAt tpos
      holding [v, ov, iv] (setItem ov iv v)
      release [v, ov, iv] []) := by intro _; rfl)
    (hs : swapsWithSole [.Subscript (.Name x p) b tpos] e pos.line X.env = pure false := by rfl) (hw : swappedStores [.Subscript (.Name x p) b tpos] e X.env = pure none := by rfl)
    (h1 : (assignEach [.Subscript (.Name x p) b tpos] X.env).map (·.2) = [assign (.Subscript (.Name x p) b tpos) X.env] := by rfl) : Rs X H0 Γ (.Assign [.Subscript (.Name x p) b tpos] e pos :: rest) κ :=
  rs_cons (fun Γ' => Γ' = Γ.set i (.ol (xs.set j d))) (wkS (ps_asg he (pg_sub (pe_var (i := i) hN hv hdb hcd) hb set_list ha) hs hw h1) fun E σ H ⟨F, h, kk⟩ => ⟨F, h, fun v F1 H1 g1 r1 => by
    obtain ⟨p, vs, e1, e2, e3, e4, e5⟩ := (h.go g1).ol i xs hΓ
    refine ⟨_, e1, F1, h.go g1, fun u F2 H2 g2 r2 => ?_⟩
    cases r2
    refine ⟨p, vs, k, j, rfl, rfl, g2.kp _ _ e4, by rw [e5.length]; exact hj, ?_⟩
    exact kk.nx F2 _ _ _ ((h.tr g1).trans ((h.go g1).tr g2)) (((h.go g1).go g2).write hΓ e1 ((e5.mono g2.ff).set j (r1.mono g2.ff))) rfl⟩) fun Γ' q => q ▸ hk
theorem rn_ret (he : Ev X H0 Γ e d) (hk : κ.rt d Γ) : Rn X H0 Γ (.Return (some e) pos) κ := wkS (ps_ret he) fun E σ H ⟨F, h, k⟩ => ⟨F, h, fun v F' H' g r => k.rt F' H' σ Γ v d (h.tr g) (h.go g) r hk⟩
theorem rs_ret (he : Ev X H0 Γ e d) (hk : κ.rt d Γ) : Rs X H0 Γ (.Return (some e) pos :: rest) κ := rs_cons (fun _ => False) (rn_ret he hk) fun _ z => z.elim
theorem rs_retN (hk : κ.rt .non Γ) : Rs X H0 Γ (.Return none pos :: rest) κ := rs_cons (fun _ => False) (wkS ps_retN fun E σ H ⟨F, h, k⟩ => k.rt F H σ Γ .non .non .refl h .non hk) fun _ z => z.elim
theorem rs_cont (hk : κ.ct Γ) : Rs X H0 Γ (.Continue pos :: rest) κ := rs_cons (fun _ => False) (wkS ps_continue fun E σ H ⟨F, h, k⟩ => k.ct F H σ Γ .refl h hk) fun _ z => z.elim
theorem rs_break (hk : κ.bk Γ) : Rs X H0 Γ (.Break pos :: rest) κ := rs_cons (fun _ => False) (wkS ps_break fun E σ H ⟨F, h, k⟩ => k.bk F H σ Γ .refl h hk) fun _ z => z.elim
theorem rs_pass (hk : Rs X H0 Γ rest κ) : Rs X H0 Γ (.Pass pos :: rest) κ := rs_cons (fun Γ' => Γ' = Γ) (wkS ps_pass fun E σ H ⟨F, h, k⟩ => k.nx F H σ Γ .refl h rfl) fun Γ' q => q ▸ hk
theorem rn_if {A B : List Stmt} {k : Bool} (hc : Et X H0 Γ c k) (h1 : k = true → Rs X H0 Γ A κ) (h2 : k = false → Rs X H0 Γ B κ) : Rn X H0 Γ (.If c A B pos) κ := by
  cases k with
  | true => exact wkS (ps_if hc (h1 rfl) (pss_never (sts := B))) fun E σ H ⟨F, h, k⟩ => ⟨F, h, fun F' H' g => ⟨F', h.go g, k.tr (h.tr g)⟩⟩
  | false => exact wkS (ps_if hc (pss_never (sts := A)) (h2 rfl)) fun E σ H ⟨F, h, k⟩ => ⟨F, h, fun F' H' g => ⟨F', h.go g, k.tr (h.tr g)⟩⟩
/-- if with what follows: M is what both ways lead to -/
theorem rs_if {A B : List Stmt} {k : Bool} (M : List Sl → Prop) (hc : Et X H0 Γ c k) (h1 : k = true → Rs X H0 Γ A { κ with nx := M }) (h2 : k = false → Rs X H0 Γ B { κ with nx := M }) (h3 : ∀ Γ', M Γ' → Rs X H0 Γ' rest κ) : Rs X H0 Γ (.If c A B pos :: rest) κ :=
  rs_cons M (rn_if hc h1 h2) h3
/-- if without else, whose way does not come back -/
theorem rs_if1 {A : List Stmt} {k : Bool} (hc : Et X H0 Γ c k) (h1 : k = true → Rs X H0 Γ A { κ with nx := fun _ => False }) (h2 : k = false → Rs X H0 Γ rest κ) : Rs X H0 Γ (.If c A [] pos :: rest) κ :=
  rs_if (fun Γ' => k = false ∧ Γ' = Γ) hc (fun e => rs_mono (h1 e) (fun _ z => z.elim) (fun _ _ z => z) (fun _ z => z) (fun _ z => z) (fun _ _ z => z)) (fun e => rs_nil ⟨e, rfl⟩) fun Γ' ⟨e, q⟩ => q ▸ h2 e
/-- if c: x = e, told by the value that x has behind it -/
theorem rs_ifset (i : Nat) {k : Bool} {d0 : D} {pos' pos2 : Pos} (hN : X.N.Nodup) (hc : Et X H0 Γ c k) (he : k = true → Ev X H0 Γ e d) (hk : Rs X H0 (Γ.set i (.da (if k then d else d0))) rest κ) (hΓ : Γ[i]? = some (.da d0) := by rfl) (hi : X.N[i]? = some x := by rfl) (hx : Loc X.env.scope x := by first | exact .inl rfl | exact .inr rfl)
    (hs : swapsWith e (some (.Name x pos')) pos2.line X.env = pure false := by rfl) (hf : X.fn x = true ∨ X.env.scope.names.lookup x = some .local := by first | exact .inl rfl | exact .inr rfl | assumption) : Rs X H0 Γ (.If c [.Assign [.Name x pos'] e pos2] [] pos :: rest) κ :=
  rs_if (fun Γ' => Γ' = Γ.set i (.da (if k then d else d0))) hc (fun q => by
    subst q
    exact rs_last (rn_set i hN (he rfl) rfl hi hx hs hf)) (fun q => by
    subst q
    refine rs_nil ?_
    show Γ = Γ.set i (.da d0)
    obtain ⟨hl, e⟩ := List.getElem?_eq_some_iff.mp hΓ
    rw [← e, List.set_getElem_self]) fun Γ' q => q ▸ hk
/-- if without else, each way to the end -/
theorem rs_ifs {A B : List Stmt} {k : Bool} {MA MB : List Sl → Prop} (hc : Et X H0 Γ c k) (h1 : k = true → Rs X H0 Γ A { κ with nx := MA }) (h2 : k = false → Rs X H0 Γ B { κ with nx := MB }) (h3 : k = true → ∀ Γ', MA Γ' → Rs X H0 Γ' rest κ) (h4 : k = false → ∀ Γ', MB Γ' → Rs X H0 Γ' rest κ) : Rs X H0 Γ (.If c A B pos :: rest) κ := by
  cases k with
  | true => exact rs_if MA hc h1 (fun e => nomatch e) (h3 rfl)
  | false => exact rs_if MB hc (fun e => nomatch e) h2 (h4 rfl)
/-- for -/
theorem rn_for {U : D → List Sl → List Sl → Prop} (I : Nat → List Sl → Prop) (hp : PassesOwn (model X.prog X.w) X.A X.env X.xe) (hi : Ei X H0 Γ tg iter xs) (ht : Tg X H0 tg U) (h0 : I 0 Γ)
    (hs : ∀ i d Γ', xs[i]? = some d → I i Γ' → ∃ Γ1, U d Γ' Γ1 ∧ Rs X H0 Γ1 body ⟨I (i + 1), κ.rt, κ.nx, I (i + 1), κ.rn⟩) (hd : ∀ Γ', I xs.length Γ' → κ.nx Γ') (hc : X.calm = true := by rfl)
    (hsx : ∀ x, foldedSetIterable iter X.env x = pure x := by intro _; rfl) : Rn X H0 Γ (.For tg iter body [] pos) κ := by
  obtain ⟨g, pg, q⟩ := ht
  refine wkS (ps_for (tb := fun E σ H => ∃ i d Γ' Γ1, xs[i]? = some d ∧ I i Γ' ∧ U d Γ' Γ1 ∧ Rs X H0 Γ1 body ⟨I (i + 1), κ.rt, κ.nx, I (i + 1), κ.rn⟩ ∧ rRs X.K H0 Γ1 ⟨I (i + 1), κ.rt, κ.nx, I (i + 1), κ.rn⟩ E σ H) hp hc hi pg ⟨fun pins s σ H E J ⟨i, d, Γ', Γ1, e, m, u, r, z⟩ => r.run pins s σ H E J z⟩ hsx) fun E σ H ⟨F, h, k⟩ => ?_
  refine ⟨F, h, fun J G Y F1 H1 g1 w hG hY => for_it (g := g) (tb := fun E σ H => ∃ i d Γ' Γ1, xs[i]? = some d ∧ I i Γ' ∧ U d Γ' Γ1 ∧ Rs X H0 Γ1 body ⟨I (i + 1), κ.rt, κ.nx, I (i + 1), κ.rn⟩ ∧ rRs X.K H0 Γ1 ⟨I (i + 1), κ.rt, κ.nx, I (i + 1), κ.rn⟩ E σ H) (D := E) w (fun i σ' H' => ∃ F' Γ', I i Γ' ∧ Hold X.K H0 F' H' σ' Γ' ∧ Tr H0 F1 F') ⟨F1, Γ, h0, h.go g1, .refl⟩ (fun i σ' H' _ ⟨F', Γ', _, h', t⟩ => hG H' (t.ff.trans h'.fh)) (fun i x σ' H' H2 hi ⟨F', Γ', m, h', t⟩ y => ?_) fun σ' H' ⟨F', Γ', m, h', t⟩ => ?_⟩
  · have hx : xs[i]? = some xs[i] := by simp [hi]
    obtain ⟨F3, g3, r3⟩ := hY i x xs[i] F' H' H2 t.ff h'.fh hx y
    obtain ⟨Γ1, u, r⟩ := hs i _ Γ' hx m
    have t3 : Tr H0 F1 F3 := t.trans (h'.tr g3)
    refine q _ Γ' Γ1 u F3 H2 σ' x _ (h'.go g3) r3 fun σ1 h1 => ⟨i, xs[i], Γ', Γ1, hx, m, u, r, F3, h1, fun F4 H4 σ4 Γ4 t4 h4 m4 => ⟨F4, Γ4, m4, h4, t3.trans t4⟩, fun F4 H4 σ4 Γ4 v d t4 g4 r4 m4 => ?_, fun F4 H4 σ4 Γ4 t4 h4 m4 => ?_, fun F4 H4 σ4 Γ4 t4 h4 m4 => ⟨F4, Γ4, m4, h4, t3.trans t4⟩, fun F4 H4 σ4 Γ4 v d A t4 g4 r4 nd n m4 => k.rn F4 H4 σ4 Γ4 v d A ((h.tr g1).trans (t3.trans t4)) g4 r4 nd n m4⟩
    · exact k.rt F4 H4 σ4 Γ4 v d ((h.tr g1).trans (t3.trans t4)) g4 r4 m4
    · exact k.nx F4 H4 σ4 Γ4 ((h.tr g1).trans (t3.trans t4)) h4 m4
  · exact k.nx F' H' σ' Γ' ((h.tr g1).trans t) h' (hd Γ' m)
theorem rs_for {U : D → List Sl → List Sl → Prop} (I : Nat → List Sl → Prop) (hp : PassesOwn (model X.prog X.w) X.A X.env X.xe) (hi : Ei X H0 Γ tg iter xs) (ht : Tg X H0 tg U) (h0 : I 0 Γ)
    (hs : ∀ i d Γ', xs[i]? = some d → I i Γ' → ∃ Γ1, U d Γ' Γ1 ∧ Rs X H0 Γ1 body ⟨I (i + 1), κ.rt, I xs.length, I (i + 1), κ.rn⟩) (hd : ∀ Γ', I xs.length Γ' → Rs X H0 Γ' rest κ) (hc : X.calm = true := by rfl)
    (hsx : ∀ x, foldedSetIterable iter X.env x = pure x := by intro _; rfl) : Rs X H0 Γ (.For tg iter body [] pos :: rest) κ :=
  rs_cons (I xs.length) (rn_for I hp hi ht h0 hs (fun _ z => z) hc hsx) hd
/-- for, with the names as they stand at each turn: G i, up to forgetting -/
theorem rs_forG {U : D → List Sl → List Sl → Prop} (G : Nat → List Sl) (hp : PassesOwn (model X.prog X.w) X.A X.env X.xe) (hi : Ei X H0 Γ tg iter xs) (ht : Tg X H0 tg U) (h0 : Sub Γ (G 0))
    (hs : ∀ i d, xs[i]? = some d → ∃ Γ1, U d (G i) Γ1 ∧ Rs X H0 Γ1 body ⟨fun Γ' => Sub Γ' (G (i + 1)), κ.rt, fun _ => False, fun Γ' => Sub Γ' (G (i + 1)), κ.rn⟩) (hd : Rs X H0 (G xs.length) rest κ) (hc : X.calm = true := by rfl)
    (hsx : ∀ x, foldedSetIterable iter X.env x = pure x := by intro _; rfl) : Rs X H0 Γ (.For tg iter body [] pos :: rest) κ := by
  obtain ⟨g, pg, q⟩ := ht
  refine rs_cons (fun Γ' => Sub Γ' (G xs.length)) (wkS (ps_for (tb := fun E σ H => ∃ i d Γ1, xs[i]? = some d ∧ U d (G i) Γ1 ∧ Rs X H0 Γ1 body ⟨fun Γ' => Sub Γ' (G (i + 1)), κ.rt, fun _ => False, fun Γ' => Sub Γ' (G (i + 1)), κ.rn⟩ ∧ rRs X.K H0 Γ1 ⟨fun Γ' => Sub Γ' (G (i + 1)), κ.rt, fun _ => False, fun Γ' => Sub Γ' (G (i + 1)), κ.rn⟩ E σ H) hp hc hi pg ⟨fun pins s σ H E J ⟨i, d, Γ1, e, u, r, z⟩ => r.run pins s σ H E J z⟩ hsx) fun E σ H ⟨F, h, k⟩ => ?_) fun Γ' s => rs_sub s hd
  refine ⟨F, h, fun J GG Y F1 H1 g1 w hG hY => for_it (g := g) (tb := fun E σ H => ∃ i d Γ1, xs[i]? = some d ∧ U d (G i) Γ1 ∧ Rs X H0 Γ1 body ⟨fun Γ' => Sub Γ' (G (i + 1)), κ.rt, fun _ => False, fun Γ' => Sub Γ' (G (i + 1)), κ.rn⟩ ∧ rRs X.K H0 Γ1 ⟨fun Γ' => Sub Γ' (G (i + 1)), κ.rt, fun _ => False, fun Γ' => Sub Γ' (G (i + 1)), κ.rn⟩ E σ H) (D := E) w (fun i σ' H' => ∃ F', Hold X.K H0 F' H' σ' (G i) ∧ Tr H0 F1 F') ⟨F1, (h.go g1).sub h0, .refl⟩ (fun i σ' H' _ ⟨F', h', t⟩ => hG H' (t.ff.trans h'.fh)) (fun i x σ' H' H2 hi ⟨F', h', t⟩ y => ?_) fun σ' H' ⟨F', h', t⟩ => ?_⟩
  · have hx : xs[i]? = some xs[i] := by simp [hi]
    obtain ⟨F3, g3, r3⟩ := hY i x xs[i] F' H' H2 t.ff h'.fh hx y
    obtain ⟨Γ1, u, r⟩ := hs i _ hx
    have t3 : Tr H0 F1 F3 := t.trans (h'.tr g3)
    refine q _ (G i) Γ1 u F3 H2 σ' x _ (h'.go g3) r3 fun σ1 h1 => ⟨i, xs[i], Γ1, hx, u, r, F3, h1, fun F4 H4 σ4 Γ4 t4 h4 m4 => ⟨F4, h4.sub m4, t3.trans t4⟩, fun F4 H4 σ4 Γ4 v d t4 g4 r4 m4 => ?_, fun F4 H4 σ4 Γ4 t4 h4 m4 => m4.elim, fun F4 H4 σ4 Γ4 t4 h4 m4 => ⟨F4, h4.sub m4, t3.trans t4⟩, fun F4 H4 σ4 Γ4 v d A t4 g4 r4 nd n m4 => k.rn F4 H4 σ4 Γ4 v d A ((h.tr g1).trans (t3.trans t4)) g4 r4 nd n m4⟩
    exact k.rt F4 H4 σ4 Γ4 v d ((h.tr g1).trans (t3.trans t4)) g4 r4 m4
  · exact k.nx F' H' σ' (G xs.length) ((h.tr g1).trans t) h' (Sub.refl _)
/-- .. and with what holds between the turns: P i; a break leads to what follows by M -/
theorem rs_forP {U : D → List Sl → List Sl → Prop} (G : Nat → List Sl) (P : Nat → Prop) (M : List Sl → Prop) (hp : PassesOwn (model X.prog X.w) X.A X.env X.xe) (hi : Ei X H0 Γ tg iter xs) (ht : Tg X H0 tg U) (h0 : Sub Γ (G 0)) (p0 : P 0)
    (hs : ∀ i d, xs[i]? = some d → P i → ∃ Γ1, U d (G i) Γ1 ∧ Rs X H0 Γ1 body ⟨fun Γ' => Sub Γ' (G (i + 1)) ∧ P (i + 1), κ.rt, M, fun Γ' => Sub Γ' (G (i + 1)) ∧ P (i + 1), κ.rn⟩) (hd : P xs.length → Rs X H0 (G xs.length) rest κ) (hb : ∀ Γ', M Γ' → Rs X H0 Γ' rest κ) (hc : X.calm = true := by rfl)
    (hsx : ∀ x, foldedSetIterable iter X.env x = pure x := by intro _; rfl) : Rs X H0 Γ (.For tg iter body [] pos :: rest) κ := by
  obtain ⟨g, pg, q⟩ := ht
  refine rs_cons (fun Γ' => (Sub Γ' (G xs.length) ∧ P xs.length) ∨ M Γ') (wkS (ps_for (tb := fun E σ H => ∃ i d Γ1, xs[i]? = some d ∧ U d (G i) Γ1 ∧ Rs X H0 Γ1 body ⟨fun Γ' => Sub Γ' (G (i + 1)) ∧ P (i + 1), κ.rt, M, fun Γ' => Sub Γ' (G (i + 1)) ∧ P (i + 1), κ.rn⟩ ∧ rRs X.K H0 Γ1 ⟨fun Γ' => Sub Γ' (G (i + 1)) ∧ P (i + 1), κ.rt, M, fun Γ' => Sub Γ' (G (i + 1)) ∧ P (i + 1), κ.rn⟩ E σ H) hp hc hi pg ⟨fun pins s σ H E J ⟨i, d, Γ1, e, u, r, z⟩ => r.run pins s σ H E J z⟩ hsx) fun E σ H ⟨F, h, k⟩ => ?_) fun Γ' s => s.elim (fun s => rs_sub s.1 (hd s.2)) (hb Γ')
  refine ⟨F, h, fun J GG Y F1 H1 g1 w hG hY => for_it (g := g) (tb := fun E σ H => ∃ i d Γ1, xs[i]? = some d ∧ U d (G i) Γ1 ∧ Rs X H0 Γ1 body ⟨fun Γ' => Sub Γ' (G (i + 1)) ∧ P (i + 1), κ.rt, M, fun Γ' => Sub Γ' (G (i + 1)) ∧ P (i + 1), κ.rn⟩ ∧ rRs X.K H0 Γ1 ⟨fun Γ' => Sub Γ' (G (i + 1)) ∧ P (i + 1), κ.rt, M, fun Γ' => Sub Γ' (G (i + 1)) ∧ P (i + 1), κ.rn⟩ E σ H) (D := E) w (fun i σ' H' => ∃ F', Hold X.K H0 F' H' σ' (G i) ∧ Tr H0 F1 F' ∧ P i) ⟨F1, (h.go g1).sub h0, .refl, p0⟩ (fun i σ' H' _ ⟨F', h', t, _⟩ => hG H' (t.ff.trans h'.fh)) (fun i x σ' H' H2 hi ⟨F', h', t, p⟩ y => ?_) fun σ' H' ⟨F', h', t, p⟩ => ?_⟩
  · have hx : xs[i]? = some xs[i] := by simp [hi]
    obtain ⟨F3, g3, r3⟩ := hY i x xs[i] F' H' H2 t.ff h'.fh hx y
    obtain ⟨Γ1, u, r⟩ := hs i _ hx p
    have t3 : Tr H0 F1 F3 := t.trans (h'.tr g3)
    refine q _ (G i) Γ1 u F3 H2 σ' x _ (h'.go g3) r3 fun σ1 h1 => ⟨i, xs[i], Γ1, hx, u, r, F3, h1, fun F4 H4 σ4 Γ4 t4 h4 m4 => ⟨F4, h4.sub m4.1, t3.trans t4, m4.2⟩, fun F4 H4 σ4 Γ4 v d t4 g4 r4 m4 => ?_, fun F4 H4 σ4 Γ4 t4 h4 m4 => k.nx F4 H4 σ4 Γ4 ((h.tr g1).trans (t3.trans t4)) h4 (.inr m4), fun F4 H4 σ4 Γ4 t4 h4 m4 => ⟨F4, h4.sub m4.1, t3.trans t4, m4.2⟩, fun F4 H4 σ4 Γ4 v d A t4 g4 r4 nd n m4 => k.rn F4 H4 σ4 Γ4 v d A ((h.tr g1).trans (t3.trans t4)) g4 r4 nd n m4⟩
    exact k.rt F4 H4 σ4 Γ4 v d ((h.tr g1).trans (t3.trans t4)) g4 r4 m4
  · exact k.nx F' H' σ' (G xs.length) ((h.tr g1).trans t) h' (.inl ⟨Sub.refl _, p⟩)
/-- while -/
theorem rs_while {M : List Sl → Prop} (W : Nat → List Sl → Prop) (hp : PassesOwn (model X.prog X.w) X.A X.env X.xe) (h0 : ∃ m, W m Γ)
    (hs : ∀ m Γ', W m Γ' → ∃ k, Et X H0 Γ' c k ∧ (k = true → Rs X H0 Γ' body ⟨fun Γ2 => ∃ m', m' < m ∧ W m' Γ2, κ.rt, M, fun Γ2 => ∃ m', m' < m ∧ W m' Γ2, κ.rn⟩) ∧ (k = false → M Γ')) (hd : ∀ Γ', M Γ' → Rs X H0 Γ' rest κ) : Rs X H0 Γ (.While c body [] pos :: rest) κ := by
  refine rs_cons M (wkS (ps_while (tc := fun σ H Q => ∃ Γ' k, Et X H0 Γ' c k ∧ rEt X.K H0 Γ' k σ H Q) (tb := fun E σ H => ∃ m Γ', Rs X H0 Γ' body ⟨fun Γ2 => ∃ m', m' < m ∧ W m' Γ2, κ.rt, M, fun Γ2 => ∃ m', m' < m ∧ W m' Γ2, κ.rn⟩ ∧ rRs X.K H0 Γ' ⟨fun Γ2 => ∃ m', m' < m ∧ W m' Γ2, κ.rt, M, fun Γ2 => ∃ m', m' < m ∧ W m' Γ2, κ.rn⟩ E σ H) hp
    ⟨fun pins s σ H Q J ⟨Γ', k, hE, r⟩ => hE.run pins s σ H Q J r⟩ ⟨fun pins s σ H E J ⟨m, Γ', r, z⟩ => r.run pins s σ H E J z⟩) fun E σ H ⟨F, h, k⟩ => ?_) hd
  obtain ⟨m0, w0⟩ := h0
  refine ⟨fun m σ' H' => ∃ F' Γ', W m Γ' ∧ Hold X.K H0 F' H' σ' Γ' ∧ Tr H0 F F', ⟨m0, F, Γ, w0, h, .refl⟩, fun m σ1 H1 ⟨F1, Γ1, w1, h1, t1⟩ => ?_⟩
  obtain ⟨b, hE, hT, hF⟩ := hs m Γ1 w1
  refine ⟨Γ1, b, hE, F1, h1, fun F2 H2 g2 => ?_⟩
  have t2 : Tr H0 F F2 := t1.trans (h1.tr g2)
  cases b with
  | true =>
    refine ⟨fun σ' H' => ∃ F' Γ', (∃ m', m' < m ∧ W m' Γ') ∧ Hold X.K H0 F' H' σ' Γ' ∧ Tr H0 F F', fun σ' H' ⟨F', Γ', ⟨m', hm, w'⟩, h', t'⟩ => ⟨m', hm, F', Γ', w', h', t'⟩, m, Γ1, hT rfl, F2, h1.go g2, fun F4 H4 σ4 Γ4 t4 h4 m4 => ⟨F4, Γ4, m4, h4, t2.trans t4⟩, fun F4 H4 σ4 Γ4 v d t4 g4 r4 m4 => k.rt F4 H4 σ4 Γ4 v d (t2.trans t4) g4 r4 m4, fun F4 H4 σ4 Γ4 t4 h4 m4 => k.nx F4 H4 σ4 Γ4 (t2.trans t4) h4 m4, fun F4 H4 σ4 Γ4 t4 h4 m4 => ⟨F4, Γ4, m4, h4, t2.trans t4⟩, fun F4 H4 σ4 Γ4 v d A t4 g4 r4 nd n m4 => k.rn F4 H4 σ4 Γ4 v d A (t2.trans t4) g4 r4 nd n m4⟩
  | false => exact k.nx F2 H2 σ1 Γ1 t2 (h1.go g2) (hF rfl)
end

/-! ### a def -/
def startΓ (n : Nat) (ds : List D) : List Sl := ds.map Sl.da ++ List.replicate (n - ds.length) Sl.un
theorem hold_start {K : PySem.W.Frag} {F H : Hp} {N : List Str} {vs : List V} {ds : List D} (sm : Same F H) (r : IsA K F vs ds) : Hold K H F H (L2.start N vs) (startΓ N.length ds) := by
  have hl := r.length
  refine ⟨by unfold L2.start startΓ; simp [hl], sm, .refl _, fun _ => [], fun i s e => ?_, fun i a m => (by cases m), fun _ => List.nodup_nil, fun i j a m => (by cases m)⟩
  unfold startΓ at e
  by_cases hi : i < ds.length
  · rw [List.getElem?_append_left (by simpa using hi), List.getElem?_map] at e
    obtain ⟨d', e1, e2⟩ := Option.map_eq_some_iff.mp e
    subst e2
    obtain ⟨v, q1, q2⟩ := r.get e1
    refine ⟨v, ?_, q2⟩
    unfold L2.start
    rw [List.getElem?_append_left (by simp [hl]; exact hi), List.getElem?_map, q1]
    rfl
  · rw [List.getElem?_append_right (by simpa using hi), List.getElem?_replicate] at e
    split at e
    · cases e
      trivial
    · cases e
section
variable {P : Program} {w : World} {K : PySem.W.Frag} {mg : Str → Option Value} {base : Heap}
theorem fn_ok {x qual : Str} {st : Stmt} {f : Addr} {fd : FuncData} {N ps : List Str} {k : Nat} {S : List D → D → Prop} (F : Fun K x qual st f fd) (sc : FnScope N ps (defScope st)) (len : ∀ ds r, S ds r → ds.length = ps.length)
    (body : ∀ (cdv : Value) (A : Around) (outer : List Env) (s : Shared) (H : Hp) (E : XK) (ds : List D) (r : D), Room k (A.deeper (envOfC qual (defScope st) s.heap.objs.size f cdv)) → S ds r →
      Rs (cxOf CX0 P w K mg base N qual (defScope st) f cdv A outer s H E).nox H (startΓ N.length ds) (defBody st) ⟨fun _ => r = .non, fun d _ => d = r, fun _ => False, fun _ => False, fun t _ => fr t = r⟩) : FnOk P w K mg base CX0 (k + 1) f fd ps (SpD K S) := by
  refine F.ok sc (fun vs H Q E h => ?_) (fun cdv A outer s H vs Q E hr h => ?_)
  · obtain ⟨F, ds, r, sm, ia, hS, _⟩ := h
    rw [ia.length]
    exact len ds r hS
  · obtain ⟨F, ds, r, sm, ia, hS, q⟩ := h
    refine ⟨_, body cdv A outer s H E ds r hr hS, F, hold_start sm ia, fun F' H' σ' Γ' t h' m => ?_, fun F' H' σ' Γ' v d t h' ri m => ?_, fun F' H' σ' Γ' t h' m => m.elim, fun F' H' σ' Γ' t h' m => m.elim, fun F' H' σ' Γ' v d A t h' ri nd n m => ?_⟩
    · cases (show r = .non from m)
      exact q .non F' H' ⟨t.ff, h'.fh, h'.h0, t.nf⟩ .non
    · cases (show d = r from m)
      exact q v F' H' ⟨t.ff, h'.fh, h'.h0, t.nf⟩ ri
    · cases (show fr d = r from m)
      exact q v _ H' (Go.lay ⟨t.ff, h'.fh, h'.h0, t.nf⟩ fun a m => ⟨(n a m).2, (n a m).1⟩) (ri.lay fun a m => (n a m).1)

/-! ### defs that stand at the top -/
/-- a def as the top has left it -/
def Dfn (K : PySem.W.Frag) (mg : Str → Option Value) (x : Str) (st : Stmt) (ps : List Str) : Prop := ∃ f fd, Fun K x x st f fd ∧ mg x = some (.ref f) ∧ Binds K fd ps []
/-- it may be called -/
structure Cal (P : Program) (w : World) (K : PySem.W.Frag) (mg : Str → Option Value) (base : Heap) (k : Nat) (x : Str) (ps : List Str) (S : List D → D → Prop) : Prop where
  ex : ∃ f fd, FnOk P w K mg base CX0 k f fd ps (SpD K S) ∧ mg x = some (.ref f) ∧ PySem.W.keepIn K (.ref f) = true ∧ Binds K fd ps [] ∧ ∃ oc od osl, K.lookup f = some ⟨oc, od, .func fd, osl⟩
theorem cal_ok {x : Str} {st : Stmt} {N ps : List Str} {k : Nat} {S : List D → D → Prop} (F : Dfn K mg x st ps) (sc : FnScope N ps (defScope st)) (len : ∀ ds r, S ds r → ds.length = ps.length)
    (body : ∀ (f : Addr) (cdv : Value) (A : Around) (outer : List Env) (s : Shared) (H : Hp) (E : XK) (ds : List D) (r : D), Room k (A.deeper (envOfC x (defScope st) s.heap.objs.size f cdv)) → S ds r →
      Rs (cxOf CX0 P w K mg base N x (defScope st) f cdv A outer s H E).nox H (startΓ N.length ds) (defBody st) ⟨fun _ => r = .non, fun d _ => d = r, fun _ => False, fun _ => False, fun t _ => fr t = r⟩) : Cal P w K mg base (k + 1) x ps S := by
  obtain ⟨f, fd, h1, h2, h3⟩ := F
  refine ⟨f, fd, fn_ok h1 sc len fun cdv A outer s H E ds r => body f cdv A outer s H E ds r, h2, h1.kp, h3, ?_⟩
  obtain ⟨oc, od, kV, doc, pm, an, cdv, ct, osl, e, lk, hcd⟩ := h1.ex
  exact ⟨oc, od, osl, lk⟩
theorem Cal.mono {x : Str} {ps : List Str} {j k : Nat} {S : List D → D → Prop} (C : Cal P w K mg base j x ps S) (h : j ≤ k) : Cal P w K mg base k x ps S := by
  obtain ⟨f, fd, h1, h2⟩ := C.ex
  exact ⟨f, fd, h1.mono h, h2⟩
end
theorem ev_cal {X : Cx} {H0 : Hp} {Γ : List Sl} {e : Expr} {pos : Pos} {k : Nat} {ps : List Str} {S : List D → D → Prop} {x : Str} {p : Pos} {es : List Expr} {ds : List D} {r : D} (C : Cal X.prog X.w X.K X.mg X.base k x ps S) (hr : Room k X.A) (ha : Ea X H0 Γ (e :: es) ds) (hS : S ds r)
    (hg : Gl X x := by rfl) (hdb : (x == ("__debug__" : Str)) = false := by decide)
    (he : starEach (e :: es) X.env = (false, eval e X.env) :: starEach es X.env := by rfl) (hpl : (backTo pos (starEach es X.env)).any (·.1) = false := by rfl) : Ev X H0 Γ (.Call (.Name x p) (e :: es) [] pos) r := by
  obtain ⟨f, fd, h1, h2, h3, h4, _⟩ := C.ex
  exact ev_call h1 hr h2 h3 h4 ha hS hg hdb he hpl
/-- a list of items of one kind, by place -/
theorem get_inj {α : Type} {ys : List α} {inj : α → D} {i : Nat} {d : D} (h : (ys.map inj)[i]? = some d) : ∃ y, ys[i]? = some y ∧ d = inj y := by
  rw [List.getElem?_map] at h
  obtain ⟨y, h1, h2⟩ := Option.map_eq_some_iff.mp h
  exact ⟨y, h1, h2.symm⟩
theorem get_range {n i : Nat} {inj : Nat → D} {d : D} (h : ((List.range n).map inj)[i]? = some d) : i < n ∧ d = inj i := by
  obtain ⟨y, h1, rfl⟩ := get_inj h
  obtain ⟨h2, h3⟩ := List.getElem?_eq_some_iff.mp h1
  rw [List.getElem_range] at h3
  subst h3
  rw [List.length_range] at h2
  exact ⟨h2, rfl⟩
theorem at_nat {α : Type} {xs : List α} {i : Nat} {x : α} (h : xs[i]? = some x) : atI xs (i : Int) = some x := atI_nat h
theorem at_map {α β : Type} {f : α → β} {xs : List α} {i : Nat} {x : α} (h : xs[i]? = some x) : atI (xs.map f) (i : Int) = some (f x) := atI_map (atI_nat h)
end Dv

namespace Dv
open PySem PySem.Spec PyProof.Rows L2

/-! ### one's own read as if it were laid for good, where the answer holds nothing of it -/
inductive Frz : List Sl → List Sl → Prop
  | nil : Frz [] []
  | sm {s : Sl} {a b : List Sl} : Frz a b → Frz (s :: a) (s :: b)
  | fz {q : Option Addr} {t : OT} {d : D} {a b : List Sl} : fr t = d → Frz a b → Frz (.tr q t :: a) (.da d :: b)
theorem Frz.length {a b : List Sl} (h : Frz a b) : a.length = b.length := by
  induction h with
  | nil => rfl
  | sm _ ih => exact congrArg Nat.succ ih
  | fz _ _ ih => exact congrArg Nat.succ ih
theorem Frz.get {a b : List Sl} (h : Frz a b) : ∀ {i : Nat} {s : Sl}, b[i]? = some s → a[i]? = some s ∨ ∃ q t, a[i]? = some (.tr q t) ∧ s = .da (fr t) := by
  induction h with
  | nil => intro i s e; simp at e
  | sm _ ih =>
    intro i s e
    cases i with
    | zero => exact .inl (by simpa using e)
    | succ i => simpa using ih (by simpa using e)
  | fz z _ ih =>
    intro i s e
    cases i with
    | zero =>
      simp at e
      subst e
      exact .inr ⟨_, _, rfl, by rw [z]⟩
    | succ i => simpa using ih (by simpa using e)
open Classical in
theorem Hold.frz {K : PySem.W.Frag} {H0 F H : Hp} {σ : L2.St} {Γ Γ' : List Sl} (h : Hold K H0 F H σ Γ) (z : Frz Γ Γ') : ∃ F', Same F F' ∧ (∀ a o, F a = none → F' a = some o → nodeO o) ∧ Hold K H0 F' H σ Γ' := by
  obtain ⟨fp, h1, h2, h3, h4⟩ := h.ex
  let L : Nat → Prop := fun i => ∃ t d, (∃ q, Γ[i]? = some (.tr q t)) ∧ Γ'[i]? = some (.da d)
  let F' : Hp := fun a => if ∃ i, L i ∧ a ∈ fp i then H a else F a
  have sm : Same F F' := fun a o e => by
    have n : ¬ ∃ i, L i ∧ a ∈ fp i := fun ⟨i, _, m⟩ => by
      rw [(h2 i a m).1] at e
      cases e
    show (if ∃ i, L i ∧ a ∈ fp i then H a else F a) = some o
    rw [if_neg n]
    exact e
  have fe : ∀ i, L i → (fun i => if L i then [] else fp i) i = [] := fun i c => if_pos c
  have fn : ∀ i, ¬ L i → (fun i => if L i then [] else fp i) i = fp i := fun i c => if_neg c
  generalize (fun i => if L i then [] else fp i) = fq at fe fn
  refine ⟨F', sm, fun a o n e => ?_, h.len.trans z.length, fun a o e => ?_, h.h0, fq, fun i s e => ?_, fun i a m => ?_, fun i => ?_, fun i j a m1 m2 => ?_⟩
  · have e' : (if ∃ i, L i ∧ a ∈ fp i then H a else F a) = some o := e
    by_cases c : ∃ i, L i ∧ a ∈ fp i
    · rw [if_pos c] at e'
      obtain ⟨i, ⟨t, d, ⟨q, hq⟩, _⟩, m⟩ := c
      obtain ⟨v, r1, r2, r3⟩ := h1 i _ hq
      obtain ⟨o', w1, w2⟩ := own_node.1 _ _ _ r2 a m
      rw [e'] at w1
      cases w1
      exact w2
    · rw [if_neg c, n] at e'
      cases e'
  · have e' : (if ∃ i, L i ∧ a ∈ fp i then H a else F a) = some o := e
    by_cases c : ∃ i, L i ∧ a ∈ fp i
    · rw [if_pos c] at e'
      exact e'
    · rw [if_neg c] at e'
      exact h.fh _ _ e'
  · rcases z.get e with q | ⟨q, t, e1, e2⟩
    · have r := h1 i s q
      cases s with
      | un => trivial
      | da d =>
        obtain ⟨v, r1, r2⟩ := r
        exact ⟨v, r1, r2.mono sm⟩
      | tr qq t =>
        have nL : ¬ L i := fun ⟨_, d, _, e3⟩ => by
          rw [e] at e3
          cases e3
        obtain ⟨v, r1, r2, r3⟩ := r
        exact ⟨v, r1, (by rw [fn i nL]; exact r2.mono sm fun _ _ _ x => x), r3⟩
    · subst e2
      obtain ⟨v, r1, r2, r3⟩ := h1 i _ e1
      have hL : L i := ⟨t, fr t, ⟨q, e1⟩, e⟩
      refine ⟨v, r1, r2.fr sm fun a m => ?_⟩
      show (if ∃ i, L i ∧ a ∈ fp i then H a else F a) = H a
      rw [if_pos ⟨i, hL, m⟩]
  · by_cases c : L i
    · rw [fe i c] at m
      cases m
    · rw [fn i c] at m
      obtain ⟨n1, n2, n3⟩ := h2 i a m
      refine ⟨?_, n2, n3⟩
      have nn : ¬ ∃ j, L j ∧ a ∈ fp j := fun ⟨j, l, m'⟩ => c (by rw [h4 i j a m m']; exact l)
      show (if ∃ i, L i ∧ a ∈ fp i then H a else F a) = none
      rw [if_neg nn]
      exact n1
  · by_cases c : L i
    · rw [fe i c]
      exact List.nodup_nil
    · rw [fn i c]
      exact h3 i
  · by_cases c1 : L i
    · rw [fe i c1] at m1
      cases m1
    · by_cases c2 : L j
      · rw [fe j c2] at m2
        cases m2
      · rw [fn i c1] at m1
        rw [fn j c2] at m2
        exact h4 i j a m1 m2
open Classical in
/-- going on, what was lent taken back -/
noncomputable def unlay (F F' F2 : Hp) : Hp := fun a => if F a = none ∧ F' a ≠ none then none else F2 a
open Classical in
theorem Go.unlay {F F' H F2 H2 : Hp} (s : Same F F') (g : Go F' H F2 H2) : Go F H (Dv.unlay F F' F2) H2 := by
  refine ⟨fun a o e => ?_, fun a o e => ?_, g.kp, fun a o e n => ?_⟩
  · show (if F a = none ∧ F' a ≠ none then none else F2 a) = some o
    rw [if_neg (fun z => by rw [z.1] at e; cases e)]
    exact g.ff _ _ (s _ _ e)
  · have e' : (if F a = none ∧ F' a ≠ none then none else F2 a) = some o := e
    by_cases c : F a = none ∧ F' a ≠ none
    · rw [if_pos c] at e'
      cases e'
    · rw [if_neg c] at e'
      exact g.fh _ _ e'
  · show (if F a = none ∧ F' a ≠ none then none else F2 a) = none
    by_cases c : F a = none ∧ F' a ≠ none
    · rw [if_pos c]
    · rw [if_neg c]
      have n' : F' a = none := by
        cases q : F' a with
        | none => rfl
        | some u => exact absurd ⟨n, by rw [q]; simp⟩ c
      exact g.nf a o e n'
mutual
/-- scalars, and tuples of such -/
def tupD : D → Bool
  | .non => true
  | .bl _ => true
  | .int _ => true
  | .str _ => true
  | .tup ds => tupDA ds
  | _ => false
def tupDA : List D → Bool
  | [] => true
  | d :: ds => tupD d && tupDA ds
end
mutual
/-- the leaves are such -/
def lvT : OT → Bool
  | .fz d => tupD d
  | .lst ts => lvA ts
  | .obj _ fs => lvS fs
  | .dic fs => lvK fs
  | .dit fs => lvTT fs
def lvA : List OT → Bool
  | [] => true
  | t :: ts => lvT t && lvA ts
def lvS : List (Str × OT) → Bool
  | [] => true
  | (_, t) :: ts => lvT t && lvS ts
def lvK : List (Key × OT) → Bool
  | [] => true
  | (_, t) :: ts => lvT t && lvK ts
def lvTT : List (List Key × OT) → Bool
  | [] => true
  | (_, t) :: ts => lvT t && lvTT ts
end
theorem lvS_map : ∀ fs : List (Str × OT), lvS fs = lvA (fs.map (·.2))
  | [] => by rw [lvS, List.map_nil, lvA]
  | (_, t) :: fs => by rw [lvS, List.map_cons, lvA, lvS_map fs]
theorem lvK_map : ∀ fs : List (Key × OT), lvK fs = lvA (fs.map (·.2))
  | [] => by rw [lvK, List.map_nil, lvA]
  | (_, t) :: fs => by rw [lvK, List.map_cons, lvA, lvK_map fs]
theorem lvTT_map : ∀ fs : List (List Key × OT), lvTT fs = lvA (fs.map (·.2))
  | [] => by rw [lvTT, List.map_nil, lvA]
  | (_, t) :: fs => by rw [lvTT, List.map_cons, lvA, lvTT_map fs]
theorem unlay_at {F F' F2 : Hp} {a : Addr} {o : HO} (n : ∀ a o, F a = none → F' a = some o → nodeO o) (g : Same F' F2) (e : F2 a = some o) (no : ¬ nodeO o) : unlay F F' F2 a = some o := by
  unfold unlay
  rw [if_neg]
  · exact e
  · intro c
    cases q : F' a with
    | none => exact c.2 q
    | some u =>
      have := g a u q
      rw [e] at this
      cases this
      exact no (n a o c.1 q)
mutual
theorem unlay_is {K : PySem.W.Frag} {F F' F2 : Hp} (n : ∀ a o, F a = none → F' a = some o → nodeO o) (g : Same F' F2) : ∀ (d : D) (v : V), tupD d = true → Is K F2 v d → Is K (unlay F F' F2) v d
  | .non, _, _, h => by cases h; exact .non
  | .bl b, _, _, h => by cases h; exact .bl b
  | .int b, _, _, h => by cases h; exact .int b
  | .str b, _, _, h => by cases h; exact .str b
  | .tup ds, _, p, h => by
    rw [tupD] at p
    cases h with
    | tup h1 h2 =>
      exact .tup (unlay_at n g h1 (fun z => z)) (unlay_isA n g ds _ p h2)
  | .lst _, _, p, _ => by cases p
  | .scr _, _, p, _ => by cases p
  | .adr _, _, p, _ => by cases p
  | .obj _ _, _, p, _ => by cases p
  | .dic _, _, p, _ => by cases p
  | .dit _, _, p, _ => by cases p
theorem unlay_isA {K : PySem.W.Frag} {F F' F2 : Hp} (n : ∀ a o, F a = none → F' a = some o → nodeO o) (g : Same F' F2) : ∀ (ds : List D) (vs : List V), tupDA ds = true → IsA K F2 vs ds → IsA K (unlay F F' F2) vs ds
  | [], _, _, h => by cases h; exact .nil
  | d :: ds, _, p, h => by
    rw [tupDA, Bool.and_eq_true] at p
    cases h with
    | cons h1 h2 => exact .cons (unlay_is n g d _ p.1 h1) (unlay_isA n g ds _ p.2 h2)
end
theorem unlay_own {K : PySem.W.Frag} {F F' F2 H2 : Hp} (n : ∀ a o, F a = none → F' a = some o → nodeO o) (g : Same F' F2) {v : V} {t : OT} {A : List Addr} (h : Own K F2 H2 v t A) (p : lvT t = true) : Own K (unlay F F' F2) H2 v t A :=
  (own_rec (K := K) (F := F2) (H := H2) (P := fun v t A => lvT t = true → Own K (unlay F F' F2) H2 v t A) (R := fun vs ts A => lvA ts = true → OwnA K (unlay F F' F2) H2 vs ts A) (fun v d q p => .fz (unlay_is n g d v (by rw [lvT] at p; exact p) q))
    (fun p vs ts A q _ i z => .lst q (i (by rw [lvT] at z; exact z))) (fun p C dx vs ts A q e _ i z => .obj q e (i (by rw [lvT, lvS_map] at z; exact z))) (fun p vs ts A q e _ i z => .dic q e (i (by rw [lvT, lvK_map] at z; exact z))) (fun p vs ts A q e _ i z => .dit q e (i (by rw [lvT, lvTT_map] at z; exact z)))
    (fun _ => .nil) fun v vs t ts A B i j z => by
      rw [lvA, Bool.and_eq_true] at z
      exact .cons (i z.1) (j z.2)).1 v t A h p
theorem tupDA_ints (ns : List Int) : tupDA (ns.map D.int) = true := by
  induction ns with
  | nil => rw [List.map_nil, tupDA]
  | cons n ns ih => rw [List.map_cons, tupDA, tupD, ih]; rfl
theorem lvA_fz {ds : List D} (h : tupDA ds = true) : lvA (ds.map .fz) = true := by
  induction ds with
  | nil => rw [List.map_nil, lvA]
  | cons d ds ih =>
    rw [tupDA, Bool.and_eq_true] at h
    rw [List.map_cons, lvA, lvT, h.1, ih h.2]
    rfl
section
variable {X : Cx} {H0 : Hp} {Γ Γ' : List Sl} {a b c e : Expr} {d d1 d2 : D} {xs ys : List D} {pos : Pos}
theorem ev_bor (z : Frz Γ Γ') (h : Ev X H0 Γ' e d) (hv : tupD d = true := by rfl) : Ev X H0 Γ e d := wkE h fun σ H Q ⟨F, h, k⟩ => by
  obtain ⟨F', s, n, h'⟩ := h.frz z
  exact ⟨F', h', fun v F2 H2 g r => k v _ H2 (g.unlay s) (unlay_is n g.ff d v hv r)⟩
theorem en_bor {t : OT} (z : Frz Γ Γ') (h : En X H0 Γ' e t) (hv : lvT t = true) : En X H0 Γ e t := wkE h fun σ H Q ⟨F, h, k⟩ => by
  obtain ⟨F', s, n, h'⟩ := h.frz z
  refine ⟨F', h', fun v A F2 H2 g o nd na => k v A _ H2 (g.unlay s) (unlay_own n g.ff o hv) nd fun a m => ⟨(na a m).1, ?_⟩⟩
  unfold unlay
  split
  · rfl
  · exact (na a m).2
theorem et_bor {k : Bool} (z : Frz Γ Γ') (h : Et X H0 Γ' e k) : Et X H0 Γ e k := wkT h fun σ H Q ⟨F, h, k⟩ => by
  obtain ⟨F', s, _, h'⟩ := h.frz z
  exact ⟨F', h', fun F2 H2 g => k _ H2 (g.unlay s)⟩
theorem ec_bor {op : CmpOp} {k : Bool} (z : Frz Γ Γ') (h : Ec X H0 Γ' op a b k) : Ec X H0 Γ op a b k := by
  obtain ⟨r, ta, tb, h1, h2, h3, h4⟩ := h
  exact ⟨r, ta, tb, h1, h2, h3, fun σ H Q ⟨F, h, k⟩ => by
    obtain ⟨F', s, _, h'⟩ := h.frz z
    exact h4 σ H Q ⟨F', h', fun F2 H2 g => k _ H2 (g.unlay s)⟩⟩

/-! ### is of bools -/
theorem ec_isB {i j : Bool} (ha : Ev X H0 Γ a (.bl i)) (hb : Ev X H0 Γ b (.bl j)) : Ec X H0 Γ .Is a b (decide (i = j)) :=
  ec_of op_isBl ha hb fun F H x y Q sm r1 r2 q => by
    cases r1
    cases r2
    exact ⟨i, j, rfl, rfl, q⟩
theorem ec_notB {i j : Bool} (ha : Ev X H0 Γ a (.bl i)) (hb : Ev X H0 Γ b (.bl j)) : Ec X H0 Γ .IsNot a b (!decide (i = j)) :=
  ec_of op_notBl ha hb fun F H x y Q sm r1 r2 q => by
    cases r1
    cases r2
    exact ⟨i, j, rfl, rfl, q⟩

/-! ### new trees in a row -/
def rEna (K : PySem.W.Frag) (H0 : Hp) (Γ : List Sl) (ts : List OT) : TA := fun σ H Q => ∃ F, Hold K H0 F H σ Γ ∧ ∀ vs A F' H', Go F H F' H' → OwnA K F' H' vs ts A → A.Nodup → (∀ a ∈ A, H a = none ∧ F' a = none) → Q vs H'
def Ena (X : Cx) (H0 : Hp) (Γ : List Sl) (es : List Expr) (ts : List OT) : Prop := PA X es (rEna X.K H0 Γ ts)
theorem en_d (h : Ev X H0 Γ e d) : En X H0 Γ e (.fz d) := wkE h fun σ H Q ⟨F, h, k⟩ => ⟨F, h, fun v F' H' g r => k v [] F' H' g (.fz r) List.nodup_nil fun a m => by cases m⟩
theorem ena_nil : Ena X H0 Γ [] [] := wkA pa_nil fun σ H Q ⟨F, h, k⟩ => k [] [] F H (.refl h.fh) .nil List.nodup_nil fun a m => by cases m
theorem ena_cons {es : List Expr} {t : OT} {ts : List OT} (h1 : En X H0 Γ e t) (h2 : Ena X H0 Γ es ts) (hs : starEach (e :: es) X.env = (false, eval e X.env) :: starEach es X.env := by rfl) : Ena X H0 Γ (e :: es) (t :: ts) :=
  wkA (pa_cons h1 h2 hs) fun σ H Q ⟨F, h, k⟩ => ⟨F, h, fun v A F1 H1 g1 o1 nd1 n1 => ⟨F1, h.go g1, fun vs B F2 H2 g2 o2 nd2 n2 => k (v :: vs) (A ++ B) F2 H2 (g1.trans g2) (.cons (o1.mono g2.ff fun a _ o q => g2.kp a o q) o2)
    (List.nodup_append.mpr ⟨nd1, nd2, fun a m1 b m2 z => by
      subst z
      obtain ⟨o, q⟩ := o1.dom a m1
      rw [(n2 a m2).1] at q
      cases q⟩) fun a m => by
    rcases List.mem_append.mp m with m | m
    · obtain ⟨o, q⟩ := o1.dom a m
      exact ⟨(n1 a m).1, g2.nf a o q (n1 a m).2⟩
    · exact ⟨Same.free g1.kp (n2 a m).1, (n2 a m).2⟩⟩⟩
theorem en_lst {es : List Expr} {ts : List OT} (h : Ena X H0 Γ es ts) (hz : ts.length ≤ sizeLine := by exact Nat.le_of_ble_eq_true rfl) : En X H0 Γ (.List es pos) (.lst ts) :=
  wkE (pe_lst h) fun σ H Q ⟨F, h, k⟩ => ⟨F, h, fun vs A F1 H1 g1 o1 nd1 n1 => ⟨by rw [o1.length]; exact hz, fun p hp => by
    have np : p ∉ A := fun m => by
      obtain ⟨o, q⟩ := o1.dom p m
      rw [hp] at q
      cases q
    refine k _ (p :: A) F1 _ (g1.trans (.newH g1.fh hp)) (.lst upd_same (o1.mono (.refl _) fun a m o q => ?_)) (List.nodup_cons.mpr ⟨np, nd1⟩) fun a m => ?_
    · rw [upd_ne (fun z : a = p => np (by rw [← z]; exact m))]
      exact q
    · rcases List.mem_cons.mp m with z | m
      · subst z
        exact ⟨Same.free g1.kp hp, Same.free g1.fh hp⟩
      · exact n1 a m⟩⟩

/-! ### objects that are laid for good: their attributes -/
theorem lookup_is {K : PySem.W.Frag} {F : Hp} {κ : Type} [BEq κ] {f : κ} {d : D} : ∀ {fs : List (κ × V)} {gs : List (κ × D)}, fs.map (·.1) = gs.map (·.1) → IsA K F (fs.map (·.2)) (gs.map (·.2)) → gs.lookup f = some d → ∃ v, fs.lookup f = some v ∧ Is K F v d
  | [], [], _, _, h => by cases h
  | [], _ :: _, e, _, _ => by cases e
  | _ :: _, [], e, _, _ => by cases e
  | (k, v) :: fs, (k', d') :: gs, e, a, h => by
    rw [List.map_cons, List.map_cons] at e
    obtain ⟨e1, e2⟩ := List.cons.inj e
    cases (show k = k' from e1)
    rw [List.map_cons, List.map_cons] at a
    cases a with
    | cons r a =>
      rw [List.lookup_cons] at h ⊢
      cases q : f == k with
      | true =>
        rw [q] at h
        cases h
        exact ⟨v, rfl, r⟩
      | false =>
        rw [q] at h
        exact lookup_is e2 a h
theorem ev_fld {C : Addr} {f : Str} {gs : List (Str × D)} (h : Ev X H0 Γ e (.obj C gs)) (c : Cls X.K C) (n : NoAttr X.K C f) (hl : gs.lookup f = some d) (hb : attributeBase e f X.env (eval e X.env) = eval e X.env := by rfl) : Ev X H0 Γ (.Attribute e f pos) d :=
  wkE (pe_fld h hb) fun σ H Q ⟨F, h, k⟩ => ⟨F, h, fun v F' H' g r => by
    cases r with
    | obj r1 r2 r3 =>
      obtain ⟨v, q1, q2⟩ := lookup_is r2 r3 hl
      exact ⟨_, C, _, _, v, rfl, g.fh _ _ r1, c, n, q1, k v F' H' g q2⟩⟩

/-! ### a method, an __init__: the object that is handed in is written -/
/-- the self's tree t becomes t', r is handed back -/
def SpM (K : PySem.W.Frag) (S : OT → List D → OT → D → Prop) : Sp := fun vs H Q _ => ∃ F A p rest t ds t' r, vs = .ref p :: rest ∧ Own K F H (.ref p) t A ∧ A.Nodup ∧ (∀ a ∈ A, F a = none) ∧ Same F H ∧ IsA K F rest ds ∧ S t ds t' r ∧
  ∀ v F' H' A', Same F F' → Same F' H' → (∀ a, a ∉ A → ∀ o, H a = some o → H' a = some o) → (∀ a, a ∉ A → ∀ o, H a = some o → F a = none → F' a = none) → Own K F' H' (.ref p) t' A' → A'.Nodup → (∀ a ∈ A', (a ∈ A ∨ H a = none) ∧ F' a = none) → Is K F' v r → Q v H'
/-- C(..): a class that is made by its __init__ -/
structure Mak (P : Program) (w : World) (K : PySem.W.Frag) (mg : Str → Option Value) (base : Heap) (k : Nat) (x : Str) (C : Addr) (ps : List Str) (S : OT → List D → OT → D → Prop) : Prop where
  cl : Cls K C
  gl : mg x = some (.ref C)
  ex : ∃ f fd, FnOk P w K mg base CX0 k f fd ps (SpM K S) ∧ Mk K C f ∧ Binds K fd ps []
theorem en_make {k : Nat} {x : Str} {C : Addr} {ps : List Str} {S : OT → List D → OT → D → Prop} {p : Pos} {es : List Expr} {ds : List D} {t : OT} (M : Mak X.prog X.w X.K X.mg X.base k x C ps S) (hr : Room (k + 1) X.A) (ha : Ea X H0 Γ (e :: es) ds) (hS : S (.obj C []) ds t .non)
    (hg : Gl X x := by rfl) (hdb : (x == ("__debug__" : Str)) = false := by decide) (he : starEach (e :: es) X.env = (false, eval e X.env) :: starEach es X.env := by rfl) (hpl : (backTo pos (starEach es X.env)).any (·.1) = false := by rfl) : En X H0 Γ (.Call (.Name x p) (e :: es) [] pos) t := by
  obtain ⟨f, fd, h1, h2, h3⟩ := M.ex
  refine wkE (pe_make h2 h1 hr hg M.gl h3 .nil pass0 ha hdb he hpl) fun σ H Q ⟨F, h, q⟩ => ⟨F, h, fun vs F1 H1 g1 r1 x dx nx ndx nex => ?_⟩
  have nF : F1 x = none := Same.free g1.fh nx
  have s1 : Same H1 (upd (upd H1 dx (.own x)) x (.ins C dx [])) := fun a o e => by
    rw [upd_ne (ne_of_none e nx), upd_ne (ne_of_none e ndx)]
    exact e
  refine ⟨F1, [x], x, vs, .obj C [], ds, t, .non, by rw [List.append_nil], .obj upd_same rfl .nil, by simp, fun a m => ?_, g1.fh.trans s1, r1, hS, fun v F' H' A' ff fh kp nf o nd n r => ?_⟩
  · cases List.mem_singleton.mp m
    exact nF
  · cases r
    have kp1 : Same H1 H' := fun a o e => kp a (fun m => ne_of_none e nx (List.mem_singleton.mp m)) o (s1 a o e)
    refine ⟨rfl, q _ A' F' H' (g1.trans ⟨ff, fh, kp1, fun a o e z => nf a (fun m => ne_of_none e nx (List.mem_singleton.mp m)) o (s1 a o e) z⟩) o nd fun a m => ⟨?_, (n a m).2⟩⟩
    rcases (n a m).1 with z | z
    · cases List.mem_singleton.mp z
      exact Same.free g1.kp nx
    · exact Same.free g1.kp (Same.free s1 z)
end

section
variable {P : Program} {w : World} {K : PySem.W.Frag} {mg : Str → Option Value} {base : Heap}
/-- the entry of a def whose first argument is written -/
def less (H : Hp) (A : List Addr) : Hp := fun a => if a ∈ A then none else H a
theorem less_in {H : Hp} {A : List Addr} {a : Addr} (h : a ∈ A) : less H A a = none := if_pos h
theorem less_out {H : Hp} {A : List Addr} {a : Addr} (h : a ∉ A) : less H A a = H a := if_neg h
theorem less_same {H : Hp} {A : List Addr} : Same (less H A) H := fun a o e => by
  by_cases m : a ∈ A
  · rw [less_in m] at e
    cases e
  · rw [less_out m] at e
    exact e
theorem hold_startM {F H : Hp} {N : List Str} {p : Addr} {t : OT} {A : List Addr} {vs : List V} {ds : List D} (sm : Same F H) (o : Own K F H (.ref p) t A) (nd : A.Nodup) (n : ∀ a ∈ A, F a = none) (r : IsA K F vs ds) :
    Hold K (less H A) F H (L2.start N (.ref p :: vs)) (.slf p t :: (ds.map Sl.da ++ List.replicate (N.length - (ds.length + 1)) Sl.un)) := by
  have hl := r.length
  refine ⟨by unfold L2.start; simp [hl], sm, less_same, fput (fun _ => []) 0 A, fun i s e => ?_, fun i a m => ?_, fun i => ?_, fun i j a m1 m2 => ?_⟩
  · cases i with
    | zero =>
      simp at e
      subst e
      rw [fput_eq rfl]
      exact ⟨_, rfl, o, fun q z => by cases z; rfl⟩
    | succ i =>
      rw [List.getElem?_cons_succ] at e
      rw [fput_ne (by omega : i + 1 ≠ 0)]
      by_cases hi : i < ds.length
      · rw [List.getElem?_append_left (by simpa using hi), List.getElem?_map] at e
        obtain ⟨d', e1, e2⟩ := Option.map_eq_some_iff.mp e
        subst e2
        obtain ⟨v, q1, q2⟩ := r.get e1
        refine ⟨v, ?_, q2⟩
        unfold L2.start
        rw [List.map_cons, List.cons_append, List.getElem?_cons_succ, List.getElem?_append_left (by simp [hl]; exact hi), List.getElem?_map, q1]
        rfl
      · rw [List.getElem?_append_right (by simpa using hi), List.getElem?_replicate] at e
        split at e
        · cases e
          trivial
        · cases e
  · by_cases z : i = 0
    · rw [fput_eq z] at m
      exact ⟨n a m, less_in m, o.dom a m⟩
    · rw [fput_ne z] at m
      cases m
  · by_cases z : i = 0
    · rw [fput_eq z]
      exact nd
    · rw [fput_ne z]
      exact List.nodup_nil
  · by_cases z1 : i = 0
    · by_cases z2 : j = 0
      · omega
      · rw [fput_ne z2] at m2
        cases m2
    · rw [fput_ne z1] at m1
      cases m1
/-- the self stands at p in the first slot, its tree is t -/
def SelfAt (p : Addr) (t : OT) (Γ : List Sl) : Prop := Γ[0]? = some (.slf p t)
theorem fn_okM {x qual : Str} {st : Stmt} {f : Addr} {fd : FuncData} {N ps : List Str} {k : Nat} {S : OT → List D → OT → D → Prop} (F : Fun K x qual st f fd) (sc : FnScope N ps (defScope st)) (len : ∀ t ds t' r, S t ds t' r → ds.length + 1 = ps.length)
    (body : ∀ (cdv : Value) (A : Around) (outer : List Env) (s : Shared) (H Hg : Hp) (E : XK) (p : Addr) (t : OT) (ds : List D) (t' : OT) (r : D), Room k (A.deeper (envOfC qual (defScope st) s.heap.objs.size f cdv)) → S t ds t' r →
      Rs (cxOf CX0 P w K mg base N qual (defScope st) f cdv A outer s H E).nox Hg (.slf p t :: (ds.map Sl.da ++ List.replicate (N.length - (ds.length + 1)) Sl.un)) (defBody st)
        ⟨fun Γ => SelfAt p t' Γ ∧ r = .non, fun d Γ => SelfAt p t' Γ ∧ d = r, fun _ => False, fun _ => False, fun _ _ => False⟩) : FnOk P w K mg base CX0 (k + 1) f fd ps (SpM K S) := by
  refine F.ok sc (fun vs H Q E h => ?_) (fun cdv A outer s H vs Q E hr h => ?_)
  · obtain ⟨F, A, p, rest, t, ds, t', r, rfl, o, nd, n, sm, ia, hS, _⟩ := h
    rw [List.length_cons, ia.length]
    exact len t ds t' r hS
  · obtain ⟨F, A', p, rest, t, ds, t', r, rfl, o, nd, n, sm, ia, hS, q⟩ := h
    have fin : ∀ F' H' σ' Γ' v d, Tr (less H A') F F' → Hold K (less H A') F' H' σ' Γ' → Is K F' v d → SelfAt p t' Γ' ∧ d = r → Q v H' := fun F' H' σ' Γ' v d t h' ri m => by
      obtain ⟨m1, rfl⟩ := m
      obtain ⟨u, B, e1, o', nd', n', hq, _⟩ := h'.mut m1
      cases hq p rfl
      refine q v F' H' B t.ff h'.fh (fun a m o e => h'.h0 a o (by rw [less_out m]; exact e)) (fun a m o e z => t.nf a o (by rw [less_out m]; exact e) z) o' nd' (fun a m => ⟨?_, (n' a m).1⟩) ri
      · by_cases m' : a ∈ A'
        · exact .inl m'
        · have z := (n' a m).2
          rw [less_out m'] at z
          exact .inr z
    refine ⟨_, body cdv A outer s H (less H A') E p t ds t' r hr hS, F, hold_startM sm o nd n ia, fun F' H' σ' Γ' t h' m => fin F' H' σ' Γ' .non .non t h' .non ⟨m.1, m.2.symm⟩, fun F' H' σ' Γ' v d t h' ri m => fin F' H' σ' Γ' v d t h' ri m, fun F' H' σ' Γ' t h' m => m.elim, fun F' H' σ' Γ' t h' m => m.elim, fun F' H' σ' Γ' v d A t h' ri nd n m => m.elim⟩
end
end Dv

namespace Dv
open PySem PySem.Spec PyProof.Rows L2

/-! ### attributes of one's own object -/
def putT (f : Str) (t : OT) : List (Str × OT) → List (Str × OT)
  | [] => [(f, t)]
  | (g, x) :: r => if g = f then (g, t) :: r else (g, x) :: putT f t r
section
variable {K : PySem.W.Frag} {F H H' : Hp}
theorem putF_keys {f : Str} {v : V} {t : OT} : ∀ {vs : List (Str × V)} {ts : List (Str × OT)}, vs.map (·.1) = ts.map (·.1) → (putF f v vs).map (·.1) = (putT f t ts).map (·.1)
  | [], [], _ => rfl
  | [], _ :: _, e => by cases e
  | _ :: _, [], e => by cases e
  | (k, v') :: vs, (k', t') :: ts, e => by
    rw [List.map_cons, List.map_cons] at e
    obtain ⟨e1, e2⟩ := List.cons.inj e
    cases (show k = k' from e1)
    rw [putF, putT]
    by_cases z : k = f
    · rw [if_pos z, if_pos z, List.map_cons, List.map_cons, e2]
    · rw [if_neg z, if_neg z, List.map_cons, List.map_cons, putF_keys e2]
theorem own_putF {f : Str} {y : V} {t : OT} {B : List Addr} (o : Own K F H y t B) (ndB : B.Nodup) : ∀ {vs : List (Str × V)} {ts : List (Str × OT)} {A : List Addr}, vs.map (·.1) = ts.map (·.1) → OwnA K F H (vs.map (·.2)) (ts.map (·.2)) A → A.Nodup → (∀ a ∈ A, a ∉ B) →
    ∃ A', OwnA K F H ((putF f y vs).map (·.2)) ((putT f t ts).map (·.2)) A' ∧ A'.Nodup ∧ ∀ a ∈ A', a ∈ A ∨ a ∈ B
  | [], [], A, _, h, nd, dj => by
    refine ⟨B ++ [], .cons o .nil, by rw [List.append_nil]; exact ndB, fun a m => .inr (by simpa using m)⟩
  | [], _ :: _, _, e, _, _, _ => by cases e
  | _ :: _, [], _, e, _, _, _ => by cases e
  | (k, v') :: vs, (k', t') :: ts, A, e, h, nd, dj => by
    rw [List.map_cons, List.map_cons] at e
    obtain ⟨e1, e2⟩ := List.cons.inj e
    cases (show k = k' from e1)
    rw [List.map_cons, List.map_cons] at h
    cases h with
    | @cons _ _ _ _ A1 A2 h1 h2 =>
      obtain ⟨n1, n2, n3⟩ := List.nodup_append.mp nd
      rw [putF, putT]
      by_cases z : k = f
      · rw [if_pos z, if_pos z, List.map_cons, List.map_cons]
        refine ⟨B ++ A2, .cons o h2, List.nodup_append.mpr ⟨ndB, n2, fun a m b m' q => ?_⟩, fun a m => ?_⟩
        · subst q
          exact dj a (List.mem_append_right _ m') m
        · rcases List.mem_append.mp m with m | m
          · exact .inr m
          · exact .inl (List.mem_append_right _ m)
      · rw [if_neg z, if_neg z, List.map_cons, List.map_cons]
        obtain ⟨A3, q1, q2, q3⟩ := own_putF o ndB (vs := vs) (ts := ts) (A := A2) e2 h2 n2 fun a m => dj a (List.mem_append_right _ m)
        refine ⟨A1 ++ A3, .cons h1 q1, List.nodup_append.mpr ⟨n1, q2, fun a m b m' q => ?_⟩, fun a m => ?_⟩
        · subst q
          rcases q3 a m' with w | w
          · exact n3 a m a w rfl
          · exact dj a (List.mem_append_left _ m) w
        · rcases List.mem_append.mp m with m | m
          · exact .inl (List.mem_append_left _ m)
          · rcases q3 a m with w | w
            · exact .inl (List.mem_append_right _ w)
            · exact .inr w
end

section
variable {X : Cx} {H0 : Hp} {Γ Γ' : List Sl} {a b c e : Expr} {d : D} {xs : List D} {pos : Pos} {rest : List Stmt} {κ : Kt} {x : Str}
/-- x.f = e, x one's own object -/
theorem rs_fld (i : Nat) {C : Addr} {q : Option Addr} {f : Str} {fs : List (Str × OT)} {t : OT} {p pos' : Pos} (he : En X H0 Γ e t) (cl : Cls X.K C) (n : NoAttr X.K C f) (hk : Rs X H0 (Γ.set i (.tr q (.obj C (putT f t fs)))) rest κ) (hΓ : Γ[i]? = some (.tr q (.obj C fs)) := by rfl) (hz : fs.length < 1000 := by exact Nat.le_of_ble_eq_true rfl)
    (hN : X.N[i]? = some x := by rfl) (hv : Vis X.env.scope x := by first | exact Or.inl rfl | exact Or.inr (Or.inl rfl) | exact Or.inr (Or.inr rfl)) (hdb : (x == ("__debug__" : Str)) = false := by decide) (hcd : (x == ("__classdict__" : Str)) = false := by decide)
    (hs : swapsWith e (some (.Attribute (.Name x p) f pos')) pos.line X.env = pure false := by rfl) : Rs X H0 Γ (.Assign [.Attribute (.Name x p) f pos'] e pos :: rest) κ :=
  rs_cons (fun Γ' => Γ' = Γ.set i (.tr q (.obj C (putT f t fs)))) (wkS (ps_fld (pe_var (i := i) hN hv hdb hcd) he hs) fun E σ H ⟨F, h, k⟩ => by
    obtain ⟨u, A, e1, o, nd, nA, hq, upd⟩ := h.mutG hΓ
    refine ⟨F, h, fun v B F1 H1 g1 o1 nd1 n1 => ⟨u, e1, ?_⟩⟩
    cases o with
    | @obj p _ dx vs ts A r1 r2 r3 =>
      obtain ⟨np, nd'⟩ := List.nodup_cons.mp nd
      have dj : ∀ a ∈ A, a ∉ B := fun a m m' => by
        obtain ⟨o, z⟩ := r3.dom a m
        rw [(n1 a m').1] at z
        cases z
      have pB : p ∉ B := fun m' => by
        rw [(n1 p m').1] at r1
        cases r1
      have pF : F1 p = none := g1.nf p _ r1 (nA p List.mem_cons_self).1
      obtain ⟨A', q1, q2, q3⟩ := own_putF o1 nd1 r2 (r3.mono g1.ff fun a _ o q => g1.kp a o q) nd' dj
      have pA : p ∉ A' := fun m => (q3 p m).elim np pB
      have ne : ∀ a ∈ A', a ≠ p := fun a m z => pA (z ▸ m)
      refine ⟨p, C, dx, vs, rfl, g1.kp _ _ r1, cl, n, ?_, ?_⟩
      · have z := congrArg List.length r2
        rw [List.length_map, List.length_map] at z
        rw [z]
        exact hz
      · refine k.nx F1 _ σ _ (h.tr g1) (upd F1 _ (.obj C (putT f t fs)) (p :: A') g1.ff (fun a o z => ?_) (fun a _ o z w => g1.nf a o z w) (.obj upd_same (putF_keys r2) (q1.mono (.refl _) fun a m o q => ?_)) (List.nodup_cons.mpr ⟨pA, q2⟩) (fun a m => ?_) fun a m o z => ?_) rfl
        · rw [upd_ne (ne_of_none z pF)]
          exact g1.fh _ _ z
        · rw [upd_ne (ne a m)]
          exact q
        · rcases List.mem_cons.mp m with z | m
          · subst z
            exact ⟨.inl List.mem_cons_self, pF⟩
          · rcases q3 a m with w | w
            · obtain ⟨o, z⟩ := r3.dom a w
              exact ⟨.inl (List.mem_cons_of_mem _ w), g1.nf a o z (nA a (List.mem_cons_of_mem _ w)).1⟩
            · exact ⟨.inr (n1 a w).1, (n1 a w).2⟩
        · rw [upd_ne (fun q : a = p => m (by rw [q]; exact List.mem_cons_self))]
          exact g1.kp _ _ z) fun Γ' q => q ▸ hk
/-- name = a new tree -/
theorem rs_setN (i : Nat) {pos' : Pos} {t : OT} (hN : X.N.Nodup) (he : En X H0 Γ e t) (hk : Rs X H0 (Γ.set i (.ow t)) rest κ) (hi : X.N[i]? = some x := by rfl) (hx : Loc X.env.scope x := by first | exact .inl rfl | exact .inr rfl) (hs : swapsWith e (some (.Name x pos')) pos.line X.env = pure false := by rfl)
    (hf : X.fn x = true ∨ X.env.scope.names.lookup x = some .local := by first | exact .inl rfl | exact .inr rfl | assumption) : Rs X H0 Γ (.Assign [.Name x pos'] e pos :: rest) κ :=
  rs_cons (fun Γ' => Γ' = Γ.set i (.ow t)) (wkS (ps_set (i := i) hN hi hx he hs hf) fun E σ H ⟨F, h, k⟩ => ⟨F, h, fun v A F' H' g o nd n => k.nx F' H' _ _ (h.tr g) (h.setN g i o nd n) rfl⟩) fun Γ' q => q ▸ hk
/-- xs[j].append(e), xs a list of one's own of such lists -/
theorem rs_app1 (i j : Nat) {q : Option Addr} {ts : List OT} {ic : Int} {jc : Nat} {apos cpos p p1 p2 : Pos} (he : Ev X H0 Γ e d) (hk : Rs X H0 (Γ.set i (.tr q (.lst (ts.set j (.lst ((xs ++ [d]).map .fz)))))) rest κ) (hz : xs.length < sizeLine) (ht : ts[j]? = some (.lst (xs.map .fz))) (hj : ic = (j : Int) := by rfl) (hΓ : Γ[i]? = some (.tr q (.lst ts)) := by rfl) (hN : X.N[i]? = some x := by rfl)
    (hv : Vis X.env.scope x := by first | exact Or.inl rfl | exact Or.inr (Or.inl rfl) | exact Or.inr (Or.inr rfl)) (hdb : (x == ("__debug__" : Str)) = false := by decide) (hcd : (x == ("__classdict__" : Str)) = false := by decide)
    (hse : starEach [e] X.env = (false, eval e X.env) :: starEach [] X.env := by rfl)
    (hbase : attributeBase (.Subscript (.Name x p) (.Constant (.int ic) jc p1) p2) "append" X.env (eval (.Subscript (.Name x p) (.Constant (.int ic) jc p1) p2) X.env) = eval (.Subscript (.Name x p) (.Constant (.int ic) jc p1) p2) X.env := by rfl)
    (hfew : ((backTo cpos (starEach [e] X.env)).all (fun x => !x.1) && (backToKw cpos (keywordEach [] X.env)).all (fun x => x.1.isSome)
      && decide (([e] : List Expr).length + ([] : List Keyword).length + (if ([] : List Keyword).isEmpty then 0 else 1) < 30)) = true := by rfl)
    (hline : (apos.endLine == cpos.line) = true := by rfl) (hpl : (backTo cpos (starEach [] X.env)).any (·.1) = false := by rfl)
    (hsw : swapsWith (.Call (.Attribute (.Subscript (.Name x p) (.Constant (.int ic) jc p1) p2) "append" apos) [e] [] cpos) none pos.line X.env = pure false := by rfl) (hix : PlainIx (.Constant (.int ic) jc p1) := by exact fun _ _ => rfl) :
    Rs X H0 Γ (.Expr (.Call (.Attribute (.Subscript (.Name x p) (.Constant (.int ic) jc p1) p2) "append" apos) [e] [] cpos) pos :: rest) κ := by
  subst hj
  exact rs_cons (fun Γ' => Γ' = Γ.set i (.tr q (.lst (ts.set j (.lst ((xs ++ [d]).map .fz)))))) (wkS (ps_expr (pe_bm PySem.F.plainAttrs_list PySem.F.slot_list_append PySem.F.type_list_append mt_append (pe_ix ix_list (pe_var (i := i) hN hv hdb hcd) pe_int hix) (pa_cons he pa_nil hse) hbase hfew hline hse hpl) hsw) fun E σ H ⟨F, h, k⟩ => by
    obtain ⟨u, A, e1, o, nd, nA, hq, upd⟩ := h.mutG hΓ
    cases o with
    | @lst p vs _ A r1 r2 =>
      obtain ⟨v, A1, B, A2, z1, z2, z3, z4⟩ := r2.at ht
      cases z2 with
      | @lst p1 us _ B' w1 w2 =>
        obtain ⟨w3, w4⟩ := w2.unfz
        subst w4
        subst z3
        refine ⟨_, e1, p, vs, _, _, rfl, rfl, .of r1, atI_nat z1, .inl ⟨rfl, us, .of w1⟩, F, h, fun y F' H' g r => ⟨p1, us, y, rfl, rfl, g.kp _ _ w1, by rw [w3.length]; exact hz, ?_⟩⟩
        have m1 : p1 ∈ p :: (A1 ++ ([p1] ++ A2)) := List.mem_cons_of_mem _ (List.mem_append_right _ (List.mem_append_left _ List.mem_cons_self))
        have nF : F' p1 = none := g.nf p1 _ w1 (nA p1 m1).1
        obtain ⟨np, nd1⟩ := List.nodup_cons.mp nd
        obtain ⟨_, nd2, nd3⟩ := List.nodup_append.mp nd1
        have nd4 := (List.nodup_cons.mp nd2).1
        have ne1 : ∀ a ∈ A1 ++ A2, a ≠ p1 := fun a m z => by
          subst z
          rcases List.mem_append.mp m with m | m
          · exact nd3 a m a List.mem_cons_self rfl
          · exact nd4 m
        have pne : p ≠ p1 := fun z => np (by rw [z]; exact List.mem_append_right _ (List.mem_append_left _ List.mem_cons_self))
        have q := z4 F' (L2.upd H' p1 (.lst (us ++ [y]))) (.ref p1) (.lst ((xs ++ [d]).map .fz)) [p1] g.ff (.lst upd_same (.fz ((w3.mono g.ff).snoc r))) fun a m o z => by
          rw [upd_ne (ne1 a m)]
          exact g.kp _ _ z
        rw [show vs.set j (V.ref p1) = vs from by
          obtain ⟨hl, e⟩ := List.getElem?_eq_some_iff.mp z1
          rw [← e, List.set_getElem_self]] at q
        refine k.nx F' _ σ _ (h.tr g) (upd F' _ _ (p :: (A1 ++ ([p1] ++ A2))) g.ff (fun a o z => ?_) (fun a _ o z w => g.nf a o z w) (.lst ?_ q) nd (fun a m => ⟨.inl m, ?_⟩) fun a m o z => ?_) rfl
        · rw [upd_ne (ne_of_none z nF)]
          exact g.fh _ _ z
        · rw [upd_ne pne]
          exact g.kp _ _ r1
        · obtain ⟨o, z⟩ : ∃ o, H a = some o := by
            rcases List.mem_cons.mp m with z | m
            · exact ⟨_, z ▸ r1⟩
            · exact r2.dom a m
          exact g.nf a o z (nA a m).1
        · rw [upd_ne (fun q : a = p1 => m (by rw [q]; exact m1))]
          exact g.kp _ _ z) fun Γ' q => q ▸ hk
end
end Dv

namespace Dv
open PySem PySem.Spec PyProof.Rows L2
/-! ### data that can be compared: of at most so many levels -/
mutual
def okD : D → Nat → Bool
  | .non, _ => true
  | .bl _, _ => true
  | .int _, _ => true
  | .str s, _ => PyData.strOk s
  | .lst _, 0 => false
  | .lst xs, n + 1 => okA xs n
  | .tup _, 0 => false
  | .tup xs, n + 1 => okA xs n
  | _, _ => false
def okA : List D → Nat → Bool
  | [], _ => true
  | x :: xs, n => okD x n && okA xs n
end
theorem okA_of {n : Nat} : ∀ {xs : List D}, (∀ x ∈ xs, okD x n = true) → okA xs n = true
  | [], _ => by rw [okA]
  | x :: xs, h => by
    rw [okA, h x List.mem_cons_self, okA_of fun y m => h y (List.mem_cons_of_mem _ m)]
    rfl
theorem okA_map {α : Type} {n : Nat} {f : α → D} {xs : List α} (h : ∀ x ∈ xs, okD (f x) n = true) : okA (xs.map f) n = true := okA_of fun y m => by
  obtain ⟨x, q, rfl⟩ := List.mem_map.mp m
  exact h x q
mutual
theorem okD_py : ∀ (d : D) (n : Nat), okD d n = true → datD d = true ∧ (toPy d).canLay0 = true ∧ (toPy d).depth ≤ n
  | .non, _, _ => ⟨rfl, rfl, Nat.zero_le _⟩
  | .bl _, _, _ => ⟨rfl, rfl, Nat.zero_le _⟩
  | .int _, _, _ => ⟨rfl, rfl, Nat.zero_le _⟩
  | .str _, _, h => ⟨rfl, h, Nat.zero_le _⟩
  | .lst xs, 0, h => by cases h
  | .lst xs, n + 1, h => by
    rw [okD] at h
    obtain ⟨a, b, c⟩ := okA_py xs n h
    rw [datD, toPy, PyData.canLay0, PyData.depth]
    exact ⟨a, b, Nat.succ_le_succ c⟩
  | .tup xs, 0, h => by cases h
  | .tup xs, n + 1, h => by
    rw [okD] at h
    obtain ⟨a, b, c⟩ := okA_py xs n h
    rw [datD, toPy, PyData.canLay0, PyData.depth]
    exact ⟨a, b, Nat.succ_le_succ c⟩
  | .scr _, _, h => by cases h
  | .adr _, _, h => by cases h
  | .obj _ _, _, h => by cases h
  | .dic _, _, h => by cases h
  | .dit _, _, h => by cases h
theorem okA_py : ∀ (ds : List D) (n : Nat), okA ds n = true → datA ds = true ∧ PyData.canLayAll0 (toPyA ds) = true ∧ PyData.depthAll (toPyA ds) ≤ n
  | [], _, _ => by rw [datA, toPyA, PyData.canLayAll0, PyData.depthAll]; exact ⟨rfl, rfl, Nat.zero_le _⟩
  | d :: ds, n, h => by
    rw [okA, Bool.and_eq_true] at h
    obtain ⟨a, b, c⟩ := okD_py d n h.1
    obtain ⟨a', b', c'⟩ := okA_py ds n h.2
    rw [datA, toPyA, PyData.canLayAll0, PyData.depthAll, a, a', b, b']
    exact ⟨rfl, rfl, Nat.max_le.mpr ⟨c, c'⟩⟩
end
theorem ok_shaped {d : D} (h : okD d 64 = true) : SeqAt.shaped (toPy d) = true := by
  obtain ⟨_, b, c⟩ := okD_py d 64 h
  unfold SeqAt.shaped
  rw [b, decide_eq_true c]
  rfl
theorem eqv_self {d : D} (h : okD d 64 = true) : PyData.eqv (toPy d) (toPy d) = true := SeqAt.eqv_refl _ (okD_py d 64 h).2.1
mutual
/-- of one kind: ints, texts, None and lists, tuples of such -/
def plD : D → Bool
  | .non => true
  | .int _ => true
  | .str _ => true
  | .lst xs => plA xs
  | .tup xs => plA xs
  | _ => false
def plA : List D → Bool
  | [] => true
  | x :: xs => plD x && plA xs
end
mutual
theorem eqv_pl : ∀ (a b : D), plD a = true → plD b = true → PyData.eqv (toPy a) (toPy b) = true → a = b
  | .non, b, _, h, e => by
    cases b <;> first | rfl | (cases h; done) | (cases e; done)
  | .int i, b, _, h, e => by
    cases b with
    | int j => rw [eq_of_beq (show (i == j) = true from e)]
    | bl _ => cases h
    | _ => first | cases e | cases h
  | .str i, b, _, h, e => by
    cases b with
    | str j => rw [eq_of_beq (show (i == j) = true from e)]
    | _ => first | cases e | cases h
  | .lst xs, b, g, h, e => by
    cases b with
    | lst ys => rw [eqv_plA xs ys g h e]
    | _ => first | cases e | cases h
  | .tup xs, b, g, h, e => by
    cases b with
    | tup ys => rw [eqv_plA xs ys g h e]
    | _ => first | cases e | cases h
  | .bl _, _, g, _, _ => by cases g
  | .scr _, _, g, _, _ => by cases g
  | .adr _, _, g, _, _ => by cases g
  | .obj _ _, _, g, _, _ => by cases g
  | .dic _, _, g, _, _ => by cases g
  | .dit _, _, g, _, _ => by cases g
theorem eqv_plA : ∀ (a b : List D), plA a = true → plA b = true → PyData.eqvAll (toPyA a) (toPyA b) = true → a = b
  | [], [], _, _, _ => rfl
  | [], _ :: _, _, _, e => by rw [toPyA, toPyA, PyData.eqvAll] at e; cases e
  | _ :: _, [], _, _, e => by rw [toPyA, toPyA, PyData.eqvAll] at e; cases e
  | x :: xs, y :: ys, g, h, e => by
    rw [plA, Bool.and_eq_true] at g h
    rw [toPyA, toPyA, PyData.eqvAll, Bool.and_eq_true] at e
    rw [eqv_pl x y g.1 h.1 e.1, eqv_plA xs ys g.2 h.2 e.2]
end
section
variable {X : Cx} {H0 : Hp} {Γ : List Sl} {a b : Expr} {d d1 d2 : D}
theorem ec_eqW (ha : Ev X H0 Γ a d1) (hb : Ev X H0 Γ b d2) (p1 : okD d1 64 = true) (p2 : okD d2 64 = true) {k : Nat} (hr : Room k X.A) : Ec X H0 Γ .Eq a b (PyData.eqv (toPy d1) (toPy d2)) :=
  ec_eqD ha hb (okD_py _ _ p1).1 (okD_py _ _ p2).1 (ok_shaped p1) (ok_shaped p2) (by have := hr.un; omega)
theorem ec_neW (ha : Ev X H0 Γ a d1) (hb : Ev X H0 Γ b d2) (p1 : okD d1 64 = true) (p2 : okD d2 64 = true) {k : Nat} (hr : Room k X.A) : Ec X H0 Γ .NotEq a b (!PyData.eqv (toPy d1) (toPy d2)) :=
  ec_neD ha hb (okD_py _ _ p1).1 (okD_py _ _ p2).1 (ok_shaped p1) (ok_shaped p2) (by have := hr.un; omega)
/-- the same data -/
theorem ec_eqR (ha : Ev X H0 Γ a d) (hb : Ev X H0 Γ b d) (p : okD d 64 = true) {k : Nat} (hr : Room k X.A) : Ec X H0 Γ .Eq a b true := eqv_self p ▸ ec_eqW ha hb p p hr
theorem ec_neR (ha : Ev X H0 Γ a d) (hb : Ev X H0 Γ b d) (p : okD d 64 = true) {k : Nat} (hr : Room k X.A) : Ec X H0 Γ .NotEq a b false := by
  have z := ec_neW ha hb p p hr
  rw [eqv_self p] at z
  exact z
end
end Dv

namespace Dv
open PySem PySem.Spec PyProof.Rows L2
/-! ### what the top has written, and the law's own head -/
theorem dfn_mk {K : PySem.W.Frag} {h : Heap} {mg : Str → Option Value} (X : K.In h) (G : h.Ns mainGlobals mg) {x : Str} {st : Stmt} {ps : List Str} {f : Addr} {oc : Value} {od an : Option Addr} {osl : Array (Option Value)} {kV doc pm cdv ct : Value} (a : PySem.W.nsIn K mainGlobals x = some (some (.ref f)))
    (l : K.lookup f = some ⟨oc, od, .func (PySem.W.fnOf x x (defArgs st) (defBody st) (defScope st) .none kV doc pm an cdv ct), osl⟩) (c : PySem.W.codeIn K cdv x = true) (k : PySem.W.keepIn K (.ref f) = true)
    (b : ∀ (kV doc pm : Value) (an : Option Addr) (cdv ct : Value) (us : List Value), us.length = ps.length → bindArgs (PySem.W.fnOf x x (defArgs st) (defBody st) (defScope st) .none kV doc pm an cdv ct) ⟨us, []⟩ = pure (ps.zip us)) : Dfn K mg x st ps :=
  ⟨f, _, fun_mk l c k, PySem.W.mg_of X G a, (fun_mk l c k).binds b⟩
theorem use {p q : Prop} (h : p) (k : p → q) : q := k h
theorem noattr_mk {K : PySem.W.Frag} {C : Addr} {f : Str} (h : PySem.W.findIn K (.ref C) f = some none) : NoAttr K C f := h
/-- an __init__ as the top has left it -/
def Ini (K : PySem.W.Frag) (mg : Str → Option Value) (x qual : Str) (C : Addr) (st : Stmt) (ps : List Str) : Prop := Cls K C ∧ mg x = some (.ref C) ∧ ∃ f fd, Fun K "__init__" qual st f fd ∧ Mk K C f ∧ Binds K fd ps []
theorem ini_mk {K : PySem.W.Frag} {h : Heap} {mg : Str → Option Value} (X : K.In h) (G : h.Ns mainGlobals mg) {x qual : Str} {st : Stmt} {ps : List Str} {C f : Addr} {oc : Value} {od an : Option Addr} {osl : Array (Option Value)} {kV doc pm cdv ct : Value} (aC : PySem.W.nsIn K mainGlobals x = some (some (.ref C)))
    (a : PySem.W.findIn K (.ref C) "__init__" = some (some (.ref f))) (i : PySem.W.isFn K (.ref f) = true)
    (l : K.lookup f = some ⟨oc, od, .func (PySem.W.fnOf "__init__" qual (defArgs st) (defBody st) (defScope st) .none kV doc pm an cdv ct), osl⟩) (c : PySem.W.codeIn K cdv qual = true) (k : PySem.W.keepIn K (.ref f) = true)
    (pg : PySem.W.plainGet K C Str.empty = true) (hd : PySem.W.hasDictIn K C = true) (po : PySem.W.plainOver K C = true) (sa : PySem.W.findIn K (.ref C) "__setattr__" = some (some (.builtin "object.__setattr__"))) (mk : PySem.W.makesIn K C = true) (kc : PySem.W.keepIn K (.ref C) = true)
    (b : ∀ (kV doc pm : Value) (an : Option Addr) (cdv ct : Value) (us : List Value), us.length = ps.length → bindArgs (PySem.W.fnOf "__init__" qual (defArgs st) (defBody st) (defScope st) .none kV doc pm an cdv ct) ⟨us, []⟩ = pure (ps.zip us)) : Ini K mg x qual C st ps :=
  ⟨⟨pg, hd, po, sa⟩, PySem.W.mg_of X G aC, f, _, fun_mk l c k, ⟨mk, a, i, kc⟩, (fun_mk l c k).binds b⟩
theorem Ini.mak {P : Program} {w : World} {K : PySem.W.Frag} {mg : Str → Option Value} {base : Heap} {x qual : Str} {C : Addr} {st : Stmt} {ps : List Str} {k : Nat} {S : OT → List D → OT → D → Prop} (I : Ini K mg x qual C st ps) (h : ∀ {f fd}, Fun K "__init__" qual st f fd → FnOk P w K mg base CX0 k f fd ps (SpM K S)) : Mak P w K mg base k x C ps S := by
  obtain ⟨c, g, f, fd, F, m, b⟩ := I
  exact ⟨c, g, f, fd, h F, m, b⟩
/-- the promise of law: a script of at most 63 ints, True -/
def SsLaw (ds : List D) (r : D) : Prop := ∃ ns : List Int, ds = [.scr ns] ∧ ns.length ≤ 63 ∧ r = .bl true
theorem law_fn {P : Program} {w : World} {K : PySem.W.Frag} {mg : Str → Option Value} {x p : Str} {st : Stmt} {k : Nat} {S : List D → D → Prop} {fa : Addr} (Df : Dfn K mg x st [p]) (hfa : mg x = some (.ref fa))
    (hb : ∀ (kV doc pm : Value) (an : Option Addr) (cdv ct u : Value), bindArgs (PySem.W.fnOf x x (defArgs st) (defBody st) (defScope st) .none kV doc pm an cdv ct) ⟨[u], []⟩ = pure [(p, u)])
    (hC : ∀ base : Heap, K.In base → base.Ns mainGlobals mg → Cal P w K mg base k x [p] S) :
    ∃ fd : FuncData, (∀ (s : Shared) (u : Value), BindsTo s fd ⟨[u], []⟩ [(p, u)]) ∧ ∀ base : Heap, K.In base → base.Ns mainGlobals mg → FnOk P w K mg base CX0 k fa fd [p] (SpD K S) := by
  obtain ⟨f, fd, F, hm, b⟩ := Df
  rw [hfa] at hm
  cases hm
  obtain ⟨oc, od, kV, doc, pm, an, cdv, ct, osl, e, lk, hcd⟩ := F.ex
  refine ⟨fd, fun s u => ?_, fun base h1 h2 => ?_⟩
  · rw [e]
    exact .of_eq (hb kV doc pm an cdv ct u)
  · obtain ⟨f', fd', q1, q2, q3, q4, oc', od', osl', q5⟩ := (hC base h1 h2).ex
    rw [hfa] at q2
    cases q2
    rw [lk] at q5
    cases q5
    exact q1
theorem walk_end {l : PySem.W.OpenLaw} {q : Program} {loose : List Str} {XP : (Str → Option Value) → Heap → Prop} {YP : World → Heap → Prop} {d : DefRec} {K : Params → PySem.W.Frag} {st : Stmt} {k : Nat} {p : Str} (hn : l.most = some 63) (hdf : d.params.defaults = []) (hr : Room k callerA)
    (hY : ∀ (w : World) (h : Heap), YP w h → (K w.params).In h)
    (hb : ∀ (kV doc pm : Value) (an : Option Addr) (cdv ct u : Value), bindArgs (PySem.W.fnOf d.name d.name (defArgs st) (defBody st) (defScope st) .none kV doc pm an cdv ct) ⟨[u], []⟩ = pure [(p, u)])
    (F : ∀ (w : World) (mg : Str → Option Value) (h : Heap), (K w.params).In h → h.Ns mainGlobals mg → Dfn (K w.params) mg d.name st [p] ∧ ∀ base : Heap, (K w.params).In base → base.Ns mainGlobals mg → Cal l.prog w (K w.params) mg base k d.name [p] SsLaw) :
    PySem.W.WalkO q loose XP YP l.row.toRowW d [] (fun f vs => PySem.call f vs) :=
  L2.walk_of (n := 63) (k := k) (x := p) (CX := fun _ => CX0) (sp := fun w => SpD (K w.params) SsLaw) hn (by decide) hdf hr hY (fun w mg fa h KX G hfa => law_fn (F w mg h KX G).1 hfa hb (F w mg h KX G).2)
    (fun w H a ns hl _ hS => ⟨H, [.scr ns], .bl true, Same.refl H, .cons (.scr hS) .nil, ⟨ns, rfl, hl, rfl⟩, fun v F' H' g r => by
      cases r
      rfl⟩) fun _ _ _ _ _ z => z
end Dv

namespace Dv
open PySem PySem.Spec PyProof.Rows L2

/-! ### places within a tree of one's own -/
inductive Stp where
  | fld (f : Str) | ix (j : Nat)
def stepT : Stp → OT → Option OT
  | .fld f, .obj _ fs => fs.lookup f
  | .ix j, .lst ts => ts[j]?
  | _, _ => none
def subT : List Stp → OT → Option OT
  | [], t => some t
  | s :: π, t => match stepT s t with
    | some u => subT π u
    | none => none
def stepS : Stp → OT → OT → OT
  | .fld f, .obj C fs, t => .obj C (putT f t fs)
  | .ix j, .lst ts, t => .lst (ts.set j t)
  | _, t0, _ => t0
def putP : List Stp → OT → OT → OT
  | [], _, t => t
  | s :: π, t0, t => match stepT s t0 with
    | some t1 => stepS s t0 (putP π t1 t)
    | none => t0
inductive AtV (H : Hp) : V → List Stp → V → Prop
  | nil {v : V} : AtV H v [] v
  | fld {p C dx : Addr} {vs : List (Str × V)} {f : Str} {v u : V} {π : List Stp} : H p = some (.ins C dx vs) → vs.lookup f = some v → AtV H v π u → AtV H (.ref p) (.fld f :: π) u
  | ix {p : Addr} {vs : List V} {j : Nat} {v u : V} {π : List Stp} : H p = some (.lst vs) → vs[j]? = some v → AtV H v π u → AtV H (.ref p) (.ix j :: π) u
theorem AtV.mono {H H' : Hp} {v u : V} {π : List Stp} (h : AtV H v π u) (e : Same H H') : AtV H' v π u := by
  induction h with
  | nil => exact .nil
  | fld a b _ ih => exact .fld (e _ _ a) b ih
  | ix a b _ ih => exact .ix (e _ _ a) b ih
theorem AtV.det {H : Hp} {v u : V} {π : List Stp} (h : AtV H v π u) : ∀ {w : V}, AtV H v π w → u = w := by
  induction h with
  | nil =>
    intro w h
    cases h
    rfl
  | fld a b _ ih =>
    intro w h
    cases h with
    | fld a' b' h =>
      rw [a] at a'
      cases a'
      rw [b] at b'
      cases b'
      exact ih h
  | ix a b _ ih =>
    intro w h
    cases h with
    | ix a' b' h =>
      rw [a] at a'
      cases a'
      rw [b] at b'
      cases b'
      exact ih h
theorem AtV.snoc_fld {H : Hp} {v : V} {p C dx : Addr} {π : List Stp} {vs : List (Str × V)} {f : Str} {u : V} (h : AtV H v π (.ref p)) (a : H p = some (.ins C dx vs)) (b : vs.lookup f = some u) : AtV H v (π ++ [.fld f]) u := by
  generalize hw : V.ref p = w at h
  induction h with
  | nil => subst hw; exact .fld a b .nil
  | fld a' b' _ ih => exact .fld a' b' (ih hw)
  | ix a' b' _ ih => exact .ix a' b' (ih hw)
theorem AtV.snoc_ix {H : Hp} {v : V} {p : Addr} {π : List Stp} {vs : List V} {j : Nat} {u : V} (h : AtV H v π (.ref p)) (a : H p = some (.lst vs)) (b : vs[j]? = some u) : AtV H v (π ++ [.ix j]) u := by
  generalize hw : V.ref p = w at h
  induction h with
  | nil => subst hw; exact .ix a b .nil
  | fld a' b' _ ih => exact .fld a' b' (ih hw)
  | ix a' b' _ ih => exact .ix a' b' (ih hw)
theorem subT_snoc {s : Stp} {t u : OT} : ∀ {π : List Stp} {t0 : OT}, subT π t0 = some t → stepT s t = some u → subT (π ++ [s]) t0 = some u
  | [], t0, h, e => by
    cases h
    show (match stepT s t with | some u => subT [] u | none => none) = some u
    rw [e]
    rfl
  | r :: π, t0, h, e => by
    unfold subT at h
    show (match stepT r t0 with | some u => subT (π ++ [s]) u | none => none) = some u
    cases q : stepT r t0 with
    | none => rw [q] at h; cases h
    | some t1 =>
      rw [q] at h
      exact subT_snoc h e
section
variable {K : PySem.W.Frag} {F H : Hp}
theorem own_fld {f : Str} {s : OT} : ∀ {vs : List (Str × V)} {ts : List (Str × OT)}, vs.map (·.1) = ts.map (·.1) → ts.lookup f = some s → ∃ j v, vs.lookup f = some v ∧ (ts.map (·.2))[j]? = some s ∧ (vs.map (·.2))[j]? = some v ∧ ∀ s', (putT f s' ts).map (·.2) = (ts.map (·.2)).set j s' ∧ (putT f s' ts).map (·.1) = ts.map (·.1)
  | [], [], _, h => by cases h
  | [], _ :: _, e, _ => by cases e
  | _ :: _, [], e, _ => by cases e
  | (k, v) :: vs, (k', t) :: ts, e, h => by
    rw [List.map_cons, List.map_cons] at e
    obtain ⟨e1, e2⟩ := List.cons.inj e
    cases (show k = k' from e1)
    rw [List.lookup_cons] at h
    by_cases z : k = f
    · subst z
      rw [beq_self_eq_true] at h
      cases h
      refine ⟨0, v, by rw [List.lookup_cons, beq_self_eq_true], rfl, rfl, fun s' => ?_⟩
      rw [putT, if_pos rfl]
      exact ⟨rfl, rfl⟩
    · have zb : (f == k) = false := beq_eq_false_iff_ne.mpr fun q => z q.symm
      rw [zb] at h
      obtain ⟨j, w, q1, q2, q3, q4⟩ := own_fld e2 h
      refine ⟨j + 1, w, by rw [List.lookup_cons, zb]; exact q1, q2, q3, fun s' => ?_⟩
      rw [putT, if_neg z]
      refine ⟨?_, ?_⟩
      · show t :: (putT f s' ts).map (·.2) = t :: (ts.map (·.2)).set j s'
        rw [(q4 s').1]
      · show k :: (putT f s' ts).map (·.1) = k :: ts.map (·.1)
        rw [(q4 s').2]
theorem set_same {α : Type} {l : List α} {j : Nat} {x : α} (h : l[j]? = some x) : l.set j x = l := by
  obtain ⟨hl, e⟩ := List.getElem?_eq_some_iff.mp h
  rw [← e, List.set_getElem_self]
/-- the part at a place, and the whole with another part there -/
theorem own_path {s : OT} : ∀ {π : List Stp} {u : V} {t : OT} {A : List Addr}, Own K F H u t A → A.Nodup → subT π t = some s → ∃ v B, AtV H u π v ∧ Own K F H v s B ∧ B.Nodup ∧ (∀ a ∈ B, a ∈ A) ∧
    ∀ (F' H' : Hp) (s' : OT) (B' : List Addr), Same F F' → (∀ a ∈ A, a ∉ B → ∀ o, H a = some o → H' a = some o) → Own K F' H' v s' B' → B'.Nodup → (∀ a ∈ B', a ∈ B ∨ a ∉ A) → ∃ A', Own K F' H' u (putP π t s') A' ∧ A'.Nodup ∧ ∀ a ∈ A', (a ∈ A ∧ a ∉ B) ∨ a ∈ B'
  | [], u, t, A, o, nd, h => by
    cases h
    exact ⟨u, A, .nil, o, nd, fun _ m => m, fun F' H' s' B' sm k o' nd' n' => ⟨B', o', nd', fun a m => .inr m⟩⟩
  | st :: π, u, t, A, o, nd, h => by
    unfold subT at h
    cases q : stepT st t with
    | none => rw [q] at h; cases h
    | some t1 =>
      rw [q] at h
      have part : ∀ {p : Addr} {vs : List V} {ts : List OT} {A0 : List Addr} {j : Nat}, (p :: A0).Nodup → OwnA K F H vs ts A0 → ts[j]? = some t1 → ∃ w v B, vs[j]? = some w ∧ AtV H w π v ∧ Own K F H v s B ∧ B.Nodup ∧ (∀ a ∈ B, a ∈ A0) ∧
          ∀ (F' H' : Hp) (s' : OT) (B' : List Addr), Same F F' → (∀ a ∈ p :: A0, a ∉ B → ∀ o, H a = some o → H' a = some o) → Own K F' H' v s' B' → B'.Nodup → (∀ a ∈ B', a ∈ B ∨ a ∉ p :: A0) → ∃ A', OwnA K F' H' vs (ts.set j (putP π t1 s')) A' ∧ (p :: A').Nodup ∧ ∀ a ∈ A', (a ∈ A0 ∧ a ∉ B) ∨ a ∈ B' := by
        intro p vs ts A0 j nd r e
        obtain ⟨w, A1, B1, A2, e1, e2, e3, e4⟩ := r.at e
        subst e3
        obtain ⟨np, nd0⟩ := List.nodup_cons.mp nd
        obtain ⟨nd1, nd2, dj1⟩ := List.nodup_append.mp nd0
        obtain ⟨nd3, nd4, dj2⟩ := List.nodup_append.mp nd2
        obtain ⟨v, B, g1, g2, g3, g4, g5⟩ := own_path e2 nd3 h
        refine ⟨w, v, B, e1, g1, g2, g3, fun a m => List.mem_append_right _ (List.mem_append_left _ (g4 a m)), fun F' H' s' B' sm k o' nd' n' => ?_⟩
        obtain ⟨A', w1, w2, w3⟩ := g5 F' H' s' B' sm (fun a m => k a (List.mem_cons_of_mem _ (List.mem_append_right _ (List.mem_append_left _ m)))) o' nd' fun a m => (n' a m).imp id fun z m' => z (List.mem_cons_of_mem _ (List.mem_append_right _ (List.mem_append_left _ m')))
        have oA : ∀ a ∈ A', a ∈ B1 ∨ a ∉ p :: (A1 ++ (B1 ++ A2)) := fun a m => by
          rcases w3 a m with z | z
          · exact .inl z.1
          · rcases n' a z with z | z
            · exact .inl (g4 a z)
            · exact .inr z
        have x1 : ∀ a ∈ A', a ∉ A1 := fun a m m' => by
          rcases oA a m with z | z
          · exact dj1 a m' a (List.mem_append_left _ z) rfl
          · exact z (List.mem_cons_of_mem _ (List.mem_append_left _ m'))
        have x2 : ∀ a ∈ A', a ∉ A2 := fun a m m' => by
          rcases oA a m with z | z
          · exact dj2 a z a m' rfl
          · exact z (List.mem_cons_of_mem _ (List.mem_append_right _ (List.mem_append_right _ m')))
        have nB1 : ∀ a ∈ A1, a ∉ B := fun a m m' => dj1 a m a (List.mem_append_left _ (g4 a m')) rfl
        have nB2 : ∀ a ∈ A2, a ∉ B := fun a m m' => dj2 a (g4 a m') a m rfl
        have q := e4 F' H' w (putP π t1 s') A' sm w1 fun a m => by
          rcases List.mem_append.mp m with m | m
          · exact k a (List.mem_cons_of_mem _ (List.mem_append_left _ m)) (nB1 a m)
          · exact k a (List.mem_cons_of_mem _ (List.mem_append_right _ (List.mem_append_right _ m))) (nB2 a m)
        rw [set_same e1] at q
        refine ⟨_, q, List.nodup_cons.mpr ⟨fun m => ?_, List.nodup_append.mpr ⟨nd1, List.nodup_append.mpr ⟨w2, nd4, fun a m b m' z => x2 a m (z ▸ m')⟩, fun a m b m' z => ?_⟩⟩, fun a m => ?_⟩
        · rcases List.mem_append.mp m with m | m
          · exact np (List.mem_append_left _ m)
          · rcases List.mem_append.mp m with m | m
            · rcases oA p m with z | z
              · exact np (List.mem_append_right _ (List.mem_append_left _ z))
              · exact z List.mem_cons_self
            · exact np (List.mem_append_right _ (List.mem_append_right _ m))
        · subst z
          rcases List.mem_append.mp m' with m' | m'
          · exact x1 a m' m
          · exact dj1 a m a (List.mem_append_right _ m') rfl
        · rcases List.mem_append.mp m with m | m
          · exact .inl ⟨List.mem_append_left _ m, nB1 a m⟩
          · rcases List.mem_append.mp m with m | m
            · rcases w3 a m with z | z
              · exact .inl ⟨List.mem_append_right _ (List.mem_append_left _ z.1), z.2⟩
              · exact .inr z
            · exact .inl ⟨List.mem_append_right _ (List.mem_append_right _ m), nB2 a m⟩
      have nB : ∀ {p : Addr} {A0 B : List Addr}, (p :: A0).Nodup → (∀ a ∈ B, a ∈ A0) → p ∉ B := fun nd z m => (List.nodup_cons.mp nd).1 (z _ m)
      cases st with
      | fld f =>
        cases t with
        | obj C fs =>
          have q : fs.lookup f = some t1 := q
          cases o with
          | @obj p _ dx vs ts A0 r1 r2 r3 =>
            obtain ⟨j, v0, w1, w2, w3, w4⟩ := own_fld r2 q
            obtain ⟨w, v, B, g1, g2, g3, g4, g5, g6⟩ := part nd r3 w2
            rw [w3] at g1
            cases g1
            refine ⟨v, B, .fld r1 w1 g2, g3, g4, fun a m => List.mem_cons_of_mem _ (g5 a m), fun F' H' s' B' sm k o' nd' n' => ?_⟩
            obtain ⟨A', x1, x2, x3⟩ := g6 F' H' s' B' sm k o' nd' n'
            refine ⟨p :: A', ?_, x2, fun a m => ?_⟩
            · show Own K F' H' (.ref p) (match stepT (.fld f) (.obj C fs) with | some t1 => stepS (.fld f) (.obj C fs) (putP π t1 s') | none => .obj C fs) (p :: A')
              rw [show stepT (.fld f) (.obj C fs) = some t1 from q]
              show Own K F' H' (.ref p) (.obj C (putT f (putP π t1 s') fs)) (p :: A')
              exact .obj (k p List.mem_cons_self (nB nd g5) _ r1) (r2.trans (w4 _).2.symm) (by rw [(w4 _).1]; exact x1)
            · rcases List.mem_cons.mp m with z | m
              · subst z
                exact .inl ⟨List.mem_cons_self, nB nd g5⟩
              · exact (x3 a m).imp (fun z => ⟨List.mem_cons_of_mem _ z.1, z.2⟩) id
        | fz _ => cases q
        | lst _ => cases q
        | dic _ => cases q
        | dit _ => cases q
      | ix j =>
        cases t with
        | lst ts =>
          have q : ts[j]? = some t1 := q
          cases o with
          | @lst p vs _ A0 r1 r2 =>
            obtain ⟨w, v, B, g1, g2, g3, g4, g5, g6⟩ := part nd r2 q
            refine ⟨v, B, .ix r1 g1 g2, g3, g4, fun a m => List.mem_cons_of_mem _ (g5 a m), fun F' H' s' B' sm k o' nd' n' => ?_⟩
            obtain ⟨A', x1, x2, x3⟩ := g6 F' H' s' B' sm k o' nd' n'
            refine ⟨p :: A', ?_, x2, fun a m => ?_⟩
            · show Own K F' H' (.ref p) (match stepT (.ix j) (.lst ts) with | some t1 => stepS (.ix j) (.lst ts) (putP π t1 s') | none => .lst ts) (p :: A')
              rw [show stepT (.ix j) (.lst ts) = some t1 from q]
              exact .lst (k p List.mem_cons_self (nB nd g5) _ r1) x1
            · rcases List.mem_cons.mp m with z | m
              · subst z
                exact .inl ⟨List.mem_cons_self, nB nd g5⟩
              · exact (x3 a m).imp (fun z => ⟨List.mem_cons_of_mem _ z.1, z.2⟩) id
        | fz _ => cases q
        | obj _ _ => cases q
        | dic _ => cases q
        | dit _ => cases q
end
section
variable {K : PySem.W.Frag} {H0 F H : Hp} {σ : L2.St} {Γ : List Sl}
theorem Hold.path (h : Hold K H0 F H σ Γ) {i : Nat} {q : Option Addr} {t s : OT} {π : List Stp} (hi : Γ[i]? = some (.tr q t)) (hs : subT π t = some s) : ∃ u v B, σ[i]? = some (some u) ∧ AtV H u π v ∧ Own K F H v s B ∧ B.Nodup ∧ (∀ a ∈ B, F a = none ∧ H0 a = none) ∧ (∀ p, q = some p → u = .ref p) ∧
    ∀ (F' H' : Hp) (s' : OT) (B' : List Addr), Same F F' → Same F' H' → (∀ a, a ∉ B → ∀ o, H a = some o → F a = none → F' a = none) → Own K F' H' v s' B' → B'.Nodup → (∀ a ∈ B', (a ∈ B ∨ H a = none) ∧ F' a = none) → (∀ a, a ∉ B → ∀ o, H a = some o → H' a = some o) → Hold K H0 F' H' σ (Γ.set i (.tr q (putP π t s'))) := by
  obtain ⟨u, A, e1, o, nd, nA, hq, upd⟩ := h.mutG hi
  obtain ⟨v, B, g1, g2, g3, g4, g5⟩ := own_path o nd hs
  refine ⟨u, v, B, e1, g1, g2, g3, fun a m => nA a (g4 a m), hq, fun F' H' s' B' ff fh nf o' nd' n' k => ?_⟩
  have hA : ∀ a ∈ A, H a ≠ none := fun a m z => by
    obtain ⟨x, w⟩ := o.dom a m
    rw [z] at w
    cases w
  obtain ⟨A', w1, w2, w3⟩ := g5 F' H' s' B' ff (fun a m nb => k a nb) o' nd' fun a m => (n' a m).1.imp id fun z m' => hA a m' z
  refine upd F' H' _ A' ff fh (fun a na => nf a fun m => na (g4 a m)) w1 w2 (fun a m => ?_) fun a na => k a fun m => na (g4 a m)
  rcases w3 a m with z | z
  · obtain ⟨x, w⟩ := o.dom a z.1
    exact ⟨.inl z.1, nf a z.2 x w (nA a z.1).1⟩
  · refine ⟨(n' a z).1.imp (g4 a) id, (n' a z).2⟩
end
/-! ### expressions that lead to such a place -/
section
variable {X : Cx} {H0 : Hp} {Γ : List Sl} {a b c e : Expr} {d : D} {xs : List D} {pos : Pos} {rest : List Stmt} {κ : Kt} {i : Nat} {π : List Stp} {q : Option Addr} {t s : OT} {x : Str}
def rPt (K : PySem.W.Frag) (H0 : Hp) (Γ : List Sl) (i : Nat) (π : List Stp) : TE := fun σ H Q => ∃ F, Hold K H0 F H σ Γ ∧ ∀ u v F' H', Go F H F' H' → σ[i]? = some (some u) → AtV H' u π v → Q v H'
/-- e is the place π in slot i, whose tree is t; there stands s -/
structure Pt (X : Cx) (H0 : Hp) (Γ : List Sl) (e : Expr) (i : Nat) (π : List Stp) (q : Option Addr) (t s : OT) : Prop where
  pe : PE X e (rPt X.K H0 Γ i π)
  sl : Γ[i]? = some (.tr q t)
  sub : subT π t = some s
theorem pt_v (i : Nat) {x : Str} (hΓ : Γ[i]? = some (.tr q t) := by rfl) (hN : X.N[i]? = some x := by rfl) (hv : Vis X.env.scope x := by first | exact Or.inl rfl | exact Or.inr (Or.inl rfl) | exact Or.inr (Or.inr rfl)) (hd : (x == ("__debug__" : Str)) = false := by decide)
    (hcd : (x == ("__classdict__" : Str)) = false := by decide) : Pt X H0 Γ (.Name x pos) i [] q t t := ⟨wkE (pe_var (i := i) hN hv hd hcd) fun σ H Q ⟨F, h, k⟩ => by
  obtain ⟨u, v, B, e1, _⟩ := h.path (π := []) hΓ rfl
  exact ⟨u, e1, k u u F H (.refl h.fh) e1 .nil⟩, hΓ, rfl⟩
theorem pt_f {C : Addr} {f : Str} {fs : List (Str × OT)} (P : Pt X H0 Γ e i π q t (.obj C fs)) (cl : Cls X.K C) (n : NoAttr X.K C f) (hl : fs.lookup f = some s) (hb : attributeBase e f X.env (eval e X.env) = eval e X.env := by rfl) : Pt X H0 Γ (.Attribute e f pos) i (π ++ [.fld f]) q t s :=
  ⟨wkE (pe_fld P.pe hb) fun σ H Q ⟨F, h, k⟩ => ⟨F, h, fun u v F' H' g e1 av => by
    obtain ⟨u', v', B, w1, w2, w3, _⟩ := (h.go g).path P.sl P.sub
    rw [e1] at w1
    cases w1
    cases av.det w2
    cases w3 with
    | @obj p _ dx vs ts A r1 r2 r3 =>
      obtain ⟨j, v0, z1, _⟩ := own_fld r2 hl
      exact ⟨p, C, dx, _, v0, rfl, r1, cl, n, z1, k u v0 F' H' g e1 (av.snoc_fld r1 z1)⟩⟩, P.sl, subT_snoc P.sub hl⟩
theorem pt_i {k : Int} {j : Nat} {ts : List OT} (P : Pt X H0 Γ e i π q t (.lst ts)) (hb : Ev X H0 Γ b (.int k)) (hj : ixN ts.length k = some j) (hl : ts[j]? = some s) (hs : PlainIx b := by exact fun _ _ => rfl) : Pt X H0 Γ (.Subscript e b pos) i (π ++ [.ix j]) q t s :=
  ⟨wkE (pe_ix ix_list P.pe hb hs) fun σ H Q ⟨F, h, kk⟩ => ⟨F, h, fun u v F' H' g e1 av => ⟨F', h.go g, fun y F2 H2 g2 r2 => by
    cases r2
    obtain ⟨u', v', B, w1, w2, w3, _⟩ := ((h.go g).go g2).path P.sl P.sub
    rw [e1] at w1
    cases w1
    have av2 := av.mono g2.kp
    cases av2.det w2
    cases w3 with
    | @lst p vs _ A r1 r2 =>
      obtain ⟨v0, A1, B1, A2, z1, _⟩ := r2.at hl
      refine ⟨p, vs, k, v0, rfl, rfl, .of r1, ?_, kk u v0 F2 H2 (g.trans g2) e1 (av2.snoc_ix r1 z1)⟩
      unfold atI
      rw [r2.length, hj]
      exact z1⟩⟩, P.sl, subT_snoc P.sub hl⟩
/-- data laid for good at such a place -/
theorem ev_p (P : Pt X H0 Γ e i π q t (.fz d)) : Ev X H0 Γ e d := wkE P.pe fun σ H Q ⟨F, h, k⟩ => ⟨F, h, fun u v F' H' g e1 av => by
  obtain ⟨u', v', B, w1, w2, w3, _⟩ := (h.go g).path P.sl P.sub
  rw [e1] at w1
  cases w1
  cases av.det w2
  cases w3 with
  | fz r => exact k v F' H' g r⟩
/-- a list of data at such a place, to be read -/
theorem er_p (P : Pt X H0 Γ e i π q t (.lst (xs.map .fz))) : Er X H0 Γ e xs := wkE P.pe fun σ H Q ⟨F, h, k⟩ => ⟨F, h, fun u v F' H' g e1 av => by
  obtain ⟨u', v', B, w1, w2, w3, _⟩ := (h.go g).path P.sl P.sub
  rw [e1] at w1
  cases w1
  cases av.det w2
  generalize hxs : xs.map OT.fz = ts at w3
  cases w3 with
  | @lst p vs _ A r1 r2 =>
    subst hxs
    exact k p vs F' H' g r1 r2.unfz.1⟩
/-- e.append(x) there -/
theorem rs_appP {ts : List OT} {apos cpos : Pos} (P : Pt X H0 Γ a i π q t (.lst ts)) (he : Ev X H0 Γ e d) (hk : Rs X H0 (Γ.set i (.tr q (putP π t (.lst (ts ++ [.fz d]))))) rest κ) (hz : ts.length < sizeLine)
    (hse : starEach [e] X.env = (false, eval e X.env) :: starEach [] X.env := by rfl)
    (hbase : attributeBase a "append" X.env (eval a X.env) = eval a X.env := by rfl)
    (hfew : ((backTo cpos (starEach [e] X.env)).all (fun x => !x.1) && (backToKw cpos (keywordEach [] X.env)).all (fun x => x.1.isSome)
      && decide (([e] : List Expr).length + ([] : List Keyword).length + (if ([] : List Keyword).isEmpty then 0 else 1) < 30)) = true := by rfl)
    (hline : (apos.endLine == cpos.line) = true := by rfl) (hpl : (backTo cpos (starEach [] X.env)).any (·.1) = false := by rfl)
    (hsw : swapsWith (.Call (.Attribute a "append" apos) [e] [] cpos) none pos.line X.env = pure false := by rfl) :
    Rs X H0 Γ (.Expr (.Call (.Attribute a "append" apos) [e] [] cpos) pos :: rest) κ :=
  rs_cons (fun Γ' => Γ' = Γ.set i (.tr q (putP π t (.lst (ts ++ [.fz d]))))) (wkS (ps_expr (pe_bm PySem.F.plainAttrs_list PySem.F.slot_list_append PySem.F.type_list_append mt_append P.pe (pa_cons he pa_nil hse) hbase hfew hline hse hpl) hsw) fun E σ H ⟨F, h, k⟩ => ⟨F, h, fun u v F1 H1 g1 e1 av => by
    obtain ⟨u', v', B, w1, w2, w3, _⟩ := (h.go g1).path P.sl P.sub
    rw [e1] at w1
    cases w1
    cases av.det w2
    cases w3 with
    | @lst p vs _ A r1 r2 =>
      refine ⟨.inl ⟨rfl, vs, .of r1⟩, F1, h.go g1, fun y F2 H2 g2 ry => ?_⟩
      obtain ⟨u2, v2, B2, x1, x2, x3, x4, x5, x6, upd⟩ := ((h.go g1).go g2).path P.sl P.sub
      rw [e1] at x1
      cases x1
      cases (av.mono g2.kp).det x2
      cases x3 with
      | @lst _ vs2 _ A2 y1 y2 =>
        refine ⟨p, vs2, y, rfl, rfl, y1, by rw [y2.length]; exact hz, ?_⟩
        obtain ⟨np, nd⟩ := List.nodup_cons.mp x4
        have pF := (x5 p List.mem_cons_self).1
        refine k.nx F2 _ σ _ ((h.tr g1).trans ((h.go g1).tr g2)) (upd F2 (L2.upd H2 p (.lst (vs2 ++ [y]))) _ (p :: (A2 ++ ([] ++ []))) (.refl _) (fun b o z => ?_) (fun _ _ _ _ z => z) (.lst upd_same ((y2.mono (.refl _) fun b m o z => ?_).append (.cons (.fz ry) .nil))) (by rw [List.append_nil, List.append_nil]; exact x4) (fun b m => ?_) fun b m o z => ?_) rfl
        · rw [upd_ne (ne_of_none z pF)]
          exact g2.fh _ _ z
        · rw [upd_ne (fun z : b = p => np (z ▸ m))]
          exact z
        · rw [List.append_nil, List.append_nil] at m
          exact ⟨.inl m, (x5 b m).1⟩
        · rw [upd_ne (fun w : b = p => m (w ▸ List.mem_cons_self))]
          exact z⟩) fun Γ' q => q ▸ hk
/-- e[k] = x there: a list -/
theorem rs_putP {ts : List OT} {tpos : Pos} {k : Int} {j : Nat} (P : Pt X H0 Γ a i π q t (.lst ts)) (he : Ev X H0 Γ e d) (hb : Ev X H0 Γ b (.int k)) (hj : ixN ts.length k = some j) (hk : Rs X H0 (Γ.set i (.tr q (putP π t (.lst (ts.set j (.fz d)))))) rest κ)
    (hold : ∃ d0, ts[j]? = some (.fz d0))
    (ha : ∀ v, assign (.Subscript a b tpos) X.env v = (do
      let ov ← holding [v] (eval a X.env)
      let iv ← holding [v, ov] (eval b X.env)
      standAt tpos
      holding [v, ov, iv] (setItem ov iv v)
      release [v, ov, iv] []) := by intro _; rfl)
    (hs : swapsWithSole [.Subscript a b tpos] e pos.line X.env = pure false := by rfl) (hw : swappedStores [.Subscript a b tpos] e X.env = pure none := by rfl)
    (h1 : (assignEach [.Subscript a b tpos] X.env).map (·.2) = [assign (.Subscript a b tpos) X.env] := by rfl) : Rs X H0 Γ (.Assign [.Subscript a b tpos] e pos :: rest) κ :=
  rs_cons (fun Γ' => Γ' = Γ.set i (.tr q (putP π t (.lst (ts.set j (.fz d)))))) (wkS (ps_asg he (pg_sub P.pe hb set_list ha) hs hw h1) fun E σ H ⟨F, h, kk⟩ => ⟨F, h, fun y F1 H1 g1 r1 => ⟨F1, h.go g1, fun u v F2 H2 g2 e1 av => ⟨F2, (h.go g1).go g2, fun w F3 H3 g3 r3 => by
    cases r3
    obtain ⟨u2, v2, B2, x1, x2, x3, x4, x5, x6, upd⟩ := (((h.go g1).go g2).go g3).path P.sl P.sub
    rw [e1] at x1
    cases x1
    cases (av.mono g3.kp).det x2
    obtain ⟨d0, hd0⟩ := hold
    cases x3 with
    | @lst p vs2 _ A2 y1 y2 =>
      obtain ⟨v0, A1, B1, A3, z1, z2, z3, z4⟩ := y2.at hd0
      cases z2 with
      | fz _ =>
        refine ⟨p, vs2, k, j, rfl, rfl, y1, by rw [y2.length]; exact hj, ?_⟩
        obtain ⟨np, nd⟩ := List.nodup_cons.mp x4
        have pF := (x5 p List.mem_cons_self).1
        have new := z4 F3 (L2.upd H3 p (.lst (vs2.set j y))) y (.fz d) [] (.refl _) (.fz (r1.mono (g2.ff.trans g3.ff))) fun b m o z => by
          rw [upd_ne (fun w : b = p => np (by rw [← w, z3]; simpa using m))]
          exact z
        subst z3
        refine kk.nx F3 _ σ _ ((h.tr g1).trans (((h.go g1).tr g2).trans (((h.go g1).go g2).tr g3))) (upd F3 (L2.upd H3 p (.lst (vs2.set j y))) _ (p :: (A1 ++ ([] ++ A3))) (.refl _) (fun b o z => ?_) (fun _ _ _ _ z => z) (.lst upd_same new) x4 (fun b m => ⟨.inl m, (x5 b m).1⟩) fun b m o z => ?_) rfl
        · rw [upd_ne (ne_of_none z pF)]
          exact g3.fh _ _ z
        · rw [upd_ne (fun w : b = p => m (w ▸ List.mem_cons_self))]
          exact z⟩⟩⟩) fun Γ' q => q ▸ hk
end
end Dv

namespace Dv
open PySem PySem.Spec PyProof.Rows L2

/-! ### calls that write what is handed in -/
/-- what a def is handed: data, or a tree of the caller's own at p -/
inductive Ar where
  | d (x : D) | t (p : Addr) (x : OT)
inductive ArgsAt (K : PySem.W.Frag) (F H : Hp) : List V → List Ar → List (List Addr) → Prop
  | nil : ArgsAt K F H [] [] []
  | d {v : V} {x : D} {vs : List V} {as : List Ar} {Bs : List (List Addr)} : Is K F v x → ArgsAt K F H vs as Bs → ArgsAt K F H (v :: vs) (.d x :: as) ([] :: Bs)
  | t {p : Addr} {x : OT} {B : List Addr} {vs : List V} {as : List Ar} {Bs : List (List Addr)} : Own K F H (.ref p) x B → ArgsAt K F H vs as Bs → ArgsAt K F H (.ref p :: vs) (.t p x :: as) (B :: Bs)
/-- the promise: as before, as' behind, r is handed back -/
def SpG (K : PySem.W.Frag) (S : List Ar → List Ar → D → Prop) : Sp := fun vs H Q _ => ∃ F as Bs as' r, ArgsAt K F H vs as Bs ∧ Bs.flatten.Nodup ∧ (∀ a ∈ Bs.flatten, F a = none) ∧ Same F H ∧ S as as' r ∧
  ∀ v F' H' Bs', Same F F' → Same F' H' → (∀ a, a ∉ Bs.flatten → ∀ o, H a = some o → H' a = some o) → (∀ a, a ∉ Bs.flatten → ∀ o, H a = some o → F a = none → F' a = none) → ArgsAt K F' H' vs as' Bs' → Bs'.flatten.Nodup → (∀ a ∈ Bs'.flatten, (a ∈ Bs.flatten ∨ H a = none) ∧ F' a = none) → Is K F' v r → Q v H'
/-- an argument at a call: data, or the slot of a tree of one's own -/
inductive CA where
  | d (x : D) | s (i : Nat)
inductive CaOk (K : PySem.W.Frag) (F : Hp) (σ : L2.St) : List V → List CA → Prop
  | nil : CaOk K F σ [] []
  | d {v : V} {x : D} {vs : List V} {cs : List CA} : Is K F v x → CaOk K F σ vs cs → CaOk K F σ (v :: vs) (.d x :: cs)
  | s {v : V} {i : Nat} {vs : List V} {cs : List CA} : σ[i]? = some (some v) → CaOk K F σ vs cs → CaOk K F σ (v :: vs) (.s i :: cs)
theorem CaOk.mono {K : PySem.W.Frag} {F F' : Hp} {σ : L2.St} {vs : List V} {cs : List CA} (h : CaOk K F σ vs cs) (e : Same F F') : CaOk K F' σ vs cs := by
  induction h with
  | nil => exact .nil
  | d r _ ih => exact .d (r.mono e) ih
  | s r _ ih => exact .s r ih
def slots : List CA → List Nat
  | [] => []
  | .d _ :: cs => slots cs
  | .s i :: cs => i :: slots cs
def mkA (P : Nat → Addr) (T : Nat → OT) : List CA → List Ar
  | [] => []
  | .d x :: cs => .d x :: mkA P T cs
  | .s i :: cs => .t (P i) (T i) :: mkA P T cs
def mkB (fp : Nat → List Addr) : List CA → List (List Addr)
  | [] => []
  | .d _ :: cs => [] :: mkB fp cs
  | .s i :: cs => fp i :: mkB fp cs
def lookB : List CA → List (List Addr) → Nat → List Addr
  | .d _ :: cs, _ :: Bs, j => lookB cs Bs j
  | .s i :: cs, B :: Bs, j => if i = j then B else lookB cs Bs j
  | _, _, _ => []
def nodeT : OT → Bool
  | .fz _ => false
  | _ => true
theorem mkB_mem {fp : Nat → List Addr} {a : Addr} : ∀ {cs : List CA}, a ∈ (mkB fp cs).flatten → ∃ i ∈ slots cs, a ∈ fp i
  | [], h => by cases h
  | .d _ :: cs, h => by
    rw [mkB, List.flatten_cons, List.nil_append] at h
    exact mkB_mem (cs := cs) h
  | .s i :: cs, h => by
    rw [mkB, List.flatten_cons] at h
    rcases List.mem_append.mp h with m | m
    · exact ⟨i, List.mem_cons_self, m⟩
    · obtain ⟨j, h1, h2⟩ := mkB_mem m
      exact ⟨j, List.mem_cons_of_mem _ h1, h2⟩
theorem mkB_of {fp : Nat → List Addr} {a : Addr} {i : Nat} : ∀ {cs : List CA}, i ∈ slots cs → a ∈ fp i → a ∈ (mkB fp cs).flatten
  | [], h, _ => by cases h
  | .d _ :: cs, h, m => by
    rw [mkB, List.flatten_cons, List.nil_append]
    exact mkB_of (cs := cs) h m
  | .s j :: cs, h, m => by
    rw [mkB, List.flatten_cons]
    rcases List.mem_cons.mp h with z | h
    · subst z
      exact List.mem_append_left _ m
    · exact List.mem_append_right _ (mkB_of h m)
theorem mkB_nodup {fp : Nat → List Addr} (h3 : ∀ i, (fp i).Nodup) (h4 : ∀ i j a, a ∈ fp i → a ∈ fp j → i = j) : ∀ {cs : List CA}, (slots cs).Nodup → (mkB fp cs).flatten.Nodup
  | [], _ => List.nodup_nil
  | .d _ :: cs, h => by
    rw [mkB, List.flatten_cons, List.nil_append]
    exact mkB_nodup h3 h4 (cs := cs) h
  | .s j :: cs, h => by
    obtain ⟨n1, n2⟩ := List.nodup_cons.mp h
    rw [mkB, List.flatten_cons]
    refine List.nodup_append.mpr ⟨h3 j, mkB_nodup h3 h4 n2, fun a m b m' z => ?_⟩
    subst z
    obtain ⟨l, q1, q2⟩ := mkB_mem m'
    exact n1 (h4 j l a m q2 ▸ q1)
theorem lookB_mem {a : Addr} {j : Nat} : ∀ {cs : List CA} {Bs : List (List Addr)}, a ∈ lookB cs Bs j → a ∈ Bs.flatten
  | [], _, h => by cases h
  | .d _ :: cs, [], h => by cases h
  | .s _ :: cs, [], h => by cases h
  | .d _ :: cs, B :: Bs, h => by
    rw [List.flatten_cons]
    exact List.mem_append_right _ (lookB_mem (cs := cs) h)
  | .s i :: cs, B :: Bs, h => by
    rw [List.flatten_cons]
    by_cases z : i = j
    · rw [lookB, if_pos z] at h
      exact List.mem_append_left _ h
    · rw [lookB, if_neg z] at h
      exact List.mem_append_right _ (lookB_mem h)
theorem lookB_nodup {j : Nat} : ∀ {cs : List CA} {Bs : List (List Addr)}, Bs.flatten.Nodup → (lookB cs Bs j).Nodup
  | [], _, _ => List.nodup_nil
  | .d _ :: cs, [], h => List.nodup_nil
  | .s _ :: cs, [], h => List.nodup_nil
  | .d _ :: cs, B :: Bs, h => by
    rw [List.flatten_cons] at h
    exact lookB_nodup (cs := cs) (List.nodup_append.mp h).2.1
  | .s i :: cs, B :: Bs, h => by
    rw [List.flatten_cons] at h
    by_cases z : i = j
    · rw [lookB, if_pos z]
      exact (List.nodup_append.mp h).1
    · rw [lookB, if_neg z]
      exact lookB_nodup (List.nodup_append.mp h).2.1
theorem lookB_inj {a : Addr} {i j : Nat} : ∀ {cs : List CA} {Bs : List (List Addr)}, Bs.flatten.Nodup → a ∈ lookB cs Bs i → a ∈ lookB cs Bs j → i = j
  | [], _, _, h, _ => by cases h
  | .d _ :: cs, [], _, h, _ => by cases h
  | .s _ :: cs, [], _, h, _ => by cases h
  | .d _ :: cs, B :: Bs, nd, h1, h2 => by
    rw [List.flatten_cons] at nd
    exact lookB_inj (cs := cs) (List.nodup_append.mp nd).2.1 h1 h2
  | .s l :: cs, B :: Bs, nd, h1, h2 => by
    rw [List.flatten_cons] at nd
    obtain ⟨_, n2, n3⟩ := List.nodup_append.mp nd
    by_cases z1 : l = i
    · by_cases z2 : l = j
      · exact z1.symm.trans z2
      · rw [lookB, if_pos z1] at h1
        rw [lookB, if_neg z2] at h2
        exact absurd rfl (n3 a h1 a (lookB_mem h2))
    · by_cases z2 : l = j
      · rw [lookB, if_neg z1] at h1
        rw [lookB, if_pos z2] at h2
        exact absurd rfl (n3 a h2 a (lookB_mem h1))
      · rw [lookB, if_neg z1] at h1
        rw [lookB, if_neg z2] at h2
        exact lookB_inj n2 h1 h2
theorem lookB_own {K : PySem.W.Frag} {F H : Hp} {P : Nat → Addr} {T : Nat → OT} {j : Nat} : ∀ {cs : List CA} {vs : List V} {Bs : List (List Addr)}, (slots cs).Nodup → ArgsAt K F H vs (mkA P T cs) Bs → j ∈ slots cs → Own K F H (.ref (P j)) (T j) (lookB cs Bs j)
  | [], _, _, _, _, h => by cases h
  | .d _ :: cs, _, _, nd, a, h => by
    rw [mkA] at a
    cases a with
    | d r a => exact lookB_own (cs := cs) nd a h
  | .s i :: cs, _, _, nd, a, h => by
    obtain ⟨n1, n2⟩ := List.nodup_cons.mp nd
    rw [mkA] at a
    cases a with
    | t r a =>
      by_cases z : i = j
      · subst z
        rw [lookB, if_pos rfl]
        exact r
      · rw [lookB, if_neg z]
        rcases List.mem_cons.mp h with w | h
        · exact absurd w.symm z
        · exact lookB_own n2 a h
section
variable {K : PySem.W.Frag} {H0 F H : Hp} {σ : L2.St} {Γ Γ' : List Sl}
/-- Γ' is Γ with the trees T' in these slots -/
structure GUp (Γ Γ' : List Sl) (is : List Nat) (T T' : Nat → OT) : Prop where
  len : Γ'.length = Γ.length
  off : ∀ j, j ∉ is → Γ'[j]? = Γ[j]?
  at_ : ∀ i ∈ is, ∃ q, Γ[i]? = some (.tr q (T i)) ∧ Γ'[i]? = some (.tr q (T' i)) ∧ nodeT (T i) = true
theorem argsAt_of {fp : Nat → List Addr} {P : Nat → Addr} {T : Nat → OT} {vs : List V} {cs : List CA} (c : CaOk K F σ vs cs) (h : ∀ i ∈ slots cs, σ[i]? = some (some (.ref (P i))) ∧ Own K F H (.ref (P i)) (T i) (fp i)) : ArgsAt K F H vs (mkA P T cs) (mkB fp cs) := by
  induction c with
  | nil => exact .nil
  | d r _ ih => exact .d r (ih h)
  | @s v i vs cs e _ ih =>
    obtain ⟨e1, o⟩ := h i List.mem_cons_self
    rw [e] at e1
    cases e1
    exact .t o (ih fun j m => h j (List.mem_cons_of_mem _ m))
theorem own_ref {v : V} {t : OT} {A : List Addr} (o : Own K F H v t A) (n : nodeT t = true) : ∃ p, v = .ref p := by
  cases o with
  | fz _ => cases n
  | lst _ _ => exact ⟨_, rfl⟩
  | obj _ _ _ => exact ⟨_, rfl⟩
  | dic _ _ _ => exact ⟨_, rfl⟩
  | dit _ _ _ => exact ⟨_, rfl⟩
theorem Hold.args (h : Hold K H0 F H σ Γ) {cs : List CA} {vs : List V} (c : CaOk K F σ vs cs) (nd : (slots cs).Nodup) {T T' : Nat → OT} (G : GUp Γ Γ' (slots cs) T T') : ∃ (P : Nat → Addr) (Bs : List (List Addr)), ArgsAt K F H vs (mkA P T cs) Bs ∧ Bs.flatten.Nodup ∧ (∀ a ∈ Bs.flatten, F a = none ∧ H0 a = none) ∧
    (∀ i ∈ slots cs, ∀ p t, Γ[i]? = some (.tr (some p) t) → P i = p) ∧
    ∀ (F' H' : Hp) (Bs' : List (List Addr)), Same F F' → Same F' H' → (∀ a, a ∉ Bs.flatten → ∀ o, H a = some o → H' a = some o) → (∀ a, a ∉ Bs.flatten → ∀ o, H a = some o → F a = none → F' a = none) → ArgsAt K F' H' vs (mkA P T' cs) Bs' → Bs'.flatten.Nodup → (∀ a ∈ Bs'.flatten, (a ∈ Bs.flatten ∨ H a = none) ∧ F' a = none) → Hold K H0 F' H' σ Γ' := by
  obtain ⟨fp, h1, h2, h3, h4⟩ := h.ex
  have ex : ∀ i, ∃ p : Addr, i ∈ slots cs → σ[i]? = some (some (.ref p)) ∧ Own K F H (.ref p) (T i) (fp i) := fun i => by
    by_cases m : i ∈ slots cs
    · obtain ⟨q, e1, e2, e3⟩ := G.at_ i m
      obtain ⟨v, q1, q2, q3⟩ := h1 i _ e1
      obtain ⟨p, rfl⟩ := own_ref q2 e3
      exact ⟨p, fun _ => ⟨q1, q2⟩⟩
    · exact ⟨0, fun z => absurd z m⟩
  obtain ⟨P, hP⟩ := Classical.axiomOfChoice ex
  have aOld := argsAt_of c hP
  refine ⟨P, mkB fp cs, aOld, mkB_nodup h3 h4 nd, fun a m => ?_, fun i m p t e => ?_, fun F' H' Bs' ff fh kp nf aNew nd' n' => ?_⟩
  · obtain ⟨i, q1, q2⟩ := mkB_mem m
    exact ⟨(h2 i a q2).1, (h2 i a q2).2.1⟩
  · obtain ⟨v, q1, q2, q3⟩ := h1 i _ e
    have z := q3 p rfl
    subst z
    have w := (hP i m).1
    rw [q1] at w
    cases w
    rfl
  · have offm : ∀ j a, j ∉ slots cs → a ∈ fp j → a ∉ (mkB fp cs).flatten := fun j a nj m m' => by
      obtain ⟨i, q1, q2⟩ := mkB_mem m'
      exact nj (h4 j i a m q2 ▸ q1)
    obtain ⟨fq, fe, fn⟩ : ∃ fq : Nat → List Addr, (∀ j, j ∈ slots cs → fq j = lookB cs Bs' j) ∧ (∀ j, j ∉ slots cs → fq j = fp j) := ⟨fun j => if j ∈ slots cs then lookB cs Bs' j else fp j, fun j m => if_pos m, fun j m => if_neg m⟩
    refine ⟨by rw [G.len]; exact h.len, fh, fun a o e => kp a (fun m => ?_) o (h.h0 a o e), fq, fun j s e => ?_, fun j a m => ?_, fun j => ?_, fun i j a m1 m2 => ?_⟩
    · obtain ⟨i, q1, q2⟩ := mkB_mem m
      rw [(h2 i a q2).2.1] at e
      cases e
    · by_cases m : j ∈ slots cs
      · rw [fe j m]
        obtain ⟨q, e1, e2, e3⟩ := G.at_ j m
        rw [e2] at e
        cases e
        refine ⟨.ref (P j), (hP j m).1, lookB_own nd aNew m, fun p z => ?_⟩
        obtain ⟨v, q1, q2, q3⟩ := h1 j _ e1
        have w := (hP j m).1
        rw [q1] at w
        cases w
        exact q3 p z
      · rw [fn j m]
        rw [G.off j m] at e
        have q := h1 j s e
        cases s with
        | un => trivial
        | da d =>
          obtain ⟨w, q1, q2⟩ := q
          exact ⟨w, q1, q2.mono ff⟩
        | tr qq u =>
          obtain ⟨w, q1, q2, q3⟩ := q
          exact ⟨w, q1, q2.mono ff fun a m' o x => kp a (offm j a m m') o x, q3⟩
    · by_cases mj : j ∈ slots cs
      · rw [fe j mj] at m
        obtain ⟨o, x⟩ := (lookB_own nd aNew mj).dom a m
        obtain ⟨z, z2⟩ := n' a (lookB_mem m)
        refine ⟨z2, ?_, o, x⟩
        rcases z with z | z
        · obtain ⟨i, q1, q2⟩ := mkB_mem z
          exact (h2 i a q2).2.1
        · exact Same.free h.h0 z
      · rw [fn j mj] at m
        obtain ⟨n1, n2, o, x⟩ := h2 j a m
        exact ⟨nf a (offm j a mj m) o x n1, n2, o, kp a (offm j a mj m) o x⟩
    · by_cases mj : j ∈ slots cs
      · rw [fe j mj]
        exact lookB_nodup nd'
      · rw [fn j mj]
        exact h3 j
    · have cross : ∀ {l m : Nat}, l ∈ slots cs → m ∉ slots cs → a ∈ lookB cs Bs' l → a ∈ fp m → False := fun {l m} hl hm q1 q2 => by
        rcases (n' a (lookB_mem q1)).1 with z | z
        · exact offm m a hm q2 z
        · obtain ⟨_, _, o, x⟩ := h2 m a q2
          rw [z] at x
          cases x
      by_cases mi : i ∈ slots cs
      · rw [fe i mi] at m1
        by_cases mj : j ∈ slots cs
        · rw [fe j mj] at m2
          exact lookB_inj nd' m1 m2
        · rw [fn j mj] at m2
          exact (cross mi mj m1 m2).elim
      · rw [fn i mi] at m1
        by_cases mj : j ∈ slots cs
        · rw [fe j mj] at m2
          exact (cross mj mi m2 m1).elim
        · rw [fn j mj] at m2
          exact h4 i j a m1 m2
end

/-! ### expressions that write one's own trees -/
section
variable {X : Cx} {H0 : Hp} {Γ Γ' Γ1 Γ2 : List Sl} {a b c e : Expr} {d d1 d2 : D} {xs : List D} {pos : Pos} {rest : List Stmt} {κ : Kt} {x : Str}
def rEm (K : PySem.W.Frag) (H0 : Hp) (Γ Γ' : List Sl) (d : D) : TE := fun σ H Q => ∃ F, Hold K H0 F H σ Γ ∧ ∀ v F' H', Tr H0 F F' → Hold K H0 F' H' σ Γ' → Is K F' v d → Q v H'
def Em (X : Cx) (H0 : Hp) (Γ Γ' : List Sl) (e : Expr) (d : D) : Prop := PE X e (rEm X.K H0 Γ Γ' d)
theorem em_ev (h : Ev X H0 Γ e d) : Em X H0 Γ Γ e d := wkE h fun σ H Q ⟨F, h, k⟩ => ⟨F, h, fun v F' H' g r => k v F' H' (h.tr g) (h.go g) r⟩
theorem em_eq (h : Em X H0 Γ Γ' e d1) (q : d1 = d2) : Em X H0 Γ Γ' e d2 := q ▸ h
def rMa (K : PySem.W.Frag) (H0 : Hp) (Γ Γ' : List Sl) (cs : List CA) : TA := fun σ H Q => ∃ F, Hold K H0 F H σ Γ ∧ ∀ vs F' H', Tr H0 F F' → Hold K H0 F' H' σ Γ' → CaOk K F' σ vs cs → Q vs H'
def Ma (X : Cx) (H0 : Hp) (Γ Γ' : List Sl) (es : List Expr) (cs : List CA) : Prop := PA X es (rMa X.K H0 Γ Γ' cs)
theorem ma_nil : Ma X H0 Γ Γ [] [] := wkA pa_nil fun σ H Q ⟨F, h, k⟩ => k [] F H .refl h .nil
theorem ma_cons {es : List Expr} {cs : List CA} (h1 : Em X H0 Γ Γ1 e d) (h2 : Ma X H0 Γ1 Γ2 es cs) (hs : starEach (e :: es) X.env = (false, eval e X.env) :: starEach es X.env := by rfl) : Ma X H0 Γ Γ2 (e :: es) (.d d :: cs) :=
  wkA (pa_cons h1 h2 hs) fun σ H Q ⟨F, h, k⟩ => ⟨F, h, fun v F1 H1 t1 h1 r1 => ⟨F1, h1, fun vs F2 H2 t2 h2 r2 => k (v :: vs) F2 H2 (t1.trans t2) h2 (.d (r1.mono t2.ff) r2)⟩⟩
theorem ma_ev {es : List Expr} {cs : List CA} (h1 : Ev X H0 Γ e d) (h2 : Ma X H0 Γ Γ2 es cs) (hs : starEach (e :: es) X.env = (false, eval e X.env) :: starEach es X.env := by rfl) : Ma X H0 Γ Γ2 (e :: es) (.d d :: cs) := ma_cons (em_ev h1) h2 hs
/-- the slot's value -/
def rSl (K : PySem.W.Frag) (H0 : Hp) (Γ : List Sl) (i : Nat) : TE := fun σ H Q => ∃ F, Hold K H0 F H σ Γ ∧ ∀ v, σ[i]? = some (some v) → Q v H
theorem pe_sl (i : Nat) {q : Option Addr} {t : OT} (hΓ : Γ[i]? = some (.tr q t)) (hN : X.N[i]? = some x) (hv : Vis X.env.scope x) (hd : (x == ("__debug__" : Str)) = false) (hcd : (x == ("__classdict__" : Str)) = false) : PE X (.Name x pos) (rSl X.K H0 Γ i) :=
  wkE (pe_var (i := i) hN hv hd hcd) fun σ H Q ⟨F, h, k⟩ => by
    obtain ⟨u, v, B, e1, _⟩ := h.path (π := []) hΓ rfl
    exact ⟨u, e1, k u e1⟩
theorem ma_own (i : Nat) {x : Str} {q : Option Addr} {t : OT} {es : List Expr} {cs : List CA} (h2 : Ma X H0 Γ Γ2 es cs) (hΓ : Γ[i]? = some (.tr q t) := by rfl) (hN : X.N[i]? = some x := by rfl) (hv : Vis X.env.scope x := by first | exact Or.inl rfl | exact Or.inr (Or.inl rfl) | exact Or.inr (Or.inr rfl)) (hd : (x == ("__debug__" : Str)) = false := by decide)
    (hcd : (x == ("__classdict__" : Str)) = false := by decide) (hs : starEach (.Name x pos :: es) X.env = (false, eval (.Name x pos) X.env) :: starEach es X.env := by rfl) : Ma X H0 Γ Γ2 (.Name x pos :: es) (.s i :: cs) :=
  wkA (pa_cons (pe_sl i hΓ hN hv hd hcd) h2 hs) fun σ H Q ⟨F, h, k⟩ => ⟨F, h, fun v e1 => ⟨F, h, fun vs F2 H2 t2 h2 r2 => k (v :: vs) F2 H2 t2 h2 (.s e1 r2)⟩⟩
/-- a def that writes what it is handed -/
structure CalG (P : Program) (w : World) (K : PySem.W.Frag) (mg : Str → Option Value) (base : Heap) (k : Nat) (x : Str) (ps : List Str) (S : List Ar → List Ar → D → Prop) : Prop where
  ex : ∃ f fd, FnOk P w K mg base CX0 k f fd ps (SpG K S) ∧ mg x = some (.ref f) ∧ PySem.W.keepIn K (.ref f) = true ∧ Binds K fd ps []
/-- a method -/
structure CalM (P : Program) (w : World) (K : PySem.W.Frag) (mg : Str → Option Value) (base : Heap) (k : Nat) (C : Addr) (m : Str) (ps : List Str) (S : List Ar → List Ar → D → Prop) : Prop where
  cl : Cls K C
  ex : ∃ f fd, FnOk P w K mg base CX0 k f fd ps (SpG K S) ∧ Meth K C m f ∧ Binds K fd ps []
theorem CalG.mono {P : Program} {w : World} {K : PySem.W.Frag} {mg : Str → Option Value} {base : Heap} {ps : List Str} {j k : Nat} {S : List Ar → List Ar → D → Prop} (C : CalG P w K mg base j x ps S) (h : j ≤ k) : CalG P w K mg base k x ps S := by
  obtain ⟨f, fd, h1, h2⟩ := C.ex
  exact ⟨f, fd, h1.mono h, h2⟩
theorem CalM.mono {P : Program} {w : World} {K : PySem.W.Frag} {mg : Str → Option Value} {base : Heap} {ps : List Str} {j k : Nat} {C : Addr} {m : Str} {S : List Ar → List Ar → D → Prop} (M : CalM P w K mg base j C m ps S) (h : j ≤ k) : CalM P w K mg base k C m ps S := by
  obtain ⟨f, fd, h1, h2⟩ := M.ex
  exact ⟨M.cl, f, fd, h1.mono h, h2⟩
/-- the reading of a call, its arguments at hand -/
theorem call_g {K : PySem.W.Frag} {S : List Ar → List Ar → D → Prop} {cs : List CA} {T T' : Nat → OT} {r : D} {F H : Hp} {σ : L2.St} {vs : List V} {Q : VK} {E : XK} (h : Hold K H0 F H σ Γ) (c : CaOk K F σ vs cs) (nd : (slots cs).Nodup) (G : GUp Γ Γ' (slots cs) T T')
    (hS : ∀ P : Nat → Addr, (∀ i ∈ slots cs, ∀ p t, Γ[i]? = some (.tr (some p) t) → P i = p) → S (mkA P T cs) (mkA P T' cs) r) (k : ∀ v F' H', Tr H0 F F' → Hold K H0 F' H' σ Γ' → Is K F' v r → Q v H') : SpG K S vs H Q E := by
  obtain ⟨P, Bs, a1, a2, a3, a5, a4⟩ := h.args c nd G
  refine ⟨F, mkA P T cs, Bs, mkA P T' cs, r, a1, a2, fun a m => (a3 a m).1, h.fh, hS P a5, fun v F' H' Bs' ff fh kp nf w1 w2 w3 ri => k v F' H' ⟨ff, fun a o e z => nf a (fun m => ?_) o (h.h0 a o e) z⟩ (a4 F' H' Bs' ff fh kp nf w1 w2 w3) ri⟩
  rw [(a3 a m).2] at e
  cases e
theorem em_cal {k : Nat} {ps : List Str} {S : List Ar → List Ar → D → Prop} {p : Pos} {es : List Expr} {cs : List CA} {T T' : Nat → OT} {r : D} (C : CalG X.prog X.w X.K X.mg X.base k x ps S) (hr : Room k X.A) (ha : Ma X H0 Γ Γ1 (e :: es) cs) (nd : (slots cs).Nodup) (G : GUp Γ1 Γ2 (slots cs) T T')
    (hS : ∀ P : Nat → Addr, (∀ i ∈ slots cs, ∀ p t, Γ1[i]? = some (.tr (some p) t) → P i = p) → S (mkA P T cs) (mkA P T' cs) r) (hg : Gl X x := by rfl) (hdb : (x == ("__debug__" : Str)) = false := by decide)
    (he : starEach (e :: es) X.env = (false, eval e X.env) :: starEach es X.env := by rfl) (hpl : (backTo pos (starEach es X.env)).any (·.1) = false := by rfl) : Em X H0 Γ Γ2 (.Call (.Name x p) (e :: es) [] pos) r := by
  obtain ⟨f, fd, h1, h2, h3, h4⟩ := C.ex
  exact wkE (pe_call h1 hr hg h2 h3 h4 .nil pass0 ha hdb he hpl) fun σ H Q ⟨F, h, q⟩ => ⟨F, h, fun vs F1 H1 t1 h1 c => by
    show SpG X.K S (vs ++ []) H1 Q E0
    rw [List.append_nil]
    exact call_g h1 c nd G hS fun v F' H' t2 h2 ri => q v F' H' (t1.trans t2) h2 ri⟩
theorem lookup_none {α β : Type} {f : Str} : ∀ {vs : List (Str × α)} {ts : List (Str × β)}, vs.map (·.1) = ts.map (·.1) → ts.lookup f = none → vs.lookup f = none
  | [], [], _, _ => rfl
  | [], _ :: _, e, _ => by cases e
  | _ :: _, [], e, _ => by cases e
  | (k, v) :: vs, (k', t) :: ts, e, h => by
    rw [List.map_cons, List.map_cons] at e
    obtain ⟨e1, e2⟩ := List.cons.inj e
    cases (show k = k' from e1)
    rw [List.lookup_cons] at h ⊢
    cases q : f == k with
    | true => rw [q] at h; cases h
    | false =>
      rw [q] at h
      exact lookup_none e2 h
/-- o.m(..): o the slot i -/
theorem em_meth (i : Nat) {k : Nat} {C : Addr} {m : Str} {ps : List Str} {S : List Ar → List Ar → D → Prop} {p apos : Pos} {es : List Expr} {cs : List CA} {T T' : Nat → OT} {r : D} {q : Option Addr} {fs gs : List (Str × OT)} {pl : Sem Bool} (M : CalM X.prog X.w X.K X.mg X.base k C m ps S) (hr : Room k X.A) (ha : Ma X H0 Γ Γ1 (e :: es) cs) (nd : (slots (.s i :: cs)).Nodup) (G : GUp Γ1 Γ2 (slots (.s i :: cs)) T T')
    (hS : ∀ P : Nat → Addr, (∀ j ∈ slots (.s i :: cs), ∀ p t, Γ1[j]? = some (.tr (some p) t) → P j = p) → S (mkA P T (.s i :: cs)) (mkA P T' (.s i :: cs)) r)
    (hΓ : Γ[i]? = some (.tr q (.obj C fs))) (hm : fs.lookup m = none) (hN : X.N[i]? = some x := by rfl) (hv : Vis X.env.scope x := by first | exact Or.inl rfl | exact Or.inr (Or.inl rfl) | exact Or.inr (Or.inr rfl)) (hd : (x == ("__debug__" : Str)) = false := by decide)
    (hcd : (x == ("__classdict__" : Str)) = false := by decide)
    (hst : starEach (e :: es) X.env = (false, eval e X.env) :: starEach es X.env := by rfl) (hpl : (backTo pos (starEach es X.env)).any (·.1) = false := by rfl)
    (ht : eval (.Call (.Attribute (.Name x p) m apos) (e :: es) [] pos) X.env = (do
      let ov ← eval (.Name x p) X.env
      standAt apos.atName
      let (f, first) ← holding [ov] (getMethod ov m pl)
      callWith pos f first (backTo pos (starEach (e :: es) X.env)) (backToKw pos (keywordEach [] X.env))) := by rfl) : Em X H0 Γ Γ2 (.Call (.Attribute (.Name x p) m apos) (e :: es) [] pos) r := by
  obtain ⟨f, fd, h1, h2, h3⟩ := M.ex
  exact wkE (pe_meth (pe_sl i hΓ hN hv hd hcd) M.cl h2 h1 hr h3 .nil pass0 ha hst hpl ht) fun σ H Q ⟨F, h, k⟩ => ⟨F, h, fun u e1 => by
    obtain ⟨u', v, B, w1, w2, w3, _⟩ := h.path (π := []) hΓ rfl
    rw [e1] at w1
    cases w1
    cases w2
    cases w3 with
    | @obj p _ dx vs ts A r1 r2 r3 =>
      refine ⟨p, dx, vs, rfl, r1, lookup_none r2 hm, F, h, fun us F1 H1 t1 h1 c => ?_⟩
      show SpG X.K S (V.ref p :: (us ++ [])) H1 Q E0
      rw [List.append_nil]
      exact call_g h1 (.s e1 c) nd G hS fun v F' H' t2 h2 ri => k v F' H' (t1.trans t2) h2 ri⟩

/-! ### statements with such expressions -/
theorem rs_setM (i : Nat) {pos' : Pos} (hN : X.N.Nodup) (he : Em X H0 Γ Γ1 e d) (hk : Rs X H0 (Γ1.set i (.da d)) rest κ) (hi : X.N[i]? = some x := by rfl) (hx : Loc X.env.scope x := by first | exact .inl rfl | exact .inr rfl) (hs : swapsWith e (some (.Name x pos')) pos.line X.env = pure false := by rfl)
    (hf : X.fn x = true ∨ X.env.scope.names.lookup x = some .local := by first | exact .inl rfl | exact .inr rfl | assumption) : Rs X H0 Γ (.Assign [.Name x pos'] e pos :: rest) κ :=
  rs_cons (fun Γ' => Γ' = Γ1.set i (.da d)) (wkS (ps_set (i := i) hN hi hx he hs hf) fun E σ H ⟨F, h, k⟩ => ⟨F, h, fun v F' H' t h' r => k.nx F' H' _ _ t (h'.setD i r) rfl⟩) fun Γ' q => q ▸ hk
theorem rs_exM (he : Em X H0 Γ Γ1 e d) (hk : Rs X H0 Γ1 rest κ) (hs : swapsWith e none pos.line X.env = pure false := by rfl) : Rs X H0 Γ (.Expr e pos :: rest) κ :=
  rs_cons (fun Γ' => Γ' = Γ1) (wkS (ps_expr he hs) fun E σ H ⟨F, h, k⟩ => ⟨F, h, fun v F' H' t h' r => k.nx F' H' _ _ t h' rfl⟩) fun Γ' q => q ▸ hk
theorem rn_retM (he : Em X H0 Γ Γ1 e d) (hk : κ.rt d Γ1) : Rn X H0 Γ (.Return (some e) pos) κ := wkS (ps_ret he) fun E σ H ⟨F, h, k⟩ => ⟨F, h, fun v F' H' t h' r => k.rt F' H' σ Γ1 v d t h' r hk⟩
theorem rs_retM (he : Em X H0 Γ Γ1 e d) (hk : κ.rt d Γ1) : Rs X H0 Γ (.Return (some e) pos :: rest) κ := rs_cons (fun _ => False) (rn_retM he hk) fun _ z => z.elim
/-- a new tree is handed back -/
theorem rs_retT {t : OT} (he : En X H0 Γ e t) (hk : κ.rn t Γ) : Rs X H0 Γ (.Return (some e) pos :: rest) κ := rs_cons (fun _ => False) (wkS (ps_ret he) fun E σ H ⟨F, h, k⟩ => ⟨F, h, fun v A F' H' g o nd n => k.rn F' H' σ Γ v t A (h.tr g) (h.go g) o nd (fun a m => ⟨(n a m).2, Same.free h.h0 (n a m).1⟩) hk⟩) fun _ z => z.elim
/-- a slot's tree is handed back -/
theorem rs_retS (i : Nat) {q : Option Addr} {t : OT} {p : Pos} (hk : κ.rn t Γ) (hΓ : Γ[i]? = some (.tr q t) := by rfl) (hN : X.N[i]? = some x := by rfl) (hv : Vis X.env.scope x := by first | exact Or.inl rfl | exact Or.inr (Or.inl rfl) | exact Or.inr (Or.inr rfl)) (hd : (x == ("__debug__" : Str)) = false := by decide)
    (hcd : (x == ("__classdict__" : Str)) = false := by decide) : Rs X H0 Γ (.Return (some (.Name x p)) pos :: rest) κ := rs_cons (fun _ => False) (wkS (ps_ret (pe_sl i hΓ hN hv hd hcd)) fun E σ H ⟨F, h, k⟩ => ⟨F, h, fun v e1 => by
  obtain ⟨u, A, w1, w2, w3, w4, _⟩ := h.mutG hΓ
  rw [e1] at w1
  cases w1
  exact k.rn F H σ Γ v t A .refl h w2 w3 w4 hk⟩) fun _ z => z.elim
/-- what is handed back is what was handed in -/
theorem ev_adr (i : Nat) {p : Addr} {t : OT} (hΓ : Γ[i]? = some (.slf p t) := by rfl) (hN : X.N[i]? = some x := by rfl) (hv : Vis X.env.scope x := by first | exact Or.inl rfl | exact Or.inr (Or.inl rfl) | exact Or.inr (Or.inr rfl)) (hd : (x == ("__debug__" : Str)) = false := by decide)
    (hcd : (x == ("__classdict__" : Str)) = false := by decide) : Ev X H0 Γ (.Name x pos) (.adr p) := wkE (pe_sl i hΓ hN hv hd hcd) fun σ H Q ⟨F, h, k⟩ => ⟨F, h, fun v e1 => by
  obtain ⟨u, A, w1, w2, w3, w4, w5, _⟩ := h.mutG hΓ
  rw [e1] at w1
  cases w1
  cases w5 p rfl
  exact k _ F H (.refl h.fh) (.adr p)⟩

/-! ### a def that hands back a new tree -/
def SpN (K : PySem.W.Frag) (S : List D → OT → Prop) : Sp := fun vs H Q _ => ∃ F ds t, Same F H ∧ IsA K F vs ds ∧ S ds t ∧ ∀ v A F' H', Go F H F' H' → Own K F' H' v t A → A.Nodup → (∀ a ∈ A, H a = none ∧ F' a = none) → Q v H'
structure CalN (P : Program) (w : World) (K : PySem.W.Frag) (mg : Str → Option Value) (base : Heap) (k : Nat) (x : Str) (ps : List Str) (S : List D → OT → Prop) : Prop where
  ex : ∃ f fd, FnOk P w K mg base CX0 k f fd ps (SpN K S) ∧ mg x = some (.ref f) ∧ PySem.W.keepIn K (.ref f) = true ∧ Binds K fd ps []
theorem CalN.mono {P : Program} {w : World} {K : PySem.W.Frag} {mg : Str → Option Value} {base : Heap} {ps : List Str} {j k : Nat} {S : List D → OT → Prop} (C : CalN P w K mg base j x ps S) (h : j ≤ k) : CalN P w K mg base k x ps S := by
  obtain ⟨f, fd, h1, h2⟩ := C.ex
  exact ⟨f, fd, h1.mono h, h2⟩
theorem en_cal {k : Nat} {ps : List Str} {S : List D → OT → Prop} {p : Pos} {es : List Expr} {ds : List D} {t : OT} (C : CalN X.prog X.w X.K X.mg X.base k x ps S) (hr : Room k X.A) (ha : Ea X H0 Γ (e :: es) ds) (hS : S ds t) (hg : Gl X x := by rfl) (hdb : (x == ("__debug__" : Str)) = false := by decide)
    (he : starEach (e :: es) X.env = (false, eval e X.env) :: starEach es X.env := by rfl) (hpl : (backTo pos (starEach es X.env)).any (·.1) = false := by rfl) : En X H0 Γ (.Call (.Name x p) (e :: es) [] pos) t := by
  obtain ⟨f, fd, h1, h2, h3, h4⟩ := C.ex
  exact wkE (pe_call h1 hr hg h2 h3 h4 .nil pass0 ha hdb he hpl) fun σ H Q ⟨F, h, q⟩ => ⟨F, h, fun vs F1 H1 g1 r1 => ⟨F1, ds, t, g1.fh, by rw [List.append_nil]; exact r1, hS, fun v A F' H' g2 o nd n => q v A F' H' (g1.trans g2) o nd fun a m => ⟨Same.free g1.kp (n a m).1, (n a m).2⟩⟩⟩
/-- f(x, y): y a new tree, written by f, and handed back by it -/
theorem en_calA {k : Nat} {ps : List Str} {S : List Ar → List Ar → D → Prop} {p : Pos} {t t' : OT} (C : CalG X.prog X.w X.K X.mg X.base k x ps S) (hr : Room k X.A) (h1 : Ev X H0 Γ a d) (h2 : En X H0 Γ b t) (ht : nodeT t = true) (hS : ∀ p, S [.d d, .t p t] [.d d, .t p t'] (.adr p)) (hg : Gl X x := by rfl) (hdb : (x == ("__debug__" : Str)) = false := by decide)
    (he : starEach [a, b] X.env = (false, eval a X.env) :: starEach [b] X.env := by rfl) (he2 : starEach [b] X.env = (false, eval b X.env) :: starEach [] X.env := by rfl) (hpl : (backTo pos (starEach [b] X.env)).any (·.1) = false := by rfl) : En X H0 Γ (.Call (.Name x p) [a, b] [] pos) t' := by
  obtain ⟨f, fd, q1, q2, q3, q4⟩ := C.ex
  exact wkE (pe_call q1 hr hg q2 q3 q4 .nil pass0 (pa_cons h1 (pa_cons h2 pa_nil he2) he) hdb he hpl) fun σ H Q ⟨F, h, q⟩ => ⟨F, h, fun v1 F1 H1 g1 r1 => ⟨F1, h.go g1, fun v2 B F2 H2 g2 o nd n => by
    obtain ⟨p, rfl⟩ := own_ref o ht
    refine ⟨F2, [.d d, .t p t], [[], B], [.d d, .t p t'], .adr p, .d (r1.mono g2.ff) (.t o .nil), by simpa using nd, fun a m => (n a (by simpa using m)).2, g2.fh, hS p, fun v F' H' Bs' ff fh kp nf w1 w2 w3 ri => ?_⟩
    cases ri
    cases w1 with
    | d _ w1 =>
      cases w1 with
      | @t _ _ B' _ _ _ o' w1 =>
        cases w1
        have kp1 : Same H1 H' := fun a u e => kp a (fun m => by rw [(n a (by simpa using m)).1] at e; cases e) u (g2.kp a u e)
        refine q _ B' F' H' (g1.trans ⟨g2.ff.trans ff, fh, kp1, fun a u e z => nf a (fun m => by rw [(n a (by simpa using m)).1] at e; cases e) u (g2.kp a u e) (g2.nf a u e z)⟩) o' (by simpa using w2) fun a m => ?_
        obtain ⟨z1, z2⟩ := w3 a (by simpa using m)
        refine ⟨?_, z2⟩
        rcases z1 with z | z
        · exact Same.free g1.kp (n a (by simpa using z)).1
        · exact Same.free g1.kp (Same.free g2.kp z)⟩⟩
end

/-! ### such defs -/
/-- the same data, trees at the same addresses -/
structure SameAr (as as' : List Ar) : Prop where
  len : as'.length = as.length
  d : ∀ (j : Nat) (x : D), as[j]? = some (Ar.d x) → as'[j]? = some (Ar.d x)
  t : ∀ (j : Nat) (p : Addr) (x : OT), as[j]? = some (Ar.t p x) → ∃ y, as'[j]? = some (Ar.t p y)
theorem sameAr_nil : SameAr [] [] := ⟨rfl, fun j x e => by simp at e, fun j p x e => by simp at e⟩
theorem sameAr_d {x : D} {as as' : List Ar} (h : SameAr as as') : SameAr (.d x :: as) (.d x :: as') := ⟨congrArg Nat.succ h.len, fun j y e => by
  cases j with
  | zero => simpa using e
  | succ j => simpa using h.d j y (by simpa using e), fun j p y e => by
  cases j with
  | zero => simp at e
  | succ j => simpa using h.t j p y (by simpa using e)⟩
theorem sameAr_t {p : Addr} {x y : OT} {as as' : List Ar} (h : SameAr as as') : SameAr (.t p x :: as) (.t p y :: as') := ⟨congrArg Nat.succ h.len, fun j z e => by
  cases j with
  | zero => simp at e
  | succ j => simpa using h.d j z (by simpa using e), fun j q z e => by
  cases j with
  | zero =>
    simp at e
    exact ⟨y, by simp [e.1]⟩
  | succ j => simpa using h.t j q z (by simpa using e)⟩
def arSl : Ar → Sl
  | .d x => .da x
  | .t p x => .slf p x
def endsAt (as' : List Ar) (Γ : List Sl) : Prop := ∀ (j : Nat) (p : Addr) (x : OT), as'[j]? = some (Ar.t p x) → Γ[j]? = some (Sl.slf p x)
section
variable {P : Program} {w : World} {K : PySem.W.Frag} {mg : Str → Option Value} {base : Heap}
theorem ArgsAt.length {F H : Hp} {vs : List V} {as : List Ar} {Bs : List (List Addr)} (h : ArgsAt K F H vs as Bs) : vs.length = as.length ∧ Bs.length = as.length := by
  induction h with
  | nil => exact ⟨rfl, rfl⟩
  | d _ _ ih => exact ⟨congrArg Nat.succ ih.1, congrArg Nat.succ ih.2⟩
  | t _ _ ih => exact ⟨congrArg Nat.succ ih.1, congrArg Nat.succ ih.2⟩
theorem ArgsAt.get {F H : Hp} {vs : List V} {as : List Ar} {Bs : List (List Addr)} (h : ArgsAt K F H vs as Bs) : ∀ {j : Nat} {a : Ar}, as[j]? = some a → ∃ v B, vs[j]? = some v ∧ Bs[j]? = some B ∧ SlotOk K F H (some (some v)) (arSl a) B := by
  induction h with
  | nil => intro j a e; simp at e
  | d r _ ih =>
    intro j a e
    cases j with
    | zero =>
      simp at e
      subst e
      exact ⟨_, _, rfl, rfl, _, rfl, r⟩
    | succ j => simpa using ih (by simpa using e)
  | t r _ ih =>
    intro j a e
    cases j with
    | zero =>
      simp at e
      subst e
      exact ⟨_, _, rfl, rfl, _, rfl, r, fun p z => by cases z; rfl⟩
    | succ j => simpa using ih (by simpa using e)
theorem flat_at {Bs : List (List Addr)} : Bs.flatten.Nodup → ∀ {i j : Nat} {B C : List Addr} {a : Addr}, Bs[i]? = some B → Bs[j]? = some C → a ∈ B → a ∈ C → i = j := by
  induction Bs with
  | nil => intro _ i j B C a e; simp at e
  | cons B0 Bs ih =>
    intro nd i j B C a e1 e2 m1 m2
    rw [List.flatten_cons] at nd
    obtain ⟨n1, n2, n3⟩ := List.nodup_append.mp nd
    have inF : ∀ {l : Nat} {D : List Addr}, Bs[l]? = some D → a ∈ D → a ∈ Bs.flatten := fun e m => List.mem_flatten.mpr ⟨_, List.mem_of_getElem? e, m⟩
    cases i with
    | zero =>
      cases j with
      | zero => rfl
      | succ j =>
        simp at e1
        subst e1
        exact absurd rfl (n3 a m1 a (inF (by simpa using e2) m2))
    | succ i =>
      cases j with
      | zero =>
        simp at e2
        subst e2
        exact absurd rfl (n3 a m2 a (inF (by simpa using e1) m1))
      | succ j => exact congrArg Nat.succ (ih n2 (by simpa using e1) (by simpa using e2) m1 m2)
theorem flat_sub : ∀ {Bs : List (List Addr)}, Bs.flatten.Nodup → ∀ {i : Nat} {B : List Addr}, Bs[i]? = some B → B.Nodup
  | [], _, _, _, e => by simp at e
  | B0 :: Bs, nd, i, B, e => by
    rw [List.flatten_cons] at nd
    obtain ⟨n1, n2, n3⟩ := List.nodup_append.mp nd
    cases i with
    | zero =>
      simp at e
      subst e
      exact n1
    | succ i => exact flat_sub n2 (by simpa using e)
theorem hold_startG {F H : Hp} {N : List Str} {vs : List V} {as : List Ar} {Bs : List (List Addr)} (sm : Same F H) (ar : ArgsAt K F H vs as Bs) (nd : Bs.flatten.Nodup) (n : ∀ a ∈ Bs.flatten, F a = none) :
    Hold K (less H Bs.flatten) F H (L2.start N vs) (as.map arSl ++ List.replicate (N.length - as.length) Sl.un) := by
  obtain ⟨l1, l2⟩ := ar.length
  have inF : ∀ {l : Nat} {a : Addr}, a ∈ Bs.getD l [] → ∃ B, Bs[l]? = some B ∧ a ∈ B := fun {l a} m => by
    rw [List.getD_eq_getElem?_getD] at m
    cases q : Bs[l]? with
    | none => rw [q] at m; cases m
    | some B => rw [q] at m; exact ⟨B, rfl, m⟩
  refine ⟨by unfold L2.start; simp [l1], sm, less_same, fun j => Bs.getD j [], fun i s e => ?_, fun i a m => ?_, fun i => ?_, fun i j a m1 m2 => ?_⟩
  · by_cases hi : i < as.length
    · rw [List.getElem?_append_left (by simpa using hi), List.getElem?_map] at e
      obtain ⟨x, e1, e2⟩ := Option.map_eq_some_iff.mp e
      subst e2
      obtain ⟨v, B, q1, q2, q3⟩ := ar.get e1
      have : (L2.start N vs)[i]? = some (some v) := by
        unfold L2.start
        rw [List.getElem?_append_left (by simpa [l1] using hi), List.getElem?_map, q1]
        rfl
      show SlotOk K F H (L2.start N vs)[i]? (arSl x) (Bs.getD i [])
      rw [this, List.getD_eq_getElem?_getD, q2]
      exact q3
    · rw [List.getElem?_append_right (by simpa using hi), List.getElem?_replicate] at e
      split at e
      · cases e
        trivial
      · cases e
  · obtain ⟨B, q1, q2⟩ := inF m
    have mf : a ∈ Bs.flatten := List.mem_flatten.mpr ⟨B, List.mem_of_getElem? q1, q2⟩
    refine ⟨n a mf, less_in mf, ?_⟩
    have hi : i < as.length := by rw [← l2]; exact (List.getElem?_eq_some_iff.mp q1).1
    obtain ⟨v, B', w1, w2, w3⟩ := ar.get (show as[i]? = some as[i] by simp [hi])
    rw [q1] at w2
    cases w2
    cases hx : as[i] with
    | d x =>
      exfalso
      have : ∀ {vs : List V} {as : List Ar} {Bs : List (List Addr)}, ArgsAt K F H vs as Bs → ∀ {i : Nat} {x : D} {B : List Addr}, as[i]? = some (.d x) → Bs[i]? = some B → B = [] := by
        intro vs as Bs h
        induction h with
        | nil => intro i x B e; simp at e
        | d r _ ih =>
          intro i x B e1 e2
          cases i with
          | zero =>
            simp at e2
            first | exact e2 | exact e2.symm
          | succ i => exact ih (by simpa using e1) (by simpa using e2)
        | t r _ ih =>
          intro i x B e1 e2
          cases i with
          | zero => simp at e1
          | succ i => exact ih (by simpa using e1) (by simpa using e2)
      rw [this ar (by rw [← hx]; simp [hi]) q1] at q2
      cases q2
    | t p x =>
      rw [hx] at w3
      obtain ⟨_, _, o, _⟩ := w3
      exact o.dom a q2
  · show (Bs.getD i []).Nodup
    rw [List.getD_eq_getElem?_getD]
    cases q : Bs[i]? with
    | none => exact List.nodup_nil
    | some B => exact flat_sub nd q
  · obtain ⟨B, q1, q2⟩ := inF m1
    obtain ⟨C, q3, q4⟩ := inF m2
    exact flat_at nd q1 q3 q2 q4
theorem fn_okG {x qual : Str} {st : Stmt} {f : Addr} {fd : FuncData} {N ps : List Str} {k : Nat} {S : List Ar → List Ar → D → Prop} (F : Fun K x qual st f fd) (sc : FnScope N ps (defScope st)) (len : ∀ as as' r, S as as' r → as.length = ps.length) (sh : ∀ as as' r, S as as' r → SameAr as as')
    (body : ∀ (cdv : Value) (A : Around) (outer : List Env) (s : Shared) (H Hg : Hp) (E : XK) (as as' : List Ar) (r : D), Room k (A.deeper (envOfC qual (defScope st) s.heap.objs.size f cdv)) → S as as' r →
      Rs (cxOf CX0 P w K mg base N qual (defScope st) f cdv A outer s H E).nox Hg (as.map arSl ++ List.replicate (N.length - as.length) Sl.un) (defBody st)
        ⟨fun Γ => endsAt as' Γ ∧ r = .non, fun d Γ => endsAt as' Γ ∧ d = r, fun _ => False, fun _ => False, fun _ _ => False⟩) : FnOk P w K mg base CX0 (k + 1) f fd ps (SpG K S) := by
  refine F.ok sc (fun vs H Q E h => ?_) (fun cdv A outer s H vs Q E hr h => ?_)
  · obtain ⟨F, as, Bs, as', r, ar, _, _, _, hS, _⟩ := h
    rw [ar.length.1]
    exact len as as' r hS
  · obtain ⟨F, as, Bs, as', r, ar, nd, n, sm, hS, q⟩ := h
    obtain ⟨l2, l3, l4⟩ := sh as as' r hS
    have fin : ∀ F' H' σ' Γ' v d, Tr (less H Bs.flatten) F F' → Hold K (less H Bs.flatten) F' H' σ' Γ' → Is K F' v d → endsAt as' Γ' ∧ d = r → Q v H' := fun F' H' σ' Γ' v d t h' ri m => by
      obtain ⟨m1, rfl⟩ := m
      obtain ⟨fp, h1, h2, h3, h4⟩ := h'.ex
      have build : ∀ {vs : List V} {as : List Ar} {Bs : List (List Addr)}, ArgsAt K F H vs as Bs → ∀ (as' : List Ar) (n : Nat), as'.length = as.length → (∀ (j : Nat) (x : D), as[j]? = some (Ar.d x) → as'[j]? = some (Ar.d x)) → (∀ (j : Nat) (p : Addr) (x : OT), as[j]? = some (Ar.t p x) → ∃ y, as'[j]? = some (Ar.t p y) ∧ Γ'[n + j]? = some (Sl.slf p y)) →
          ∃ Bs', ArgsAt K F' H' vs as' Bs' ∧ Bs'.flatten.Nodup ∧ ∀ a ∈ Bs'.flatten, ∃ j, n ≤ j ∧ a ∈ fp j := by
        intro vs as Bs ar
        induction ar with
        | nil =>
          intro as' n hl _ _
          cases as' with
          | nil => exact ⟨[], .nil, List.nodup_nil, fun a m => by cases m⟩
          | cons _ _ => cases hl
        | @d v x vs as Bs r _ ih =>
          intro as' n hl hd ht
          have e0 := hd 0 x rfl
          cases as' with
          | nil => cases e0
          | cons a0 as' =>
            simp at e0
            subst e0
            obtain ⟨Bs', w1, w2, w3⟩ := ih as' (n + 1) (by simpa using hl) (fun j y e => by simpa using hd (j + 1) y (by simpa using e)) (fun j p y e => by
              obtain ⟨z, z1, z2⟩ := ht (j + 1) p y (by simpa using e)
              exact ⟨z, by simpa using z1, by rw [← z2]; congr 1; omega⟩)
            exact ⟨[] :: Bs', .d (r.mono t.ff) w1, by rw [List.flatten_cons, List.nil_append]; exact w2, fun a m => by
              rw [List.flatten_cons, List.nil_append] at m
              obtain ⟨j, z1, z2⟩ := w3 a m
              exact ⟨j, by omega, z2⟩⟩
        | @t p x B vs as Bs r _ ih =>
          intro as' n hl hd ht
          obtain ⟨y, e0, e1⟩ := ht 0 p x rfl
          cases as' with
          | nil => cases e0
          | cons a0 as' =>
            simp at e0
            subst e0
            obtain ⟨Bs', w1, w2, w3⟩ := ih as' (n + 1) (by simpa using hl) (fun j y e => by simpa using hd (j + 1) y (by simpa using e)) (fun j p y e => by
              obtain ⟨z, z1, z2⟩ := ht (j + 1) p y (by simpa using e)
              exact ⟨z, by simpa using z1, by rw [← z2]; congr 1; omega⟩)
            obtain ⟨u, q1, q2, q3⟩ := h1 n _ e1
            cases q3 p rfl
            refine ⟨fp n :: Bs', .t q2 w1, ?_, fun a m => ?_⟩
            · rw [List.flatten_cons]
              refine List.nodup_append.mpr ⟨h3 n, w2, fun a m b m' z => ?_⟩
              subst z
              obtain ⟨j, z1, z2⟩ := w3 a m'
              have := h4 n j a m z2
              omega
            · rw [List.flatten_cons] at m
              rcases List.mem_append.mp m with m | m
              · exact ⟨n, Nat.le_refl _, m⟩
              · obtain ⟨j, z1, z2⟩ := w3 a m
                exact ⟨j, by omega, z2⟩
      obtain ⟨Bs', w1, w2, w3⟩ := build ar as' 0 l2 l3 (fun j p x e => by
        obtain ⟨y, e'⟩ := l4 j p x e
        exact ⟨y, e', by rw [Nat.zero_add]; exact m1 j p y e'⟩)
      refine q v F' H' Bs' t.ff h'.fh (fun a m o e => h'.h0 a o (by rw [less_out m]; exact e)) (fun a m o e z => t.nf a o (by rw [less_out m]; exact e) z) w1 w2 (fun a m => ?_) ri
      obtain ⟨j, _, z2⟩ := w3 a m
      obtain ⟨x1, x2, _⟩ := h2 j a z2
      refine ⟨?_, x1⟩
      by_cases m' : a ∈ Bs.flatten
      · exact .inl m'
      · rw [less_out m'] at x2
        exact .inr x2
    refine ⟨_, body cdv A outer s H (less H Bs.flatten) E as as' r hr hS, F, hold_startG sm ar nd n, fun F' H' σ' Γ' t h' m => fin F' H' σ' Γ' .non .non t h' .non ⟨m.1, m.2.symm⟩, fun F' H' σ' Γ' v d t h' ri m => fin F' H' σ' Γ' v d t h' ri m, fun F' H' σ' Γ' t h' m => m.elim, fun F' H' σ' Γ' t h' m => m.elim, fun F' H' σ' Γ' v d A t h' ri nd n m => m.elim⟩
theorem cal_okG {x : Str} {st : Stmt} {N ps : List Str} {k : Nat} {S : List Ar → List Ar → D → Prop} (F : Dfn K mg x st ps) (sc : FnScope N ps (defScope st)) (len : ∀ as as' r, S as as' r → as.length = ps.length) (sh : ∀ as as' r, S as as' r → SameAr as as')
    (body : ∀ (f : Addr) (cdv : Value) (A : Around) (outer : List Env) (s : Shared) (H Hg : Hp) (E : XK) (as as' : List Ar) (r : D), Room k (A.deeper (envOfC x (defScope st) s.heap.objs.size f cdv)) → S as as' r →
      Rs (cxOf CX0 P w K mg base N x (defScope st) f cdv A outer s H E).nox Hg (as.map arSl ++ List.replicate (N.length - as.length) Sl.un) (defBody st)
        ⟨fun Γ => endsAt as' Γ ∧ r = .non, fun d Γ => endsAt as' Γ ∧ d = r, fun _ => False, fun _ => False, fun _ _ => False⟩) : CalG P w K mg base (k + 1) x ps S := by
  obtain ⟨f, fd, h1, h2, h3⟩ := F
  exact ⟨f, fd, fn_okG h1 sc len sh fun cdv A outer s H Hg E as as' r => body f cdv A outer s H Hg E as as' r, h2, h1.kp, h3⟩
/-- a method as the top has left it -/
def Mdf (K : PySem.W.Frag) (C : Addr) (m qual : Str) (st : Stmt) (ps : List Str) : Prop := ∃ f fd, Fun K m qual st f fd ∧ Meth K C m f ∧ Binds K fd ps []
theorem meth_okG {m qual : Str} {C : Addr} {st : Stmt} {N ps : List Str} {k : Nat} {S : List Ar → List Ar → D → Prop} (cl : Cls K C) (F : Mdf K C m qual st ps) (sc : FnScope N ps (defScope st)) (len : ∀ as as' r, S as as' r → as.length = ps.length) (sh : ∀ as as' r, S as as' r → SameAr as as')
    (body : ∀ (f : Addr) (cdv : Value) (A : Around) (outer : List Env) (s : Shared) (H Hg : Hp) (E : XK) (as as' : List Ar) (r : D), Room k (A.deeper (envOfC qual (defScope st) s.heap.objs.size f cdv)) → S as as' r →
      Rs (cxOf CX0 P w K mg base N qual (defScope st) f cdv A outer s H E).nox Hg (as.map arSl ++ List.replicate (N.length - as.length) Sl.un) (defBody st)
        ⟨fun Γ => endsAt as' Γ ∧ r = .non, fun d Γ => endsAt as' Γ ∧ d = r, fun _ => False, fun _ => False, fun _ _ => False⟩) : CalM P w K mg base (k + 1) C m ps S := by
  obtain ⟨f, fd, h1, h2, h3⟩ := F
  exact ⟨cl, f, fd, fn_okG h1 sc len sh fun cdv A outer s H Hg E as as' r => body f cdv A outer s H Hg E as as' r, h2, h3⟩
theorem mdf_mk {m qual : Str} {C f : Addr} {st : Stmt} {ps : List Str} {oc : Value} {od an : Option Addr} {osl : Array (Option Value)} {kV doc pm cdv ct : Value} (a : PySem.W.findIn K (.ref C) m = some (some (.ref f))) (i : PySem.W.isFn K (.ref f) = true)
    (l : K.lookup f = some ⟨oc, od, .func (PySem.W.fnOf m qual (defArgs st) (defBody st) (defScope st) .none kV doc pm an cdv ct), osl⟩) (c : PySem.W.codeIn K cdv qual = true) (k : PySem.W.keepIn K (.ref f) = true)
    (b : ∀ (kV doc pm : Value) (an : Option Addr) (cdv ct : Value) (us : List Value), us.length = ps.length → bindArgs (PySem.W.fnOf m qual (defArgs st) (defBody st) (defScope st) .none kV doc pm an cdv ct) ⟨us, []⟩ = pure (ps.zip us)) : Mdf K C m qual st ps :=
  ⟨f, _, fun_mk l c k, ⟨a, i, k⟩, (fun_mk l c k).binds b⟩
/-- a def that hands back a new tree -/
theorem cal_okN {x : Str} {st : Stmt} {N ps : List Str} {k : Nat} {S : List D → OT → Prop} (F : Dfn K mg x st ps) (sc : FnScope N ps (defScope st)) (len : ∀ ds t, S ds t → ds.length = ps.length)
    (body : ∀ (f : Addr) (cdv : Value) (A : Around) (outer : List Env) (s : Shared) (H : Hp) (E : XK) (ds : List D) (t : OT), Room k (A.deeper (envOfC x (defScope st) s.heap.objs.size f cdv)) → S ds t →
      Rs (cxOf CX0 P w K mg base N x (defScope st) f cdv A outer s H E).nox H (startΓ N.length ds) (defBody st) ⟨fun _ => False, fun _ _ => False, fun _ => False, fun _ => False, fun t' _ => t' = t⟩) : CalN P w K mg base (k + 1) x ps S := by
  obtain ⟨f, fd, h1, h2, h3⟩ := F
  refine ⟨f, fd, ?_, h2, h1.kp, h3⟩
  refine h1.ok sc (fun vs H Q E h => ?_) (fun cdv A outer s H vs Q E hr h => ?_)
  · obtain ⟨F, ds, r, sm, ia, hS, _⟩ := h
    rw [ia.length]
    exact len ds r hS
  · obtain ⟨F, ds, t, sm, ia, hS, q⟩ := h
    refine ⟨_, body f cdv A outer s H E ds t hr hS, F, hold_start sm ia, fun F' H' σ' Γ' t h' m => m.elim, fun F' H' σ' Γ' v d t h' ri m => m.elim, fun F' H' σ' Γ' t h' m => m.elim, fun F' H' σ' Γ' t h' m => m.elim, fun F' H' σ' Γ' v d A t h' ri nd n m => ?_⟩
    cases (show d = _ from m)
    exact q v A F' H' ⟨t.ff, h'.fh, h'.h0, t.nf⟩ ri nd fun a m => ⟨(n a m).2, (n a m).1⟩
end
end Dv

namespace Dv
open PySem PySem.Spec PyProof.Rows L2

section
variable {X : Cx} {H0 : Hp} {Γ Γ' : List Sl} {a b c e : Expr} {d d1 d2 : D} {xs ys : List D} {pos : Pos} {rest : List Stmt} {κ : Kt} {x : Str}
/-! ### more built-ins -/
theorem ev_abs {p : Pos} {i : Int} (hm : X.mg "abs" = none) (ha : Ev X H0 Γ e (.int i)) (hg : Gl X "abs" := by rfl) (he : starEach [e] X.env = (false, eval e X.env) :: starEach [] X.env := by rfl) : Ev X H0 Γ (.Call (.Name "abs" p) [e] [] pos) (.int (i.natAbs : Nat)) :=
  ev_cb call_abs hm (by decide +kernel) (ea_cons ha ea_nil he) (fun F H vs Q sm r k => by
    obtain ⟨v, rfl, q⟩ := isa1 r
    cases q
    refine ⟨i, rfl, ?_⟩
    rw [show (if i < 0 then -i else i) = ((i.natAbs : Nat) : Int) by split <;> omega]
    exact k _ F H (.refl sm) (.int _)) hg (by decide) (by decide) he
theorem ev_max2 {p : Pos} {i j : Int} (hm : X.mg "max" = none) (ha : Ev X H0 Γ a (.int i)) (hb : Ev X H0 Γ b (.int j)) (hc : X.calm = true := by rfl) (hg : Gl X "max" := by rfl) (he : starEach [a, b] X.env = (false, eval a X.env) :: starEach [b] X.env := by rfl) (he2 : starEach [b] X.env = (false, eval b X.env) :: starEach [] X.env := by rfl)
    (hpl : (backTo pos (starEach [b] X.env)).any (·.1) = false := by rfl) : Ev X H0 Γ (.Call (.Name "max" p) [a, b] [] pos) (.int (max i j)) :=
  ev_cb (call_max2 hc) hm (by decide +kernel) (ea_cons ha (ea_cons hb ea_nil he2) he) (fun F H vs Q sm r k => by
    obtain ⟨v, u, rfl, q1, q2⟩ := isa2 r
    cases q1
    cases q2
    refine ⟨i, j, rfl, ?_⟩
    rw [show (if j > i then j else i) = max i j by split <;> omega]
    exact k _ F H (.refl sm) (.int _)) hg (by decide) (by decide) he hpl
theorem ev_min2 {p : Pos} {i j : Int} (hm : X.mg "min" = none) (ha : Ev X H0 Γ a (.int i)) (hb : Ev X H0 Γ b (.int j)) (hc : X.calm = true := by rfl) (hg : Gl X "min" := by rfl) (he : starEach [a, b] X.env = (false, eval a X.env) :: starEach [b] X.env := by rfl) (he2 : starEach [b] X.env = (false, eval b X.env) :: starEach [] X.env := by rfl)
    (hpl : (backTo pos (starEach [b] X.env)).any (·.1) = false := by rfl) : Ev X H0 Γ (.Call (.Name "min" p) [a, b] [] pos) (.int (min i j)) :=
  ev_cb (call_min2 hc) hm (by decide +kernel) (ea_cons ha (ea_cons hb ea_nil he2) he) (fun F H vs Q sm r k => by
    obtain ⟨v, u, rfl, q1, q2⟩ := isa2 r
    cases q1
    cases q2
    refine ⟨i, j, rfl, ?_⟩
    rw [show (if j < i then j else i) = min i j by split <;> omega]
    exact k _ F H (.refl sm) (.int _)) hg (by decide) (by decide) he hpl
theorem ev_ite {k : Bool} (hc : Et X H0 Γ c k) (ha : k = true → Ev X H0 Γ a d1) (hb : k = false → Ev X H0 Γ b d2) : Ev X H0 Γ (.IfExp c a b pos) (if k then d1 else d2) := by
  cases k with
  | true => exact ev_if hc (fun _ => ha rfl) (fun z => by cases z)
  | false => exact ev_if hc (fun z => by cases z) (fun _ => hb rfl)
/-- a part of a tuple, not the whole -/
theorem ev_slT {lo hi : Option Expr} {l u : Option Int} {p2 : Pos} (he : Ev X H0 Γ e (.tup xs)) (hl : Ep X H0 Γ lo l) (hu : Ep X H0 Γ hi u) (hw : ¬ (HT.sIx xs.length 0 l = 0 ∧ HT.sIx xs.length xs.length u = xs.length)) : Ev X H0 Γ (.Subscript e (.Slice lo hi none p2) pos) (.tup (cutL xs l u)) :=
  wkE (pe_slice sl_tup he hl hu) fun σ H Q ⟨F, h, k⟩ => ⟨F, h, fun v F1 H1 g1 r1 => ⟨F1, h.go g1, fun F2 H2 g2 => ⟨F2, (h.go g1).go g2, fun F3 H3 g3 => by
    cases r1 with
    | @tup p vs _ e1 r1 => exact ⟨p, vs, rfl, sqt_up (g2.ff.trans (g3.ff.trans g3.fh)) e1, by rw [r1.length]; exact hw, fun q hq =>
        k _ _ _ (((g1.trans g2).trans g3).trans (.newF g3.fh hq)) (.tup upd_same ((cutL_is (r1.mono (g2.ff.trans g3.ff)) l u).mono (same_new (Same.free g3.fh hq))))⟩⟩⟩⟩

/-! ### x in xs -/
def anyEq (xs : List D) (d : D) : Bool := (toPyA xs).any fun z => PyData.eqv z (toPy d)
theorem toPyA_map (xs : List D) : toPyA xs = xs.map toPy := by
  induction xs with
  | nil => rw [toPyA]; rfl
  | cons x xs ih => rw [toPyA, ih]; rfl
theorem anyEq_def (xs : List D) (d : D) : anyEq xs d = xs.any fun z => PyData.eqv (toPy z) (toPy d) := by
  unfold anyEq
  rw [toPyA_map, List.any_map]
  rfl
theorem anyEq_map {α : Type} [DecidableEq α] {inj : α → D} {ys : List α} {y : α} (hi : ∀ u ∈ ys, inj u = inj y → u = y) (hp : ∀ u ∈ ys, plD (inj u) = true) (hy : plD (inj y) = true) (ho : okD (inj y) 64 = true) : anyEq (ys.map inj) (inj y) = decide (y ∈ ys) := by
  rw [anyEq_def, List.any_map]
  by_cases m : y ∈ ys
  · rw [decide_eq_true m, List.any_eq_true]
    exact ⟨y, m, eqv_self ho⟩
  · rw [decide_eq_false m, List.any_eq_false]
    intro u hu z
    exact m (hi u hu (eqv_pl _ _ (hp u hu) hy z) ▸ hu)
theorem ok_lst {n : Nat} (h : okA xs n = true) : okD (.lst xs) (n + 1) = true := by rw [okD]; exact h
theorem okA_up {n m : Nat} (h : n ≤ m) : ∀ {xs : List D}, (∀ x ∈ xs, okD x n = true → okD x m = true) → okA xs n = true → okA xs m = true
  | [], _, _ => by rw [okA]
  | x :: xs, k, q => by
    rw [okA, Bool.and_eq_true] at q
    rw [okA, k x List.mem_cons_self q.1, okA_up h (fun y m => k y (List.mem_cons_of_mem _ m)) q.2]
    rfl
theorem dpA_er {K : PySem.W.Frag} {F H : Hp} {p : Addr} {vs : List V} (sm : Same F H) (e : H p = some (.lst vs)) (r : IsA K F vs xs) (ok : okA xs 63 = true) : Dp K H (.ref p) (.list (toPyA xs)) := .lst (.of e) (dp_all sm xs vs (okA_py xs 63 ok).1 r)
theorem ec_inD {k : Nat} (ha : Ev X H0 Γ a d) (hb : Er X H0 Γ b xs) (o1 : okD d 64 = true) (o2 : okA xs 63 = true) (hr : Room k X.A) : Ec X H0 Γ .In a b (anyEq xs d) :=
  ⟨_, _, _, op_inD (by have := hr.un; omega), ha, hb, fun σ H Q ⟨F, h, q⟩ => ⟨F, h, fun v F1 H1 g1 r1 => ⟨F1, h.go g1, fun p vs F2 H2 g2 e2 r2 =>
    ⟨_, _, dp_of (g2.ff.trans g2.fh) d v (okD_py _ _ o1).1 r1, dpA_er g2.fh e2 r2 o2, ok_shaped o1, ok_shaped (d := .lst xs) (ok_lst o2), q F2 H2 (g1.trans g2)⟩⟩⟩⟩
theorem ec_niD {k : Nat} (ha : Ev X H0 Γ a d) (hb : Er X H0 Γ b xs) (o1 : okD d 64 = true) (o2 : okA xs 63 = true) (hr : Room k X.A) : Ec X H0 Γ .NotIn a b (!anyEq xs d) :=
  ⟨_, _, _, op_notInD (by have := hr.un; omega), ha, hb, fun σ H Q ⟨F, h, q⟩ => ⟨F, h, fun v F1 H1 g1 r1 => ⟨F1, h.go g1, fun p vs F2 H2 g2 e2 r2 =>
    ⟨_, _, dp_of (g2.ff.trans g2.fh) d v (okD_py _ _ o1).1 r1, dpA_er g2.fh e2 r2 o2, ok_shaped o1, ok_shaped (d := .lst xs) (ok_lst o2), q F2 H2 (g1.trans g2)⟩⟩⟩⟩
/-- xs.index(e): the first that is alike -/
theorem ev_index {k j : Nat} {apos : Pos} {z : D} (hl : Er X H0 Γ a xs) (he : Ev X H0 Γ e d) (o1 : okD d 64 = true) (o2 : okA xs 63 = true) (hr : Room k X.A) (hz : xs[j]? = some z) (hj : PyData.eqv (toPy z) (toPy d) = true) (hno : ∀ (m : Nat) (z' : D), m < j → xs[m]? = some z' → PyData.eqv (toPy z') (toPy d) = false)
    (hbase : attributeBase a "index" X.env (eval a X.env) = eval a X.env := by rfl)
    (hfew : ((backTo pos (starEach [e] X.env)).all (fun x => !x.1) && (backToKw pos (keywordEach [] X.env)).all (fun x => x.1.isSome)
      && decide (([e] : List Expr).length + ([] : List Keyword).length + (if ([] : List Keyword).isEmpty then 0 else 1) < 30)) = true := by rfl)
    (hline : (apos.endLine == pos.line) = true := by rfl) (hs : starEach [e] X.env = (false, eval e X.env) :: starEach [] X.env := by rfl) (hpl : (backTo pos (starEach [] X.env)).any (·.1) = false := by rfl) : Ev X H0 Γ (.Call (.Attribute a "index" apos) [e] [] pos) (.int (j : Nat)) :=
  wkE (pe_bm PySem.F.plainAttrs_list PySem.F.slot_list_index PySem.F.type_list_index (mt_indexD (by have := hr.un; omega)) hl (pa_cons he pa_nil hs) hbase hfew hline hs hpl) fun σ H Q ⟨F, h, kk⟩ => ⟨F, h, fun p vs F1 H1 g1 e1 r1 => ⟨.inl ⟨rfl, vs, .of e1⟩, F1, h.go g1, fun v F2 H2 g2 r2 => by
    have r1' := r1.mono g2.ff
    have e1' := g2.kp _ _ e1
    refine ⟨p, v, toPy d, toPyA xs, j, toPy z, rfl, rfl, dpA_er g2.fh e1' r1' o2, dp_of g2.fh d v (okD_py _ _ o1).1 r2, ok_shaped (d := .lst xs) (ok_lst o2), ok_shaped o1, ?_, hj, fun m z' hm e' => ?_, kk _ F2 H2 (g1.trans g2) (.int _)⟩
    · rw [toPyA_map, List.getElem?_map, hz]
      rfl
    · rw [toPyA_map, List.getElem?_map] at e'
      cases q : xs[m]? with
      | none => rw [q] at e'; cases e'
      | some y =>
        rw [q] at e'
        cases e'
        exact hno m y hm q⟩⟩
/-- a text in a tuple of texts -/
theorem inV_strs {s : Str} (ws : List Str) : inV (.str s) (ws.map V.str) = decide (s ∈ ws) := by
  unfold inV
  rw [List.any_map]
  induction ws with
  | nil => rfl
  | cons w ws ih =>
    rw [List.any_cons, ih]
    show ((w == s) || decide (s ∈ ws)) = decide (s ∈ w :: ws)
    by_cases z : w = s
    · subst z
      rw [beq_self_eq_true, Bool.true_or, decide_eq_true List.mem_cons_self]
    · rw [beq_eq_false_iff_ne.mpr z, Bool.false_or]
      rw [Bool.eq_iff_iff, decide_eq_true_eq, decide_eq_true_eq, List.mem_cons]
      exact ⟨.inr, fun m => m.elim (fun q => absurd q.symm z) id⟩
theorem flat_strs (ws : List Str) : (ws.map V.str).all flatV = true := by
  rw [List.all_map, List.all_eq_true]
  intro _ _
  rfl
theorem ec_inT {s : Str} {ws : List Str} (ha : Ev X H0 Γ a (.str s)) (hb : Ev X H0 Γ b (.tup (ws.map D.str))) : Ec X H0 Γ .In a b (decide (s ∈ ws)) :=
  ec_of op_in_seq ha hb fun F H x y Q sm r1 r2 q => by
    cases r1
    cases r2 with
    | tup e1 r =>
      rw [r.strs] at e1
      refine ⟨_, _, rfl, .inr (sqt_up sm e1), rfl, flat_strs ws, ?_⟩
      rw [← inV_strs] at q
      exact q
theorem ec_niT {s : Str} {ws : List Str} (ha : Ev X H0 Γ a (.str s)) (hb : Ev X H0 Γ b (.tup (ws.map D.str))) : Ec X H0 Γ .NotIn a b (!decide (s ∈ ws)) :=
  ec_of op_notIn_seq ha hb fun F H x y Q sm r1 r2 q => by
    cases r1
    cases r2 with
    | tup e1 r =>
      rw [r.strs] at e1
      refine ⟨_, _, rfl, .inr (sqt_up sm e1), rfl, flat_strs ws, ?_⟩
      rw [← inV_strs] at q
      exact q
theorem ec_inL {s : Str} {ws : List Str} (ha : Ev X H0 Γ a (.str s)) (hb : Er X H0 Γ b (ws.map D.str)) : Ec X H0 Γ .In a b (decide (s ∈ ws)) :=
  ⟨_, _, _, op_in_seq, ha, hb, fun σ H Q ⟨F, h, q⟩ => ⟨F, h, fun v F1 H1 g1 r1 => ⟨F1, h.go g1, fun p vs F2 H2 g2 e2 r2 => by
    cases r1
    rw [r2.strs] at e2
    refine ⟨p, _, rfl, .inl (.inl (.of e2)), rfl, flat_strs ws, ?_⟩
    have q := q F2 H2 (g1.trans g2)
    rw [← inV_strs] at q
    exact q⟩⟩⟩
/-- a tuple of texts that stands in the module -/
def KTup (K : PySem.W.Frag) (a : Addr) (ws : List Str) : Prop := ∃ (o : Obj) (its : Array Value) (n : Nat), K.lookup a = some o ∧ o.cls = .type "tuple" ∧ o.data = .seq its n ∧ its.size ≤ sizeLine ∧ Vals (ws.map V.str) its.toList
theorem ec_inK {s : Str} {ws : List Str} {g : Addr} (kt : KTup X.K g ws) (hm : X.mg x = some (.ref g)) (ha : Ev X H0 Γ a (.str s)) (hg : Gl X x := by rfl) (hdb : (x == ("__debug__" : Str)) = false := by decide) : Ec X H0 Γ .In a (.Name x pos) (decide (s ∈ ws)) :=
  ⟨_, _, _, op_in_seq, ha, pe_glob (v := .ref g) hg hm rfl hdb, fun σ H Q ⟨F, h, q⟩ => ⟨F, h, fun v F1 H1 g1 r1 => by
    cases r1
    refine ⟨g, _, rfl, .inr (.inr kt), rfl, flat_strs ws, ?_⟩
    have q := q F1 H1 g1
    rw [← inV_strs] at q
    exact q⟩⟩
theorem ec_niK {s : Str} {ws : List Str} {g : Addr} (kt : KTup X.K g ws) (hm : X.mg x = some (.ref g)) (ha : Ev X H0 Γ a (.str s)) (hg : Gl X x := by rfl) (hdb : (x == ("__debug__" : Str)) = false := by decide) : Ec X H0 Γ .NotIn a (.Name x pos) (!decide (s ∈ ws)) :=
  ⟨_, _, _, op_notIn_seq, ha, pe_glob (v := .ref g) hg hm rfl hdb, fun σ H Q ⟨F, h, q⟩ => ⟨F, h, fun v F1 H1 g1 r1 => by
    cases r1
    refine ⟨g, _, rfl, .inr (.inr kt), rfl, flat_strs ws, ?_⟩
    have q := q F1 H1 g1
    rw [← inV_strs] at q
    exact q⟩⟩

/-! ### isinstance of an own class -/
structure IsiC (K : PySem.W.Frag) (C : Addr) : Prop where
  cl : Cls K C
  ha : PySem.W.findIn K (.ref C) "__class__" = some (some (.builtin "object.__class__"))
  hn : PySem.W.specialIn K (.builtin "object.__class__") "__get__" = some (some (.builtin "getset_descriptor.__get__"))
  htk : PySem.W.takesIn K (.builtin "object.__class__") = some true
  hm : PySem.W.mroIn K C (.type "object") = some true
theorem ev_isiC {p p2 : Pos} {T : Str} {C : Addr} {gs : List (Str × D)} (hm : X.mg "isinstance" = none) (ha : Ev X H0 Γ e (.obj C gs)) (hT : X.mg T = some (.ref C)) (I : IsiC X.K C)
    (hg : Gl X "isinstance" := by rfl) (hg2 : Gl X T := by rfl) (hdb : (T == ("__debug__" : Str)) = false := by decide)
    (he : starEach [e, .Name T p2] X.env = (false, eval e X.env) :: starEach [.Name T p2] X.env := by rfl) (he2 : starEach [.Name T p2] X.env = (false, eval (.Name T p2) X.env) :: starEach [] X.env := by rfl) (hpl : (backTo pos (starEach [.Name T p2] X.env)).any (·.1) = false := by rfl) :
    Ev X H0 Γ (.Call (.Name "isinstance" p) [e, .Name T p2] [] pos) (.bl true) :=
  wkE (pe_callB call_isi hg hm boot_isinstance (pa_cons ha (pa_cons (pe_glob (v := .ref C) hg2 hT rfl hdb) pa_nil he2) he) (by decide) (by decide) he hpl) fun σ H Q ⟨F, h, q⟩ => ⟨F, h, fun v F1 H1 g1 r1 => by
    cases r1 with
    | obj e1 _ _ =>
      refine ⟨_, .ref C, .ref C, .ref C, true, rfl, .own C, .base (.ins (g1.fh _ _ e1) I.cl I.ha I.hn I.htk I.hm), ?_, q _ F1 H1 g1 (.bl true)⟩
      unfold PySem.W.kitOne
      rw [if_pos (beq_self_eq_true _)]⟩

/-! ### dicts -/
def keyD : D → Option Key
  | .int i => some (.inl i)
  | .str s => some (.inr s)
  | _ => none
def keysD : List D → Option (List Key)
  | [] => some []
  | x :: xs => match keyD x, keysD xs with
    | some k, some ks => some (k :: ks)
    | _, _ => none
theorem key_is {K : PySem.W.Frag} {F : Hp} {v : V} {k : Key} (h : Is K F v d) (e : keyD d = some k) : v = kV k := by
  cases h <;> cases e <;> rfl
theorem keys_is {K : PySem.W.Frag} {F : Hp} : ∀ {xs : List D} {vs : List V} {ks : List Key}, IsA K F vs xs → keysD xs = some ks → vs = ks.map kV
  | [], _, _, h, e => by
    cases h
    cases e
    rfl
  | x :: xs, _, ks, h, e => by
    cases h with
    | @cons v vs _ _ r t =>
      unfold keysD at e
      cases q1 : keyD x with
      | none => rw [q1] at e; cases e
      | some k =>
        cases q2 : keysD xs with
        | none => rw [q1, q2] at e; cases e
        | some ks' =>
          rw [q1, q2] at e
          cases e
          rw [key_is r q1, keys_is t q2]
          rfl
def getKV {κ : Type} [DecidableEq κ] (kvs : List (κ × D)) (k : κ) : Option D := (kvs.find? fun kv => decide (kv.1 = k)).map (·.2)
theorem getKV_is {K : PySem.W.Frag} {F : Hp} {κ : Type} [DecidableEq κ] {k : κ} : ∀ {fs : List (κ × V)} {gs : List (κ × D)}, fs.map (·.1) = gs.map (·.1) → IsA K F (fs.map (·.2)) (gs.map (·.2)) → (getKV gs k = none → valV fs k = none) ∧ ∀ d, getKV gs k = some d → ∃ v, valV fs k = some v ∧ Is K F v d
  | [], [], _, _ => ⟨fun _ => rfl, fun d e => by cases e⟩
  | [], _ :: _, e, _ => by cases e
  | _ :: _, [], e, _ => by cases e
  | (k1, v) :: fs, (k2, d2) :: gs, e, a => by
    rw [List.map_cons, List.map_cons] at e
    obtain ⟨e1, e2⟩ := List.cons.inj e
    cases (show k1 = k2 from e1)
    rw [List.map_cons, List.map_cons] at a
    cases a with
    | cons r a =>
      by_cases z : k1 = k
      · have q1 : getKV ((k1, d2) :: gs) k = some d2 := by simp [getKV, List.find?_cons, z]
        have q2 : valV ((k1, v) :: fs) k = some v := by simp [valV, List.find?_cons, z]
        rw [q1, q2]
        refine ⟨fun e => (nomatch e), ?_⟩
        intro d e
        cases e
        exact ⟨v, rfl, r⟩
      · have q1 : getKV ((k1, d2) :: gs) k = getKV gs k := by simp [getKV, List.find?_cons, z]
        have q2 : valV ((k1, v) :: fs) k = valV fs k := by simp [valV, List.find?_cons, z]
        rw [q1, q2]
        exact getKV_is e2 a
/-- what stands at such a key -/
inductive DAt : D → D → Option D → Prop
  | k {kvs : List (Key × D)} {d : D} {k : Key} : keyD d = some k → DAt (.dic kvs) d (getKV kvs k)
  | t {kvs : List (List Key × D)} {xs : List D} {ks : List Key} : keysD xs = some ks → DAt (.dit kvs) (.tup xs) (getKV kvs ks)
theorem dat_get {K : PySem.W.Frag} {F H : Hp} {u v : V} {m d : D} {o : Option D} (sm : Same F H) (hm : Is K F u m) (hd : Is K F v d) (h : DAt m d o) : ∃ p o', u = .ref p ∧ DGet H p v o' ∧ (o = none → o' = none) ∧ ∀ d, o = some d → ∃ v, o' = some v ∧ Is K F v d := by
  cases h with
  | @k kvs d k e =>
    cases hm with
    | @dic p fs gs e1 e2 e3 =>
      obtain ⟨q1, q2⟩ := getKV_is (k := k) e2 e3
      rw [key_is hd e]
      exact ⟨p, valV fs k, rfl, .k (sm _ _ e1), q1, q2⟩
  | @t kvs xs ks e =>
    cases hm with
    | @dit p fs gs e1 e2 e3 =>
      cases hd with
      | @tup b vs _ t1 t2 =>
        obtain ⟨q1, q2⟩ := getKV_is (k := ks) e2 e3
        rw [keys_is t2 e] at t1
        exact ⟨p, valV fs ks, rfl, .t (sm _ _ e1) (sm _ _ t1), q1, q2⟩
theorem ev_getM {k : Nat} {m : D} (hm : Ev X H0 Γ a m) (hd : Ev X H0 Γ b d) (h : DAt m d (some d1)) (hr : Room k X.A) (hs : NoSl b := by exact fun _ _ => rfl) : Ev X H0 Γ (.Subscript a b pos) d1 :=
  wkE (pe_dget (by have := hr.un; omega) hm hd hs) fun σ H Q ⟨F, h1, kk⟩ => ⟨F, h1, fun u F1 H1 g1 r1 => ⟨F1, h1.go g1, fun v F2 H2 g2 r2 => by
    obtain ⟨p, o', rfl, q1, _, q2⟩ := dat_get g2.fh (r1.mono g2.ff) r2 h
    obtain ⟨w, rfl, q3⟩ := q2 d1 rfl
    exact ⟨p, w, rfl, q1, kk w F2 H2 (g1.trans g2) q3⟩⟩⟩
def rIn2 (r : V → V → Hp → VK → Prop) : R2 := fun x y H Q => r x y H Q
theorem et_inM {k : Nat} {m : D} {o : Option D} (hd : Ev X H0 Γ b d) (hm : Ev X H0 Γ a m) (h : DAt m d o) (hr : Room k X.A) (hh : behindInMarks .In a = false := by rfl) : Et X H0 Γ (.Compare b [.In] [a] pos) o.isSome :=
  wkT (pt_cmp (pc_din (by have := hr.un; omega) hd hm) hh) fun σ H Q ⟨F, h1, kk⟩ => ⟨F, h1, fun v F1 H1 g1 r1 => ⟨F1, h1.go g1, fun u F2 H2 g2 r2 => by
    obtain ⟨p, o', rfl, q1, q0, q2⟩ := dat_get g2.fh r2 (r1.mono g2.ff) h
    refine ⟨p, o', rfl, q1, o.isSome, ?_, kk F2 H2 (g1.trans g2)⟩
    cases o with
    | none => rw [q0 rfl]; rfl
    | some z =>
      obtain ⟨w, rfl, _⟩ := q2 z rfl
      rfl⟩⟩
theorem et_niM {k : Nat} {m : D} {o : Option D} (hd : Ev X H0 Γ b d) (hm : Ev X H0 Γ a m) (h : DAt m d o) (hr : Room k X.A) (hh : behindInMarks .NotIn a = false := by rfl) : Et X H0 Γ (.Compare b [.NotIn] [a] pos) (!o.isSome) :=
  wkT (pt_cmp (pc_dnotin (by have := hr.un; omega) hd hm) hh) fun σ H Q ⟨F, h1, kk⟩ => ⟨F, h1, fun v F1 H1 g1 r1 => ⟨F1, h1.go g1, fun u F2 H2 g2 r2 => by
    obtain ⟨p, o', rfl, q1, q0, q2⟩ := dat_get g2.fh r2 (r1.mono g2.ff) h
    refine ⟨p, o', rfl, q1, !o.isSome, ?_, kk F2 H2 (g1.trans g2)⟩
    cases o with
    | none => rw [q0 rfl]; rfl
    | some z =>
      obtain ⟨w, rfl, _⟩ := q2 z rfl
      rfl⟩⟩
end
end Dv

namespace Dv
open PySem PySem.Spec PyProof.Rows L2

/-! ### comprehensions: new trees, targets of two names -/
section
variable {X : Cx} {H0 : Hp} {Γ : List Sl} {tg iter elt : Expr} {xs : List D} {pos : Pos}
def wipeΓ (Γ : List Sl) : List Nat → List Sl
  | [] => Γ
  | v :: vs => (wipeΓ Γ vs).set v .un
theorem Hold.wipes {K : PySem.W.Frag} {F H : Hp} {σ : L2.St} (h : Hold K H0 F H σ Γ) : ∀ vs : List Nat, Hold K H0 F H (L2.wipe σ vs) (wipeΓ Γ vs)
  | [] => h
  | v :: vs => (h.wipes vs).wipe v
theorem lc_readN {K : PySem.W.Frag} {α : Type} {ys : List α} {inj : α → D} {vs : List Nat} {g : TG} {G : α → List Sl} {p : α → Bool} {f : α → OT} (hz : ys.length ≤ sizeLine) {σ : L2.St} {H : Hp} {Q : VK}
    (hg : ∀ y ∈ ys, ∀ (F H : Hp) (v : V) (Q : L2.St → Hp → Prop), Hold K H0 F H (L2.wipe σ vs) (wipeΓ Γ vs) → Is K F v (inj y) → (∀ σ', L2.wipe σ' vs = L2.wipe σ vs → Hold K H0 F H σ' (G y) → Q σ' H) → g v (L2.wipe σ vs) H Q) (h : rEn K H0 Γ (.lst ((ys.filter p).map f)) σ H Q) :
    tLc (rEi K H0 Γ (ys.map inj)) g (fun σ H Q => ∃ y, y ∈ ys ∧ rEt K H0 (G y) (p y) σ H Q) (fun σ H Q => ∃ y, y ∈ ys ∧ p y = true ∧ rEn K H0 (G y) (f y) σ H Q) vs σ H Q := by
  obtain ⟨F, h, k⟩ := h
  refine ⟨F, h, fun J GG Y F1 H1 g1 w hG hY D hD => ?_⟩
  have hF1 : F1 D = none := Same.free g1.fh hD
  rw [List.length_map] at w
  refine lc_it (g := g) (tt := fun σ H Q => ∃ y, y ∈ ys ∧ rEt K H0 (G y) (p y) σ H Q) (te := fun σ H Q => ∃ y, y ∈ ys ∧ p y = true ∧ rEn K H0 (G y) (f y) σ H Q) (vs := vs) (σ := σ) (Qd := fun H => Q (.ref D) H) w
    (fun i H' => ∃ F2 acc A, Go F1 H1 F2 H' ∧ F2 D = none ∧ H' D = some (.lst acc) ∧ OwnA K F2 H' acc (((ys.take i).filter p).map f) A ∧ (D :: A).Nodup ∧ ∀ a ∈ A, H1 a = none ∧ F2 a = none) ⟨F1, [], [], .newH g1.fh hD, hF1, upd_same, .nil, by simp, fun a m => by cases m⟩ (fun i H' _ ⟨F2, acc, A, g2, _⟩ => hG H' (g2.ff.trans g2.fh)) (fun i x H2 H3 hi ⟨F2, acc, A, g2, n2, e2, o2, nd2, na2⟩ y => ?_) fun H' ⟨F2, acc, A, g2, n2, e2, o2, nd2, na2⟩ => ?_
  · have hx : ys[i]? = some ys[i] := by simp [hi]
    have hx' : (ys.map inj)[i]? = some (inj ys[i]) := by rw [List.getElem?_map, hx]; rfl
    obtain ⟨F3, g3, r3⟩ := hY i x (inj ys[i]) F2 H2 H3 g2.ff g2.fh hx' y
    have mem : ys[i] ∈ ys := List.getElem_mem hi
    have tk : ys.take (i + 1) = ys.take i ++ [ys[i]] := by rw [List.take_add_one, hx]; rfl
    refine hg _ mem F3 H3 x _ ((((h.go g1).go g2).go g3).wipes vs) r3 fun σ' hw hold => ⟨hw, ys[i], mem, F3, hold, fun F4 H4 g4 => ?_⟩
    have e3 : H3 D = some (.lst acc) := g3.kp _ _ e2
    have n3 : F3 D = none := g3.nf D _ e2 n2
    have hl : acc.length < sizeLine := by
      rw [o2.length, List.length_map]
      have := List.length_filter_le p (ys.take i)
      rw [List.length_take] at this
      omega
    have e4 : H4 D = some (.lst acc) := g4.kp _ _ e3
    have n4 : F4 D = none := g4.nf D _ e3 n3
    have go4 : Go F1 H1 F4 H4 := (g2.trans g3).trans g4
    have g34 := g3.trans g4
    have o4 := o2.mono g34.ff fun a _ o q => g34.kp a o q
    have na4 : ∀ a ∈ A, H1 a = none ∧ F4 a = none := fun a m => by
      obtain ⟨o, z⟩ := o2.dom a m
      exact ⟨(na2 a m).1, g34.nf a o z (na2 a m).2⟩
    cases hp : p ys[i] with
    | false =>
      refine ⟨F4, acc, A, go4, n4, e4, ?_, nd2, na4⟩
      rw [tk, List.filter_append, List.filter_cons, if_neg (by rw [hp]; decide)]
      show OwnA K F4 H4 acc (List.map f (List.filter p (List.take i ys) ++ [])) A
      rw [List.append_nil]
      exact o4
    | true =>
      refine ⟨ys[i], mem, hp, F4, hold.go g4, fun v B F5 H5 g5 o5 nd5 n5' => ?_⟩
      have e5 : H5 D = some (.lst acc) := g5.kp _ _ e4
      have n5 : F5 D = none := g5.nf D _ e4 n4
      have go5 : Go F1 H1 F5 H5 := go4.trans g5
      obtain ⟨nDA, ndA⟩ := List.nodup_cons.mp nd2
      have nDB : D ∉ B := fun m => by
        rw [(n5' D m).1] at e4
        cases e4
      have nAB : ∀ a ∈ A, a ∉ B := fun a m m' => by
        obtain ⟨o, z⟩ := o4.dom a m
        rw [(n5' a m').1] at z
        cases z
      refine ⟨acc, e5, hl, F5, acc ++ [v], A ++ (B ++ []), ⟨go5.ff, fun a o q => ?_, fun a o q => ?_, go5.nf⟩, n5, upd_same, ?_, ?_, fun a m => ?_⟩
      · rw [upd_ne (ne_of_none q n5)]
        exact go5.fh _ _ q
      · rw [upd_ne (ne_of_none q hD)]
        exact go5.kp _ _ q
      · rw [tk, List.filter_append, List.map_append, List.filter_cons, if_pos hp]
        refine (o4.mono g5.ff fun a m o q => ?_).append (.cons (o5.mono (.refl _) fun a m o q => ?_) .nil)
        · rw [upd_ne (fun z : a = D => nDA (z ▸ m))]
          exact g5.kp _ _ q
        · rw [upd_ne (fun z : a = D => nDB (z ▸ m))]
          exact q
      · rw [List.append_nil]
        refine List.nodup_cons.mpr ⟨fun m => (List.mem_append.mp m).elim nDA nDB, List.nodup_append.mpr ⟨ndA, nd5, fun a m b m' z => nAB a m (z ▸ m')⟩⟩
      · rw [List.append_nil] at m
        rcases List.mem_append.mp m with m | m
        · obtain ⟨o, z⟩ := o4.dom a m
          exact ⟨(na4 a m).1, g5.nf a o z (na4 a m).2⟩
        · exact ⟨Same.free go4.kp (n5' a m).1, (n5' a m).2⟩
  · refine k _ (D :: A) F2 H' (g1.trans g2) ?_ nd2 fun a m => ?_
    · rw [List.take_length] at o2
      exact .lst e2 o2
    · rcases List.mem_cons.mp m with z | m
      · subst z
        exact ⟨Same.free g1.kp hD, n2⟩
      · exact ⟨Same.free g1.kp (na2 a m).1, (na2 a m).2⟩
/-- [elt for x in iter if ..], new trees -/
theorem en_lc {α : Type} {ys : List α} {inj : α → D} {ifs : List Expr} {scope : Scope} {nm : Str} (j : Nat) {p : α → Bool} {f : α → OT} (hc : X.calm = true) (hN : X.N.Nodup) (hi : Ei X H0 Γ tg iter (ys.map inj)) (ok : BlkOk X.N X.env.scope scope [(nm, j)]) (hz : ys.length ≤ sizeLine)
    (hg : ∀ (s : Shared) (H : Hp) (C : Addr) (cl : List (Str × Addr)) (fp : List Addr), PG (X.blk s H scope (compEnvC scope cl C X.env) fp) tg (gName j))
    (ht : ∀ y ∈ ys, ∀ (s : Shared) (H : Hp) (C : Addr) (cl : List (Str × Addr)) (fp : List Addr), PTs (X.blk s H scope (compEnvC scope cl C X.env) fp) ifs (rEt X.K H0 (blkΓ Γ j (inj y)) (p y)))
    (he : ∀ y ∈ ys, p y = true → ∀ (s : Shared) (H : Hp) (C : Addr) (cl : List (Str × Addr)) (fp : List Addr), En (X.blk s H scope (compEnvC scope cl C X.env) fp) H0 (blkΓ Γ j (inj y)) elt (f y))
    (hs : ∀ x, foldedSetIterable iter X.env x = pure x := by intro _; rfl) : En X H0 Γ (.ListComp elt [⟨tg, iter, ifs, 0⟩] scope pos) (.lst ((ys.filter p).map f)) :=
  wkE (pe_lc (own := [(nm, j)]) (g := gName j) (tt := fun σ H Q => ∃ y, y ∈ ys ∧ rEt X.K H0 (blkΓ Γ j (inj y)) (p y) σ H Q) (te := fun σ H Q => ∃ y, y ∈ ys ∧ p y = true ∧ rEn X.K H0 (blkΓ Γ j (inj y)) (f y) σ H Q) hc hN hi ok hg
    (fun s H C cl fp => ⟨fun pins s' σ H' Q I ⟨x, m, q⟩ => (ht x m s H C cl fp).run pins s' σ H' Q I q⟩) (fun s H C cl fp => ⟨fun pins s' σ H' Q I ⟨x, m, hp, q⟩ => (he x m hp s H C cl fp).run pins s' σ H' Q I q⟩) hs) fun σ H Q q =>
      lc_readN (vs := [j]) (G := fun y => blkΓ Γ j (inj y)) hz (fun y m F H v Q h r k => k _ wipe_set (h.setD j r)) q
theorem en_lc1 {α : Type} {ys : List α} {inj : α → D} {scope : Scope} {nm : Str} (j : Nat) {f : α → OT} (hc : X.calm = true) (hN : X.N.Nodup) (hi : Ei X H0 Γ tg iter (ys.map inj)) (ok : BlkOk X.N X.env.scope scope [(nm, j)]) (hz : ys.length ≤ sizeLine)
    (hg : ∀ (s : Shared) (H : Hp) (C : Addr) (cl : List (Str × Addr)) (fp : List Addr), PG (X.blk s H scope (compEnvC scope cl C X.env) fp) tg (gName j))
    (he : ∀ y ∈ ys, ∀ (s : Shared) (H : Hp) (C : Addr) (cl : List (Str × Addr)) (fp : List Addr), En (X.blk s H scope (compEnvC scope cl C X.env) fp) H0 (blkΓ Γ j (inj y)) elt (f y))
    (hs : ∀ x, foldedSetIterable iter X.env x = pure x := by intro _; rfl) : En X H0 Γ (.ListComp elt [⟨tg, iter, [], 0⟩] scope pos) (.lst (ys.map f)) := by
  have h := en_lc (pos := pos) (p := fun _ => true) (f := f) j hc hN hi ok hz hg (fun y _ s H C cl fp => pts_no) (fun y m _ => he y m) hs
  rw [filter_tt] at h
  exact h
theorem en_eq {e : Expr} {t t' : OT} (h : En X H0 Γ e t) (q : t = t') : En X H0 Γ e t' := q ▸ h
/-- a new tree that is a list of data -/
theorem eo_n {e : Expr} (h : En X H0 Γ e (.lst (xs.map .fz))) : Eo X H0 Γ e xs := wkE h fun σ H Q ⟨F, h, k⟩ => ⟨F, h, fun v A F' H' g o nd n => by
  generalize hts : xs.map OT.fz = ts at o
  cases o with
  | @lst p vs _ A r1 r2 =>
    subst hts
    obtain ⟨w1, w2⟩ := r2.unfz
    exact k p vs F' H' g (n p List.mem_cons_self).1 (n p List.mem_cons_self).2 r1 w1⟩
theorem wipe2 {σ : L2.St} {i j : Nat} (hij : i ≠ j) {x y : Option V} : L2.wipe (((L2.wipe σ [i, j]).set i x).set j y) [i, j] = L2.wipe σ [i, j] := by
  show ((((((σ.set j none).set i none).set i x).set j y).set j none).set i none) = (σ.set j none).set i none
  rw [List.set_set, List.set_set, List.set_comm (a := x) (b := none) (l := σ.set j none) hij, List.set_set, List.set_set]
/-- the block's names with two targets -/
abbrev blkΓ2 (Γ : List Sl) (i j : Nat) (x y : D) : List Sl := ((((Γ.set j .un).set i .un).set i (.da x)).set j (.da y))
/-- .. for x, y in iter -/
theorem en_lc2 {α : Type} {ys : List α} {d1 d2 : α → D} {ifs : List Expr} {scope : Scope} {nm nm' : Str} {p1 p2 ptg : Pos} {kt : Nat} (i j : Nat) (hij : i ≠ j) {p : α → Bool} {f : α → OT} (hc : X.calm = true) (hN : X.N.Nodup) (hi : Ei X H0 Γ (.Tuple [.Name nm p1, .Name nm' p2] kt ptg) iter (ys.map fun y => .tup [d1 y, d2 y])) (ok : BlkOk X.N X.env.scope scope [(nm, i), (nm', j)]) (hz : ys.length ≤ sizeLine)
    (hg1 : ∀ (s : Shared) (H : Hp) (C : Addr) (cl : List (Str × Addr)) (fp : List Addr), PG (X.blk s H scope (compEnvC scope cl C X.env) fp) (.Name nm p1) (gName i)) (hg2 : ∀ (s : Shared) (H : Hp) (C : Addr) (cl : List (Str × Addr)) (fp : List Addr), PG (X.blk s H scope (compEnvC scope cl C X.env) fp) (.Name nm' p2) (gName j))
    (ht : ∀ y ∈ ys, ∀ (s : Shared) (H : Hp) (C : Addr) (cl : List (Str × Addr)) (fp : List Addr), PTs (X.blk s H scope (compEnvC scope cl C X.env) fp) ifs (rEt X.K H0 (blkΓ2 Γ i j (d1 y) (d2 y)) (p y)))
    (he : ∀ y ∈ ys, p y = true → ∀ (s : Shared) (H : Hp) (C : Addr) (cl : List (Str × Addr)) (fp : List Addr), En (X.blk s H scope (compEnvC scope cl C X.env) fp) H0 (blkΓ2 Γ i j (d1 y) (d2 y)) elt (f y))
    (hs : ∀ x, foldedSetIterable iter X.env x = pure x := by intro _; rfl) : En X H0 Γ (.ListComp elt [⟨.Tuple [.Name nm p1, .Name nm' p2] kt ptg, iter, ifs, 0⟩] scope pos) (.lst ((ys.filter p).map f)) :=
  wkE (pe_lc (own := [(nm, i), (nm', j)]) (g := gTup X.K 2 (gCons (gName i) (gCons (gName j) gNil))) (tt := fun σ H Q => ∃ y, y ∈ ys ∧ rEt X.K H0 (blkΓ2 Γ i j (d1 y) (d2 y)) (p y) σ H Q) (te := fun σ H Q => ∃ y, y ∈ ys ∧ p y = true ∧ rEn X.K H0 (blkΓ2 Γ i j (d1 y) (d2 y)) (f y) σ H Q) hc hN hi ok
    (fun s H C cl fp => pg_tup hc (pgs_cons (hg1 s H C cl fp) (pgs_cons (hg2 s H C cl fp) pgs_nil)))
    (fun s H C cl fp => ⟨fun pins s' σ H' Q I ⟨x, m, q⟩ => (ht x m s H C cl fp).run pins s' σ H' Q I q⟩) (fun s H C cl fp => ⟨fun pins s' σ H' Q I ⟨x, m, hp, q⟩ => (he x m hp s H C cl fp).run pins s' σ H' Q I q⟩) hs) fun σ H Q q =>
      lc_readN (vs := [i, j]) (G := fun y => blkΓ2 Γ i j (d1 y) (d2 y)) (inj := fun y => .tup [d1 y, d2 y]) hz (fun y m F H v Q h r k => by
        cases r with
        | tup e1 r1 =>
          cases r1 with
          | cons q1 r1 =>
            cases r1 with
            | cons q2 r1 =>
              cases r1
              exact ⟨_, _, rfl, sqt_up h.fh e1, rfl, _, _, rfl, _, _, rfl, rfl, k _ (wipe2 hij) ((h.setD i q1).setD j q2)⟩) q
end

/-! ### one's own dicts of data -/
section
variable {X : Cx} {H0 : Hp} {Γ Γ' : List Sl} {a b c e : Expr} {d d1 d2 : D} {xs ys : List D} {pos : Pos} {rest : List Stmt} {κ : Kt} {x : Str} {i : Nat} {π : List Stp} {q : Option Addr} {t : OT}
def fzK {κ : Type} (kvs : List (κ × D)) : List (κ × OT) := kvs.map fun p => (p.1, .fz p.2)
theorem fzK_1 {κ : Type} (kvs : List (κ × D)) : (fzK kvs).map (·.1) = kvs.map (·.1) := by
  unfold fzK
  rw [List.map_map]
  rfl
theorem fzK_2 {κ : Type} (kvs : List (κ × D)) : (fzK kvs).map (·.2) = (kvs.map (·.2)).map .fz := by
  unfold fzK
  rw [List.map_map, List.map_map]
  rfl
theorem fr_dit (kvs : List (List Key × D)) : fr (.dit (fzK kvs)) = .dit kvs := by
  rw [fr]
  congr 1
  induction kvs with
  | nil => show frT [] = []; rw [frT]
  | cons p kvs ih =>
    show frT ((p.1, .fz p.2) :: fzK kvs) = p :: kvs
    rw [frT, ih, fr]
theorem fr_dic (kvs : List (Key × D)) : fr (.dic (fzK kvs)) = .dic kvs := by
  rw [fr]
  congr 1
  induction kvs with
  | nil => show frK [] = []; rw [frK]
  | cons p kvs ih =>
    show frK ((p.1, .fz p.2) :: fzK kvs) = p :: kvs
    rw [frK, ih, fr]
def putG {κ : Type} [DecidableEq κ] (kvs : List (κ × D)) (k : κ) (d : D) : List (κ × D) :=
  if (kvs.any fun kv => decide (kv.1 = k)) = true then kvs.map (fun kv => if kv.1 = k then (kv.1, d) else kv) else kvs ++ [(k, d)]
theorem putK_is {K : PySem.W.Frag} {F : Hp} {κ : Type} [DecidableEq κ] {k : κ} {y : V} {d : D} (r : Is K F y d) {fs : List (κ × V)} {gs : List (κ × D)} (e : fs.map (·.1) = gs.map (·.1)) (h : IsA K F (fs.map (·.2)) (gs.map (·.2))) : (putK fs k y).map (·.1) = (putG gs k d).map (·.1) ∧ IsA K F ((putK fs k y).map (·.2)) ((putG gs k d).map (·.2)) := by
  have an : ∀ {fs : List (κ × V)} {gs : List (κ × D)}, fs.map (·.1) = gs.map (·.1) → (fs.any fun kv => decide (kv.1 = k)) = gs.any fun kv => decide (kv.1 = k) := fun {fs gs} e => by
    have z1 : (fs.any fun kv => decide (kv.1 = k)) = (fs.map (·.1)).any fun z => decide (z = k) := by rw [List.any_map]; rfl
    have z2 : (gs.any fun kv => decide (kv.1 = k)) = (gs.map (·.1)).any fun z => decide (z = k) := by rw [List.any_map]; rfl
    rw [z1, z2, e]
  have mp : ∀ {fs : List (κ × V)} {gs : List (κ × D)}, fs.map (·.1) = gs.map (·.1) → IsA K F (fs.map (·.2)) (gs.map (·.2)) → (fs.map fun kv => if kv.1 = k then (kv.1, y) else kv).map (·.1) = (gs.map fun kv => if kv.1 = k then (kv.1, d) else kv).map (·.1) ∧ IsA K F ((fs.map fun kv => if kv.1 = k then (kv.1, y) else kv).map (·.2)) ((gs.map fun kv => if kv.1 = k then (kv.1, d) else kv).map (·.2)) := by
    intro fs
    induction fs with
    | nil =>
      intro gs e h
      cases gs with
      | nil => exact ⟨rfl, .nil⟩
      | cons _ _ => cases e
    | cons p fs ih =>
      intro gs e h
      cases gs with
      | nil => cases e
      | cons p' gs =>
        rw [List.map_cons, List.map_cons] at e h
        obtain ⟨e1, e2⟩ := List.cons.inj e
        cases h with
        | cons r1 h =>
          obtain ⟨w1, w2⟩ := ih e2 h
          have e1 : p.1 = p'.1 := e1
          simp only [List.map_cons]
          rw [← e1, w1]
          by_cases z : p.1 = k
          · rw [if_pos z, if_pos z]
            exact ⟨rfl, .cons r w2⟩
          · rw [if_neg z, if_neg z]
            exact ⟨by rw [e1], .cons r1 w2⟩
  unfold putK putG
  rw [an e]
  split
  · exact mp e h
  · rw [List.map_append, List.map_append, List.map_append, List.map_append, e]
    exact ⟨rfl, h.append (.cons r .nil)⟩
theorem en_dictT {dpos : Pos} : En X H0 Γ (.Dict [] [] dpos) (.dit (fzK [])) := wkE pe_dnewT fun σ H Q ⟨F, h, k⟩ => fun p hp => k _ [p] F _ (.newH h.fh hp) (.dit upd_same rfl .nil) (by simp) fun a m => by
  cases List.mem_singleton.mp m
  exact ⟨hp, Same.free h.fh hp⟩
theorem en_dictK {dpos : Pos} : En X H0 Γ (.Dict [] [] dpos) (.dic (fzK [])) := wkE pe_dnewK fun σ H Q ⟨F, h, k⟩ => fun p hp => k _ [p] F _ (.newH h.fh hp) (.dic upd_same rfl .nil) (by simp) fun a m => by
  cases List.mem_singleton.mp m
  exact ⟨hp, Same.free h.fh hp⟩
/-- e[k] = x there: a dict with tuples for keys -/
theorem rs_dputT {tpos : Pos} {k : Nat} {kvs : List (List Key × D)} {ks : List Key} (P : Pt X H0 Γ a i π q t (.dit (fzK kvs))) (he : Ev X H0 Γ e d) (hb : Ev X H0 Γ b (.tup xs)) (hk1 : keysD xs = some ks) (hk : Rs X H0 (Γ.set i (.tr q (putP π t (.dit (fzK (putG kvs ks d)))))) rest κ) (hz : kvs.length < sizeLine) (hr : Room k X.A)
    (hs : swapsWith e (some (.Subscript a b tpos)) pos.line X.env = pure false := by rfl) : Rs X H0 Γ (.Assign [.Subscript a b tpos] e pos :: rest) κ :=
  rs_cons (fun Γ' => Γ' = Γ.set i (.tr q (putP π t (.dit (fzK (putG kvs ks d)))))) (wkS (ps_dput (by have := hr.un; omega) P.pe hb he hs) fun E σ H ⟨F, h, kk⟩ => ⟨F, h, fun y F1 H1 g1 r1 => ⟨F1, h.go g1, fun u v F2 H2 g2 e1 av => ⟨F2, (h.go g1).go g2, fun w F3 H3 g3 r3 => by
    obtain ⟨u2, v2, B2, x1, x2, x3, x4, x5, x6, upd⟩ := (((h.go g1).go g2).go g3).path P.sl P.sub
    rw [e1] at x1
    cases x1
    cases (av.mono g3.kp).det x2
    cases r3 with
    | @tup tb vs _ t1 t2 =>
      generalize hkv : fzK kvs = zs at x3
      cases x3 with
      | @dit p fs gs A y1 y2 y3 =>
        subst hkv
        rw [fzK_1] at y2
        rw [fzK_2] at y3
        obtain ⟨w1, w2⟩ := y3.unfz
        subst w2
        rw [keys_is t2 hk1] at t1
        have hl : fs.length = kvs.length := by
          have := congrArg List.length y2
          rwa [List.length_map, List.length_map] at this
        refine ⟨p, _, rfl, .t (k := ks) y1 (g3.fh _ _ t1) (by rw [hl]; exact hz), ?_⟩
        obtain ⟨m1, m2⟩ := putK_is (k := ks) (r1.mono (g2.ff.trans g3.ff)) y2 w1
        have pF := (x5 p List.mem_cons_self).1
        refine kk.nx F3 _ σ _ ((h.tr g1).trans (((h.go g1).tr g2).trans (((h.go g1).go g2).tr g3))) (upd F3 _ _ [p] (.refl _) (fun b o z => ?_) (fun _ _ _ _ z => z) (.dit upd_same (by rw [fzK_1]; exact m1) (by rw [fzK_2]; exact .fz m2)) x4 (fun b m => ⟨.inl m, (x5 b m).1⟩) fun b m o z => ?_) rfl
        · rw [upd_ne (ne_of_none z pF)]
          exact g3.fh _ _ z
        · rw [upd_ne (fun w : b = p => m (w ▸ List.mem_cons_self))]
          exact z⟩⟩⟩) fun Γ' q => q ▸ hk
/-- .. with ints or texts for keys -/
theorem rs_dputK {tpos : Pos} {k : Nat} {kvs : List (Key × D)} {ky : Key} (P : Pt X H0 Γ a i π q t (.dic (fzK kvs))) (he : Ev X H0 Γ e d) (hb : Ev X H0 Γ b d1) (hk1 : keyD d1 = some ky) (hk : Rs X H0 (Γ.set i (.tr q (putP π t (.dic (fzK (putG kvs ky d)))))) rest κ) (hz : kvs.length < sizeLine) (hr : Room k X.A)
    (hs : swapsWith e (some (.Subscript a b tpos)) pos.line X.env = pure false := by rfl) : Rs X H0 Γ (.Assign [.Subscript a b tpos] e pos :: rest) κ :=
  rs_cons (fun Γ' => Γ' = Γ.set i (.tr q (putP π t (.dic (fzK (putG kvs ky d)))))) (wkS (ps_dput (by have := hr.un; omega) P.pe hb he hs) fun E σ H ⟨F, h, kk⟩ => ⟨F, h, fun y F1 H1 g1 r1 => ⟨F1, h.go g1, fun u v F2 H2 g2 e1 av => ⟨F2, (h.go g1).go g2, fun w F3 H3 g3 r3 => by
    obtain ⟨u2, v2, B2, x1, x2, x3, x4, x5, x6, upd⟩ := (((h.go g1).go g2).go g3).path P.sl P.sub
    rw [e1] at x1
    cases x1
    cases (av.mono g3.kp).det x2
    have hw := key_is r3 hk1
    subst hw
    generalize hkv : fzK kvs = zs at x3
    cases x3 with
    | @dic p fs gs A y1 y2 y3 =>
      subst hkv
      rw [fzK_1] at y2
      rw [fzK_2] at y3
      obtain ⟨w1, w2⟩ := y3.unfz
      subst w2
      have hl : fs.length = kvs.length := by
        have := congrArg List.length y2
        rwa [List.length_map, List.length_map] at this
      refine ⟨p, _, rfl, .k (k := ky) y1 (by rw [hl]; exact hz), ?_⟩
      obtain ⟨m1, m2⟩ := putK_is (k := ky) (r1.mono (g2.ff.trans g3.ff)) y2 w1
      have pF := (x5 p List.mem_cons_self).1
      refine kk.nx F3 _ σ _ ((h.tr g1).trans (((h.go g1).tr g2).trans (((h.go g1).go g2).tr g3))) (upd F3 _ _ [p] (.refl _) (fun b o z => ?_) (fun _ _ _ _ z => z) (.dic upd_same (by rw [fzK_1]; exact m1) (by rw [fzK_2]; exact .fz m2)) x4 (fun b m => ⟨.inl m, (x5 b m).1⟩) fun b m o z => ?_) rfl
      · rw [upd_ne (ne_of_none z pF)]
        exact g3.fh _ _ z
      · rw [upd_ne (fun w : b = p => m (w ▸ List.mem_cons_self))]
        exact z⟩⟩⟩) fun Γ' q => q ▸ hk
end
end Dv

namespace Dv
open PySem PySem.Spec PyProof.Rows L2
section
variable {X : Cx} {H0 : Hp} {Γ Γ' : List Sl} {a b c e : Expr} {d d1 d2 : D} {xs ys : List D} {pos : Pos} {rest : List Stmt} {κ : Kt} {x : Str}
/-- C() -/
theorem en_make0 {k : Nat} {x : Str} {C : Addr} {ps : List Str} {S : OT → List D → OT → D → Prop} {p : Pos} {t : OT} (M : Mak X.prog X.w X.K X.mg X.base k x C ps S) (hr : Room (k + 1) X.A) (hS : S (.obj C []) [] t .non)
    (hg : Gl X x := by rfl) (hdb : (x == ("__debug__" : Str)) = false := by decide) : En X H0 Γ (.Call (.Name x p) [] [] pos) t := by
  obtain ⟨f, fd, h1, h2, h3⟩ := M.ex
  refine wkE (pe_make0 h2 h1 hr hg M.gl h3 .nil pass0 hdb) fun σ H1 Q ⟨F1, h, q⟩ => fun x dx nx ndx nex => ?_
  have nF : F1 x = none := Same.free h.fh nx
  have s1 : Same H1 (upd (upd H1 dx (.own x)) x (.ins C dx [])) := fun a o e => by
    rw [upd_ne (ne_of_none e nx), upd_ne (ne_of_none e ndx)]
    exact e
  refine ⟨F1, [x], x, [], .obj C [], [], t, .non, rfl, .obj upd_same rfl .nil, by simp, fun a m => ?_, h.fh.trans s1, .nil, hS, fun v F' H' A' ff fh kp nf o nd n r => ?_⟩
  · cases List.mem_singleton.mp m
    exact nF
  · cases r
    have kp1 : Same H1 H' := fun a o e => kp a (fun m => ne_of_none e nx (List.mem_singleton.mp m)) o (s1 a o e)
    refine ⟨rfl, q _ A' F' H' ⟨ff, fh, kp1, fun a o e z => nf a (fun m => ne_of_none e nx (List.mem_singleton.mp m)) o (s1 a o e) z⟩ o nd fun a m => ⟨?_, (n a m).2⟩⟩
    rcases (n a m).1 with z | z
    · cases List.mem_singleton.mp z
      exact nx
    · exact Same.free s1 z
theorem ec_niL {s : Str} {ws : List Str} (ha : Ev X H0 Γ a (.str s)) (hb : Er X H0 Γ b (ws.map D.str)) : Ec X H0 Γ .NotIn a b (!decide (s ∈ ws)) :=
  ⟨_, _, _, op_notIn_seq, ha, hb, fun σ H Q ⟨F, h, q⟩ => ⟨F, h, fun v F1 H1 g1 r1 => ⟨F1, h.go g1, fun p vs F2 H2 g2 e2 r2 => by
    cases r1
    rw [r2.strs] at e2
    refine ⟨p, _, rfl, .inl (.inl (.of e2)), rfl, flat_strs ws, ?_⟩
    have q := q F2 H2 (g1.trans g2)
    rw [← inV_strs] at q
    exact q⟩⟩⟩
/-- a list of data of one's own, to be read -/
theorem er_w (i : Nat) {q : Option Addr} (hΓ : Γ[i]? = some (.tr q (.lst (xs.map .fz))) := by rfl) (hN : X.N[i]? = some x := by rfl) (hv : Vis X.env.scope x := by first | exact Or.inl rfl | exact Or.inr (Or.inl rfl) | exact Or.inr (Or.inr rfl)) (hd : (x == ("__debug__" : Str)) = false := by decide)
    (hcd : (x == ("__classdict__" : Str)) = false := by decide) : Er X H0 Γ (.Name x pos) xs := er_p (pt_v i hΓ hN hv hd hcd)
end
/-! ### methods whose other arguments are data; ends -/
section
variable {X : Cx} {H0 : Hp} {Γ Γ' Γ1 : List Sl} {a b c e : Expr} {d d1 d2 : D} {xs ys : List D} {pos : Pos} {rest : List Stmt} {κ : Kt} {x : Str}
theorem slots_d : ∀ ds : List D, slots (ds.map CA.d) = []
  | [] => rfl
  | _ :: ds => slots_d ds
theorem mkA_d {P : Nat → Addr} {T : Nat → OT} : ∀ ds : List D, mkA P T (ds.map CA.d) = ds.map Ar.d
  | [] => rfl
  | d :: ds => by
    show Ar.d d :: mkA P T (ds.map CA.d) = Ar.d d :: ds.map Ar.d
    rw [mkA_d ds]
theorem gup1 {i : Nat} {q : Option Addr} {t t' : OT} (h : Γ[i]? = some (.tr q t)) (n : nodeT t = true) : GUp Γ (Γ.set i (.tr q t')) [i] (fun _ => t) (fun _ => t') := ⟨by simp, fun j m => by
  rw [List.getElem?_set_ne (fun z => m (by simp [z]))], fun j m => by
  cases List.mem_singleton.mp m
  have hl := (List.getElem?_eq_some_iff.mp h).1
  exact ⟨q, h, by rw [List.getElem?_set_self hl], n⟩⟩
theorem gup2 {i j : Nat} {q r : Option Addr} {t t' u u' : OT} (hij : i ≠ j) (h : Γ[i]? = some (.tr q t)) (n : nodeT t = true) (h' : Γ[j]? = some (.tr r u)) (n' : nodeT u = true) :
    GUp Γ ((Γ.set i (.tr q t')).set j (.tr r u')) [i, j] (fun k => if k = i then t else u) (fun k => if k = i then t' else u') := ⟨by simp, fun l m => by
  simp only [List.mem_cons, List.not_mem_nil, or_false, not_or] at m
  rw [List.getElem?_set_ne (fun z => m.2 z.symm), List.getElem?_set_ne (fun z => m.1 z.symm)], fun l m => by
  simp only [List.mem_cons, List.not_mem_nil, or_false] at m
  have hl := (List.getElem?_eq_some_iff.mp h).1
  have hl' := (List.getElem?_eq_some_iff.mp h').1
  rcases m with m | m
  · subst m
    refine ⟨q, by rw [if_pos rfl]; exact h, ?_, by rw [if_pos rfl]; exact n⟩
    rw [List.getElem?_set_ne (fun z => hij z.symm), List.getElem?_set_self hl, if_pos rfl]
  · subst m
    refine ⟨r, by rw [if_neg (fun z => hij z.symm)]; exact h', ?_, by rw [if_neg (fun z => hij z.symm)]; exact n'⟩
    rw [List.getElem?_set_self (by simpa using hl'), if_neg (fun z => hij z.symm)]⟩
/-- o.m(data): o the slot i -/
theorem em_meth1 (i : Nat) {k : Nat} {C : Addr} {m : Str} {ps : List Str} {S : List Ar → List Ar → D → Prop} {p apos : Pos} {es : List Expr} {ds : List D} {t' : OT} {r : D} {q : Option Addr} {fs gs : List (Str × OT)} {pl : Sem Bool} (M : CalM X.prog X.w X.K X.mg X.base k C m ps S) (hr : Room k X.A) (ha : Ma X H0 Γ Γ1 (e :: es) (ds.map CA.d))
    (hS : ∀ p0, S (.t p0 (.obj C gs) :: ds.map Ar.d) (.t p0 t' :: ds.map Ar.d) r) (hΓ1 : Γ1[i]? = some (.tr q (.obj C gs)))
    (hΓ : Γ[i]? = some (.tr q (.obj C fs))) (hm : fs.lookup m = none) (hN : X.N[i]? = some x := by rfl) (hv : Vis X.env.scope x := by first | exact Or.inl rfl | exact Or.inr (Or.inl rfl) | exact Or.inr (Or.inr rfl)) (hd : (x == ("__debug__" : Str)) = false := by decide)
    (hcd : (x == ("__classdict__" : Str)) = false := by decide)
    (hst : starEach (e :: es) X.env = (false, eval e X.env) :: starEach es X.env := by rfl) (hpl : (backTo pos (starEach es X.env)).any (·.1) = false := by rfl)
    (ht : eval (.Call (.Attribute (.Name x p) m apos) (e :: es) [] pos) X.env = (do
      let ov ← eval (.Name x p) X.env
      standAt apos.atName
      let (f, first) ← holding [ov] (getMethod ov m pl)
      callWith pos f first (backTo pos (starEach (e :: es) X.env)) (backToKw pos (keywordEach [] X.env))) := by rfl) : Em X H0 Γ (Γ1.set i (.tr q t')) (.Call (.Attribute (.Name x p) m apos) (e :: es) [] pos) r := by
  have sl : slots (CA.s i :: ds.map CA.d) = [i] := by
    show i :: slots (ds.map CA.d) = [i]
    rw [slots_d]
  have G : GUp Γ1 (Γ1.set i (.tr q t')) (slots (CA.s i :: ds.map CA.d)) (fun _ => .obj C gs) (fun _ => t') := by
    rw [sl]
    exact gup1 hΓ1 rfl
  refine em_meth i (gs := gs) M hr ha (by rw [sl]; simp) G (fun P _ => ?_) hΓ hm hN hv hd hcd hst hpl ht
  show S (.t (P i) (.obj C gs) :: mkA P _ (ds.map CA.d)) (.t (P i) t' :: mkA P _ (ds.map CA.d)) r
  rw [mkA_d, mkA_d]
  exact hS (P i)
theorem ends_nil {Γ : List Sl} : endsAt [] Γ := fun j p x e => by simp at e
theorem ends_t {p : Addr} {t : OT} {as : List Ar} {Γ : List Sl} (h : endsAt as Γ) : endsAt (.t p t :: as) (.slf p t :: Γ) := fun j p' x' e => by
  cases j with
  | zero =>
    simp at e
    simp [e.1, e.2]
  | succ j => simpa using h j p' x' (by simpa using e)
theorem ends_d {d : D} {s : Sl} {as : List Ar} {Γ : List Sl} (h : endsAt as Γ) : endsAt (.d d :: as) (s :: Γ) := fun j p' x' e => by
  cases j with
  | zero => simp at e
  | succ j => simpa using h j p' x' (by simpa using e)
theorem Frz.refl : ∀ l : List Sl, Frz l l
  | [] => .nil
  | _ :: l => .sm (Frz.refl l)
/-- the first is lent -/
theorem frz0 {q : Option Addr} {t : OT} {d : D} {l : List Sl} (e : fr t = d) : Frz (.tr q t :: l) (.da d :: l) := .fz e (Frz.refl l)
end
theorem mdf_of {K : PySem.W.Frag} {mg : Str → Option Value} {x0 q0 m qual : Str} {C f : Addr} {st0 st : Stmt} {ps0 ps : List Str} {oc : Value} {od an : Option Addr} {osl : Array (Option Value)} {kV doc pm cdv ct : Value} (_ : Ini K mg x0 q0 C st0 ps0) (a : PySem.W.findIn K (.ref C) m = some (some (.ref f))) (i : PySem.W.isFn K (.ref f) = true)
    (l : K.lookup f = some ⟨oc, od, .func (PySem.W.fnOf m qual (defArgs st) (defBody st) (defScope st) .none kV doc pm an cdv ct), osl⟩) (c : PySem.W.codeIn K cdv qual = true) (k : PySem.W.keepIn K (.ref f) = true)
    (b : ∀ (kV doc pm : Value) (an : Option Addr) (cdv ct : Value) (us : List Value), us.length = ps.length → bindArgs (PySem.W.fnOf m qual (defArgs st) (defBody st) (defScope st) .none kV doc pm an cdv ct) ⟨us, []⟩ = pure (ps.zip us)) : Mdf K C m qual st ps := mdf_mk a i l c k b
theorem isic_of {K : PySem.W.Frag} {mg : Str → Option Value} {x0 q0 : Str} {C : Addr} {st0 : Stmt} {ps0 : List Str} (I : Ini K mg x0 q0 C st0 ps0) (ha : PySem.W.findIn K (.ref C) "__class__" = some (some (.builtin "object.__class__"))) (hn : PySem.W.specialIn K (.builtin "object.__class__") "__get__" = some (some (.builtin "getset_descriptor.__get__")))
    (htk : PySem.W.takesIn K (.builtin "object.__class__") = some true) (hm : PySem.W.mroIn K C (.type "object") = some true) : IsiC K C := ⟨I.1, ha, hn, htk, hm⟩
theorem ktup_mk {K : PySem.W.Frag} {a : Addr} {ws : List Str} {dd : Option Addr} {its : Array Value} {n : Nat} {sl : Array (Option Value)} (l : K.lookup a = some ⟨.type "tuple", dd, .seq its n, sl⟩) (v : Vals (ws.map V.str) its.toList) (hz : its.size ≤ sizeLine) : KTup K a ws := ⟨_, its, n, l, rfl, rfl, hz, v⟩
theorem ktup_of {K : PySem.W.Frag} {h : Heap} {mg : Str → Option Value} {x : Str} {a : Addr} {ws : List Str} {dd : Option Addr} {its : Array Value} {n : Nat} {sl : Array (Option Value)} (_ : K.In h) (_ : mg x = some (.ref a)) (l : K.lookup a = some ⟨.type "tuple", dd, .seq its n, sl⟩) (v : Vals (ws.map V.str) its.toList) (hz : its.size ≤ sizeLine) : KTup K a ws := ktup_mk l v hz
end Dv

/-! Numbers as texts: what the papers write and read. -/
namespace Tx
open PySem PySem.Spec PyProof.Rows L2 Dv TL

def isDig (c : Nat) : Bool := decide (48 ≤ c ∧ c ≤ 57)
/-- a number from 0 on, as it is written -/
def plainL (l : List Nat) : Bool := (!l.isEmpty && decide (l.length ≤ 18)) && (l.all isDig && (decide (l = [48]) || !decide (l.head? = some 48)))
def signedL (l : List Nat) : Bool := if l.head? = some 45 then plainL l.tail && !decide (l = [45, 48]) else plainL l
def valL (l : List Nat) : Int := if l.head? = some 45 then -((NumText.digitsVal l.tail : Nat) : Int) else ((NumText.digitsVal l : Nat) : Int)
def numS (n : Int) : Str := Str.ofString (toString n)

theorem plain_dig {l : List Nat} (h : plainL l = true) : NumText.AllDigits l ∧ l ≠ [] ∧ l.length ≤ 18 := by
  unfold plainL at h
  simp only [Bool.and_eq_true, Bool.not_eq_true', decide_eq_true_eq, List.all_eq_true] at h
  obtain ⟨⟨h1, h2⟩, h3, _⟩ := h
  refine ⟨fun c hc => ?_, fun e => by rw [e] at h1; simp at h1, h2⟩
  have := h3 c hc
  unfold isDig at this
  exact of_decide_eq_true this
theorem len_str (s : Str) : s.length = (tl s).length := len_tl s
/-- int of a word that writes a number -/
theorem int_signed {s : Str} (h : signedL (tl s) = true) : PySem.intText? s = some (valL (tl s)) ∧ s.length ≤ 640 := by
  unfold signedL at h
  by_cases c : (tl s).head? = some 45
  · rw [if_pos c, Bool.and_eq_true] at h
    obtain ⟨h1, h2, h3⟩ := plain_dig h.1
    obtain ⟨cs, e⟩ : ∃ cs, tl s = 45 :: cs := by
      cases q : tl s with
      | nil => rw [q] at c; cases c
      | cons a r => rw [q] at c; cases c; exact ⟨r, rfl⟩
    have hl : s.length ≤ 640 := by
      rw [len_str, e]
      rw [e] at h3
      simp at h3 ⊢
      omega
    refine ⟨?_, hl⟩
    unfold valL
    rw [if_pos c]
    rw [e] at h1 h2
    have z := intText_neg (x := s) (cs := cs) e h1 h2 (by omega)
    rw [z, e]
    rfl
  · rw [if_neg c] at h
    obtain ⟨h1, h2, h3⟩ := plain_dig h
    have hl : s.length ≤ 640 := by
      rw [len_str]
      omega
    refine ⟨?_, hl⟩
    unfold valL
    rw [if_neg c]
    exact intText_digits h1 h2 (by omega)
theorem plain_signed {l : List Nat} (h : plainL l = true) : signedL l = true := by
  unfold signedL
  have d := (plain_dig h).1
  rw [if_neg, h]
  intro e
  cases l with
  | nil => cases e
  | cons a r =>
    cases e
    have := d 45 List.mem_cons_self
    omega
theorem numL_head {n : Nat} (h : n ≠ 0) : (numL n).head? ≠ some 48 := by
  induction n using Nat.strongRecOn with
  | _ n ih =>
    by_cases c : n < 10
    · rw [numL_lt c]
      intro e
      simp at e
      omega
    · rw [numL_step (by omega)]
      have := ih (n / 10) (by omega) (by omega)
      cases q : numL (n / 10) with
      | nil => exact absurd q (numL_ne _)
      | cons a r =>
        rw [q] at this
        simpa using this
theorem plain_num {n : Nat} (h : n < 10 ^ 18) : plainL (numL n) = true := by
  unfold plainL
  have hl := numL_len (n := n) (k := 18) (by decide) h
  have hd := numL_digits n
  have hn := numL_ne n
  simp only [Bool.and_eq_true, Bool.not_eq_true', decide_eq_true_eq, List.all_eq_true, Bool.or_eq_true, decide_eq_false_iff_not]
  refine ⟨⟨?_, hl⟩, fun c hc => ?_, ?_⟩
  · cases q : numL n with
    | nil => exact absurd q hn
    | cons a r => rfl
  · unfold isDig
    exact decide_eq_true (hd c hc)
  · by_cases z : n = 0
    · subst z
      exact .inl (by rw [numL_lt (by decide)])
    · exact .inr (numL_head z)
theorem tl_numS_nat (n : Nat) : tl (numS (n : Int)) = numL n := tl_num n
theorem tl_numS_neg {n : Nat} (h : n ≠ 0) : tl (numS (-(n : Int))) = 45 :: numL n := by
  unfold numS
  rw [toString_neg (by omega : -(n : Int) < 0)]
  rw [show (0 : Int) - (-(n : Int)) = (n : Int) by omega]
  rw [tl_ofString, String.toList_append, List.map_append]
  have e : List.map Char.toNat (toString ((n : Nat) : Int)).toList = numL n := by rw [← tl_ofString]; exact tl_num n
  rw [e]
  rfl
/-- the words of whole numbers below 10 ^ 18 -/
theorem signed_num {n : Int} (h : n.natAbs < 10 ^ 18) : signedL (tl (numS n)) = true ∧ valL (tl (numS n)) = n := by
  by_cases c : 0 ≤ n
  · obtain ⟨m, rfl⟩ := Int.eq_ofNat_of_zero_le c
    rw [tl_numS_nat]
    have hp := plain_num (n := m) (by simpa using h)
    refine ⟨plain_signed hp, ?_⟩
    unfold valL
    rw [if_neg, numL_val]
    intro e
    have d := numL_digits m
    cases q : numL m with
    | nil => rw [q] at e; cases e
    | cons a r =>
      rw [q] at e d
      cases e
      have := d 45 List.mem_cons_self
      omega
  · obtain ⟨m, hm⟩ : ∃ m : Nat, n = -(m : Int) := ⟨n.natAbs, by omega⟩
    subst hm
    have hm0 : m ≠ 0 := by omega
    rw [tl_numS_neg hm0]
    have hp := plain_num (n := m) (by simpa using h)
    refine ⟨?_, ?_⟩
    · unfold signedL
      rw [if_pos (show (45 :: numL m).head? = some 45 from rfl)]
      show (plainL (numL m) && !decide (45 :: numL m = [45, 48])) = true
      rw [hp, Bool.true_and, Bool.not_eq_true', decide_eq_false_iff_not]
      intro e
      have e2 : numL m = numL 0 := by
        rw [numL_lt (n := 0) (by decide)]
        exact (List.cons.inj e).2
      exact hm0 (numL_inj e2)
    · unfold valL
      rw [if_pos (show (45 :: numL m).head? = some 45 from rfl)]
      show -((NumText.digitsVal (numL m) : Nat) : Int) = _
      rw [numL_val]
theorem num_free {n : Int} {s : Nat} (h : s < 45 ∨ 57 < s) : s ∉ tl (numS n) := by
  by_cases c : 0 ≤ n
  · obtain ⟨m, rfl⟩ := Int.eq_ofNat_of_zero_le c
    rw [tl_numS_nat]
    exact numL_free (by omega)
  · obtain ⟨m, hm⟩ : ∃ m : Nat, n = -(m : Int) := ⟨n.natAbs, by omega⟩
    subst hm
    rw [tl_numS_neg (by omega)]
    intro z
    rcases List.mem_cons.mp z with z | z
    · omega
    · exact numL_free (by omega) z
theorem num_len {n : Int} (h : n.natAbs < 10 ^ 18) : (numS n).length ≤ 19 := by
  rw [len_str]
  by_cases c : 0 ≤ n
  · obtain ⟨m, rfl⟩ := Int.eq_ofNat_of_zero_le c
    rw [tl_numS_nat]
    have := numL_len (n := m) (k := 18) (by decide) (by simpa using h)
    omega
  · obtain ⟨m, hm⟩ : ∃ m : Nat, n = -(m : Int) := ⟨n.natAbs, by omega⟩
    subst hm
    rw [tl_numS_neg (by omega)]
    have := numL_len (n := m) (k := 18) (by decide) (by simpa using h)
    simp
    omega
theorem num_log {n : Int} (h : n.natAbs < 10 ^ 18) : n.natAbs.log2 < 1920 := by
  have h2 : n.natAbs < 2 ^ 60 := Nat.lt_trans h (by decide)
  by_cases z : n.natAbs = 0
  · rw [z]; decide
  · have := (Nat.log2_lt z).mpr h2
    omega
/-! ### lines -/
theorem join_len (s : Str) : ∀ ps : List Str, (Txt.join s ps).length + s.length ≤ (ps.map fun p => p.length + s.length).sum + s.length
  | [] => by
    rw [join_eq, len_str, tl_join]
    simp [joinL]
  | [p] => by
    rw [join_eq, len_str (Str.join s [p]), tl_join]
    show (joinL (tl s) [tl p]).length + _ ≤ _
    rw [joinL, ← len_str]
    simp
  | p :: q :: r => by
    have ih := join_len s (q :: r)
    rw [join_eq, len_str, tl_join] at ih ⊢
    rw [List.map_cons, List.map_cons, joinL, ← List.map_cons, List.length_append, List.length_append, ← len_str p, ← len_str s, List.map_cons (l := q :: r), List.sum_cons]
    omega
theorem join_free {s : Str} {c : Nat} (hs : c ∉ tl s) {ps : List Str} (h : ∀ p ∈ ps, c ∉ tl p) : c ∉ tl (Txt.join s ps) := by
  rw [join_eq, tl_join]
  have go : ∀ ls : List (List Nat), (∀ l ∈ ls, c ∉ l) → c ∉ joinL (tl s) ls := by
    intro ls
    induction ls with
    | nil => intro _ z; cases z
    | cons a r ih =>
      intro hh
      cases r with
      | nil => exact hh a List.mem_cons_self
      | cons b r =>
        intro z
        rw [joinL] at z
        rcases List.mem_append.mp z with z | z
        · exact hh a List.mem_cons_self z
        · rcases List.mem_append.mp z with z | z
          · exact hs z
          · exact ih (fun l m => hh l (List.mem_cons_of_mem _ m)) z
  refine go _ fun l m => ?_
  obtain ⟨p, hp, rfl⟩ := List.mem_map.mp m
  exact h p hp

/-! ### slices -/
theorem cut_from {α : Type} (xs : List α) (a : Nat) : cutL xs (some (a : Int)) none = xs.drop a := by
  unfold cutL
  rw [HT.sIx_nat, HT.sIx_none, List.take_of_length_le (by rw [List.length_drop]; exact Nat.le_refl _)]
  by_cases h : a ≤ xs.length
  · rw [Nat.min_eq_left h]
  · rw [Nat.min_eq_right (by omega), List.drop_length, List.drop_of_length_le (by omega)]
theorem cut_upto {α : Type} (xs : List α) (b : Nat) : cutL xs none (some (b : Int)) = xs.take b := by
  unfold cutL
  rw [HT.sIx_nat, HT.sIx_none, List.drop_zero, Nat.sub_zero]
  by_cases h : b ≤ xs.length
  · rw [Nat.min_eq_left h]
  · rw [Nat.min_eq_right (by omega), List.take_length, List.take_of_length_le (by omega)]
theorem cut_mid {α : Type} (xs : List α) (a b : Nat) : cutL xs (some (a : Int)) (some (b : Int)) = (xs.drop a).take (b - a) := by
  unfold cutL
  rw [HT.sIx_nat, HT.sIx_nat]
  by_cases h : a ≤ xs.length
  · rw [Nat.min_eq_left h]
    by_cases h2 : b ≤ xs.length
    · rw [Nat.min_eq_left h2]
    · rw [Nat.min_eq_right (by omega), List.take_of_length_le (l := xs.drop a) (by rw [List.length_drop]; exact Nat.le_refl _), List.take_of_length_le (l := xs.drop a) (by rw [List.length_drop]; omega)]
  · rw [Nat.min_eq_right (a := a) (by omega), List.drop_length, List.drop_of_length_le (by omega), List.take_nil, List.take_nil]
theorem cutS_tl (s : Str) (lo hi : Option Int) : tl (cutS s lo hi) = cutL (tl s) lo hi := by
  unfold cutS cutL
  rw [tl_mk, ← len_tl]
theorem cutL_map {α β : Type} (f : α → β) (xs : List α) (lo hi : Option Int) : cutL (xs.map f) lo hi = (cutL xs lo hi).map f := by
  unfold cutL
  rw [List.length_map, List.map_take, List.map_drop]
theorem cutL_mem {α : Type} {xs : List α} {lo hi : Option Int} {x : α} (h : x ∈ cutL xs lo hi) : x ∈ xs := List.mem_of_mem_drop (List.mem_of_mem_take h)
theorem sum_le {α : Type} {f : α → Nat} {B : Nat} : ∀ {xs : List α}, (∀ x ∈ xs, f x ≤ B) → (xs.map f).sum ≤ xs.length * B
  | [], _ => by simp
  | x :: xs, h => by
    rw [List.map_cons, List.sum_cons, List.length_cons, Nat.succ_mul]
    have h1 := h x List.mem_cons_self
    have h2 := sum_le (xs := xs) fun y m => h y (List.mem_cons_of_mem _ m)
    omega
theorem join_le {s : Str} {B : Nat} {ps : List Str} (h : ∀ p ∈ ps, p.length ≤ B) : (Txt.join s ps).length ≤ ps.length * (B + s.length) := by
  have z := join_len s ps
  have y := sum_le (f := fun p : Str => p.length + s.length) (B := B + s.length) (xs := ps) fun p m => Nat.add_le_add_right (h p m) _
  omega
/-- the line of a word and numbers -/
def stLine (w : Str) (ns : List Int) : Str := Txt.join " " (w :: ns.map numS)
def Small (ns : List Int) : Prop := ∀ n ∈ ns, n.natAbs < 10 ^ 18
theorem line_words {w : Str} {ns : List Int} (hw : 32 ∉ tl w) : Txt.split (stLine w ns) " " = w :: ns.map numS := by
  refine split_join (s := 32) (S := []) (by decide +kernel) (by decide +kernel) (by simp) fun p m => ?_
  rcases List.mem_cons.mp m with m | m
  · subst m
    exact hw
  · obtain ⟨n, _, rfl⟩ := List.mem_map.mp m
    exact num_free (by omega)
theorem line_free {w : Str} {ns : List Int} (hw : 10 ∉ tl w) : 10 ∉ tl (stLine w ns) := by
  refine join_free (by decide +kernel) fun p m => ?_
  rcases List.mem_cons.mp m with m | m
  · subst m
    exact hw
  · obtain ⟨n, _, rfl⟩ := List.mem_map.mp m
    exact num_free (by omega)
theorem line_len {w : Str} {ns : List Int} (hs : Small ns) (hw : w.length ≤ 19) : (stLine w ns).length ≤ (ns.length + 1) * 20 := by
  have h := join_le (s := " ") (B := 19) (ps := w :: ns.map numS) fun p m => by
    rcases List.mem_cons.mp m with m | m
    · subst m
      exact hw
    · obtain ⟨n, q, rfl⟩ := List.mem_map.mp m
      exact num_len (hs n q)
  rw [List.length_cons, List.length_map] at h
  exact h
end Tx

/-! Formulas, terms: tuples whose first is a word. Rows: a word and two numbers. -/
namespace Fo
open PySem Dv L2
inductive Fml where
  | s (x : Str) | i (n : Int) | t0 (w : Str) | t1 (w : Str) (a : Fml) | t2 (w : Str) (a b : Fml)
  deriving DecidableEq
def inj : Fml → D
  | .s x => .str x
  | .i n => .int n
  | .t0 w => .tup [.str w]
  | .t1 w a => .tup [.str w, inj a]
  | .t2 w a b => .tup [.str w, inj a, inj b]
def dep : Fml → Nat
  | .s _ => 0
  | .i _ => 0
  | .t0 _ => 1
  | .t1 _ a => dep a + 1
  | .t2 _ a b => max (dep a) (dep b) + 1
/-- the texts are such -/
def txt : Fml → Bool
  | .s x => PyData.strOk x
  | .i _ => true
  | .t0 w => PyData.strOk w
  | .t1 w a => PyData.strOk w && txt a
  | .t2 w a b => PyData.strOk w && (txt a && txt b)
theorem inj_inj : ∀ {a b : Fml}, inj a = inj b → a = b
  | .s x, b, h => by
    cases b <;> simp [inj] at h
    rw [h]
  | .i x, b, h => by
    cases b <;> simp [inj] at h
    rw [h]
  | .t0 w, b, h => by
    cases b <;> simp [inj] at h
    rw [h]
  | .t1 w a, b, h => by
    cases b <;> simp [inj] at h
    rw [h.1, inj_inj h.2]
  | .t2 w a b, c, h => by
    cases c <;> simp [inj] at h
    rw [h.1, inj_inj h.2.1, inj_inj h.2.2]
theorem pl_inj : ∀ a : Fml, plD (inj a) = true
  | .s _ => by rw [inj, plD]
  | .i _ => by rw [inj, plD]
  | .t0 _ => by rw [inj, plD, plA, plD, plA]; rfl
  | .t1 _ a => by rw [inj, plD, plA, plD, plA, pl_inj a, plA]; rfl
  | .t2 _ a b => by rw [inj, plD, plA, plD, plA, pl_inj a, plA, pl_inj b, plA]; rfl
theorem tup_inj : ∀ a : Fml, tupD (inj a) = true
  | .s _ => by rw [inj, tupD]
  | .i _ => by rw [inj, tupD]
  | .t0 _ => by rw [inj, tupD, tupDA, tupD, tupDA]; rfl
  | .t1 _ a => by rw [inj, tupD, tupDA, tupD, tupDA, tup_inj a, tupDA]; rfl
  | .t2 _ a b => by rw [inj, tupD, tupDA, tupD, tupDA, tup_inj a, tupDA, tup_inj b, tupDA]; rfl
theorem ok_inj : ∀ (a : Fml) (n : Nat), txt a = true → dep a ≤ n → okD (inj a) n = true
  | .s x, n, h, _ => h
  | .i x, n, h, _ => rfl
  | .t0 w, n, h, k => by
    cases n with
    | zero => cases k
    | succ n =>
      rw [inj, okD, okA, okA, Bool.and_true]
      exact h
  | .t1 w a, n, h, k => by
    rw [txt, Bool.and_eq_true] at h
    rw [dep] at k
    cases n with
    | zero => cases k
    | succ n =>
      rw [inj, okD, okA, okA, okA, ok_inj a n h.2 (by omega)]
      rw [show okD (.str w) n = true from h.1]
      rfl
  | .t2 w a b, n, h, k => by
    rw [txt, Bool.and_eq_true, Bool.and_eq_true] at h
    rw [dep] at k
    cases n with
    | zero => cases k
    | succ n =>
      rw [inj, okD, okA, okA, okA, okA, ok_inj a n h.2.1 (by omega), ok_inj b n h.2.2 (by omega)]
      rw [show okD (.str w) n = true from h.1]
      rfl
theorem okA_inj {l : List Fml} {n : Nat} (h : ∀ a ∈ l, txt a = true ∧ dep a ≤ n) : okA (l.map inj) n = true := okA_map fun a m => ok_inj a n (h a m).1 (h a m).2
theorem any_inj {l : List Fml} {a : Fml} (h : txt a = true ∧ dep a ≤ 62) : anyEq (l.map inj) (inj a) = decide (a ∈ l) := anyEq_map (fun _ _ e => inj_inj e) (fun u _ => pl_inj u) (pl_inj a) (ok_inj a 64 h.1 (by omega))
/-! ### rows -/
abbrev Rwt := Str × Int × Int
def injR (r : Rwt) : D := .tup [.str r.1, .int r.2.1, .int r.2.2]
theorem injR_inj {a b : Rwt} (h : injR a = injR b) : a = b := by
  obtain ⟨w, l, r⟩ := a
  obtain ⟨w', l', r'⟩ := b
  simp [injR] at h
  rw [h.1, h.2.1, h.2.2]
theorem plR (r : Rwt) : plD (injR r) = true := rfl
theorem tupR (r : Rwt) : tupD (injR r) = true := rfl
theorem okR {r : Rwt} (h : PyData.strOk r.1 = true) (n : Nat) : okD (injR r) (n + 1) = true := by
  unfold injR
  rw [okD, okA, okA, okA, okA]
  rw [show okD (.str r.1) n = true from h]
  rfl
def keyR (r : Rwt) : List Key := [.inr r.1, .inl r.2.1, .inl r.2.2]
theorem keys_R (r : Rwt) : keysD [.str r.1, .int r.2.1, .int r.2.2] = some (keyR r) := rfl
theorem keyR_inj {a b : Rwt} (h : keyR a = keyR b) : a = b := by
  obtain ⟨w, l, r⟩ := a
  obtain ⟨w', l', r'⟩ := b
  simp [keyR] at h
  rw [h.1, h.2.1, h.2.2]
/-- the first place of x, or behind -/
def at' {α : Type} [DecidableEq α] (x : α) : List α → Nat
  | [] => 0
  | y :: ys => if y = x then 0 else at' x ys + 1
def ins {α : Type} [DecidableEq α] (l : List α) (x : α) : List α := if x ∈ l then l else l ++ [x]
section
variable {α : Type} [DecidableEq α]
theorem at_lt {x : α} : ∀ {l : List α}, x ∈ l → at' x l < l.length
  | y :: ys, m => by
    unfold at'
    by_cases z : y = x
    · rw [if_pos z]
      exact Nat.succ_pos _
    · rw [if_neg z]
      have : x ∈ ys := (List.mem_cons.mp m).resolve_left fun q => z q.symm
      exact Nat.succ_lt_succ (at_lt this)
theorem at_get {x : α} : ∀ {l : List α}, x ∈ l → l[at' x l]? = some x
  | y :: ys, m => by
    unfold at'
    by_cases z : y = x
    · rw [if_pos z, z]
      rfl
    · rw [if_neg z]
      have : x ∈ ys := (List.mem_cons.mp m).resolve_left fun q => z q.symm
      exact at_get this
theorem at_ne {x y : α} : ∀ {l : List α} {m : Nat}, m < at' x l → l[m]? = some y → y ≠ x
  | [], _, h, _ => by cases h
  | z :: zs, m, h, e => by
    unfold at' at h
    by_cases q : z = x
    · rw [if_pos q] at h
      cases h
    · rw [if_neg q] at h
      cases m with
      | zero => simp at e; rw [← e]; exact q
      | succ m => exact at_ne (l := zs) (m := m) (by omega) (by simpa using e)
theorem at_new {x : α} : ∀ {l : List α}, x ∉ l → at' x (l ++ [x]) = l.length
  | [], _ => by show (if x = x then 0 else _) = 0; rw [if_pos rfl]
  | y :: ys, h => by
    rw [List.cons_append]
    unfold at'
    rw [if_neg (fun q : y = x => h (by rw [q]; exact List.mem_cons_self)), at_new fun m => h (List.mem_cons_of_mem _ m)]
    rfl
theorem at_old {x y : α} : ∀ {l : List α}, x ∈ l → at' x (l ++ [y]) = at' x l
  | z :: zs, m => by
    rw [List.cons_append]
    unfold at'
    by_cases q : z = x
    · rw [if_pos q, if_pos q]
    · rw [if_neg q, if_neg q, at_old ((List.mem_cons.mp m).resolve_left fun r => q r.symm)]
theorem ins_mem {l : List α} {x : α} : x ∈ ins l x := by
  unfold ins
  split
  · assumption
  · simp
theorem ins_sub {l : List α} {x y : α} (h : y ∈ l) : y ∈ ins l x := by
  unfold ins
  split
  · exact h
  · exact List.mem_append_left _ h
theorem ins_or {l : List α} {x y : α} (h : y ∈ ins l x) : y ∈ l ∨ y = x := by
  unfold ins at h
  split at h
  · exact .inl h
  · rcases List.mem_append.mp h with h | h
    · exact .inl h
    · exact .inr (List.mem_singleton.mp h)
theorem ins_len {l : List α} {x : α} : (ins l x).length ≤ l.length + 1 := by
  unfold ins
  split
  · omega
  · rw [List.length_append]
    exact Nat.le_refl _
theorem ins_nodup {l : List α} {x : α} (h : l.Nodup) : (ins l x).Nodup := by
  unfold ins
  split
  · exact h
  · rename_i m
    refine List.nodup_append.mpr ⟨h, by simp, fun a ma b mb z => ?_⟩
    rw [List.mem_singleton.mp mb] at z
    exact m (z ▸ ma)
theorem at_ins {l : List α} {x : α} (h : x ∉ l) : at' x (ins l x) = l.length := by
  unfold ins
  rw [if_neg h]
  exact at_new h
end
/-- the numbers of the rows -/
def numsFrom : Nat → List Rwt → List (List Key × D)
  | _, [] => []
  | k, r :: rs => (keyR r, .int (k : Nat)) :: numsFrom (k + 1) rs
def numsOf (rs : List Rwt) : List (List Key × D) := numsFrom 0 rs
theorem nums_get {x : Rwt} : ∀ {rs : List Rwt} {k : Nat}, getKV (numsFrom k rs) (keyR x) = if x ∈ rs then some (.int ((k + at' x rs : Nat) : Int)) else none
  | [], _ => rfl
  | r :: rs, k => by
    unfold numsFrom
    by_cases z : r = x
    · subst z
      rw [if_pos List.mem_cons_self]
      unfold at'
      rw [if_pos rfl]
      simp [getKV, List.find?_cons]
    · have nk : ¬ keyR r = keyR x := fun q => z (keyR_inj q)
      have q : getKV ((keyR r, D.int (k : Nat)) :: numsFrom (k + 1) rs) (keyR x) = getKV (numsFrom (k + 1) rs) (keyR x) := by simp [getKV, List.find?_cons, nk]
      rw [q, nums_get, show at' x (r :: rs) = at' x rs + 1 from if_neg z]
      by_cases m : x ∈ rs
      · rw [if_pos m, if_pos (List.mem_cons_of_mem _ m)]
        congr 2
        omega
      · rw [if_neg m, if_neg fun q => (List.mem_cons.mp q).elim (fun q => z q.symm) m]
theorem nums_len : ∀ {rs : List Rwt} {k : Nat}, (numsFrom k rs).length = rs.length
  | [], _ => rfl
  | r :: rs, k => by
    unfold numsFrom
    rw [List.length_cons, nums_len, List.length_cons]
theorem nums_app {x : Rwt} : ∀ {rs : List Rwt} {k : Nat}, numsFrom k (rs ++ [x]) = numsFrom k rs ++ [(keyR x, .int ((k + rs.length : Nat) : Int))]
  | [], k => rfl
  | r :: rs, k => by
    rw [List.cons_append]
    unfold numsFrom
    rw [nums_app, List.cons_append, List.length_cons, show k + 1 + rs.length = k + (rs.length + 1) by omega]
theorem nums_put {rs : List Rwt} {x : Rwt} (h : x ∉ rs) : putG (numsOf rs) (keyR x) (.int ((rs.length : Nat) : Int)) = numsOf (rs ++ [x]) := by
  have e := nums_get (x := x) (rs := rs) (k := 0)
  rw [if_neg h] at e
  have an : ∀ {l : List (List Key × D)}, getKV l (keyR x) = none → (l.any fun kv => decide (kv.1 = keyR x)) = false := by
    intro l
    induction l with
    | nil => intro _; rfl
    | cons p l ih =>
      intro e
      by_cases z : p.1 = keyR x
      · simp [getKV, List.find?_cons, z] at e
      · have q : getKV (p :: l) (keyR x) = getKV l (keyR x) := by simp [getKV, List.find?_cons, z]
        rw [q] at e
        rw [List.any_cons, ih e, decide_eq_false z]
        rfl
  unfold putG
  rw [show ((numsOf rs).any fun kv => decide (kv.1 = keyR x)) = false from an e, if_neg (by decide)]
  unfold numsOf
  rw [nums_app, Nat.zero_add]
/-! ### a formula's rows -/
def cmpW : List Str := ["equal", "below", "upto"]
abbrev Sts := List Fml × List Rwt
def putR (st : Sts) (r : Rwt) : Sts × Int := ((st.1, ins st.2 r), (at' r (ins st.2 r) : Nat))
def num : Fml → Sts → Sts × Int
  | .s _, st => (st, 0)
  | .i _, st => (st, 0)
  | .t0 w, st => putR st (w, -1, -1)
  | .t1 w a, st => putR (num a st).1 (w, (num a st).2, -1)
  | .t2 w a b, st =>
    if w ∈ cmpW then putR (ins st.1 (.t2 w a b), st.2) ("fact", (at' (.t2 w a b) (ins st.1 (.t2 w a b)) : Nat), -1)
    else putR (num b (num a st).1).1 (w, (num a st).2, (num b (num a st).1).2)
/-- a formula -/
def Wf : Fml → Prop
  | .s _ => False
  | .i _ => False
  | .t0 w => w = "true" ∨ w = "false"
  | .t1 w a => w ∉ cmpW ∧ w ≠ "true" ∧ w ≠ "false" ∧ Wf a
  | .t2 w a b => w ∈ cmpW ∨ (w ∉ cmpW ∧ w ≠ "true" ∧ w ≠ "false" ∧ Wf a ∧ Wf b)
/-- how many rows at most -/
def rcnt : Fml → Nat
  | .s _ => 0
  | .i _ => 0
  | .t0 _ => 1
  | .t1 _ a => rcnt a + 1
  | .t2 w a b => if w ∈ cmpW then 1 else rcnt a + rcnt b + 1
theorem num_len : ∀ (t : Fml) (st : Sts), (num t st).1.2.length ≤ st.2.length + rcnt t ∧ (num t st).1.1.length ≤ st.1.length + rcnt t
  | .s _, st => ⟨Nat.le_add_right _ _, Nat.le_add_right _ _⟩
  | .i _, st => ⟨Nat.le_add_right _ _, Nat.le_add_right _ _⟩
  | .t0 w, st => ⟨ins_len, Nat.le_add_right _ _⟩
  | .t1 w a, st => by
    obtain ⟨h1, h2⟩ := num_len a st
    rw [num, rcnt]
    have := ins_len (l := (num a st).1.2) (x := (w, (num a st).2, -1))
    exact ⟨by show (ins _ _).length ≤ _; omega, by show (num a st).1.1.length ≤ _; omega⟩
  | .t2 w a b, st => by
    rw [num, rcnt]
    by_cases c : w ∈ cmpW
    · rw [if_pos c, if_pos c]
      exact ⟨ins_len, ins_len⟩
    · rw [if_neg c, if_neg c]
      obtain ⟨h1, h2⟩ := num_len a st
      obtain ⟨h3, h4⟩ := num_len b (num a st).1
      have := ins_len (l := (num b (num a st).1).1.2) (x := (w, (num a st).2, (num b (num a st).1).2))
      exact ⟨by show (ins _ _).length ≤ _; omega, by show (num b (num a st).1).1.1.length ≤ _; omega⟩
/-- what the facts and rows are made of -/
structure StsOk (st : Sts) : Prop where
  f : ∀ a ∈ st.1, txt a = true ∧ dep a ≤ 60
  r : ∀ r ∈ st.2, PyData.strOk r.1 = true
theorem putR_ok {st : Sts} {r : Rwt} (h : StsOk st) (hr : PyData.strOk r.1 = true) : StsOk (putR st r).1 := ⟨h.f, fun x m => (ins_or m).elim (h.r x) fun e => e ▸ hr⟩
theorem num_ok : ∀ (t : Fml) (st : Sts), txt t = true → dep t ≤ 60 → StsOk st → StsOk (num t st).1
  | .s _, st, _, _, h => h
  | .i _, st, _, _, h => h
  | .t0 w, st, ht, _, h => putR_ok h ht
  | .t1 w a, st, ht, hd, h => by
    rw [txt, Bool.and_eq_true] at ht
    rw [dep] at hd
    exact putR_ok (num_ok a st ht.2 (by omega) h) ht.1
  | .t2 w a b, st, ht, hd, h => by
    have ht0 := ht
    have hd0 := hd
    rw [txt, Bool.and_eq_true, Bool.and_eq_true] at ht
    rw [dep] at hd
    rw [num]
    by_cases c : w ∈ cmpW
    · rw [if_pos c]
      exact putR_ok ⟨fun x m => (ins_or m).elim (h.f x) fun e => e ▸ ⟨ht0, hd0⟩, h.r⟩ (show PyData.strOk "fact" = true by decide +kernel)
    · rw [if_neg c]
      exact putR_ok (num_ok b _ ht.2.2 (by omega) (num_ok a st ht.2.1 (by omega) h)) ht.1
end Fo

namespace Lw
open PySem PySem.Spec PyProof.Rows L2 Dv Fo
def topS (i : Nat) : Stmt := PySem.Challenge.pw_lassoproof_k90_branching_rows.main.body.getD i (.Pass ⟨0, 0, 0, 0⟩)
def plainW : List Str := ["true", "false", "fact", "not", "and", "or", "implies", "same"]
structure Txt (K : PySem.W.Frag) (mg : Str → Option Value) : Prop where
  len : mg "len" = none
  range : mg "range" = none
  int : mg "int" = none
  str : mg "str" = none
  list : mg "list" = none
  tuple : mg "tuple" = none
  bool : mg "bool" = none
  isinstance : mg "isinstance" = none
  abs : mg "abs" = none
  enumerate : mg "enumerate" = none
  PLAIN : ∃ a, mg "PLAIN" = some (.ref a) ∧ KTup K a plainW
  COMPARISONS : ∃ a, mg "COMPARISONS" = some (.ref a) ∧ KTup K a cmpW
/-- the class of rows, the class that gathers them -/
structure Rws (K : PySem.W.Frag) (mg : Str → Option Value) (C : Addr) : Prop where
  cl : Cls K C
  is : IsiC K C
  gl : mg "Rows" = some (.ref C)
  nF : NoAttr K C "facts"
  nR : NoAttr K C "rows"
  nT : NoAttr K C "temporal"
structure Bk (K : PySem.W.Frag) (mg : Str → Option Value) (C : Addr) : Prop where
  cl : Cls K C
  nF : NoAttr K C "facts"
  nR : NoAttr K C "rows"
  nN : NoAttr K C "_numbers"
abbrev s_Rows : Stmt := inClass (topS 3) 0
abbrev s_RowBook : Stmt := inClass (topS 4) 0
abbrev s_put : Stmt := inClass (topS 4) 1
abbrev s_put_fact : Stmt := inClass (topS 4) 2
abbrev s_put_formula : Stmt := inClass (topS 4) 3
abbrev s_number_rows : Stmt := topS 5
abbrev s_number_branches : Stmt := topS 7
end Lw

namespace Lw
open PySem PySem.Spec PyProof.Rows L2 Dv Fo
theorem sz6 {n : Nat} (h : n ≤ 1000000) : n ≤ sizeLine := Nat.le_trans h (by decide)
theorem sz6' {n : Nat} (h : n ≤ 1000000) : n < sizeLine := Nat.lt_of_le_of_lt h (by decide)
def bkO (C : Addr) (a b c : OT) : OT := .obj C [("facts", a), ("rows", b), ("_numbers", c)]
def bkT (C : Addr) (fs : List Fml) (rs : List Rwt) : OT := bkO C (.lst ((fs.map inj).map .fz)) (.lst ((rs.map injR).map .fz)) (.dit (fzK (numsOf rs)))
def bkD (C : Addr) (fs : List Fml) (rs : List Rwt) : D := .obj C [("facts", .lst (fs.map inj)), ("rows", .lst (rs.map injR)), ("_numbers", .dit (numsOf rs))]
theorem bk_fr (C : Addr) (fs : List Fml) (rs : List Rwt) : fr (bkT C fs rs) = bkD C fs rs := by
  unfold bkT bkO bkD
  rw [fr, frS, frS, frS, frS, fr_ol, fr_ol, fr_dit]
section
variable {P : Program} {w : World} {K : PySem.W.Frag} {mg : Str → Option Value} {base : Heap}
/-! ### a row is put -/
theorem cs_put : FnScope ["self", "word", "left", "right", "row"] ["self", "word", "left", "right"] (defScope s_put) := ⟨rfl, rfl, rfl, by decide +kernel, rfl, by decide +kernel, by decide +kernel⟩
def S_put (C : Addr) (as as' : List Ar) (r : D) : Prop := ∃ (p : Addr) (fs : List Fml) (rs : List Rwt) (x : Rwt), as = [.t p (bkT C fs rs), .d (.str x.1), .d (.int x.2.1), .d (.int x.2.2)] ∧ as' = [.t p (bkT C fs (ins rs x)), .d (.str x.1), .d (.int x.2.1), .d (.int x.2.2)] ∧ r = .int (at' x (ins rs x) : Nat) ∧ rs.length ≤ 1000000
theorem ok_put {C : Addr} (M : Mdf K C "put" "RowBook.put" s_put ["self", "word", "left", "right"]) (B : Bk K mg C) (T : Txt K mg) : CalM P w K mg base 1 C "put" ["self", "word", "left", "right"] (S_put C) := by
  refine meth_okG B.cl M cs_put (fun as as' r h => ?_) (fun as as' r h => ?_) (fun f cdv A outer s H Hg E as as' r hr h => ?_)
  · obtain ⟨p, fs, rs, x, rfl, _⟩ := h
    rfl
  · obtain ⟨p, fs, rs, x, rfl, rfl, _⟩ := h
    exact sameAr_t (sameAr_d (sameAr_d (sameAr_d sameAr_nil)))
  obtain ⟨p, fs, rs, x, rfl, rfl, rfl, hz⟩ := h
  show Rs _ _ [.slf p (bkT C fs rs), .da (.str x.1), .da (.int x.2.1), .da (.int x.2.2), .un] _ _
  have nd := cs_put.nd
  have get : ∀ rs : List Rwt, DAt (.dit (numsOf rs)) (injR x) (if x ∈ rs then some (.int (at' x rs : Nat)) else none) := fun rs => by
    have z := DAt.t (kvs := numsOf rs) (keys_R x)
    rw [show getKV (numsOf rs) (keyR x) = _ from nums_get, Nat.zero_add] at z
    exact z
  refine rs_set 4 nd (ev_tup (ea_cons (ev_v 1) (ea_cons (ev_v 2) (ea_cons (ev_v 3) ea_nil)))) ?_
  refine rs_if (fun Γ' => Γ' = [.slf p (bkT C fs (ins rs x)), .da (.str x.1), .da (.int x.2.1), .da (.int x.2.2), .da (injR x)]) (et_bor (frz0 (bk_fr C fs rs)) (et_niM (ev_v 4) (ev_fld (ev_v 0) B.cl B.nN rfl) (get rs) hr)) (fun hc => ?_) (fun hc => ?_) (fun Γ' m => ?_)
  · have nx : x ∉ rs := fun m => by
      rw [if_pos m] at hc
      cases hc
    refine rs_dputT (pt_f (pt_v 0) B.cl B.nN rfl) (ev_len T.len (er_p (pt_f (pt_v 0) B.cl B.nR rfl))) (ev_v 4) (keys_R x) ?_ ?hz hr
    case hz =>
      show (numsFrom 0 rs).length < _
      rw [nums_len]
      exact sz6' hz
    rw [List.length_map, nums_put nx]
    show Rs _ _ [.slf p (bkO C (.lst ((fs.map inj).map .fz)) (.lst ((rs.map injR).map .fz)) (.dit (fzK (numsOf (rs ++ [x]))))), .da (.str x.1), .da (.int x.2.1), .da (.int x.2.2), .da (injR x)] _ _
    refine rs_appP (pt_f (pt_v 0) B.cl B.nR rfl) (ev_v 4) ?_ ?hz
    case hz =>
      rw [List.length_map, List.length_map]
      exact sz6' hz
    refine rs_nil ?_
    show _ = _
    unfold ins
    rw [if_neg nx]
    unfold bkT
    rw [List.map_append, List.map_append]
    rfl
  · have hx : x ∈ rs := Classical.byContradiction fun m => by
      rw [if_neg m] at hc
      cases hc
    refine rs_nil ?_
    show _ = _
    unfold ins
    rw [if_pos hx]
    rfl
  subst m
  have g := get (ins rs x)
  rw [if_pos ins_mem] at g
  exact rs_ret (ev_bor (frz0 (bk_fr C fs (ins rs x))) (ev_getM (ev_fld (ev_v 0) B.cl B.nN rfl) (ev_v 4) g hr)) ⟨ends_t (ends_d (ends_d (ends_d ends_nil))), rfl⟩
/-! ### a fact is put -/
theorem cs_put_fact : FnScope ["self", "comparison"] ["self", "comparison"] (defScope s_put_fact) := ⟨rfl, rfl, rfl, by decide +kernel, rfl, by decide +kernel, by decide +kernel⟩
def S_put_fact (C : Addr) (as as' : List Ar) (r : D) : Prop := ∃ (p : Addr) (fs : List Fml) (rs : List Rwt) (a : Fml), as = [.t p (bkT C fs rs), .d (inj a)] ∧ as' = [.t p (bkT C (ins fs a) (ins rs ("fact", (at' a (ins fs a) : Nat), -1))), .d (inj a)] ∧ r = .int (at' (("fact", ((at' a (ins fs a) : Nat) : Int), -1) : Rwt) (ins rs ("fact", (at' a (ins fs a) : Nat), -1)) : Nat) ∧
  rs.length ≤ 1000000 ∧ fs.length ≤ 1000000 ∧ (∀ b ∈ fs, txt b = true ∧ dep b ≤ 60) ∧ txt a = true ∧ dep a ≤ 60
theorem ok_put_fact {C : Addr} (M : Mdf K C "put_fact" "RowBook.put_fact" s_put_fact ["self", "comparison"]) (B : Bk K mg C) (T : Txt K mg) (Cput : CalM P w K mg base 1 C "put" ["self", "word", "left", "right"] (S_put C)) : CalM P w K mg base 2 C "put_fact" ["self", "comparison"] (S_put_fact C) := by
  refine meth_okG B.cl M cs_put_fact (fun as as' r h => ?_) (fun as as' r h => ?_) (fun f cdv A outer s H Hg E as as' r hr h => ?_)
  · obtain ⟨p, fs, rs, x, rfl, _⟩ := h
    rfl
  · obtain ⟨p, fs, rs, x, rfl, rfl, _⟩ := h
    exact sameAr_t (sameAr_d sameAr_nil)
  obtain ⟨p, fs, rs, a, rfl, rfl, rfl, hz, hz2, hf, ha, hd⟩ := h
  show Rs _ _ [.slf p (bkT C fs rs), .da (inj a)] _ _
  have nd := cs_put_fact.nd
  have okA : okA (fs.map inj) 63 = true := okA_inj fun b m => ⟨(hf b m).1, Nat.le_trans (hf b m).2 (by decide)⟩
  have okd : okD (inj a) 64 = true := ok_inj a 64 ha (by omega)
  have hf' : ∀ b ∈ ins fs a, txt b = true ∧ dep b ≤ 60 := fun b m => (ins_or m).elim (hf b) fun e => e ▸ ⟨ha, hd⟩
  have okA' : Dv.okA ((ins fs a).map inj) 63 = true := okA_inj fun b m => ⟨(hf' b m).1, Nat.le_trans (hf' b m).2 (by decide)⟩
  refine rs_if (fun Γ' => Γ' = [.slf p (bkT C (ins fs a) rs), .da (inj a)]) (et_c (ec_niD (ev_v 1) (er_p (pt_f (pt_v 0) B.cl B.nF rfl)) okd okA hr)) (fun hc => ?_) (fun hc => ?_) (fun Γ' m => ?_)
  · rw [any_inj ⟨ha, by omega⟩, Bool.not_eq_true', decide_eq_false_iff_not] at hc
    refine rs_appP (pt_f (pt_v 0) B.cl B.nF rfl) (ev_v 1) ?_ ?hz
    case hz =>
      rw [List.length_map, List.length_map]
      exact sz6' hz2
    refine rs_nil ?_
    show _ = _
    unfold ins
    rw [if_neg hc]
    unfold bkT
    rw [List.map_append, List.map_append]
    rfl
  · rw [any_inj ⟨ha, by omega⟩, Bool.not_eq_false', decide_eq_true_eq] at hc
    refine rs_nil ?_
    show _ = _
    unfold ins
    rw [if_pos hc]
  subst m
  have hm : a ∈ ins fs a := ins_mem
  refine rs_retM (em_meth1 0 (t' := bkT C (ins fs a) (ins rs ("fact", (at' a (ins fs a) : Nat), -1))) (ds := [.str "fact", .int (at' a (ins fs a) : Nat), .int (-1)]) Cput hr (ma_ev ev_s (ma_ev (ev_index (er_p (pt_f (pt_v 0) B.cl B.nF rfl)) (ev_v 1) okd okA' hr (z := inj a) ?h1 (eqv_self okd) ?h2) (ma_ev (ev_neg ev_i) ma_nil))) (fun p0 => ⟨p0, ins fs a, rs, ("fact", (at' a (ins fs a) : Nat), -1), rfl, rfl, rfl, hz⟩) rfl rfl rfl) ⟨ends_t (ends_d ends_nil), rfl⟩
  case h1 => rw [List.getElem?_map, at_get hm, Option.map_some]
  case h2 =>
    intro m z' hlt e
    rw [List.getElem?_map] at e
    cases q : (ins fs a)[m]? with
    | none => rw [q] at e; cases e
    | some b =>
      rw [q] at e
      cases e
      have ne := at_ne hlt q
      cases z : PyData.eqv (toPy (inj b)) (toPy (inj a)) with
      | false => rfl
      | true => exact absurd (inj_inj (eqv_pl _ _ (pl_inj b) (pl_inj a) z)) ne
/-! ### a formula is put -/
theorem cs_put_formula : FnScope ["self", "formula", "word", "left", "right"] ["self", "formula"] (defScope s_put_formula) := ⟨rfl, rfl, rfl, by decide +kernel, rfl, by decide +kernel, by decide +kernel⟩
def S_put_formula (C : Addr) (n : Nat) (as as' : List Ar) (r : D) : Prop := ∃ (p : Addr) (st : Sts) (t : Fml), as = [.t p (bkT C st.1 st.2), .d (inj t)] ∧ as' = [.t p (bkT C (num t st).1.1 (num t st).1.2), .d (inj t)] ∧ r = .int (num t st).2 ∧
  StsOk st ∧ Wf t ∧ txt t = true ∧ dep t ≤ 60 ∧ dep t ≤ n ∧ st.2.length + rcnt t ≤ 1000000 ∧ st.1.length + rcnt t ≤ 1000000
theorem cmp_ne {w : Str} (h : w ∈ cmpW) : w ≠ "true" ∧ w ≠ "false" := by
  have e : ("equal" : Str) ≠ "true" ∧ ("equal" : Str) ≠ "false" ∧ ("below" : Str) ≠ "true" ∧ ("below" : Str) ≠ "false" ∧ ("upto" : Str) ≠ "true" ∧ ("upto" : Str) ≠ "false" := by decide +kernel
  unfold cmpW at h
  simp only [List.mem_cons, List.not_mem_nil, or_false] at h
  rcases h with h | h | h <;> subst h
  · exact ⟨e.1, e.2.1⟩
  · exact ⟨e.2.2.1, e.2.2.2.1⟩
  · exact ⟨e.2.2.2.2.1, e.2.2.2.2.2⟩
theorem tf_cmp {w : Str} (h : w = "true" ∨ w = "false") : w ∉ cmpW := fun m => by
  have := cmp_ne m
  rcases h with h | h
  · exact this.1 h
  · exact this.2 h
theorem ok_put_formula {C : Addr} (M : Mdf K C "put_formula" "RowBook.put_formula" s_put_formula ["self", "formula"]) (B : Bk K mg C) (T : Txt K mg) (Cput : CalM P w K mg base 1 C "put" ["self", "word", "left", "right"] (S_put C))
    (Cfact : CalM P w K mg base 2 C "put_fact" ["self", "comparison"] (S_put_fact C)) : ∀ n, CalM P w K mg base (n + 3) C "put_formula" ["self", "formula"] (S_put_formula C n) := by
  intro n
  induction n with
  | zero =>
    refine meth_okG B.cl M cs_put_formula (fun as as' r h => ?_) (fun as as' r h => ?_) (fun f cdv A outer s H Hg E as as' r hr h => ?_)
    · obtain ⟨p, st, t, rfl, _⟩ := h
      rfl
    · obtain ⟨p, st, t, rfl, rfl, _⟩ := h
      exact sameAr_t (sameAr_d sameAr_nil)
    obtain ⟨p, st, t, rfl, rfl, rfl, h1, h2, h3, h4, h5, _⟩ := h
    exfalso
    cases t with
    | s _ => exact h2
    | i _ => exact h2
    | t0 _ => cases h5
    | t1 _ _ => cases h5
    | t2 _ _ _ => cases h5
  | succ n ih =>
    refine meth_okG B.cl M cs_put_formula (fun as as' r h => ?_) (fun as as' r h => ?_) (fun f cdv A outer s H Hg E as as' r hr h => ?_)
    · obtain ⟨p, st, t, rfl, _⟩ := h
      rfl
    · obtain ⟨p, st, t, rfl, rfl, _⟩ := h
      exact sameAr_t (sameAr_d sameAr_nil)
    obtain ⟨p, st, t, rfl, rfl, rfl, h1, h2, h3, h4, h5, h6, h7⟩ := h
    show Rs _ _ [.slf p (bkT C st.1 st.2), .da (inj t), .un, .un, .un] _ _
    have nd := cs_put_formula.nd
    obtain ⟨aC, hC, kC⟩ := T.COMPARISONS
    cases t with
    | s _ => exact h2.elim
    | i _ => exact h2.elim
    | t0 w =>
      have h2 : w = "true" ∨ w = "false" := h2
      refine rs_set 2 nd (ev_ixT (ev_v 1) ev_i (d := .str w) rfl) ?_
      refine rs_if1 (et_w (ew_or (et_c (ec_eqS (ev_v 2) ev_s)) (fun _ => (ew_or1 (et_c (ec_eqS (ev_v 2) ev_s)))))) (fun hc => ?_) (fun hc => ?_)
      · exact rs_retM (em_meth1 0 (t' := bkT C st.1 (ins st.2 (w, -1, -1))) (ds := [.str w, .int (-1), .int (-1)]) Cput (hr.mono (by omega)) (ma_ev (ev_v 2) (ma_ev (ev_neg ev_i) (ma_ev (ev_neg ev_i) ma_nil))) (fun p0 => ⟨p0, st.1, st.2, (w, -1, -1), rfl, rfl, rfl, by have := h6; omega⟩) rfl rfl rfl) ⟨ends_t (ends_d ends_nil), rfl⟩
      · exfalso
        rw [Bool.or_eq_false_iff, decide_eq_false_iff_not, decide_eq_false_iff_not] at hc
        exact h2.elim hc.1 hc.2
    | t1 w a =>
      obtain ⟨g1, g2, g3, g4⟩ := (show w ∉ cmpW ∧ w ≠ "true" ∧ w ≠ "false" ∧ Wf a from h2)
      rw [txt, Bool.and_eq_true] at h3
      rw [dep] at h4 h5
      rw [rcnt] at h6 h7
      refine rs_set 2 nd (ev_ixT (ev_v 1) ev_i (d := .str w) rfl) ?_
      refine rs_if1 (et_w (ew_or (et_c (ec_eqS (ev_v 2) ev_s)) (fun _ => (ew_or1 (et_c (ec_eqS (ev_v 2) ev_s)))))) (fun hc => ?_) (fun hc => ?_)
      · exfalso
        rw [Bool.or_eq_true, decide_eq_true_eq, decide_eq_true_eq] at hc
        exact hc.elim g2 g3
      refine rs_if1 (et_c (ec_inK kC hC (ev_v 2))) (fun hc => ?_) (fun _ => ?_)
      · exact absurd (of_decide_eq_true hc) g1
      have l1 := num_len a st
      refine rs_setM 3 nd (em_meth1 0 (t' := bkT C (num a st).1.1 (num a st).1.2) (ds := [inj a]) ih (hr.mono (by omega)) (ma_ev (ev_ixT (ev_v 1) ev_i (d := inj a) rfl) ma_nil) (fun p0 => ⟨p0, st, a, rfl, rfl, rfl, h1, g4, h3.2, by omega, by omega, by omega, by omega⟩) rfl rfl rfl) ?_
      refine rs_set 4 nd (ev_neg ev_i) ?_
      refine rs_if1 (et_c (ec_eqI (ev_lenT T.len (ev_v 1)) ev_i)) (fun hc => ?_) (fun _ => ?_)
      · exact absurd (of_decide_eq_true hc) (show ¬ ((2 : Nat) : Int) = 3 by decide)
      exact rs_retM (em_meth1 0 (t' := bkT C (num a st).1.1 (ins (num a st).1.2 (w, (num a st).2, -1))) (ds := [.str w, .int (num a st).2, .int (-1)]) Cput (hr.mono (by omega)) (ma_ev (ev_v 2) (ma_ev (ev_v 3) (ma_ev (ev_v 4) ma_nil))) (fun p0 => ⟨p0, (num a st).1.1, (num a st).1.2, (w, (num a st).2, -1), rfl, rfl, rfl, by omega⟩) rfl rfl rfl) ⟨ends_t (ends_d ends_nil), rfl⟩
    | t2 w a b =>
      have h2' : w ∈ cmpW ∨ (w ∉ cmpW ∧ w ≠ "true" ∧ w ≠ "false" ∧ Wf a ∧ Wf b) := h2
      refine rs_set 2 nd (ev_ixT (ev_v 1) ev_i (d := .str w) rfl) ?_
      by_cases c : w ∈ cmpW
      · obtain ⟨g2, g3⟩ := cmp_ne c
        have e0 : num (.t2 w a b) st = putR (ins st.1 (.t2 w a b), st.2) ("fact", (at' (.t2 w a b) (ins st.1 (.t2 w a b)) : Nat), -1) := by rw [num, if_pos c]
        rw [show rcnt (.t2 w a b) = 1 by rw [rcnt, if_pos c]] at h6 h7
        refine rs_if1 (et_w (ew_or (et_c (ec_eqS (ev_v 2) ev_s)) (fun _ => (ew_or1 (et_c (ec_eqS (ev_v 2) ev_s)))))) (fun hc => ?_) (fun hc => ?_)
        · exfalso
          rw [Bool.or_eq_true, decide_eq_true_eq, decide_eq_true_eq] at hc
          exact hc.elim g2 g3
        refine rs_if1 (et_c (ec_inK kC hC (ev_v 2))) (fun _ => ?_) (fun hc => ?_)
        · rw [e0]
          exact rs_retM (em_meth1 0 (ds := [inj (.t2 w a b)]) Cfact (hr.mono (by omega)) (ma_ev (ev_v 1) ma_nil) (fun p0 => ⟨p0, st.1, st.2, .t2 w a b, rfl, rfl, rfl, by omega, by omega, h1.f, h3, h4⟩) rfl rfl rfl) ⟨ends_t (ends_d ends_nil), rfl⟩
        · exact absurd c (of_decide_eq_false hc)
      · obtain ⟨g1, g2, g3, g4, g5⟩ := h2'.resolve_left c
        have e0 : num (.t2 w a b) st = putR (num b (num a st).1).1 (w, (num a st).2, (num b (num a st).1).2) := by rw [num, if_neg c]
        rw [show rcnt (.t2 w a b) = rcnt a + rcnt b + 1 by rw [rcnt, if_neg c]] at h6 h7
        rw [txt, Bool.and_eq_true, Bool.and_eq_true] at h3
        rw [dep] at h4 h5
        refine rs_if1 (et_w (ew_or (et_c (ec_eqS (ev_v 2) ev_s)) (fun _ => (ew_or1 (et_c (ec_eqS (ev_v 2) ev_s)))))) (fun hc => ?_) (fun hc => ?_)
        · exfalso
          rw [Bool.or_eq_true, decide_eq_true_eq, decide_eq_true_eq] at hc
          exact hc.elim g2 g3
        refine rs_if1 (et_c (ec_inK kC hC (ev_v 2))) (fun hc => ?_) (fun _ => ?_)
        · exact absurd (of_decide_eq_true hc) c
        have l1 := num_len a st
        have l2 := num_len b (num a st).1
        have o1 := num_ok a st h3.2.1 (by omega) h1
        refine rs_setM 3 nd (em_meth1 0 (t' := bkT C (num a st).1.1 (num a st).1.2) (ds := [inj a]) ih (hr.mono (by omega)) (ma_ev (ev_ixT (ev_v 1) ev_i (d := inj a) rfl) ma_nil) (fun p0 => ⟨p0, st, a, rfl, rfl, rfl, h1, g4, h3.2.1, by omega, by omega, by omega, by omega⟩) rfl rfl rfl) ?_
        refine rs_set 4 nd (ev_neg ev_i) ?_
        refine rs_if (fun Γ' => Γ' = [.slf p (bkT C (num b (num a st).1).1.1 (num b (num a st).1).1.2), .da (inj (.t2 w a b)), .da (.str w), .da (.int (num a st).2), .da (.int (num b (num a st).1).2)]) (et_c (ec_eqI (ev_lenT T.len (ev_v 1)) ev_i)) (fun _ => ?_) (fun hc => ?_) (fun Γ' m => ?_)
        · refine rs_setM 4 nd (em_meth1 0 (t' := bkT C (num b (num a st).1).1.1 (num b (num a st).1).1.2) (ds := [inj b]) ih (hr.mono (by omega)) (ma_ev (ev_ixT (ev_v 1) ev_i (d := inj b) rfl) ma_nil) (fun p0 => ⟨p0, (num a st).1, b, rfl, rfl, rfl, o1, g5, h3.2.2, by omega, by omega, by omega, by omega⟩) rfl rfl rfl) ?_
          exact rs_nil rfl
        · exact absurd (show ((3 : Nat) : Int) = 3 by decide) (of_decide_eq_false hc)
        subst m
        rw [e0]
        exact rs_retM (em_meth1 0 (t' := bkT C (num b (num a st).1).1.1 (ins (num b (num a st).1).1.2 (w, (num a st).2, (num b (num a st).1).2))) (ds := [.str w, .int (num a st).2, .int (num b (num a st).1).2]) Cput (hr.mono (by omega)) (ma_ev (ev_v 2) (ma_ev (ev_v 3) (ma_ev (ev_v 4) ma_nil))) (fun p0 => ⟨p0, _, _, (w, (num a st).2, (num b (num a st).1).2), rfl, rfl, rfl, by omega⟩) rfl rfl rfl) ⟨ends_t (ends_d ends_nil), rfl⟩
end
end Lw

namespace Lw
open PySem PySem.Spec PyProof.Rows L2 Dv Fo
theorem putT_nil {f : Str} {t : OT} : putT f t [] = [(f, t)] := rfl
theorem putT_ne {f g : Str} {t x : OT} {r : List (Str × OT)} (h : (g == f) = false) : putT f t ((g, x) :: r) = (g, x) :: putT f t r := if_neg fun z => by rw [z, beq_self_eq_true] at h; cases h
theorem putT_eq {f : Str} {t x : OT} {r : List (Str × OT)} : putT f t ((f, x) :: r) = (f, t) :: r := if_pos rfl
/-- the numbers of the rows with other words -/
def temps (rs : List Rwt) : List Nat := (List.range rs.length).filter fun i => !decide ((rs.getD i ("", 0, 0)).1 ∈ plainW)
def rowsT (C : Addr) (fs : List Fml) (rs : List Rwt) : OT := .obj C [("facts", .lst ((fs.map inj).map .fz)), ("rows", .lst ((rs.map injR).map .fz)), ("temporal", .lst (((temps rs).map fun i => D.int (i : Nat)).map .fz))]
def rowsD (C : Addr) (fs : List Fml) (rs : List Rwt) : D := .obj C [("facts", .lst (fs.map inj)), ("rows", .lst (rs.map injR)), ("temporal", .lst ((temps rs).map fun i => D.int (i : Nat)))]
theorem rows_fr (C : Addr) (fs : List Fml) (rs : List Rwt) : fr (rowsT C fs rs) = rowsD C fs rs := by
  unfold rowsT rowsD
  rw [fr, frS, frS, frS, frS, fr_ol, fr_ol, fr_ol]
theorem tupDA_map {α : Type} {f : α → D} (h : ∀ a, tupD (f a) = true) : ∀ l : List α, tupDA (l.map f) = true
  | [] => by rw [List.map_nil, tupDA]
  | a :: l => by rw [List.map_cons, tupDA, h a, tupDA_map h l]; rfl
theorem rows_lv (C : Addr) (fs : List Fml) (rs : List Rwt) : lvT (rowsT C fs rs) = true := by
  unfold rowsT
  rw [lvT, lvS, lvS, lvS, lvS, lvT, lvT, lvT, lvA_fz (tupDA_map tup_inj fs), lvA_fz (tupDA_map tupR rs), lvA_fz (tupDA_map (fun i => by rw [tupD]) (temps rs))]
  rfl
section
variable {P : Program} {w : World} {K : PySem.W.Frag} {mg : Str → Option Value} {base : Heap}
/-! ### Rows made -/
theorem cs_Rows : FnScope ["self", "facts", "rows", "number", "row"] ["self", "facts", "rows"] (defScope s_Rows) := ⟨rfl, rfl, rfl, by decide +kernel, rfl, by decide +kernel, by decide +kernel⟩
def Ss_Rows (C : Addr) (t : OT) (ds : List D) (t' : OT) (r : D) : Prop := ∃ (fs : List Fml) (rs : List Rwt), t = .obj C [] ∧ ds = [.lst (fs.map inj), .lst (rs.map injR)] ∧ t' = rowsT C fs rs ∧ r = .non ∧ rs.length ≤ 1000000
theorem oks_Rows {C f : Addr} {fd : FuncData} (F : Fun K "__init__" "Rows.__init__" s_Rows f fd) (V : Rws K mg C) (T : Txt K mg) : FnOk P w K mg base CX0 1 f fd ["self", "facts", "rows"] (SpM K (Ss_Rows C)) := by
  refine fn_okM F cs_Rows (fun t ds t' r h => ?_) (fun cdv A outer s H Hg E p t ds t' r hr h => ?_)
  · obtain ⟨xs, ys, _, rfl, _⟩ := h
    rfl
  obtain ⟨fs, rs, rfl, rfl, rfl, rfl, hz⟩ := h
  show Rs _ _ [.slf p (.obj C []), .da (.lst (fs.map inj)), .da (.lst (rs.map injR)), .un, .un] _ _
  have nd := cs_Rows.nd
  obtain ⟨aP, hP, kP⟩ := T.PLAIN
  have n1 : (("facts" : Str) == "rows") = false := by decide +kernel
  have n2 : (("facts" : Str) == "temporal") = false := by decide +kernel
  have n3 : (("rows" : Str) == "temporal") = false := by decide +kernel
  have hd : ∀ y ∈ List.range (rs.map injR).length, (rs.map injR).getD y .non = D.tup [.str (rs.getD y ("", 0, 0)).1, .int (rs.getD y ("", 0, 0)).2.1, .int (rs.getD y ("", 0, 0)).2.2] := by
    intro y hy
    have hy' : y < rs.length := by
      have := List.mem_range.mp hy
      rwa [List.length_map] at this
    rw [List.getD_eq_getElem?_getD, List.getElem?_map, List.getD_eq_getElem?_getD, show rs[y]? = some rs[y] by simp [hy']]
    rfl
  refine rs_fld 0 (en_o (eo_listL T.list (er_d (ev_v 1)))) V.cl V.nF ?_
  rw [putT_nil]
  refine rs_fld 0 (en_o (eo_listL T.list (er_d (ev_v 2)))) V.cl V.nR ?_
  rw [putT_ne n1, putT_nil]
  refine rs_fld 0 (t := .lst (((temps rs).map fun i => D.int (i : Nat)).map .fz)) (en_eq (en_lc2 (ys := List.range (rs.map injR).length) (d1 := fun i => .int (i : Nat)) (d2 := fun i => (rs.map injR).getD i .non) (p := fun i => !decide ((rs.getD i ("", 0, 0)).1 ∈ plainW)) (f := fun i => .fz (.int (i : Nat))) 3 4 (by decide) rfl nd (ei_en T.enumerate (ev_v 2))
    (blkOk_by (own := [("number", 3), ("row", 4)]) (N := ["self", "facts", "rows", "number", "row"]) (sc := defScope s_Rows) (by decide +kernel)) ?hz (fun _ _ _ _ _ => pg_name (i := 3) nd rfl (Or.inl rfl)) (fun _ _ _ _ _ => pg_name (i := 4) nd rfl (Or.inl rfl))
    (fun y hy _ _ _ _ _ => pts_1 (et_c (ec_niK kP hP (ev_ixT (xs := [.str (rs.getD y ("", 0, 0)).1, .int (rs.getD y ("", 0, 0)).2.1, .int (rs.getD y ("", 0, 0)).2.2]) (ev_eq (ev_v 4) (hd y hy)) ev_i (d := .str (rs.getD y ("", 0, 0)).1) rfl)))) (fun y hy _ _ _ _ _ _ => en_d (ev_v 3))) ?he) V.cl V.nT ?_
  case hz =>
    rw [List.length_range, List.length_map]
    exact sz6 hz
  case he =>
    unfold temps
    rw [List.length_map, List.map_map]
    rfl
  rw [putT_ne n2, putT_ne n3, putT_nil]
  exact rs_nil ⟨rfl, rfl⟩
/-! ### a row book made -/
theorem cs_RowBook : FnScope ["self"] ["self"] (defScope s_RowBook) := ⟨rfl, rfl, rfl, by decide +kernel, rfl, by decide +kernel, by decide +kernel⟩
def Ss_RowBook (C : Addr) (t : OT) (ds : List D) (t' : OT) (r : D) : Prop := t = .obj C [] ∧ ds = [] ∧ t' = bkT C [] [] ∧ r = .non
theorem oks_RowBook {C f : Addr} {fd : FuncData} (F : Fun K "__init__" "RowBook.__init__" s_RowBook f fd) (B : Bk K mg C) : FnOk P w K mg base CX0 1 f fd ["self"] (SpM K (Ss_RowBook C)) := by
  refine fn_okM F cs_RowBook (fun t ds t' r h => ?_) (fun cdv A outer s H Hg E p t ds t' r hr h => ?_)
  · obtain ⟨_, rfl, _⟩ := h
    rfl
  obtain ⟨rfl, rfl, rfl, rfl⟩ := h
  show Rs _ _ [.slf p (.obj C [])] _ _
  have n1 : (("facts" : Str) == "rows") = false := by decide +kernel
  have n2 : (("facts" : Str) == "_numbers") = false := by decide +kernel
  have n3 : (("rows" : Str) == "_numbers") = false := by decide +kernel
  refine rs_fld 0 (en_o (eo_lst ea_nil)) B.cl B.nF ?_
  rw [putT_nil]
  refine rs_fld 0 (en_o (eo_lst ea_nil)) B.cl B.nR ?_
  rw [putT_ne n1, putT_nil]
  refine rs_fld 0 en_dictT B.cl B.nN ?_
  rw [putT_ne n2, putT_ne n3, putT_nil]
  exact rs_nil ⟨rfl, rfl⟩
/-! ### the rows of a formula -/
def stOf (t : Fml) : Sts := (num t ([], [])).1
theorem cs_number_rows : FnScope ["formula", "book"] ["formula"] (defScope s_number_rows) := ⟨rfl, rfl, rfl, by decide +kernel, rfl, by decide +kernel, by decide +kernel⟩
/-- formulas that are handed in -/
structure Fok (t : Fml) : Prop where
  wf : Wf t
  tx : txt t = true
  dp : dep t ≤ 60
  ct : rcnt t ≤ 1000000
theorem ok0 : StsOk ([], []) := ⟨fun a m => (nomatch m), fun a m => (nomatch m)⟩
def Ss_number_rows (C : Addr) (ds : List D) (t' : OT) : Prop := ∃ t : Fml, ds = [inj t] ∧ Fok t ∧ t' = rowsT C (stOf t).1 (stOf t).2
theorem ok_number_rows {C B : Addr} (Df : Dfn K mg "number_rows" s_number_rows ["formula"]) (MR : Mak P w K mg base 1 "Rows" C ["self", "facts", "rows"] (Ss_Rows C)) (MB : Mak P w K mg base 1 "RowBook" B ["self"] (Ss_RowBook B)) (Bc : Bk K mg B)
    (Cpf : CalM P w K mg base 63 B "put_formula" ["self", "formula"] (S_put_formula B 60)) : CalN P w K mg base 64 "number_rows" ["formula"] (Ss_number_rows C) := by
  refine cal_okN Df cs_number_rows (fun ds t h => ?_) (fun f cdv A outer s H E ds t' hr h => ?_)
  · obtain ⟨t, rfl, _⟩ := h
    rfl
  obtain ⟨t, rfl, ok, rfl⟩ := h
  show Rs _ _ [.da (inj t), .un] _ _
  have nd := cs_number_rows.nd
  have l := num_len t ([], [])
  have hc := ok.ct
  have hl : (stOf t).2.length ≤ 1000000 := by
    have := l.1
    simp only [List.length_nil] at this
    show (num t ([], [])).1.2.length ≤ _
    omega
  refine rs_setN 1 nd (en_make0 MB (hr.mono (by decide)) ⟨rfl, rfl, rfl, rfl⟩) ?_
  refine rs_exM (em_meth1 1 (t' := bkT B (stOf t).1 (stOf t).2) (ds := [inj t]) Cpf hr (ma_ev (ev_v 0) ma_nil) (fun p0 => ⟨p0, ([], []), t, rfl, rfl, rfl, ok0, ok.wf, ok.tx, ok.dp, ok.dp, by simp; exact hc, by simp; exact hc⟩) rfl rfl rfl) ?_
  have z : Frz [.da (inj t), .ow (bkT B (stOf t).1 (stOf t).2)] [.da (inj t), .da (bkD B (stOf t).1 (stOf t).2)] := .sm (.fz (bk_fr _ _ _) .nil)
  exact rs_retT (en_bor z (en_make MR (hr.mono (by decide)) (ea_cons (ev_fld (ev_v 1) Bc.cl Bc.nF rfl) (ea_cons (ev_fld (ev_v 1) Bc.cl Bc.nR rfl) ea_nil)) ⟨_, _, rfl, rfl, rfl, rfl, hl⟩) (rows_lv _ _ _)) rfl
theorem cs_number_branches : FnScope ["formula"] ["formula"] (defScope s_number_branches) := ⟨rfl, rfl, rfl, by decide +kernel, rfl, by decide +kernel, by decide +kernel⟩
theorem ok_number_branches {C : Addr} (Df : Dfn K mg "number_branches" s_number_branches ["formula"]) (Cn : CalN P w K mg base 64 "number_rows" ["formula"] (Ss_number_rows C)) : CalN P w K mg base 65 "number_branches" ["formula"] (Ss_number_rows C) := by
  refine cal_okN Df cs_number_branches (fun ds t h => ?_) (fun f cdv A outer s H E ds t' hr h => ?_)
  · obtain ⟨t, rfl, _⟩ := h
    rfl
  obtain ⟨t, rfl, ok, rfl⟩ := h
  show Rs _ _ [.da (inj t)] _ _
  exact rs_retT (en_cal Cn hr (ea_cons (ev_v 0) ea_nil) ⟨t, rfl, ok, rfl⟩) rfl
end
end Lw

namespace Lw
open PySem PySem.Spec PyProof.Rows L2 Dv Fo Tx
/-! ### words and parts -/
def wd : Fml → Str
  | .t0 w => w
  | .t1 w _ => w
  | .t2 w _ _ => w
  | _ => ""
def ags : Fml → List Fml
  | .t1 _ a => [a]
  | .t2 _ a b => [a, b]
  | _ => []
def isT : Fml → Bool
  | .s _ => false
  | .i _ => false
  | _ => true
theorem inj_tup {t : Fml} (h : isT t = true) : inj t = .tup (.str (wd t) :: (ags t).map inj) := by
  cases t <;> first | rfl | cases h
theorem wf_t {t : Fml} (h : Wf t) : isT t = true := by
  cases t <;> first | rfl | exact h.elim
/-! ### names -/
def NOk : Fml → Prop
  | .s _ => True
  | .i _ => True
  | .t0 w => w ≠ "name"
  | .t1 w a => (w = "name" ∧ ∃ x, a = .s x) ∨ (w ≠ "name" ∧ NOk a)
  | .t2 w a b => w ≠ "name" ∧ NOk a ∧ NOk b
def seqN : Fml → List Str
  | .t1 w a => if w = "name" then (match a with
    | .s x => [x]
    | _ => []) else seqN a
  | .t2 _ a b => seqN a ++ seqN b
  | _ => []
def addN (ns : List Str) (l : List Str) : List Str := l.foldl ins ns
theorem addN_app (ns l m : List Str) : addN ns (l ++ m) = addN (addN ns l) m := List.foldl_append
theorem addN_mem {x : Str} : ∀ {l ns : List Str}, x ∈ addN ns l ↔ x ∈ ns ∨ x ∈ l
  | [], ns => by simp [addN]
  | y :: l, ns => by
    show x ∈ addN (ins ns y) l ↔ _
    rw [addN_mem]
    constructor
    · rintro (h | h)
      · rcases ins_or h with h | h
        · exact .inl h
        · exact .inr (h ▸ List.mem_cons_self)
      · exact .inr (List.mem_cons_of_mem _ h)
    · rintro (h | h)
      · exact .inl (ins_sub h)
      · rcases List.mem_cons.mp h with h | h
        · exact .inl (h ▸ ins_mem)
        · exact .inr h
theorem addN_same {x : Str} {ns : List Str} (h : x ∈ ns) : ins ns x = ns := if_pos h
theorem addN_skip {ns : List Str} : ∀ {l : List Str}, (∀ x ∈ l, x ∈ ns) → addN ns l = ns
  | [], _ => rfl
  | y :: l, h => by
    show addN (ins ns y) l = ns
    rw [addN_same (h y List.mem_cons_self)]
    exact addN_skip fun x m => h x (List.mem_cons_of_mem _ m)
/-- what is gathered once is gathered again -/
theorem addN_again (ns : List Str) : ∀ (l m : List Str), addN ns (addN m l) = addN (addN ns m) l
  | [], _ => rfl
  | y :: l, m => by
    show addN ns (addN (ins m y) l) = addN (ins (addN ns m) y) l
    rw [addN_again ns l (ins m y)]
    congr 1
    unfold ins
    by_cases h : y ∈ m
    · rw [if_pos h, if_pos (addN_mem.mpr (.inr h))]
    · rw [if_neg h, addN_app]
      show ins (addN ns m) y = _
      rfl
theorem addN_nil (ns l : List Str) : addN ns (addN [] l) = addN ns l := addN_again ns l []
theorem addN_len : ∀ {l ns : List Str}, (addN ns l).length ≤ ns.length + l.length
  | [], ns => Nat.le_add_right _ _
  | y :: l, ns => by
    have h := addN_len (l := l) (ns := ins ns y)
    have h2 := ins_len (l := ns) (x := y)
    show (addN (ins ns y) l).length ≤ _
    rw [List.length_cons]
    omega
def seqL (l : List Fml) : List Str := (l.map seqN).flatten
theorem seqN_ags {t : Fml} (h : isT t = true) (hw : wd t ≠ "name") : seqN t = seqL (ags t) := by
  cases t with
  | s _ => cases h
  | i _ => cases h
  | t0 _ => rfl
  | t1 w a =>
    have hw : ¬ w = "name" := hw
    have e : seqN (.t1 w a) = seqN a := by
      cases a <;> (unfold seqN; exact if_neg hw)
    rw [e]
    simp [seqL, ags]
  | t2 w a b => simp [seqN, seqL, ags]
theorem seq_leaf {a : Fml} (h : isT a = false) : seqN a = [] := by
  cases a <;> first | rfl | cases h
def namesT (ns : List Str) : OT := .lst ((ns.map D.str).map .fz)
theorem NOk.name {t : Fml} (h : NOk t) (ht : isT t = true) (hw : wd t = "name") : ∃ x, t = .t1 "name" (.s x) := by
  cases t with
  | s _ => cases ht
  | i _ => cases ht
  | t0 w => exact absurd hw h
  | t1 w a =>
    rcases h with ⟨h1, x, h2⟩ | ⟨h1, _⟩
    · exact ⟨x, by rw [h1, h2]⟩
    · exact absurd hw h1
  | t2 w a b => exact absurd hw h.1
theorem NOk.args {t : Fml} (h : NOk t) (ht : isT t = true) (hw : wd t ≠ "name") : ∀ a ∈ ags t, NOk a := by
  cases t with
  | s _ => cases ht
  | i _ => cases ht
  | t0 w => exact fun a m => nomatch m
  | t1 w a =>
    intro b m
    cases List.mem_singleton.mp m
    rcases h with ⟨h1, _⟩ | ⟨_, h1⟩
    · exact absurd h1 hw
    · exact h1
  | t2 w a b =>
    intro c m
    simp only [ags, List.mem_cons, List.not_mem_nil, or_false] at m
    rcases m with m | m <;> subst m
    · exact h.2.1
    · exact h.2.2
theorem dep_arg {t : Fml} : ∀ a ∈ ags t, dep a + 1 ≤ dep t := by
  cases t with
  | s _ => exact fun a m => nomatch m
  | i _ => exact fun a m => nomatch m
  | t0 w => exact fun a m => nomatch m
  | t1 w a =>
    intro b m
    cases List.mem_singleton.mp m
    exact Nat.le_refl _
  | t2 w a b =>
    intro c m
    simp only [ags, List.mem_cons, List.not_mem_nil, or_false] at m
    rw [dep]
    rcases m with m | m <;> subst m <;> omega
theorem seq_arg {t : Fml} (h : isT t = true) (hw : wd t ≠ "name") : ∀ a ∈ ags t, (seqN a).length ≤ (seqN t).length := fun a m => by
  rw [seqN_ags h hw]
  unfold seqL
  obtain ⟨i, hi, e⟩ := List.mem_iff_getElem.mp m
  have : (seqN a).Sublist ((ags t).map seqN).flatten := List.sublist_flatten_of_mem (List.mem_map_of_mem m)
  exact this.length_le
theorem cut1 {α : Type} (x : α) (l : List α) : cutL (x :: l) (some 1) none = l := by
  rw [show (1 : Int) = ((1 : Nat) : Int) from rfl, cut_from]
  rfl
theorem sIx1 (n : Nat) : ¬ (HT.sIx (n + 1) 0 (some 1) = 0 ∧ HT.sIx (n + 1) (n + 1) none = n + 1) := fun h => by
  have e : HT.sIx (n + 1) 0 (some 1) = 1 := by
    unfold HT.sIx
    simp
  rw [e] at h
  exact absurd h.1 (by decide)
section
variable {P : Program} {w : World} {K : PySem.W.Frag} {mg : Str → Option Value} {base : Heap}
theorem ev_word {X : Cx} {H0 : Hp} {Γ : List Sl} {e : Expr} {pos cpos : Pos} {j : Nat} {t : Fml} (h : isT t = true) (he : Ev X H0 Γ e (inj t)) (hs : PlainIx (.Constant (.int 0) j cpos) := by exact fun _ _ => rfl) : Ev X H0 Γ (.Subscript e (.Constant (.int 0) j cpos) pos) (.str (wd t)) :=
  ev_ixT (ev_eq he (inj_tup h)) ev_i (at_nat (i := 0) rfl) hs
/-! ### parts_of, names_in -/
abbrev s_parts_of : Stmt := topS 9
theorem cs_parts_of : FnScope ["tree", "part"] ["tree"] (defScope s_parts_of) := ⟨rfl, rfl, rfl, by decide +kernel, rfl, by decide +kernel, by decide +kernel⟩
def Ss_parts_of (ds : List D) (r : D) : Prop := ∃ t : Fml, ds = [inj t] ∧ isT t = true ∧ r = .lst (((ags t).filter isT).map inj)
theorem ags_len (t : Fml) : (ags t).length ≤ 2 := by
  cases t <;> first | exact Nat.zero_le _ | exact Nat.le_succ _ | exact Nat.le_refl _
theorem ev_isT {X : Cx} {H0 : Hp} {Γ : List Sl} {e : Expr} {pos p p2 : Pos} {a : Fml} (hm : X.mg "isinstance" = none) (hT : X.mg "tuple" = none) (ha : Ev X H0 Γ e (inj a)) (hg : Gl X "isinstance" := by rfl) (hg2 : Gl X "tuple" := by rfl)
    (he : starEach [e, .Name "tuple" p2] X.env = (false, eval e X.env) :: starEach [.Name "tuple" p2] X.env := by rfl) (he2 : starEach [.Name "tuple" p2] X.env = (false, eval (.Name "tuple" p2) X.env) :: starEach [] X.env := by rfl) (hpl : (backTo pos (starEach [.Name "tuple" p2] X.env)).any (·.1) = false := by rfl) : Ev X H0 Γ (.Call (.Name "isinstance" p) [e, .Name "tuple" p2] [] pos) (.bl (isT a)) := by
  cases a with
  | s _ => exact ev_isi (k := false) hm ha hT boot_tuple rfl (by decide +kernel) hg hg2 (by decide) (by decide) he he2 hpl
  | i _ => exact ev_isi (k := false) hm ha hT boot_tuple rfl (by decide +kernel) hg hg2 (by decide) (by decide) he he2 hpl
  | t0 _ => exact ev_isi (k := true) hm ha hT boot_tuple rfl (by decide +kernel) hg hg2 (by decide) (by decide) he he2 hpl
  | t1 _ _ => exact ev_isi (k := true) hm ha hT boot_tuple rfl (by decide +kernel) hg hg2 (by decide) (by decide) he he2 hpl
  | t2 _ _ _ => exact ev_isi (k := true) hm ha hT boot_tuple rfl (by decide +kernel) hg hg2 (by decide) (by decide) he he2 hpl
theorem oks_parts_of (Df : Dfn K mg "parts_of" s_parts_of ["tree"]) (T : Txt K mg) : Cal P w K mg base 1 "parts_of" ["tree"] Ss_parts_of := by
  refine cal_ok Df cs_parts_of (fun ds r h => ?_) (fun f cdv A outer s H E ds r hr h => ?_)
  · obtain ⟨t, rfl, _⟩ := h
    rfl
  obtain ⟨t, rfl, ht, rfl⟩ := h
  show Rs _ _ [.da (inj t), .un] _ _
  have nd := cs_parts_of.nd
  have hl := ags_len t
  exact rs_ret (ev_o (eo_lc (ys := ags t) (inj := inj) (p := isT) (f := inj) 1 rfl nd (ei_t (ev_eq (ev_slT (ev_eq (ev_v 0) (inj_tup ht)) (ep_s ev_i) ep_n (by rw [List.length_cons]; exact sIx1 _)) (by rw [cut1]))) (blkOk_by (own := [("part", 1)]) (N := ["tree", "part"]) (sc := defScope s_parts_of) (by decide +kernel)) (sz6 (by omega)) (fun _ _ _ _ _ => pg_name (i := 1) nd rfl (Or.inl rfl))
    (fun y hy _ _ _ _ _ => pts_1 (et_b (ev_isT T.isinstance T.tuple (ev_v 1)))) (fun y hy _ _ _ _ _ _ => ev_v 1))) rfl
abbrev s_names_in : Stmt := topS 10
theorem cs_names_in : FnScope ["tree", "names", "part", "name"] ["tree"] (defScope s_names_in) := ⟨rfl, rfl, rfl, by decide +kernel, rfl, by decide +kernel, by decide +kernel⟩
def Ss_names_in (n : Nat) (ds : List D) (r : D) : Prop := ∃ t : Fml, ds = [inj t] ∧ isT t = true ∧ NOk t ∧ dep t ≤ n ∧ (seqN t).length ≤ 100000 ∧ r = .lst ((addN [] (seqN t)).map D.str)
theorem seqL_filter (l : List Fml) : seqL (l.filter isT) = seqL l := by
  unfold seqL
  induction l with
  | nil => rfl
  | cons a l ih =>
    rw [List.filter_cons]
    by_cases h : isT a = true
    · rw [if_pos h, List.map_cons, List.map_cons, List.flatten_cons, List.flatten_cons, ih]
    · rw [if_neg h, List.map_cons, List.flatten_cons, ih, seq_leaf (by simpa using h)]
      rfl
theorem seqL_take (l : List Fml) (k : Nat) : (seqL (l.take k)).length ≤ (seqL l).length := by
  have e : seqL l = seqL (l.take k) ++ seqL (l.drop k) := by
    unfold seqL
    rw [← List.flatten_append, ← List.map_append, List.take_append_drop]
  rw [e, List.length_append]
  exact Nat.le_add_right _ _
theorem oks_names_in (Df : Dfn K mg "names_in" s_names_in ["tree"]) (T : Txt K mg) (Cp : Cal P w K mg base 1 "parts_of" ["tree"] Ss_parts_of) : ∀ n, Cal P w K mg base (n + 1) "names_in" ["tree"] (Ss_names_in n) := by
  intro n
  induction n with
  | zero =>
    refine cal_ok Df cs_names_in (fun ds r h => ?_) (fun f cdv A outer s H E ds r hr h => ?_)
    · obtain ⟨t, rfl, _⟩ := h
      rfl
    obtain ⟨t, rfl, ht, _, hd, _⟩ := h
    exfalso
    cases t with
    | s _ => cases ht
    | i _ => cases ht
    | t0 _ => exact absurd hd (by rw [dep]; omega)
    | t1 _ _ => exact absurd hd (by rw [dep]; omega)
    | t2 _ _ _ => exact absurd hd (by rw [dep]; omega)
  | succ n ih =>
    refine cal_ok Df cs_names_in (fun ds r h => ?_) (fun f cdv A outer s H E ds r hr h => ?_)
    · obtain ⟨t, rfl, _⟩ := h
      rfl
    obtain ⟨t, rfl, ht, hn, hd, hl, rfl⟩ := h
    show Rs _ _ [.da (inj t), .un, .un, .un] _ _
    have nd := cs_names_in.nd
    refine rs_if1 (et_c (ec_eqS (ev_word ht (ev_v 0)) ev_s)) (fun hc => ?_) (fun hc => ?_)
    · obtain ⟨x, rfl⟩ := hn.name ht (of_decide_eq_true hc)
      exact rs_ret (ev_o (eo_lst (ea_cons (ev_ixT (ev_v 0) ev_i (d := .str x) rfl) ea_nil))) rfl
    have hw : wd t ≠ "name" := of_decide_eq_false hc
    refine rs_setO 1 nd (eo_lst ea_nil) ?_
    have hps : ∀ a ∈ (ags t).filter isT, isT a = true ∧ NOk a ∧ dep a ≤ n ∧ (seqN a).length ≤ 100000 := fun a m => by
      obtain ⟨m1, m2⟩ := List.mem_filter.mp m
      have := dep_arg a m1
      have := seq_arg ht hw a m1
      exact ⟨m2, hn.args ht hw a m1, by omega, by omega⟩
    generalize hp : (ags t).filter isT = ps at hps
    refine rs_forG (fun k => [.da (inj t), .ol ((addN [] (seqL (ps.take k))).map D.str), .un, .un]) PassesOwn.never (ei_l (ev_eq (ev_cal Cp (hr.mono (by omega)) (ea_cons (ev_v 0) ea_nil) ⟨t, rfl, ht, rfl⟩) (by rw [hp]))) (tg_n 2 nd) (.eq rfl (.eq rfl (.un (.un .nil)))) (fun k d hk => ?_) ?_
    · obtain ⟨a, ha, rfl⟩ := get_inj hk
      refine ⟨_, rfl, ?_⟩
      obtain ⟨h1, h2, h3, h4⟩ := hps a (List.mem_of_getElem? ha)
      have hacc : addN [] (seqL (ps.take (k + 1))) = addN (addN [] (seqL (ps.take k))) (addN [] (seqN a)) := by
        rw [addN_nil, ← addN_app, List.take_add_one, ha]
        unfold seqL
        rw [List.map_append, List.flatten_append]
        simp
      generalize addN [] (seqL (ps.take k)) = acc at hacc ⊢
      have hb : (addN acc (addN [] (seqN a))).length ≤ 1000000 := hacc ▸ by
        have q := addN_len (l := seqL (ps.take (k + 1))) (ns := [])
        have q2 : (seqL (ps.take (k + 1))).length ≤ (seqN t).length := by
          rw [seqN_ags ht hw, ← seqL_filter (ags t), hp]
          exact seqL_take _ _
        simp only [List.length_nil] at q
        omega
      refine rs_forG (fun j => [.da (inj t), .ol ((addN acc ((addN [] (seqN a)).take j)).map D.str), .da (inj a), .un]) PassesOwn.never (ei_l (ev_cal ih (hr.mono (by omega)) (ea_cons (ev_v 2) ea_nil) ⟨a, rfl, h1, h2, h3, h4, rfl⟩)) (tg_n 3 nd) (.eq rfl (.eq rfl (.eq rfl (.un .nil)))) (fun j d hj => ?_) ?_
      · obtain ⟨x, hx, rfl⟩ := get_inj hj
        refine ⟨_, rfl, ?_⟩
        have tk : (addN [] (seqN a)).take (j + 1) = (addN [] (seqN a)).take j ++ [x] := by rw [List.take_add_one, hx]; rfl
        have e : addN acc ((addN [] (seqN a)).take (j + 1)) = ins (addN acc ((addN [] (seqN a)).take j)) x := by rw [tk, addN_app]; rfl
        have hlen : (addN acc ((addN [] (seqN a)).take j)).length ≤ 1000000 := by
          refine Nat.le_trans ?_ hb
          have : ∀ l m : List Str, (addN acc l).length ≤ (addN acc (l ++ m)).length := fun l m => by
            rw [addN_app]
            generalize addN acc l = z
            induction m generalizing z with
            | nil => exact Nat.le_refl _
            | cons y m ihm =>
              refine Nat.le_trans ?_ (ihm (ins z y))
              unfold ins
              split
              · exact Nat.le_refl _
              · rw [List.length_append]; exact Nat.le_add_right _ _
          have q := this ((addN [] (seqN a)).take j) ((addN [] (seqN a)).drop j)
          rw [List.take_append_drop] at q
          exact q
        refine rs_last (rn_if (et_c (ec_niL (ev_v 3) (er_v 1))) (fun hc => ?_) (fun hc => ?_))
        · have hc : x ∉ addN acc ((addN [] (seqN a)).take j) := by simpa using hc
          refine rs_app 1 (ev_v 3) ?_ ?hz
          case hz =>
            rw [List.length_map]
            exact sz6' hlen
          refine rs_nil (.eq rfl (.eq ?_ (.eq rfl (.un .nil))))
          rw [e]
          unfold ins
          rw [if_neg hc, List.map_append]
          rfl
        · have hc : x ∈ addN acc ((addN [] (seqN a)).take j) := by simpa using hc
          refine rs_nil (.eq rfl (.eq ?_ (.eq rfl (.un .nil))))
          rw [e]
          unfold ins
          rw [if_pos hc]
      · refine rs_nil (.eq rfl (.eq ?_ (.un (.un .nil))))
        rw [List.length_map, List.take_length, hacc]
    refine rs_freeze 1 rfl ?_
    refine rs_ret (ev_v 1) ?_
    rw [List.length_map, List.take_length, seqN_ags ht hw, ← seqL_filter (ags t), hp]
end
end Lw

namespace Lw
open PySem PySem.Spec PyProof.Rows L2 Dv Fo Tx
section
variable {P : Program} {w : World} {K : PySem.W.Frag} {mg : Str → Option Value} {base : Heap}
/-! ### the law's names -/
abbrev s_l_names : Stmt := topS 18
theorem cs_l_names : FnScope ["_law_tree", "_law_names_here", "_law_part"] ["_law_tree", "_law_names_here"] (defScope s_l_names) := ⟨rfl, rfl, rfl, by decide +kernel, rfl, by decide +kernel, by decide +kernel⟩
def S_l_names (n : Nat) (as as' : List Ar) (r : D) : Prop := ∃ (p : Addr) (t : Fml) (ns : List Str), as = [.d (inj t), .t p (namesT ns)] ∧ as' = [.d (inj t), .t p (namesT (addN ns (seqN t)))] ∧ r = .adr p ∧ isT t = true ∧ NOk t ∧ dep t ≤ n ∧ ns.length + (seqN t).length ≤ 100000
theorem ok_l_names (Df : Dfn K mg "_law_names" s_l_names ["_law_tree", "_law_names_here"]) (T : Txt K mg) : ∀ n, CalG P w K mg base (n + 1) "_law_names" ["_law_tree", "_law_names_here"] (S_l_names n) := by
  intro n
  induction n with
  | zero =>
    refine cal_okG Df cs_l_names (fun as as' r h => ?_) (fun as as' r h => ?_) (fun f cdv A outer s H Hg E as as' r hr h => ?_)
    · obtain ⟨p, t, ns, rfl, _⟩ := h
      rfl
    · obtain ⟨p, t, ns, rfl, rfl, _⟩ := h
      exact sameAr_d (sameAr_t sameAr_nil)
    obtain ⟨p, t, ns, rfl, rfl, rfl, ht, _, hd, _⟩ := h
    exfalso
    cases t with
    | s _ => cases ht
    | i _ => cases ht
    | t0 _ => exact absurd hd (by rw [dep]; omega)
    | t1 _ _ => exact absurd hd (by rw [dep]; omega)
    | t2 _ _ _ => exact absurd hd (by rw [dep]; omega)
  | succ n ih =>
    refine cal_okG Df cs_l_names (fun as as' r h => ?_) (fun as as' r h => ?_) (fun f cdv A outer s H Hg E as as' r hr h => ?_)
    · obtain ⟨p, t, ns, rfl, _⟩ := h
      rfl
    · obtain ⟨p, t, ns, rfl, rfl, _⟩ := h
      exact sameAr_d (sameAr_t sameAr_nil)
    obtain ⟨p, t, ns, rfl, rfl, rfl, ht, hn, hd, hl⟩ := h
    show Rs _ _ [.da (inj t), .slf p (namesT ns), .un] _ _
    have nd := cs_l_names.nd
    have parts : ∀ ns' : List Str, wd t ≠ "name" → ns'.length + (seqN t).length ≤ 100000 → ∀ k, k ≤ (ags t).length → (addN ns' (seqL ((ags t).take k))).length ≤ 100000 := fun ns' hw hl k _ => by
      have q := addN_len (l := seqL ((ags t).take k)) (ns := ns')
      have q2 := seqL_take (ags t) k
      rw [seqN_ags ht hw] at hl
      omega
    by_cases hw : wd t = "name"
    · obtain ⟨x, rfl⟩ := hn.name ht hw
      have es : seqN (.t1 "name" (.s x)) = [x] := by
        unfold seqN
        rw [if_pos rfl]
      rw [es]
      refine rs_if (fun Γ' => Γ' = [.da (inj (.t1 "name" (.s x))), .slf p (namesT (ins ns x)), .un]) (et_w (ew_and (et_c (ec_eqS (ev_word ht (ev_v 0)) ev_s)) (fun _ => (ew_and1 (et_c (ec_niL (ev_ixT (ev_v 0) ev_i (d := .str x) rfl) (er_w 1))))))) (fun hc => ?_) (fun hc => ?_) (fun Γ' m => ?_)
      · have hc : x ∉ ns := by
          rw [Bool.and_eq_true] at hc
          simpa using hc.2
        refine rs_appP (pt_v 1) (ev_ixT (ev_v 0) ev_i (d := .str x) rfl) ?_ ?hz
        case hz =>
          rw [List.length_map, List.length_map]
          exact sz6' (by omega)
        refine rs_nil ?_
        show _ = _
        unfold ins
        rw [if_neg hc]
        unfold namesT
        rw [List.map_append, List.map_append]
        rfl
      · have hc : x ∈ ns := by
          rw [hw, decide_eq_true rfl, Bool.true_and] at hc
          simpa using hc
        refine rs_nil ?_
        show _ = _
        unfold ins
        rw [if_pos hc]
      subst m
      refine rs_forG (fun _ => [.da (inj (.t1 "name" (.s x))), .slf p (namesT (ins ns x)), .un]) PassesOwn.never (ei_t (ev_slT (ev_eq (ev_v 0) (inj_tup ht)) (ep_s ev_i) ep_n (by rw [List.length_cons]; exact sIx1 _))) (tg_n 2 nd) (Sub.refl _) (fun k d hk => ?_) ?_
      · rw [cut1] at hk
        obtain ⟨a, ha, rfl⟩ := get_inj hk
        refine ⟨_, rfl, ?_⟩
        have e : a = .s x := List.mem_singleton.mp (List.mem_of_getElem? ha)
        subst e
        refine rs_last (rn_if (et_b (ev_isT T.isinstance T.tuple (ev_v 2))) (fun hc => ?_) (fun hc => ?_))
        · cases hc
        · exact rs_nil (.eq rfl (.eq rfl (.un .nil)))
      · exact rs_ret (ev_adr 1) ⟨ends_d (ends_t ends_nil), rfl⟩
    · refine rs_if (fun Γ' => Γ' = [.da (inj t), .slf p (namesT ns), .un]) (et_w (ew_and (l := false) (et_c (ec_eqS (ev_word ht (ev_v 0)) ev_s)) (fun h => absurd (of_decide_eq_true h) hw))) (fun hc => ?_) (fun hc => ?_) (fun Γ' m => ?_)
      · rw [Bool.and_false] at hc
        cases hc
      · exact rs_nil rfl
      subst m
      refine rs_forG (fun k => [.da (inj t), .slf p (namesT (addN ns (seqL ((ags t).take k)))), .un]) PassesOwn.never (ei_t (ev_slT (ev_eq (ev_v 0) (inj_tup ht)) (ep_s ev_i) ep_n (by rw [List.length_cons]; exact sIx1 _))) (tg_n 2 nd) (Sub.refl _) (fun k d hk => ?_) ?_
      · rw [cut1] at hk
        obtain ⟨a, ha, rfl⟩ := get_inj hk
        refine ⟨_, rfl, ?_⟩
        have hm := List.mem_of_getElem? ha
        have hlt : k < (ags t).length := (List.getElem?_eq_some_iff.mp ha).1
        have tk : addN ns (seqL ((ags t).take (k + 1))) = addN (addN ns (seqL ((ags t).take k))) (seqN a) := by
          rw [← addN_app, List.take_add_one, ha]
          unfold seqL
          rw [List.map_append, List.flatten_append]
          simp
        have hlen : (addN ns (seqL ((ags t).take k))).length + (seqN a).length ≤ 100000 := by
          have q := addN_len (l := seqL ((ags t).take k)) (ns := ns)
          have q3 := seqL_take (ags t) (k + 1)
          have q4 : seqL ((ags t).take (k + 1)) = seqL ((ags t).take k) ++ seqN a := by
            rw [List.take_add_one, ha]
            unfold seqL
            rw [List.map_append, List.flatten_append]
            simp
          rw [q4, List.length_append] at q3
          rw [seqN_ags ht hw] at hl
          omega
        refine rs_last (rn_if (et_b (ev_isT T.isinstance T.tuple (ev_v 2))) (fun hc => ?_) (fun hc => ?_))
        · have hda := dep_arg a hm
          refine rs_exM (em_cal (cs := [.d (inj a), .s 1]) (T := fun _ => namesT (addN ns (seqL ((ags t).take k)))) (T' := fun _ => namesT (addN (addN ns (seqL ((ags t).take k))) (seqN a))) ih (hr.mono (by omega)) (ma_ev (ev_v 2) (ma_own 1 ma_nil)) (show [1].Nodup by decide) (gup1 (i := 1) rfl rfl) (r := .adr p) (fun P hP => by
            have e : P 1 = p := hP 1 List.mem_cons_self p _ rfl
            show S_l_names n [.d (inj a), .t (P 1) _] [.d (inj a), .t (P 1) _] (.adr p)
            rw [e]
            exact ⟨p, a, _, rfl, rfl, rfl, hc, hn.args ht hw a hm, by omega, hlen⟩)) ?_
          refine rs_nil (.eq rfl (.eq ?_ (.un .nil)))
          rw [tk]
        · refine rs_nil (.eq rfl (.eq ?_ (.un .nil)))
          rw [tk, seq_leaf hc]
          rfl
      · refine rs_ret (ev_adr 1) ⟨?_, rfl⟩
        rw [cut1, List.length_map, List.take_length, ← seqN_ags ht hw]
        exact ends_d (ends_t ends_nil)
/-! ### the law's numbers -/
abbrev s_l_number : Stmt := topS 17
theorem cs_l_number : FnScope ["_law_formula_here", "_law_facts", "_law_rows", "_law_row", "_law_left", "_law_right"] ["_law_formula_here", "_law_facts", "_law_rows"] (defScope s_l_number) := ⟨rfl, rfl, rfl, by decide +kernel, rfl, by decide +kernel, by decide +kernel⟩
def fsT (fs : List Fml) : OT := .lst ((fs.map inj).map .fz)
def rsT (rs : List Rwt) : OT := .lst ((rs.map injR).map .fz)
def S_l_number (n : Nat) (as as' : List Ar) (r : D) : Prop := ∃ (p q : Addr) (st : Sts) (t : Fml), as = [.d (inj t), .t p (fsT st.1), .t q (rsT st.2)] ∧ as' = [.d (inj t), .t p (fsT (num t st).1.1), .t q (rsT (num t st).1.2)] ∧ r = .int (num t st).2 ∧
  StsOk st ∧ Wf t ∧ txt t = true ∧ dep t ≤ 60 ∧ dep t ≤ n ∧ st.2.length + rcnt t ≤ 1000000 ∧ st.1.length + rcnt t ≤ 1000000
theorem anyR {rs : List Rwt} {x : Rwt} (h : PyData.strOk x.1 = true) : anyEq (rs.map injR) (injR x) = decide (x ∈ rs) := by
  rw [anyEq_map (fun _ _ e => injR_inj e) (fun u _ => plR u) (plR x) (okR h 63)]
  exact decide_eq_decide.mpr Iff.rfl
theorem ok_l_number (Df : Dfn K mg "_law_number" s_l_number ["_law_formula_here", "_law_facts", "_law_rows"]) (T : Txt K mg) : ∀ n, CalG P w K mg base (n + 1) "_law_number" ["_law_formula_here", "_law_facts", "_law_rows"] (S_l_number n) := by
  intro n
  induction n with
  | zero =>
    refine cal_okG Df cs_l_number (fun as as' r h => ?_) (fun as as' r h => ?_) (fun f cdv A outer s H Hg E as as' r hr h => ?_)
    · obtain ⟨p, q, st, t, rfl, _⟩ := h
      rfl
    · obtain ⟨p, q, st, t, rfl, rfl, _⟩ := h
      exact sameAr_d (sameAr_t (sameAr_t sameAr_nil))
    obtain ⟨p, q, st, t, rfl, rfl, rfl, h1, h2, h3, h4, h5, _⟩ := h
    exfalso
    cases t with
    | s _ => exact h2
    | i _ => exact h2
    | t0 _ => exact absurd h5 (by rw [dep]; omega)
    | t1 _ _ => exact absurd h5 (by rw [dep]; omega)
    | t2 _ _ _ => exact absurd h5 (by rw [dep]; omega)
  | succ n ih =>
    refine cal_okG Df cs_l_number (fun as as' r h => ?_) (fun as as' r h => ?_) (fun f cdv A outer s H Hg E as as' r hr h => ?_)
    · obtain ⟨p, q, st, t, rfl, _⟩ := h
      rfl
    · obtain ⟨p, q, st, t, rfl, rfl, _⟩ := h
      exact sameAr_d (sameAr_t (sameAr_t sameAr_nil))
    obtain ⟨p, q, st, t, rfl, rfl, rfl, h1, h2, h3, h4, h5, h6, h7⟩ := h
    show Rs _ _ [.da (inj t), .slf p (fsT st.1), .slf q (rsT st.2), .un, .un, .un] _ _
    have nd := cs_l_number.nd
    have ht := wf_t h2
    refine rs_if (fun Γ' => ∃ fs rs x, Sub Γ' [.da (inj t), .slf p (fsT fs), .slf q (rsT rs), .da (injR x), .un, .un] ∧ num t st = putR (fs, rs) x ∧ PyData.strOk x.1 = true ∧ (∀ r ∈ rs, PyData.strOk r.1 = true) ∧ rs.length ≤ 1000000) (et_c (ec_inL (ws := cmpW) (ev_word ht (ev_v 0)) (er_o (eo_lst (ea_cons ev_s (ea_cons ev_s (ea_cons ev_s ea_nil))))))) (fun hc => ?_) (fun hc => ?_) (fun Γ' m => ?_)
    · have hc : wd t ∈ cmpW := of_decide_eq_true hc
      have hrow : num t st = putR (ins st.1 t, st.2) ("fact", (at' t (ins st.1 t) : Nat), -1) := by
        cases t with
        | s _ => exact h2.elim
        | i _ => exact h2.elim
        | t0 w' => exact absurd hc (tf_cmp h2)
        | t1 w' a => exact absurd hc h2.1
        | t2 w' a b =>
          have hc : w' ∈ cmpW := hc
          rw [num, if_pos hc]
      have okA1 : okA (st.1.map inj) 63 = true := okA_inj fun b m => ⟨(h1.f b m).1, Nat.le_trans (h1.f b m).2 (by decide)⟩
      have okd : okD (inj t) 64 = true := ok_inj t 64 h3 (by omega)
      have hf' : ∀ b ∈ ins st.1 t, txt b = true ∧ dep b ≤ 60 := fun b m => (ins_or m).elim (h1.f b) fun e => e ▸ ⟨h3, h4⟩
      have okA2 : okA ((ins st.1 t).map inj) 63 = true := okA_inj fun b m => ⟨(hf' b m).1, Nat.le_trans (hf' b m).2 (by decide)⟩
      refine rs_if (fun Γ' => Γ' = [.da (inj t), .slf p (fsT (ins st.1 t)), .slf q (rsT st.2), .un, .un, .un]) (et_c (ec_niD (ev_v 0) (er_w 1) okd okA1 hr)) (fun hc => ?_) (fun hc => ?_) (fun Γ' m => ?_)
      · rw [any_inj ⟨h3, by omega⟩, Bool.not_eq_true', decide_eq_false_iff_not] at hc
        refine rs_appP (pt_v 1) (ev_v 0) ?_ ?hz
        case hz =>
          rw [List.length_map, List.length_map]
          exact sz6' (by omega)
        refine rs_nil ?_
        show _ = _
        unfold ins
        rw [if_neg hc]
        unfold fsT
        rw [List.map_append, List.map_append]
        rfl
      · rw [any_inj ⟨h3, by omega⟩, Bool.not_eq_false', decide_eq_true_eq] at hc
        refine rs_nil ?_
        show _ = _
        unfold ins
        rw [if_pos hc]
      subst m
      have hm : t ∈ ins st.1 t := ins_mem
      refine rs_set 3 nd (d := injR ("fact", (at' t (ins st.1 t) : Nat), -1)) (ev_tup (ea_cons ev_s (ea_cons (ev_index (er_w 1) (ev_v 0) okd okA2 hr (z := inj t) ?g1 (eqv_self okd) ?g2) (ea_cons (ev_neg ev_i) ea_nil)))) ?_
      case g1 => rw [List.getElem?_map, at_get hm, Option.map_some]
      case g2 =>
        intro m z' hlt e
        rw [List.getElem?_map] at e
        cases qq : (ins st.1 t)[m]? with
        | none => rw [qq] at e; cases e
        | some b =>
          rw [qq] at e
          cases e
          have ne := at_ne hlt qq
          cases z : PyData.eqv (toPy (inj b)) (toPy (inj t)) with
          | false => rfl
          | true => exact absurd (inj_inj (eqv_pl _ _ (pl_inj b) (pl_inj t) z)) ne
      exact rs_nil ⟨_, _, _, Sub.refl _, hrow, (show PyData.strOk "fact" = true by decide +kernel), h1.r, by omega⟩
    · have hc : wd t ∉ cmpW := of_decide_eq_false hc
      refine rs_last (rn_if (et_c (ec_inL (ws := ["true", "false"]) (ev_word ht (ev_v 0)) (er_o (eo_lst (ea_cons ev_s (ea_cons ev_s ea_nil)))))) (fun hc2 => ?_) (fun hc2 => ?_))
      · have hc2 : wd t = "true" ∨ wd t = "false" := by simpa using hc2
        have e0 : t = .t0 (wd t) := by
          cases t with
          | s _ => exact h2.elim
          | i _ => exact h2.elim
          | t0 w' => rfl
          | t1 w' a => exact (hc2.elim h2.2.1 h2.2.2.1).elim
          | t2 w' a b =>
            rcases (show w' ∈ cmpW ∨ _ from h2) with c | c
            · exact absurd c hc
            · exact (hc2.elim c.2.1 c.2.2.1).elim
        have hx : PyData.strOk (wd t) = true := by
          rw [e0] at h3
          exact h3
        refine rs_set 3 nd (d := injR (wd t, -1, -1)) (ev_tup (ea_cons (ev_word ht (ev_v 0)) (ea_cons (ev_neg ev_i) (ea_cons (ev_neg ev_i) ea_nil)))) ?_
        exact rs_nil ⟨_, _, (wd t, -1, -1), Sub.refl _, by rw [show num t st = num (.t0 (wd t)) st by rw [← e0]]; rfl, hx, h1.r, by omega⟩
      · have hc2 : ¬ (wd t = "true" ∨ wd t = "false") := by simpa using hc2
        cases t with
        | s _ => exact h2.elim
        | i _ => exact h2.elim
        | t0 w' => exact absurd h2 hc2
        | t1 w' a =>
          obtain ⟨g1, g2, g3, g4⟩ := (show w' ∉ cmpW ∧ w' ≠ "true" ∧ w' ≠ "false" ∧ Wf a from h2)
          have h3' := h3
          rw [txt, Bool.and_eq_true] at h3
          rw [dep] at h4 h5
          rw [rcnt] at h6 h7
          have l1 := num_len a st
          have o1 := num_ok a st h3.2 (by omega) h1
          refine rs_setM 4 nd (em_cal (cs := [.d (inj a), .s 1, .s 2]) ih (hr.mono (by omega)) (ma_ev (ev_ixT (ev_v 0) ev_i (d := inj a) rfl) (ma_own 1 (ma_own 2 ma_nil))) (show [1, 2].Nodup by decide) (gup2 (i := 1) (j := 2) (t' := fsT (num a st).1.1) (u' := rsT (num a st).1.2) (by decide) rfl rfl rfl rfl) (fun P _ => ⟨P 1, P 2, st, a, rfl, rfl, rfl, h1, g4, h3.2, by omega, by omega, by omega, by omega⟩)) ?_
          refine rs_set 5 nd (ev_neg ev_i) ?_
          refine rs_if (fun Γ' => Γ' = [.da (inj (.t1 w' a)), .slf p (fsT (num a st).1.1), .slf q (rsT (num a st).1.2), .un, .da (.int (num a st).2), .da (.int (-1))]) (et_c (ec_eqI (ev_lenT T.len (ev_v 0)) ev_i)) (fun hc => ?_) (fun _ => rs_nil rfl) (fun Γ' m => ?_)
          · exact absurd (of_decide_eq_true hc) (show ¬ ((2 : Nat) : Int) = 3 by decide)
          subst m
          refine rs_set 3 nd (d := injR (w', (num a st).2, -1)) (ev_tup (ea_cons (ev_ixT (ev_v 0) ev_i (d := .str w') rfl) (ea_cons (ev_v 4) (ea_cons (ev_v 5) ea_nil)))) ?_
          exact rs_nil ⟨_, _, (w', (num a st).2, -1), .eq rfl (.eq rfl (.eq rfl (.eq rfl (.un (.un .nil))))), rfl, h3.1, o1.r, by omega⟩
        | t2 w' a b =>
          have h2' : w' ∈ cmpW ∨ (w' ∉ cmpW ∧ w' ≠ "true" ∧ w' ≠ "false" ∧ Wf a ∧ Wf b) := h2
          have c : w' ∉ cmpW := hc
          obtain ⟨g1, g2, g3, g4, g5⟩ := h2'.resolve_left c
          have e0 : num (.t2 w' a b) st = putR (num b (num a st).1).1 (w', (num a st).2, (num b (num a st).1).2) := by rw [num, if_neg c]
          rw [show rcnt (.t2 w' a b) = rcnt a + rcnt b + 1 by rw [rcnt, if_neg c]] at h6 h7
          rw [txt, Bool.and_eq_true, Bool.and_eq_true] at h3
          rw [dep] at h4 h5
          have l1 := num_len a st
          have l2 := num_len b (num a st).1
          have o1 := num_ok a st h3.2.1 (by omega) h1
          have o2 := num_ok b _ h3.2.2 (by omega) o1
          refine rs_setM 4 nd (em_cal (cs := [.d (inj a), .s 1, .s 2]) ih (hr.mono (by omega)) (ma_ev (ev_ixT (ev_v 0) ev_i (d := inj a) rfl) (ma_own 1 (ma_own 2 ma_nil))) (show [1, 2].Nodup by decide) (gup2 (i := 1) (j := 2) (t' := fsT (num a st).1.1) (u' := rsT (num a st).1.2) (by decide) rfl rfl rfl rfl) (fun P _ => ⟨P 1, P 2, st, a, rfl, rfl, rfl, h1, g4, h3.2.1, by omega, by omega, by omega, by omega⟩)) ?_
          refine rs_set 5 nd (ev_neg ev_i) ?_
          refine rs_if (fun Γ' => Γ' = [.da (inj (.t2 w' a b)), .slf p (fsT (num b (num a st).1).1.1), .slf q (rsT (num b (num a st).1).1.2), .un, .da (.int (num a st).2), .da (.int (num b (num a st).1).2)]) (et_c (ec_eqI (ev_lenT T.len (ev_v 0)) ev_i)) (fun _ => ?_) (fun hc => ?_) (fun Γ' m => ?_)
          · refine rs_setM 5 nd (em_cal (cs := [.d (inj b), .s 1, .s 2]) ih (hr.mono (by omega)) (ma_ev (ev_ixT (ev_v 0) ev_i (d := inj b) rfl) (ma_own 1 (ma_own 2 ma_nil))) (show [1, 2].Nodup by decide) (gup2 (i := 1) (j := 2) (t' := fsT (num b (num a st).1).1.1) (u' := rsT (num b (num a st).1).1.2) (by decide) rfl rfl rfl rfl) (fun P _ => ⟨P 1, P 2, (num a st).1, b, rfl, rfl, rfl, o1, g5, h3.2.2, by omega, by omega, by omega, by omega⟩)) ?_
            exact rs_nil rfl
          · exact absurd (show ((3 : Nat) : Int) = 3 by decide) (of_decide_eq_false hc)
          subst m
          refine rs_set 3 nd (d := injR (w', (num a st).2, (num b (num a st).1).2)) (ev_tup (ea_cons (ev_ixT (ev_v 0) ev_i (d := .str w') rfl) (ea_cons (ev_v 4) (ea_cons (ev_v 5) ea_nil)))) ?_
          exact rs_nil ⟨_, _, (w', (num a st).2, (num b (num a st).1).2), .eq rfl (.eq rfl (.eq rfl (.eq rfl (.un (.un .nil))))), e0, h3.1, o2.r, by omega⟩
    obtain ⟨fs, rs, x, sb, e0, hx, hrs, hz⟩ := m
    refine rs_sub sb ?_
    rw [e0]
    have okx : okD (injR x) 64 = true := okR hx 63
    have okA1 : okA (rs.map injR) 63 = true := okA_map fun r m => okR (hrs r m) 62
    have okA2 : okA ((ins rs x).map injR) 63 = true := okA_map fun r m => okR ((ins_or m).elim (hrs r) fun e => e ▸ hx) 62
    refine rs_if (fun Γ' => Γ' = [.da (inj t), .slf p (fsT fs), .slf q (rsT (ins rs x)), .da (injR x), .un, .un]) (et_c (ec_niD (ev_v 3) (er_w 2) okx okA1 hr)) (fun hc => ?_) (fun hc => ?_) (fun Γ' m => ?_)
    · rw [anyR hx, Bool.not_eq_true', decide_eq_false_iff_not] at hc
      refine rs_appP (pt_v 2) (ev_v 3) ?_ ?hz
      case hz =>
        rw [List.length_map, List.length_map]
        exact sz6' hz
      refine rs_nil ?_
      show _ = _
      unfold ins
      rw [if_neg hc]
      unfold rsT
      rw [List.map_append, List.map_append]
      rfl
    · rw [anyR hx, Bool.not_eq_false', decide_eq_true_eq] at hc
      refine rs_nil ?_
      show _ = _
      unfold ins
      rw [if_pos hc]
    subst m
    have hm : x ∈ ins rs x := ins_mem
    refine rs_ret (ev_index (er_w 2) (ev_v 3) okx okA2 hr (z := injR x) ?g1 (eqv_self okx) ?g2) ⟨ends_d (ends_t (ends_t ends_nil)), rfl⟩
    case g1 => rw [List.getElem?_map, at_get hm, Option.map_some]
    case g2 =>
      intro m z' hlt e
      rw [List.getElem?_map] at e
      cases qq : (ins rs x)[m]? with
      | none => rw [qq] at e; cases e
      | some b =>
        rw [qq] at e
        cases e
        have ne := at_ne hlt qq
        cases z : PyData.eqv (toPy (injR b)) (toPy (injR x)) with
        | false => rfl
        | true => exact absurd (injR_inj (eqv_pl _ _ (plR b) (plR x) z)) ne
end
end Lw

namespace Lw
open PySem PySem.Spec PyProof.Rows L2 Dv Fo Tx
/-! ### numbers drawn -/
def cellAt (ns : List Int) (k : Nat) : Int := if k < ns.length then ns.getD k 0 else 0
def drS (c b : Int) : Nat → Int × List Int
  | 0 => ((c.natAbs : Nat), [])
  | k + 1 =>
    let p := drS c b k
    if 1000000000000000000 ≤ ((c.natAbs : Nat) : Int) then (p.1 / b, p.2 ++ [p.1 % b])
    else
      let v := ((p.1 * 48271 + 20011 * (k : Int) + 7919) % 2147483647 * 69621 + 104729) % 2147483629
      (v, p.2 ++ [v / 11 % b])
def drs (c : Int) (n : Nat) (b : Int) : List Int := (drS c b n).2
theorem drS_len (c b : Int) : ∀ n, (drS c b n).2.length = n
  | 0 => rfl
  | n + 1 => by
    have ih := drS_len c b n
    unfold drS
    dsimp only
    split <;> simp [ih]
theorem drs_mem {c b : Int} (hb : 0 < b) : ∀ {n : Nat} {v : Int}, v ∈ (drS c b n).2 → 0 ≤ v ∧ v < b
  | 0, v, h => nomatch h
  | n + 1, v, h => by
    unfold drS at h
    dsimp only at h
    split at h <;> rcases List.mem_append.mp h with h | h
    · exact drs_mem hb h
    · rw [List.mem_singleton.mp h]
      exact ⟨Int.emod_nonneg _ (by omega), Int.emod_lt_of_pos _ hb⟩
    · exact drs_mem hb h
    · rw [List.mem_singleton.mp h]
      exact ⟨Int.emod_nonneg _ (by omega), Int.emod_lt_of_pos _ hb⟩
/-- the draw at a place -/
def dr (c : Int) (n : Nat) (b : Int) (k : Nat) : Int := (drs c n b).getD k 0
theorem dr_get {c b : Int} {n k : Nat} (hb : 0 < b) (hk : k < n) : (drs c n b)[k]? = some (dr c n b k) ∧ 0 ≤ dr c n b k ∧ dr c n b k < b := by
  have hl : k < (drs c n b).length := by
    unfold drs
    rw [drS_len]
    exact hk
  have e : (drs c n b)[k]? = some ((drs c n b)[k]'hl) := by simp [hl]
  have e2 : dr c n b k = (drs c n b)[k]'hl := by
    unfold dr
    rw [List.getD_eq_getElem?_getD, e]
    rfl
  rw [e2]
  exact ⟨e, drs_mem hb (List.getElem_mem hl)⟩
section
variable {P : Program} {w : World} {K : PySem.W.Frag} {mg : Str → Option Value} {base : Heap}
abbrev s_l_is_integer : Stmt := topS 12
theorem cs_l_is_integer : FnScope ["_law_actual"] ["_law_actual"] (defScope s_l_is_integer) := ⟨rfl, rfl, rfl, by decide +kernel, rfl, by decide +kernel, by decide +kernel⟩
def Ss_l_is_integer (ds : List D) (r : D) : Prop := ∃ i : Int, ds = [.int i] ∧ r = .bl true
theorem oks_l_is_integer (Df : Dfn K mg "_law_is_integer" s_l_is_integer ["_law_actual"]) (T : Txt K mg) : Cal P w K mg base 1 "_law_is_integer" ["_law_actual"] Ss_l_is_integer := by
  refine cal_ok Df cs_l_is_integer (fun ds r h => ?_) (fun f cdv A outer s H E ds r hr h => ?_)
  · obtain ⟨i, rfl, _⟩ := h
    rfl
  obtain ⟨i, rfl, rfl⟩ := h
  show Rs _ _ [.da (.int i)] _ _
  exact rs_ret (ev_and (k := true) (l := true) (ev_isi T.isinstance (ev_v 0) T.int boot_int rfl) (fun _ => (ev_one (ev_not (k := false) (ev_isi T.isinstance (ev_v 0) T.bool boot_bool rfl))))) rfl
abbrev s_l_cell : Stmt := topS 13
theorem cs_l_cell : FnScope ["_law_script", "_law_k"] ["_law_script", "_law_k"] (defScope s_l_cell) := ⟨rfl, rfl, rfl, by decide +kernel, rfl, by decide +kernel, by decide +kernel⟩
def Ss_l_cell (ds : List D) (r : D) : Prop := ∃ (ns : List Int) (k : Nat), ds = [.scr ns, .int k] ∧ r = .int (cellAt ns k)
theorem oks_l_cell (Df : Dfn K mg "_law_cell" s_l_cell ["_law_script", "_law_k"]) (T : Txt K mg) : Cal P w K mg base 1 "_law_cell" ["_law_script", "_law_k"] Ss_l_cell := by
  refine cal_ok Df cs_l_cell (fun ds r h => ?_) (fun f cdv A outer s H E ds r hr h => ?_)
  · obtain ⟨ns, k, rfl, _⟩ := h
    rfl
  obtain ⟨ns, k, rfl, rfl⟩ := h
  show Rs _ _ [.da (.scr ns), .da (.int k)] _ _
  refine rs_if1 (et_c (ec_lt (ev_v 1) (ev_lenC T.len (ev_v 0)))) (fun hc => ?_) (fun hc => ?_)
  · have h : k < ns.length := by have := of_decide_eq_true hc; omega
    refine rs_ret (ev_ixC (ev_v 0) (ev_v 1) (at_nat (x := cellAt ns k) ?_)) rfl
    unfold cellAt
    rw [if_pos h, List.getD_eq_getElem?_getD]
    simp [h]
  · have h : ¬ k < ns.length := by have := of_decide_eq_false hc; omega
    refine rs_ret ev_i ?_
    unfold cellAt
    rw [if_neg h]
abbrev s_l_draws : Stmt := topS 14
theorem cs_l_draws : FnScope ["_law_cell_here", "_law_many", "_law_base", "_law_value", "_law_draws_here", "_law_k"] ["_law_cell_here", "_law_many", "_law_base"] (defScope s_l_draws) := ⟨rfl, rfl, rfl, by decide +kernel, rfl, by decide +kernel, by decide +kernel⟩
def Ss_l_draws (ds : List D) (r : D) : Prop := ∃ (c : Int) (n : Nat) (b : Int), ds = [.int c, .int n, .int b] ∧ 0 < b ∧ b ≤ 1000 ∧ n ≤ 100000 ∧ r = .lst ((drs c n b).map D.int)
theorem oks_l_draws (Df : Dfn K mg "_law_draws" s_l_draws ["_law_cell_here", "_law_many", "_law_base"]) (T : Txt K mg) : Cal P w K mg base 1 "_law_draws" ["_law_cell_here", "_law_many", "_law_base"] Ss_l_draws := by
  refine cal_ok Df cs_l_draws (fun ds r h => ?_) (fun f cdv A outer s H E ds r hr h => ?_)
  · obtain ⟨c, n, b, rfl, _⟩ := h
    rfl
  obtain ⟨c, n, b, rfl, hb, hb2, hn, rfl⟩ := h
  show Rs _ _ [.da (.int c), .da (.int n), .da (.int b), .un, .un, .un] _ _
  have nd := cs_l_draws.nd
  refine rs_set 3 nd (ev_abs T.abs (ev_v 0)) ?_
  refine rs_setO 4 nd (eo_lst ea_nil) ?_
  refine rs_forG (fun k => [.da (.int c), .da (.int n), .da (.int b), .da (.int (drS c b k).1), .ol ((drS c b k).2.map D.int), .un]) PassesOwn.never (ei_r1 T.range (ev_v 1)) (tg_n 5 nd) (.eq rfl (.eq rfl (.eq rfl (.eq rfl (.eq rfl (.un .nil)))))) (fun k d hd => ?_) ?_
  · obtain ⟨hi, rfl⟩ := get_range hd
    rw [Int.toNat_natCast] at hi
    refine ⟨_, rfl, ?_⟩
    have hl := drS_len c b k
    have hz : ((drS c b k).2.map D.int).length < sizeLine := by
      rw [List.length_map, hl]
      exact Nat.lt_of_le_of_lt (by omega : k ≤ 100000) (by decide)
    have e18 : (10 : Int) ^ (18 : Int).toNat = 1000000000000000000 := by decide
    refine rs_last (rn_if (et_c (ec_ge (ev_abs T.abs (ev_v 0)) (ev_pow ev_i ev_i))) (fun hc => ?_) (fun hc => ?_))
    · rw [e18, decide_eq_true_eq] at hc
      refine rs_app 4 (ev_mod (ev_v 3) (ev_v 2)) ?_ hz
      refine rs_set 3 nd (ev_div (ev_v 3) (ev_v 2)) ?_
      refine rs_nil ?_
      have e : drS c b (k + 1) = ((drS c b k).1 / b, (drS c b k).2 ++ [(drS c b k).1 % b]) := by
        rw [drS, if_pos hc]
      rw [e]
      exact .eq rfl (.eq rfl (.eq rfl (.eq rfl (.eq (by simp) (.un .nil)))))
    · rw [e18, decide_eq_false_iff_not] at hc
      refine rs_set 3 nd (ev_mod (ev_add (ev_add (ev_mul (ev_v 3) ev_i) (ev_mul ev_i (ev_v 5))) ev_i) ev_i) ?_
      refine rs_set 3 nd (ev_mod (ev_add (ev_mul (ev_v 3) ev_i) ev_i) ev_i) ?_
      refine rs_app 4 (ev_mod (ev_div (ev_v 3) ev_i) (ev_v 2)) ?_ hz
      refine rs_nil ?_
      have e : drS c b (k + 1) = ((((drS c b k).1 * 48271 + 20011 * (k : Int) + 7919) % 2147483647 * 69621 + 104729) % 2147483629, (drS c b k).2 ++ [(((drS c b k).1 * 48271 + 20011 * (k : Int) + 7919) % 2147483647 * 69621 + 104729) % 2147483629 / 11 % b]) := by
        rw [drS, if_neg hc]
      rw [e]
      exact .eq rfl (.eq rfl (.eq rfl (.eq rfl (.eq (by simp) (.un .nil)))))
  refine rs_freeze 4 rfl ?_
  refine rs_ret (ev_v 4) ?_
  rw [List.length_map, List.length_range, Int.toNat_natCast]
  rfl
end
/-! ### leaves drawn -/
def nmL : List Str := ["a", "b", "turn_2"]
def lf8 (a o n : Fml) : List Fml := [.t2 "equal" a n, .t2 "below" a n, .t2 "upto" n a, .t2 "equal" (.t2 "plus" a n) o, .t2 "below" a o, .t2 "upto" (.t2 "times" o a) (.t1 "negative" n), .t2 "equal" (.t2 "quotient" a (.i 3)) (.t2 "remainder" o (.i 2)), .t2 "below" (.t2 "least" a n) o]
def lfOf (c : Int) (n k : Nat) : Fml :=
  let a : Fml := .t1 "name" (.s (nmL.getD (dr c (3 * n) 72 (3 * k) % 3).toNat ""))
  let o : Fml := .t1 "name" (.s (nmL.getD (dr c (3 * n) 72 (3 * k) / 3 % 3).toNat ""))
  let m : Fml := .t1 "number" (.i (dr c (3 * n) 72 (3 * k + 1) % 12))
  (lf8 a o m).getD (dr c (3 * n) 72 (3 * k + 2) % 8).toNat (.i 0)
def lvs (c : Int) (n : Nat) : List Fml := .t0 "true" :: .t0 "false" :: (List.range n).map (lfOf c n)
def opW : List Str := ["not", "and", "or", "implies", "same", "ex", "ax", "ef", "af", "eg", "ag", "eu", "au"]
def unW : List Str := ["not", "ex", "ax", "ef", "af", "eg", "ag"]
/-- the words of the operators -/
def OWk : Fml → Prop
  | .t1 w a => w ∈ opW ∧ OWk a
  | .t2 w a b => w ∈ cmpW ∨ (w ∈ opW ∧ OWk a ∧ OWk b)
  | _ => True
/-- what formulas are -/
structure FmOk (t : Fml) (n B : Nat) : Prop where
  wf : Wf t
  no : NOk t
  tx : txt t = true
  dp : dep t ≤ n
  ct : rcnt t ≤ B
  sq : (seqN t).length ≤ 4 * B
  ow : OWk t
theorem FmOk.mono {t : Fml} {n n' B B' : Nat} (h : FmOk t n B) (h1 : n ≤ n') (h2 : B ≤ B') : FmOk t n' B' := ⟨h.wf, h.no, h.tx, Nat.le_trans h.dp h1, Nat.le_trans h.ct h2, Nat.le_trans h.sq (by omega), h.ow⟩
theorem nm_ok {k : Int} (h : 0 ≤ k ∧ k < 3) : nmL.getD k.toNat "" ∈ nmL := by
  rcases (by omega : k = 0 ∨ k = 1 ∨ k = 2) with z | z | z <;> subst z
  · exact List.mem_cons_self
  · exact List.mem_cons_of_mem _ List.mem_cons_self
  · exact List.mem_cons_of_mem _ (List.mem_cons_of_mem _ List.mem_cons_self)
theorem nm_txt {x : Str} (h : x ∈ nmL) : PyData.strOk x = true := by
  have e : ∀ x ∈ nmL, PyData.strOk x = true := by decide +kernel
  exact e x h
theorem wOk : ∀ x ∈ (["equal", "below", "upto", "plus", "times", "negative", "quotient", "remainder", "least", "name", "number", "true", "false"] : List Str), PyData.strOk x = true := by decide +kernel
theorem wNm : ∀ x ∈ (["equal", "below", "upto", "plus", "times", "negative", "quotient", "remainder", "least", "number", "true", "false"] : List Str), x ≠ "name" := by decide +kernel
end Lw

namespace Lw
open PySem PySem.Spec PyProof.Rows L2 Dv Fo Tx
/-! ### terms, leaves -/
structure TmOk (t : Fml) : Prop where
  no : NOk t
  tx : txt t = true
  dp : dep t ≤ 3
  sq : (seqN t).length ≤ 2
theorem tm_name {x : Str} (h : x ∈ nmL) : TmOk (.t1 "name" (.s x)) := ⟨.inl ⟨rfl, x, rfl⟩, by rw [txt, txt, nm_txt h, Bool.and_true]; exact wOk _ (by simp), by rw [dep, dep]; omega, by unfold seqN; rw [if_pos rfl]; exact Nat.le_succ 1⟩
theorem tm_num (m : Int) : TmOk (.t1 "number" (.i m)) := ⟨.inr ⟨wNm _ (by simp), trivial⟩, by rw [txt, txt, Bool.and_true]; exact wOk _ (by simp), by rw [dep, dep]; omega, by
  unfold seqN
  rw [if_neg (wNm "number" (by simp))]
  exact Nat.zero_le _⟩
theorem lf_mk {w : Str} {a b : Fml} (hw : w ∈ cmpW) (hn : w ≠ "name") (ht : PyData.strOk w = true) (ha : TmOk a) (hb : TmOk b) : FmOk (.t2 w a b) 4 1 := ⟨.inl hw, ⟨hn, ha.no, hb.no⟩, by rw [txt, ht, ha.tx, hb.tx]; rfl, by
  have := ha.dp
  have := hb.dp
  rw [dep]
  omega, by rw [rcnt, if_pos hw]; exact Nat.le_refl _, by
  have := ha.sq
  have := hb.sq
  rw [seqN, List.length_append]
  omega, .inl hw⟩
theorem tm_2 {w : Str} {a b : Fml} (hn : w ≠ "name") (ht : PyData.strOk w = true) (a1 : NOk a) (a2 : txt a = true) (a3 : dep a ≤ 2) (b1 : NOk b) (b2 : txt b = true) (b3 : dep b ≤ 2) (sq : (seqN a).length + (seqN b).length ≤ 2) : TmOk (.t2 w a b) := ⟨⟨hn, a1, b1⟩, by rw [txt, ht, a2, b2]; rfl, by
  rw [dep]
  omega, by rw [seqN, List.length_append]; exact sq⟩
theorem sq_name (x : Str) : (seqN (.t1 "name" (.s x))).length = 1 := by
  unfold seqN
  rw [if_pos rfl]
  rfl
theorem sq_num (m : Int) : (seqN (.t1 "number" (.i m))).length = 0 := by
  unfold seqN
  rw [if_neg (wNm "number" (by simp))]
  rfl
theorem lf8_ok {x y : Str} {m : Int} (hx : x ∈ nmL) (hy : y ∈ nmL) : ∀ t ∈ lf8 (.t1 "name" (.s x)) (.t1 "name" (.s y)) (.t1 "number" (.i m)), FmOk t 4 1 := by
  intro t ht
  have A := tm_name hx
  have O := tm_name hy
  have N := tm_num m
  have c1 : ("equal" : Str) ∈ cmpW := by unfold cmpW; simp
  have c2 : ("below" : Str) ∈ cmpW := by unfold cmpW; simp
  have c3 : ("upto" : Str) ∈ cmpW := by unfold cmpW; simp
  have n1 := wNm "equal" (by simp)
  have n2 := wNm "below" (by simp)
  have n3 := wNm "upto" (by simp)
  have w1 := wOk "equal" (by simp)
  have w2 := wOk "below" (by simp)
  have w3 := wOk "upto" (by simp)
  have dA : dep (.t1 "name" (.s x)) = 1 := rfl
  have dO : dep (.t1 "name" (.s y)) = 1 := rfl
  have dN : dep (.t1 "number" (.i m)) = 1 := rfl
  have sA := sq_name x
  have sO := sq_name y
  have sN := sq_num m
  have sI : ∀ k : Int, (seqN (.i k)).length = 0 := fun _ => rfl
  have plus : TmOk (.t2 "plus" (.t1 "name" (.s x)) (.t1 "number" (.i m))) := tm_2 (wNm _ (by simp)) (wOk _ (by simp)) A.no A.tx (by omega) N.no N.tx (by omega) (by omega)
  have times : TmOk (.t2 "times" (.t1 "name" (.s y)) (.t1 "name" (.s x))) := tm_2 (wNm _ (by simp)) (wOk _ (by simp)) O.no O.tx (by omega) A.no A.tx (by omega) (by omega)
  have neg : TmOk (.t1 "negative" (.t1 "number" (.i m))) := ⟨.inr ⟨wNm _ (by simp), N.no⟩, by rw [txt, N.tx, Bool.and_true]; exact wOk _ (by simp), by rw [dep]; omega, by
    have e : seqN (.t1 "negative" (.t1 "number" (.i m))) = seqN (.t1 "number" (.i m)) := by
      rw [seqN]
      exact if_neg (wNm "negative" (by simp))
      all_goals (intro x h; cases h)
    rw [e]
    omega⟩
  have quo : TmOk (.t2 "quotient" (.t1 "name" (.s x)) (.i 3)) := tm_2 (wNm _ (by simp)) (wOk _ (by simp)) A.no A.tx (by omega) trivial rfl (by rw [dep]; omega) (by rw [sI]; omega)
  have rem : TmOk (.t2 "remainder" (.t1 "name" (.s y)) (.i 2)) := tm_2 (wNm _ (by simp)) (wOk _ (by simp)) O.no O.tx (by omega) trivial rfl (by rw [dep]; omega) (by rw [sI]; omega)
  have least : TmOk (.t2 "least" (.t1 "name" (.s x)) (.t1 "number" (.i m))) := tm_2 (wNm _ (by simp)) (wOk _ (by simp)) A.no A.tx (by omega) N.no N.tx (by omega) (by omega)
  unfold lf8 at ht
  simp only [List.mem_cons, List.not_mem_nil, or_false] at ht
  rcases ht with h | h | h | h | h | h | h | h <;> subst h
  · exact lf_mk c1 n1 w1 A N
  · exact lf_mk c2 n2 w2 A N
  · exact lf_mk c3 n3 w3 N A
  · exact lf_mk c1 n1 w1 plus O
  · exact lf_mk c2 n2 w2 A O
  · exact lf_mk c3 n3 w3 times neg
  · exact lf_mk c1 n1 w1 quo rem
  · exact lf_mk c2 n2 w2 least O
theorem emod_in {a b : Int} (h : 0 < b) : 0 ≤ a % b ∧ a % b < b := ⟨Int.emod_nonneg _ (by omega), Int.emod_lt_of_pos _ h⟩
theorem getD_in {α : Type} {l : List α} {k : Int} {n : Nat} (hl : l.length = n) (h : 0 ≤ k ∧ k < n) (d : α) : l[k.toNat]? = some (l.getD k.toNat d) := by
  have : k.toNat < l.length := by omega
  rw [List.getD_eq_getElem?_getD]
  simp [this]
theorem getD_mem {α : Type} {l : List α} {k : Int} {n : Nat} (hl : l.length = n) (h : 0 ≤ k ∧ k < n) (d : α) : l.getD k.toNat d ∈ l := List.mem_of_getElem? (getD_in hl h d)
/-- by an int that is a place -/
theorem at_int {α β : Type} {f : α → β} {l : List α} {k : Int} {n : Nat} (hl : l.length = n) (h : 0 ≤ k ∧ k < n) (d : α) : atI (l.map f) k = some (f (l.getD k.toNat d)) := by
  have e : k = ((k.toNat : Nat) : Int) := by omega
  rw [e]
  exact at_map (getD_in hl h d)
theorem lfOf_ok (c : Int) (n k : Nat) : FmOk (lfOf c n k) 4 1 := by
  unfold lfOf
  exact lf8_ok (nm_ok (emod_in (by decide))) (nm_ok (emod_in (by decide))) _ (getD_mem (n := 8) rfl (emod_in (by decide)) _)
theorem lvs_len (c : Int) (n : Nat) : (lvs c n).length = n + 2 := by simp [lvs]
theorem tf_ok {w : Str} (h : w = "true" ∨ w = "false") : FmOk (.t0 w) 4 1 := by
  have e : PyData.strOk w = true ∧ w ≠ "name" := by
    rcases h with h | h <;> subst h <;> exact ⟨wOk _ (by simp), wNm _ (by simp)⟩
  exact ⟨h, e.2, e.1, by rw [dep]; omega, by rw [rcnt]; exact Nat.le_refl _, by rw [show seqN (.t0 w) = [] from rfl]; exact Nat.zero_le _, trivial⟩
theorem lvs_ok (c : Int) (n : Nat) : ∀ t ∈ lvs c n, FmOk t 4 1 := by
  intro t h
  unfold lvs at h
  rcases List.mem_cons.mp h with h | h
  · subst h
    exact tf_ok (.inl rfl)
  · rcases List.mem_cons.mp h with h | h
    · subst h
      exact tf_ok (.inr rfl)
    · obtain ⟨k, _, rfl⟩ := List.mem_map.mp h
      exact lfOf_ok c n k
section
variable {P : Program} {w : World} {K : PySem.W.Frag} {mg : Str → Option Value} {base : Heap}
abbrev s_l_leaves : Stmt := topS 15
theorem cs_l_leaves : FnScope ["_law_cell_here", "_law_many", "_law_draws_here", "_law_leaves_here", "_law_k", "_law_name", "_law_other", "_law_number_here"] ["_law_cell_here", "_law_many"] (defScope s_l_leaves) := ⟨rfl, rfl, rfl, by decide +kernel, rfl, by decide +kernel, by decide +kernel⟩
def Ss_l_leaves (ds : List D) (r : D) : Prop := ∃ (c : Int) (n : Nat), ds = [.int c, .int n] ∧ n ≤ 1000 ∧ r = .lst ((lvs c n).map inj)
theorem oks_l_leaves (Df : Dfn K mg "_law_leaves" s_l_leaves ["_law_cell_here", "_law_many"]) (T : Txt K mg) (Cd : Cal P w K mg base 1 "_law_draws" ["_law_cell_here", "_law_many", "_law_base"] Ss_l_draws) : Cal P w K mg base 2 "_law_leaves" ["_law_cell_here", "_law_many"] Ss_l_leaves := by
  refine cal_ok Df cs_l_leaves (fun ds r h => ?_) (fun f cdv A outer s H E ds r hr h => ?_)
  · obtain ⟨c, n, rfl, _⟩ := h
    rfl
  obtain ⟨c, n, rfl, hn, rfl⟩ := h
  show Rs _ _ [.da (.int c), .da (.int n), .un, .un, .un, .un, .un, .un] _ _
  have nd := cs_l_leaves.nd
  refine rs_set 2 nd (ev_cal Cd hr (ea_cons (ev_v 0) (ea_cons (ev_mul ev_i (ev_v 1)) (ea_cons ev_i ea_nil))) ⟨c, 3 * n, 72, by rw [Int.natCast_mul]; rfl, by decide, by decide, by omega, rfl⟩) ?_
  refine rs_setO 3 nd (eo_lst (ea_cons (ev_tup (ea_cons ev_s ea_nil)) (ea_cons (ev_tup (ea_cons ev_s ea_nil)) ea_nil))) ?_
  refine rs_forG (fun k => [.da (.int c), .da (.int n), .da (.lst ((drs c (3 * n) 72).map D.int)), .ol ((Fml.t0 "true" :: Fml.t0 "false" :: (List.range k).map (lfOf c n)).map inj), .un, .un, .un, .un]) PassesOwn.never (ei_r1 T.range (ev_v 1)) (tg_n 4 nd) ?s0 (fun k d hd => ?_) ?_
  case s0 => exact .eq rfl (.eq rfl (.eq rfl (.eq rfl (.un (.un (.un (.un .nil)))))))
  · obtain ⟨hi, rfl⟩ := get_range hd
    rw [Int.toNat_natCast] at hi
    refine ⟨_, rfl, ?_⟩
    have ix : ∀ {j : Nat} {z : Int}, j < 3 * n → z = (j : Int) → atI ((drs c (3 * n) 72).map D.int) z = some (.int (dr c (3 * n) 72 j)) := fun hj e => by
      rw [e]
      exact at_map (dr_get (by decide) hj).1
    have nmx : ∀ v : Int, atI (nmL.map D.str) (v % 3) = some (.str (nmL.getD (v % 3).toNat "")) := fun v => at_int (f := D.str) (l := nmL) (n := 3) (k := v % 3) rfl (emod_in (a := v) (b := 3) (by decide)) ("" : Str)
    refine rs_set 5 nd (d := inj (.t1 "name" (.s (nmL.getD (dr c (3 * n) 72 (3 * k) % 3).toNat "")))) (ev_tup (ea_cons ev_s (ea_cons (ev_ix (xs := nmL.map D.str) (er_o (eo_lst (ea_cons ev_s (ea_cons ev_s (ea_cons ev_s ea_nil))))) (ev_mod (ev_ix (er_d (ev_v 2)) (ev_mul ev_i (ev_v 4)) (ix (j := 3 * k) (by omega) (by omega))) ev_i) (nmx _)) ea_nil))) ?_
    refine rs_set 6 nd (d := inj (.t1 "name" (.s (nmL.getD (dr c (3 * n) 72 (3 * k) / 3 % 3).toNat "")))) (ev_tup (ea_cons ev_s (ea_cons (ev_ix (xs := nmL.map D.str) (er_o (eo_lst (ea_cons ev_s (ea_cons ev_s (ea_cons ev_s ea_nil))))) (ev_mod (ev_div (ev_ix (er_d (ev_v 2)) (ev_mul ev_i (ev_v 4)) (ix (j := 3 * k) (by omega) (by omega))) ev_i) ev_i) (nmx _)) ea_nil))) ?_
    refine rs_set 7 nd (d := inj (.t1 "number" (.i (dr c (3 * n) 72 (3 * k + 1) % 12)))) (ev_tup (ea_cons ev_s (ea_cons (ev_mod (ev_ix (er_d (ev_v 2)) (ev_add (ev_mul ev_i (ev_v 4)) ev_i) (ix (j := 3 * k + 1) (by omega) (by omega))) ev_i) ea_nil))) ?_
    refine rs_app 3 (d := inj (lfOf c n k)) (ev_ix (xs := (lf8 (.t1 "name" (.s (nmL.getD (dr c (3 * n) 72 (3 * k) % 3).toNat ""))) (.t1 "name" (.s (nmL.getD (dr c (3 * n) 72 (3 * k) / 3 % 3).toNat ""))) (.t1 "number" (.i (dr c (3 * n) 72 (3 * k + 1) % 12)))).map inj) (er_o (eo_lst (ea_cons (ev_tup (ea_cons ev_s (ea_cons (ev_v 5) (ea_cons (ev_v 7) ea_nil)))) (ea_cons (ev_tup (ea_cons ev_s (ea_cons (ev_v 5) (ea_cons (ev_v 7) ea_nil)))) (ea_cons (ev_tup (ea_cons ev_s (ea_cons (ev_v 7) (ea_cons (ev_v 5) ea_nil))))
      (ea_cons (ev_tup (ea_cons ev_s (ea_cons (ev_tup (ea_cons ev_s (ea_cons (ev_v 5) (ea_cons (ev_v 7) ea_nil)))) (ea_cons (ev_v 6) ea_nil)))) (ea_cons (ev_tup (ea_cons ev_s (ea_cons (ev_v 5) (ea_cons (ev_v 6) ea_nil)))) (ea_cons (ev_tup (ea_cons ev_s (ea_cons (ev_tup (ea_cons ev_s (ea_cons (ev_v 6) (ea_cons (ev_v 5) ea_nil)))) (ea_cons (ev_tup (ea_cons ev_s (ea_cons (ev_v 7) ea_nil))) ea_nil))))
      (ea_cons (ev_tup (ea_cons ev_s (ea_cons (ev_tup (ea_cons ev_s (ea_cons (ev_v 5) (ea_cons ev_i ea_nil)))) (ea_cons (ev_tup (ea_cons ev_s (ea_cons (ev_v 6) (ea_cons ev_i ea_nil)))) ea_nil)))) (ea_cons (ev_tup (ea_cons ev_s (ea_cons (ev_tup (ea_cons ev_s (ea_cons (ev_v 5) (ea_cons (ev_v 7) ea_nil)))) (ea_cons (ev_v 6) ea_nil)))) ea_nil)))))))))) (ev_mod (ev_ix (er_d (ev_v 2)) (ev_add (ev_mul ev_i (ev_v 4)) ev_i) (ix (j := 3 * k + 2) (by omega) (by omega))) ev_i) (at_int (f := inj) (n := 8) rfl (emod_in (by decide)) (Fml.i 0))) ?_ ?hz
    case hz =>
      rw [List.length_map]
      exact sz6' (by simp; omega)
    refine rs_nil (.eq rfl (.eq rfl (.eq rfl (.eq ?_ (.un (.un (.un (.un .nil))))))))
    rw [List.range_succ, List.map_append, List.map_cons, List.map_cons, List.map_cons, List.map_cons, List.map_append]
    rfl
  refine rs_freeze 3 rfl ?_
  refine rs_ret (ev_v 3) ?_
  rw [List.length_map, List.length_range, Int.toNat_natCast]
  rfl
end
/-! ### formulas -/
def foS (c : Int) (m : Nat) (lv : List Fml) : Nat → Fml × List Fml
  | 0 => (lv.getD (dr c (4 * m + 1) 65 (4 * m) % (lv.length : Int)).toNat (.i 0), lv)
  | k + 1 =>
    let p := foS c m lv k
    let part := if m < 9 ∧ dr c (4 * m + 1) 65 (4 * k + 1) < 24 then p.2.getD (dr c (4 * m + 1) 65 (4 * k + 1) % (p.2.length : Int)).toNat (.i 0) else p.1
    let other := if m < 9 then p.2.getD (dr c (4 * m + 1) 65 (4 * k + 2) % (p.2.length : Int)).toNat (.i 0) else lv.getD (dr c (4 * m + 1) 65 (4 * k + 2) % (lv.length : Int)).toNat (.i 0)
    let w := opW.getD (dr c (4 * m + 1) 65 (4 * k) % 13).toNat ""
    let f := if w ∈ unW then Fml.t1 w part else if dr c (4 * m + 1) 65 (4 * k + 3) % 2 = 0 then .t2 w part other else .t2 w other part
    (f, p.2 ++ [f])
def fmOf (c : Int) (m : Nat) (lv : List Fml) : Fml := (foS c m lv m).1
theorem opOk : ∀ w ∈ opW, w ∉ cmpW ∧ w ≠ "true" ∧ w ≠ "false" ∧ w ≠ "name" ∧ PyData.strOk w = true := by decide +kernel
theorem fm_1 {w : Str} {a : Fml} {n B : Nat} (hw : w ∈ opW) (h : FmOk a n B) : FmOk (.t1 w a) (n + 1) (B + 1) := by
  obtain ⟨h1, h2, h3, h4, h5⟩ := opOk w hw
  have e : seqN (.t1 w a) = seqN a := by
    cases a <;> (unfold seqN; exact if_neg h4)
  exact ⟨⟨h1, h2, h3, h.wf⟩, .inr ⟨h4, h.no⟩, by rw [txt, h5, h.tx]; rfl, by rw [dep]; exact Nat.succ_le_succ h.dp, by rw [rcnt]; exact Nat.succ_le_succ h.ct, by rw [e]; exact Nat.le_trans h.sq (by omega), ⟨hw, h.ow⟩⟩
theorem fm_2 {w : Str} {a b : Fml} {n B B' : Nat} (hw : w ∈ opW) (h : FmOk a n B) (h' : FmOk b n B') : FmOk (.t2 w a b) (n + 1) (B + B' + 1) := by
  obtain ⟨h1, h2, h3, h4, h5⟩ := opOk w hw
  have := h.dp
  have := h'.dp
  have := h.ct
  have := h'.ct
  have := h.sq
  have := h'.sq
  exact ⟨.inr ⟨h1, h2, h3, h.wf, h'.wf⟩, ⟨h4, h.no, h'.no⟩, by rw [txt, h5, h.tx, h'.tx]; rfl, by rw [dep]; omega, by rw [rcnt, if_neg h1]; omega, by rw [seqN, List.length_append]; omega, .inr ⟨hw, h.ow, h'.ow⟩⟩
theorem foS_len (c : Int) (m : Nat) (lv : List Fml) : ∀ k, (foS c m lv k).2.length = lv.length + k
  | 0 => rfl
  | k + 1 => by
    have ih := foS_len c m lv k
    unfold foS
    dsimp only
    rw [List.length_append, ih]
    rfl
/-- bounds: of all that is there, where parts are drawn; of the last one alone -/
theorem foS_ok {c : Int} {m : Nat} {lv : List Fml} (h0 : 0 < lv.length) (hl : ∀ t ∈ lv, FmOk t 4 1) : ∀ k, (m < 9 → FmOk (foS c m lv k).1 (4 + k) (2 ^ (k + 1) - 1) ∧ ∀ t ∈ (foS c m lv k).2, FmOk t (4 + k) (2 ^ (k + 1) - 1)) ∧ (¬ m < 9 → FmOk (foS c m lv k).1 (4 + k) (2 * k + 1)) := by
  intro k
  induction k with
  | zero =>
    have z : FmOk (foS c m lv 0).1 4 1 := hl _ (getD_mem (n := lv.length) rfl (emod_in (by omega)) _)
    exact ⟨fun _ => ⟨z, hl⟩, fun _ => z⟩
  | succ k ih =>
    have hw : ∀ v : Int, opW.getD (v % 13).toNat "" ∈ opW := fun v => getD_mem (n := 13) rfl (emod_in (by decide)) _
    have hlen := foS_len c m lv k
    have two : 2 ^ (k + 1 + 1) - 1 = (2 ^ (k + 1) - 1) + (2 ^ (k + 1) - 1) + 1 := by
      have : 0 < 2 ^ (k + 1) := Nat.pow_pos (by decide)
      rw [Nat.pow_succ 2 (k + 1)]
      omega
    by_cases h9 : m < 9
    · obtain ⟨i1, i2⟩ := ih.1 h9
      refine ⟨fun _ => ?_, fun z => absurd h9 z⟩
      have key : FmOk (foS c m lv (k + 1)).1 (4 + (k + 1)) (2 ^ (k + 1 + 1) - 1) := by
        unfold foS
        dsimp only
        rw [if_pos h9]
        have o := i2 _ (getD_mem (n := (foS c m lv k).2.length) (k := dr c (4 * m + 1) 65 (4 * k + 2) % ((foS c m lv k).2.length : Int)) rfl (emod_in (by omega)) (.i 0))
        have part : FmOk (if m < 9 ∧ dr c (4 * m + 1) 65 (4 * k + 1) < 24 then (foS c m lv k).2.getD (dr c (4 * m + 1) 65 (4 * k + 1) % ((foS c m lv k).2.length : Int)).toNat (.i 0) else (foS c m lv k).1) (4 + k) (2 ^ (k + 1) - 1) := by
          split
          · exact i2 _ (getD_mem (n := (foS c m lv k).2.length) rfl (emod_in (by omega)) _)
          · exact i1
        rw [two]
        split
        · exact (fm_1 (hw _) part).mono (by omega) (by omega)
        · split
          · exact fm_2 (hw _) part o
          · exact fm_2 (hw _) o part
      refine ⟨key, fun t ht => ?_⟩
      have e : (foS c m lv (k + 1)).2 = (foS c m lv k).2 ++ [(foS c m lv (k + 1)).1] := rfl
      rw [e] at ht
      rcases List.mem_append.mp ht with ht | ht
      · exact (i2 t ht).mono (by omega) (by rw [two]; omega)
      · rw [List.mem_singleton.mp ht]
        exact key
    · have i1 := ih.2 h9
      refine ⟨fun z => absurd z h9, fun _ => ?_⟩
      unfold foS
      dsimp only
      have pe : (if m < 9 ∧ dr c (4 * m + 1) 65 (4 * k + 1) < 24 then (foS c m lv k).2.getD (dr c (4 * m + 1) 65 (4 * k + 1) % ((foS c m lv k).2.length : Int)).toNat (.i 0) else (foS c m lv k).1) = (foS c m lv k).1 := if_neg fun z => h9 z.1
      rw [pe, if_neg h9]
      have o := (hl _ (getD_mem (n := lv.length) (k := dr c (4 * m + 1) 65 (4 * k + 2) % (lv.length : Int)) rfl (emod_in (by omega)) (.i 0))).mono (n' := 4 + k) (B' := 1) (by omega) (Nat.le_refl _)
      split
      · exact (fm_1 (hw _) i1).mono (by omega) (by omega)
      · split
        · exact (fm_2 (hw _) i1 o).mono (by omega) (by omega)
        · exact (fm_2 (hw _) o i1).mono (by omega) (by omega)
theorem fmOf_ok {c : Int} {m : Nat} {lv : List Fml} (h0 : 0 < lv.length) (hl : ∀ t ∈ lv, FmOk t 4 1) (hm : m ≤ 24) : FmOk (fmOf c m lv) 28 1000 := by
  obtain ⟨h1, h2⟩ := foS_ok (c := c) (m := m) h0 hl m
  by_cases h9 : m < 9
  · refine (h1 h9).1.mono (by omega) ?_
    have : 2 ^ (m + 1) ≤ 2 ^ 9 := Nat.pow_le_pow_right (by decide) (by omega)
    have e : 2 ^ 9 = 512 := by decide
    omega
  · exact (h2 h9).mono (by omega) (by omega)
end Lw

namespace Lw
open PySem PySem.Spec PyProof.Rows L2 Dv Fo Tx
section
variable {P : Program} {w : World} {K : PySem.W.Frag} {mg : Str → Option Value} {base : Heap}
theorem ite_inj {b : Bool} {p : Prop} [Decidable p] (h : b = decide p) (x y : Fml) : (if b then inj x else inj y) = inj (if p then x else y) := by
  subst h
  by_cases c : p
  · rw [if_pos c, decide_eq_true c]
    rfl
  · rw [if_neg c, decide_eq_false c]
    rfl
abbrev s_l_formula : Stmt := topS 16
theorem cs_l_formula : FnScope ["_law_cell_here", "_law_steps", "_law_leaves_here", "_law_words", "_law_draws_here", "_law_pool", "_law_formula_here", "_law_k", "_law_part", "_law_other", "_law_word"] ["_law_cell_here", "_law_steps", "_law_leaves_here"] (defScope s_l_formula) := ⟨rfl, rfl, rfl, by decide +kernel, rfl, by decide +kernel, by decide +kernel⟩
def Ss_l_formula (ds : List D) (r : D) : Prop := ∃ (c : Int) (m : Nat) (lv : List Fml), ds = [.int c, .int m, .lst (lv.map inj)] ∧ 0 < lv.length ∧ lv.length ≤ 1000 ∧ m ≤ 24 ∧ r = inj (fmOf c m lv)
theorem oks_l_formula (Df : Dfn K mg "_law_formula" s_l_formula ["_law_cell_here", "_law_steps", "_law_leaves_here"]) (T : Txt K mg) (Cd : Cal P w K mg base 1 "_law_draws" ["_law_cell_here", "_law_many", "_law_base"] Ss_l_draws) : Cal P w K mg base 2 "_law_formula" ["_law_cell_here", "_law_steps", "_law_leaves_here"] Ss_l_formula := by
  refine cal_ok Df cs_l_formula (fun ds r h => ?_) (fun f cdv A outer s H E ds r hr h => ?_)
  · obtain ⟨c, m, lv, rfl, _⟩ := h
    rfl
  obtain ⟨c, m, lv, rfl, h0, h1, hm, rfl⟩ := h
  show Rs _ _ [.da (.int c), .da (.int m), .da (.lst (lv.map inj)), .un, .un, .un, .un, .un, .un, .un, .un] _ _
  have nd := cs_l_formula.nd
  have ix : ∀ {j : Nat} {z : Int}, j < 4 * m + 1 → z = (j : Int) → atI ((drs c (4 * m + 1) 65).map D.int) z = some (.int (dr c (4 * m + 1) 65 j)) := fun hj e => by
    rw [e]
    exact at_map (dr_get (by decide) hj).1
  refine rs_setO 3 nd (xs := opW.map D.str) (eo_lst (ea_cons ev_s (ea_cons ev_s (ea_cons ev_s (ea_cons ev_s (ea_cons ev_s (ea_cons ev_s (ea_cons ev_s (ea_cons ev_s (ea_cons ev_s (ea_cons ev_s (ea_cons ev_s (ea_cons ev_s (ea_cons ev_s ea_nil)))))))))))))) ?_
  refine rs_set 4 nd (ev_cal Cd hr (ea_cons (ev_v 0) (ea_cons (ev_add (ev_mul ev_i (ev_v 1)) ev_i) (ea_cons ev_i ea_nil))) ⟨c, 4 * m + 1, 65, by rw [Int.natCast_add, Int.natCast_mul]; rfl, by decide, by decide, by omega, rfl⟩) ?_
  refine rs_setO 5 nd (eo_listL T.list (er_d (ev_v 2))) ?_
  refine rs_set 6 nd (d := inj (foS c m lv 0).1) (ev_ix (er_v 5) (ev_mod (ev_ix (er_d (ev_v 4)) (ev_mul ev_i (ev_v 1)) (ix (j := 4 * m) (by omega) (by omega))) (ev_eq (ev_len T.len (er_v 5)) (by rw [List.length_map])) (by omega)) (at_int (f := inj) (n := lv.length) rfl (emod_in (by omega)) (Fml.i 0))) ?_
  refine rs_forG (fun k => [.da (.int c), .da (.int m), .da (.lst (lv.map inj)), .ol (opW.map D.str), .da (.lst ((drs c (4 * m + 1) 65).map D.int)), .ol ((foS c m lv k).2.map inj), .da (inj (foS c m lv k).1), .un, .un, .un, .un]) PassesOwn.never (ei_r1 T.range (ev_v 1)) (tg_n 7 nd) (.eq rfl (.eq rfl (.eq rfl (.eq rfl (.eq rfl (.eq rfl (.eq rfl (.un (.un (.un (.un .nil))))))))))) (fun k d hd => ?_) ?_
  · obtain ⟨hi, rfl⟩ := get_range hd
    rw [Int.toNat_natCast] at hi
    refine ⟨_, rfl, ?_⟩
    have hl := foS_len c m lv k
    have nx : foS c m lv (k + 1) = _ := rfl
    refine rs_set 8 nd (ev_v 6) ?_
    refine rs_ifset 8 nd (et_w (ew_and (et_c (ec_lt (ev_v 1) ev_i)) (fun _ => (ew_and1 (et_c (ec_lt (ev_ix (er_d (ev_v 4)) (ev_add (ev_mul ev_i (ev_v 7)) ev_i) (ix (j := 4 * k + 1) (by omega) (by omega))) ev_i)))))) (fun _ => ev_ix (er_v 5) (ev_mod (ev_ix (er_d (ev_v 4)) (ev_add (ev_mul ev_i (ev_v 7)) ev_i) (ix (j := 4 * k + 1) (by omega) (by omega))) (ev_eq (ev_len T.len (er_v 5)) (by rw [List.length_map])) (by omega)) (at_int (f := inj) (n := (foS c m lv k).2.length) rfl (emod_in (by omega)) (Fml.i 0))) ?_
    rw [ite_inj (p := m < 9 ∧ dr c (4 * m + 1) 65 (4 * k + 1) < 24) (by
      rw [Bool.eq_iff_iff, Bool.and_eq_true, decide_eq_true_eq, decide_eq_true_eq, decide_eq_true_eq]
      constructor
      · rintro ⟨a, b⟩
        exact ⟨by omega, b⟩
      · rintro ⟨a, b⟩
        exact ⟨by omega, b⟩)]
    refine rs_set 9 nd (ev_ix (er_d (ev_v 2)) (ev_mod (ev_ix (er_d (ev_v 4)) (ev_add (ev_mul ev_i (ev_v 7)) ev_i) (ix (j := 4 * k + 2) (by omega) (by omega))) (ev_eq (ev_len T.len (er_d (ev_v 2))) (by rw [List.length_map])) (by omega)) (at_int (f := inj) (n := lv.length) rfl (emod_in (by omega)) (Fml.i 0))) ?_
    refine rs_ifset 9 nd (et_c (ec_lt (ev_v 1) ev_i)) (fun _ => ev_ix (er_v 5) (ev_mod (ev_ix (er_d (ev_v 4)) (ev_add (ev_mul ev_i (ev_v 7)) ev_i) (ix (j := 4 * k + 2) (by omega) (by omega))) (ev_eq (ev_len T.len (er_v 5)) (by rw [List.length_map])) (by omega)) (at_int (f := inj) (n := (foS c m lv k).2.length) rfl (emod_in (by omega)) (Fml.i 0))) ?_
    rw [ite_inj (p := m < 9) (by
      rw [Bool.eq_iff_iff, decide_eq_true_eq, decide_eq_true_eq]
      omega)]
    refine rs_set 10 nd (ev_ix (er_v 3) (ev_mod (ev_ix (er_d (ev_v 4)) (ev_mul ev_i (ev_v 7)) (ix (j := 4 * k) (by omega) (by omega))) ev_i) (at_int (f := D.str) (l := opW) (n := 13) (k := dr c (4 * m + 1) 65 (4 * k) % 13) rfl (emod_in (b := 13) (by decide)) ("" : Str))) ?_
    generalize hw : opW.getD (dr c (4 * m + 1) 65 (4 * k) % 13).toNat "" = wx
    generalize hpart : (if m < 9 ∧ dr c (4 * m + 1) 65 (4 * k + 1) < 24 then (foS c m lv k).2.getD (dr c (4 * m + 1) 65 (4 * k + 1) % ((foS c m lv k).2.length : Int)).toNat (Fml.i 0) else (foS c m lv k).1) = pt
    generalize hother : (if m < 9 then (foS c m lv k).2.getD (dr c (4 * m + 1) 65 (4 * k + 2) % ((foS c m lv k).2.length : Int)).toNat (Fml.i 0) else lv.getD (dr c (4 * m + 1) 65 (4 * k + 2) % (lv.length : Int)).toNat (Fml.i 0)) = ot
    have e1 : (foS c m lv (k + 1)).1 = if wx ∈ unW then Fml.t1 wx pt else if dr c (4 * m + 1) 65 (4 * k + 3) % 2 = 0 then .t2 wx pt ot else .t2 wx ot pt := by
      rw [← hw, ← hpart, ← hother]
      rfl
    have e2 : (foS c m lv (k + 1)).2 = (foS c m lv k).2 ++ [(foS c m lv (k + 1)).1] := rfl
    refine rs_if (fun Γ' => Γ' = [.da (.int c), .da (.int m), .da (.lst (lv.map inj)), .ol (opW.map D.str), .da (.lst ((drs c (4 * m + 1) 65).map D.int)), .ol ((foS c m lv k).2.map inj), .da (inj (foS c m lv (k + 1)).1), .da (.int (k : Nat)), .da (inj pt), .da (inj ot), .da (.str wx)]) (et_c (ec_inL (ws := unW) (ev_v 10) (er_o (eo_lst (ea_cons ev_s (ea_cons ev_s (ea_cons ev_s (ea_cons ev_s (ea_cons ev_s (ea_cons ev_s (ea_cons ev_s ea_nil))))))))))) (fun hc => ?_) (fun hc => ?_) (fun Γ' mm => ?_)
    · have hc : wx ∈ unW := of_decide_eq_true hc
      rw [e1, if_pos hc]
      exact rs_set 6 nd (ev_tup (ea_cons (ev_v 10) (ea_cons (ev_v 8) ea_nil))) (rs_nil rfl)
    · have hc : wx ∉ unW := of_decide_eq_false hc
      rw [e1, if_neg hc]
      refine rs_last (rn_if (et_c (ec_eqI (ev_mod (ev_ix (er_d (ev_v 4)) (ev_add (ev_mul ev_i (ev_v 7)) ev_i) (ix (j := 4 * k + 3) (by omega) (by omega))) ev_i) ev_i)) (fun h2 => ?_) (fun h2 => ?_))
      · have h2 := of_decide_eq_true h2
        rw [if_pos h2]
        exact rs_set 6 nd (ev_tup (ea_cons (ev_v 10) (ea_cons (ev_v 8) (ea_cons (ev_v 9) ea_nil)))) (rs_nil rfl)
      · have h2 := of_decide_eq_false h2
        rw [if_neg h2]
        exact rs_set 6 nd (ev_tup (ea_cons (ev_v 10) (ea_cons (ev_v 9) (ea_cons (ev_v 8) ea_nil)))) (rs_nil rfl)
    subst mm
    refine rs_app 5 (ev_v 6) ?_ ?hz
    case hz =>
      rw [List.length_map, hl]
      exact sz6' (by omega)
    refine rs_nil (.eq rfl (.eq rfl (.eq rfl (.eq rfl (.eq rfl (.eq ?_ (.eq rfl (.un (.un (.un (.un .nil)))))))))))
    rw [e2, List.map_append]
    rfl
  refine rs_ret (ev_v 6) ?_
  rw [List.length_map, List.length_range, Int.toNat_natCast]
  rfl
/-! ### the same rows -/
abbrev s_l_same_row : Stmt := topS 19
theorem cs_l_same_row : FnScope ["_law_actual", "_law_expected"] ["_law_actual", "_law_expected"] (defScope s_l_same_row) := ⟨rfl, rfl, rfl, by decide +kernel, rfl, by decide +kernel, by decide +kernel⟩
def Ss_l_same_row (ds : List D) (r : D) : Prop := ∃ x : Rwt, ds = [injR x, injR x] ∧ PyData.strOk x.1 = true ∧ r = .bl true
theorem oks_l_same_row (Df : Dfn K mg "_law_same_row" s_l_same_row ["_law_actual", "_law_expected"]) (T : Txt K mg) (Ci : Cal P w K mg base 1 "_law_is_integer" ["_law_actual"] Ss_l_is_integer) : Cal P w K mg base 2 "_law_same_row" ["_law_actual", "_law_expected"] Ss_l_same_row := by
  refine cal_ok Df cs_l_same_row (fun ds r h => ?_) (fun f cdv A outer s H E ds r hr h => ?_)
  · obtain ⟨x, rfl, _⟩ := h
    rfl
  obtain ⟨x, rfl, hx, rfl⟩ := h
  show Rs _ _ [.da (.tup [.str x.1, .int x.2.1, .int x.2.2]), .da (.tup [.str x.1, .int x.2.1, .int x.2.2])] _ _
  have nd := cs_l_same_row.nd
  refine rs_if1 (et_w (ew_or (et_not (et_b (ev_isi (k := true) T.isinstance (ev_v 0) T.tuple boot_tuple rfl))) (fun _ => (ew_or (et_c (ec_neI (ev_lenT T.len (ev_v 0)) ev_i)) (fun _ => (ew_or1 (et_not (et_b (ev_isi (k := true) (d := .str x.1) T.isinstance (ev_ixT (ev_v 0) ev_i rfl) T.str boot_str rfl))))))))) (fun hc => ?_) (fun hc => ?_)
  · simp at hc
  refine rs_if1 (et_w (ew_or (et_not (et_b (ev_cal Ci hr (ea_cons (ev_ixT (ev_v 0) ev_i (d := .int x.2.1) rfl) ea_nil) ⟨_, rfl, rfl⟩))) (fun _ => (ew_or1 (et_not (et_b (ev_cal Ci hr (ea_cons (ev_ixT (ev_v 0) ev_i (d := .int x.2.2) rfl) ea_nil) ⟨_, rfl, rfl⟩))))))) (fun hc => ?_) (fun hc => ?_)
  · simp at hc
  exact rs_ret (ev_c (ec_eqR (ev_v 0) (ev_v 1) (show okD (injR x) 64 = true from okR hx 63) hr)) rfl
abbrev s_l_same : Stmt := topS 20
theorem cs_l_same : FnScope ["_law_actual", "_law_facts", "_law_rows", "_law_temporal", "_law_k"] ["_law_actual", "_law_facts", "_law_rows", "_law_temporal"] (defScope s_l_same) := ⟨rfl, rfl, rfl, by decide +kernel, rfl, by decide +kernel, by decide +kernel⟩
def Ss_l_same (C : Addr) (ds : List D) (r : D) : Prop := ∃ (fs : List Fml) (rs : List Rwt), ds = [rowsD C fs rs, .lst (fs.map inj), .lst (rs.map injR), .lst ((temps rs).map fun i => D.int (i : Nat))] ∧ (∀ a ∈ fs, isT a = true ∧ txt a = true ∧ dep a ≤ 60) ∧ (∀ x ∈ rs, PyData.strOk x.1 = true) ∧ fs.length ≤ 1000000 ∧ rs.length ≤ 1000000 ∧ r = .bl true
theorem temps_len (rs : List Rwt) : (temps rs).length ≤ rs.length := by
  unfold temps
  have := List.length_filter_le (fun i => !decide ((rs.getD i ("", 0, 0)).1 ∈ plainW)) (List.range rs.length)
  rwa [List.length_range] at this
theorem oks_l_same {C : Addr} (Df : Dfn K mg "_law_same" s_l_same ["_law_actual", "_law_facts", "_law_rows", "_law_temporal"]) (T : Txt K mg) (V : Rws K mg C) (Ci : Cal P w K mg base 1 "_law_is_integer" ["_law_actual"] Ss_l_is_integer) (Cr : Cal P w K mg base 2 "_law_same_row" ["_law_actual", "_law_expected"] Ss_l_same_row) : Cal P w K mg base 3 "_law_same" ["_law_actual", "_law_facts", "_law_rows", "_law_temporal"] (Ss_l_same C) := by
  refine cal_ok Df cs_l_same (fun ds r h => ?_) (fun f cdv A outer s H E ds r hr h => ?_)
  · obtain ⟨fs, rs, rfl, _⟩ := h
    rfl
  obtain ⟨fs, rs, rfl, hf, hx, hz1, hz2, rfl⟩ := h
  have hz3 := temps_len rs
  show Rs _ _ [.da (rowsD C fs rs), .da (.lst (fs.map inj)), .da (.lst (rs.map injR)), .da (.lst ((temps rs).map fun i => D.int (i : Nat))), .un] _ _
  have nd := cs_l_same.nd
  generalize htm : (temps rs).map (fun i => D.int (i : Nat)) = tm
  have htl : tm.length = (temps rs).length := by rw [← htm, List.length_map]
  have hti : ∀ i (h : i < tm.length), ∃ j : Nat, tm[i]? = some (.int (j : Nat)) := fun i h => by
    have h' : i < (temps rs).length := by omega
    exact ⟨(temps rs)[i], by rw [← htm, List.getElem?_map, show (temps rs)[i]? = some (temps rs)[i] by simp [h']]; rfl⟩
  have hD : rowsD C fs rs = .obj C [("facts", .lst (fs.map inj)), ("rows", .lst (rs.map injR)), ("temporal", .lst tm)] := by rw [← htm]; rfl
  rw [hD]
  refine rs_if1 (et_not (et_b (ev_isiC T.isinstance (ev_v 0) V.gl V.is))) (fun hc => ?_) (fun _ => ?_)
  · cases hc
  refine rs_if1 (et_w (ew_or (et_not (et_b (ev_isi (k := true) (d := .lst (fs.map inj)) T.isinstance (ev_fld (ev_v 0) V.cl V.nF rfl) T.list boot_list rfl))) (fun _ => (ew_or1 (et_not (et_b (ev_isi (k := true) (d := .lst (rs.map injR)) T.isinstance (ev_fld (ev_v 0) V.cl V.nR rfl) T.list boot_list rfl))))))) (fun hc => ?_) (fun _ => ?_)
  · cases hc
  refine rs_if1 (et_w (ew_or (et_not (et_b (ev_isi (k := true) (d := .lst tm) T.isinstance (ev_fld (ev_v 0) V.cl V.nT rfl) T.list boot_list rfl))) (fun _ => (ew_or1 (et_c (ec_neI (ev_len (xs := tm) T.len (er_d (ev_fld (ev_v 0) V.cl V.nT rfl))) (ev_len T.len (er_d (ev_v 3))))))))) (fun hc => ?_) (fun _ => ?_)
  · simp at hc
  refine rs_if1 (et_w (ew_or (et_c (ec_neI (ev_len (xs := fs.map inj) T.len (er_d (ev_fld (ev_v 0) V.cl V.nF rfl))) (ev_len T.len (er_d (ev_v 1))))) (fun _ => (ew_or1 (et_c (ec_neI (ev_len (xs := rs.map injR) T.len (er_d (ev_fld (ev_v 0) V.cl V.nR rfl))) (ev_len T.len (er_d (ev_v 2))))))))) (fun hc => ?_) (fun _ => ?_)
  · simp at hc
  refine rs_forG (fun _ => [.da (.obj C [("facts", .lst (fs.map inj)), ("rows", .lst (rs.map injR)), ("temporal", .lst tm)]), .da (.lst (fs.map inj)), .da (.lst (rs.map injR)), .da (.lst tm), .un]) PassesOwn.never (ei_r1 T.range (ev_len T.len (er_d (ev_v 1))) (by rw [List.length_map]; omega)) (tg_n 4 nd) (Sub.refl _) (fun i d hd => ?_) ?_
  · obtain ⟨hi, rfl⟩ := get_range hd
    rw [List.length_map, Int.toNat_natCast] at hi
    refine ⟨_, rfl, ?_⟩
    have hg : fs[i]? = some fs[i] := by simp [hi]
    obtain ⟨g1, g2, g3⟩ := hf _ (List.getElem_mem hi)
    have rd : ∀ {X : Cx} {H0 : Hp} {Γ : List Sl} {e : Expr}, Ev X H0 Γ e (.obj C [("facts", .lst (fs.map inj)), ("rows", .lst (rs.map injR)), ("temporal", .lst tm)]) → True := fun _ => trivial
    refine rs_if1 (et_w (ew_or (et_not (et_b (ev_isT (a := fs[i]) T.isinstance T.tuple (ev_ix (er_d (ev_fld (d := .lst (fs.map inj)) (ev_v 0) V.cl V.nF rfl)) (ev_v 4) (at_map hg))))) (fun _ => (ew_or1 (et_c (ec_neR (ev_ix (er_d (ev_fld (d := .lst (fs.map inj)) (ev_v 0) V.cl V.nF rfl)) (ev_v 4) (at_map hg)) (ev_ix (er_d (ev_v 1)) (ev_v 4) (at_map hg)) (ok_inj _ 64 g2 (by omega)) hr)))))) (fun hc => ?_) (fun _ => ?_)
    · rw [g1] at hc
      cases hc
    exact rs_nil (.eq rfl (.eq rfl (.eq rfl (.eq rfl (.un .nil)))))
  refine rs_forG (fun _ => [.da (.obj C [("facts", .lst (fs.map inj)), ("rows", .lst (rs.map injR)), ("temporal", .lst tm)]), .da (.lst (fs.map inj)), .da (.lst (rs.map injR)), .da (.lst tm), .un]) PassesOwn.never (ei_r1 T.range (ev_len T.len (er_d (ev_v 2))) (by rw [List.length_map]; omega)) (tg_n 4 nd) (Sub.refl _) (fun i d hd => ?_) ?_
  · obtain ⟨hi, rfl⟩ := get_range hd
    rw [List.length_map, Int.toNat_natCast] at hi
    refine ⟨_, rfl, ?_⟩
    have hg : rs[i]? = some rs[i] := by simp [hi]
    refine rs_if1 (et_not (et_b (ev_cal Cr hr (ea_cons (ev_ix (er_d (ev_fld (d := .lst (rs.map injR)) (ev_v 0) V.cl V.nR rfl)) (ev_v 4) (at_map hg)) (ea_cons (ev_ix (er_d (ev_v 2)) (ev_v 4) (at_map hg)) ea_nil)) ⟨_, rfl, hx _ (List.getElem_mem hi), rfl⟩))) (fun hc => ?_) (fun _ => ?_)
    · cases hc
    exact rs_nil (.eq rfl (.eq rfl (.eq rfl (.eq rfl (.un .nil)))))
  refine rs_forG (fun _ => [.da (.obj C [("facts", .lst (fs.map inj)), ("rows", .lst (rs.map injR)), ("temporal", .lst tm)]), .da (.lst (fs.map inj)), .da (.lst (rs.map injR)), .da (.lst tm), .un]) PassesOwn.never (ei_r1 T.range (ev_len T.len (er_d (ev_v 3))) (by omega)) (tg_n 4 nd) (Sub.refl _) (fun i d hd => ?_) ?_
  · obtain ⟨hi, rfl⟩ := get_range hd
    rw [Int.toNat_natCast] at hi
    refine ⟨_, rfl, ?_⟩
    obtain ⟨j, hg⟩ := hti i hi
    refine rs_if1 (et_w (ew_or (et_not (et_b (ev_cal Ci (hr.mono (by decide)) (ea_cons (ev_ix (er_d (ev_fld (d := .lst tm) (ev_v 0) V.cl V.nT rfl)) (ev_v 4) (at_nat hg)) ea_nil) ⟨_, rfl, rfl⟩))) (fun _ => (ew_or1 (et_c (ec_neI (ev_ix (er_d (ev_fld (d := .lst tm) (ev_v 0) V.cl V.nT rfl)) (ev_v 4) (at_nat hg)) (ev_ix (er_d (ev_v 3)) (ev_v 4) (at_nat hg)))))))) (fun hc => ?_) (fun _ => ?_)
    · simp at hc
    exact rs_nil (.eq rfl (.eq rfl (.eq rfl (.eq rfl (.un .nil)))))
  exact rs_ret ev_b rfl
end
end Lw

namespace Lw
open PySem PySem.Spec PyProof.Rows L2 Dv Fo Tx
def pathW : List Str := ["ex", "ax", "ef", "af", "eg", "ag", "eu", "au"]
def rowW : List Str := "true" :: "false" :: "fact" :: opW
theorem row_words : ∀ w ∈ rowW, decide (w ∈ pathW) = !decide (w ∈ plainW) := by decide +kernel
theorem num_w : ∀ (t : Fml) (st : Sts), Wf t → OWk t → (∀ x ∈ st.2, x.1 ∈ rowW) → ∀ x ∈ (num t st).1.2, x.1 ∈ rowW
  | .s _, st, h, _, _ => h.elim
  | .i _, st, h, _, _ => h.elim
  | .t0 w, st, h, _, k => fun x m => (ins_or m).elim (k x) fun e => by
    subst e
    rcases (show w = "true" ∨ w = "false" from h) with h | h <;> subst h
    · exact List.mem_cons_self
    · exact List.mem_cons_of_mem _ List.mem_cons_self
  | .t1 w a, st, h, o, k => fun x m => (ins_or m).elim (num_w a st h.2.2.2 o.2 k x) fun e => by
    subst e
    exact List.mem_cons_of_mem _ (List.mem_cons_of_mem _ (List.mem_cons_of_mem _ o.1))
  | .t2 w a b, st, h, o, k => by
    rw [num]
    by_cases c : w ∈ cmpW
    · rw [if_pos c]
      exact fun x m => (ins_or m).elim (k x) fun e => by
        subst e
        exact List.mem_cons_of_mem _ (List.mem_cons_of_mem _ List.mem_cons_self)
    · rw [if_neg c]
      have h' := (show w ∈ cmpW ∨ (w ∉ cmpW ∧ w ≠ "true" ∧ w ≠ "false" ∧ Wf a ∧ Wf b) from h).resolve_left c
      have o' := (show w ∈ cmpW ∨ (w ∈ opW ∧ OWk a ∧ OWk b) from o).resolve_left c
      exact fun x m => (ins_or m).elim (num_w b _ h'.2.2.2.2 o'.2.2 (num_w a st h'.2.2.2.1 o'.2.1 k) x) fun e => by
        subst e
        exact List.mem_cons_of_mem _ (List.mem_cons_of_mem _ (List.mem_cons_of_mem _ o'.1))
theorem num_f : ∀ (t : Fml) (st : Sts), (∀ a ∈ st.1, isT a = true) → ∀ a ∈ (num t st).1.1, isT a = true
  | .s _, st, k => k
  | .i _, st, k => k
  | .t0 w, st, k => k
  | .t1 w a, st, k => num_f a st k
  | .t2 w a b, st, k => by
    rw [num]
    by_cases c : w ∈ cmpW
    · rw [if_pos c]
      exact fun x m => (ins_or m).elim (k x) fun e => by
        subst e
        rfl
    · rw [if_neg c]
      exact num_f b _ (num_f a st k)
theorem seq_txt : ∀ (t : Fml), txt t = true → ∀ x ∈ seqN t, PyData.strOk x = true
  | .s _, _ => fun x m => nomatch m
  | .i _, _ => fun x m => nomatch m
  | .t0 _, _ => fun x m => nomatch m
  | .t1 w a, h => by
    rw [txt, Bool.and_eq_true] at h
    intro x m
    by_cases c : w = "name"
    · cases a with
      | s y =>
        have e : seqN (.t1 w (.s y)) = [y] := by
          unfold seqN
          rw [if_pos c]
        rw [e] at m
        cases List.mem_singleton.mp m
        exact h.2
      | _ =>
        unfold seqN at m
        rw [if_pos c] at m
        cases m
    · have e : seqN (.t1 w a) = seqN a := by
        cases a <;> (unfold seqN; exact if_neg c)
      rw [e] at m
      exact seq_txt a h.2 x m
  | .t2 w a b, h => by
    rw [txt, Bool.and_eq_true, Bool.and_eq_true] at h
    intro x m
    rw [seqN] at m
    rcases List.mem_append.mp m with m | m
    · exact seq_txt a h.2.1 x m
    · exact seq_txt b h.2.2 x m
section
variable {P : Program} {w : World} {K : PySem.W.Frag} {mg : Str → Option Value} {base : Heap}
abbrev s_law : Stmt := topS 21
theorem cs_law : FnScope ["_law_script", "_law_shape", "_law_leaves_here", "_law_steps", "_law_formula_here", "_law_facts", "_law_rows", "_law_paths", "_law_temporal", "_law_names_here", "_law_actual", "_law_k"] ["_law_script"] (defScope s_law) := ⟨rfl, rfl, rfl, by decide +kernel, rfl, by decide +kernel, by decide +kernel⟩
theorem oks_law {C : Addr} (Df : Dfn K mg "law" s_law ["_law_script"]) (T : Txt K mg) (V : Rws K mg C) (Ccell : Cal P w K mg base 1 "_law_cell" ["_law_script", "_law_k"] Ss_l_cell) (Cl : Cal P w K mg base 2 "_law_leaves" ["_law_cell_here", "_law_many"] Ss_l_leaves)
    (Cf : Cal P w K mg base 2 "_law_formula" ["_law_cell_here", "_law_steps", "_law_leaves_here"] Ss_l_formula) (Cn : CalG P w K mg base 29 "_law_number" ["_law_formula_here", "_law_facts", "_law_rows"] (S_l_number 28)) (Cni : Cal P w K mg base 29 "names_in" ["tree"] (Ss_names_in 28))
    (Cln : CalG P w K mg base 29 "_law_names" ["_law_tree", "_law_names_here"] (S_l_names 28)) (Cnb : CalN P w K mg base 65 "number_branches" ["formula"] (Ss_number_rows C)) (Cs : Cal P w K mg base 3 "_law_same" ["_law_actual", "_law_facts", "_law_rows", "_law_temporal"] (Ss_l_same C)) : Cal P w K mg base 66 "law" ["_law_script"] SsLaw := by
  refine cal_ok Df cs_law (fun ds r h => ?_) (fun f cdv A outer s H E ds r hr h => ?_)
  · obtain ⟨ns, rfl, _⟩ := h
    rfl
  obtain ⟨ns, rfl, _, rfl⟩ := h
  show Rs _ _ [.da (.scr ns), .un, .un, .un, .un, .un, .un, .un, .un, .un, .un, .un] _ _
  have nd := cs_law.nd
  refine rs_set 1 nd (ev_intI T.int (ev_cal Ccell (hr.mono (by decide)) (ea_cons (ev_v 0) (ea_cons ev_i ea_nil)) ⟨ns, 0, rfl, rfl⟩)) ?_
  generalize cellAt ns 0 = sh
  have m5 := emod_in (a := sh) (b := 5) (by decide)
  refine rs_set 2 nd (ev_cal Cl (hr.mono (by decide)) (ea_cons (ev_cal Ccell (hr.mono (by decide)) (ea_cons (ev_v 0) (ea_cons ev_i ea_nil)) ⟨ns, 1, rfl, rfl⟩) (ea_cons (ev_add ev_i (ev_mod (ev_v 1) ev_i)) ea_nil)) ⟨cellAt ns 1, 1 + (sh % 5).toNat, by rw [Int.natCast_add, Int.toNat_of_nonneg m5.1]; rfl, by omega, rfl⟩) ?_
  have lvok := lvs_ok (cellAt ns 1) (1 + (sh % 5).toNat)
  have lvl := lvs_len (cellAt ns 1) (1 + (sh % 5).toNat)
  generalize lvs (cellAt ns 1) (1 + (sh % 5).toNat) = lv at lvok lvl ⊢
  refine rs_set 3 nd (ev_mod (ev_div (ev_v 1) ev_i) ev_i) ?_
  refine rs_ifset 3 nd (et_c (ec_eqI (ev_mod (ev_intI T.int (ev_cal Ccell (hr.mono (by decide)) (ea_cons (ev_v 0) (ea_cons ev_i ea_nil)) ⟨ns, 3, rfl, rfl⟩)) ev_i) ev_i)) (fun _ => ev_add ev_i (ev_mod (ev_div (ev_v 1) ev_i) ev_i)) ?_
  obtain ⟨m, hm, em⟩ : ∃ m : Nat, m ≤ 24 ∧ (if decide (cellAt ns 3 % 8 = 3) then D.int (9 + sh / 5 % 16) else D.int (sh / 5 % 8)) = D.int (m : Nat) := by
    have a := emod_in (a := sh / 5) (b := 16) (by decide)
    have b := emod_in (a := sh / 5) (b := 8) (by decide)
    by_cases c : cellAt ns 3 % 8 = 3
    · rw [decide_eq_true c]
      exact ⟨(9 + sh / 5 % 16).toNat, by omega, by rw [Int.toNat_of_nonneg (by omega)]; rfl⟩
    · rw [decide_eq_false c]
      exact ⟨(sh / 5 % 8).toNat, by omega, by rw [Int.toNat_of_nonneg (by omega)]; rfl⟩
  rw [em]
  refine rs_set 4 nd (ev_cal Cf (hr.mono (by decide)) (ea_cons (ev_cal Ccell (hr.mono (by decide)) (ea_cons (ev_v 0) (ea_cons ev_i ea_nil)) ⟨ns, 2, rfl, rfl⟩) (ea_cons (ev_v 3) (ea_cons (ev_v 2) ea_nil))) ⟨cellAt ns 2, m, lv, rfl, by omega, by omega, hm, rfl⟩) ?_
  have ft := fmOf_ok (c := cellAt ns 2) (m := m) (lv := lv) (by omega) lvok hm
  generalize fmOf (cellAt ns 2) m lv = t at ft ⊢
  have tT := wf_t ft.wf
  have d28 := ft.dp
  have c1000 := ft.ct
  have sqn := ft.sq
  have l := num_len t ([], [])
  simp only [List.length_nil] at l
  have so := num_ok t ([], []) ft.tx (by omega) ok0
  have sw := num_w t ([], []) ft.wf ft.ow (fun x m => nomatch m)
  have sf := num_f t ([], []) (fun x m => nomatch m)
  refine rs_setO 5 nd (eo_lst ea_nil) ?_
  refine rs_setO 6 nd (eo_lst ea_nil) ?_
  refine rs_exM (em_cal (cs := [.d (inj t), .s 5, .s 6]) Cn (hr.mono (by decide)) (ma_ev (ev_v 4) (ma_own 5 (ma_own 6 ma_nil))) (show [5, 6].Nodup by decide) (gup2 (i := 5) (j := 6) (t := fsT []) (u := rsT []) (t' := fsT (stOf t).1) (u' := rsT (stOf t).2) (by decide) rfl rfl rfl rfl) (fun P _ => ⟨P 5, P 6, ([], []), t, rfl, rfl, rfl, ok0, ft.wf, ft.tx, by omega, by omega, by show 0 + _ ≤ _; omega, by show 0 + _ ≤ _; omega⟩)) ?_
  have hrl : (stOf t).2.length ≤ 1000000 := by show (num t ([], [])).1.2.length ≤ _; omega
  have hfl : (stOf t).1.length ≤ 1000000 := by show (num t ([], [])).1.1.length ≤ _; omega
  have hx : ∀ x ∈ (stOf t).2, PyData.strOk x.1 = true := so.r
  have hf : ∀ a ∈ (stOf t).1, isT a = true ∧ txt a = true ∧ dep a ≤ 60 := fun a m => ⟨sf a m, so.f a m⟩
  have hw : ∀ x ∈ (stOf t).2, x.1 ∈ rowW := sw
  have okt : Fok t := ⟨ft.wf, ft.tx, by omega, by omega⟩
  generalize hst : stOf t = st at hrl hfl hx hf hw ⊢
  refine rs_setO 7 nd (xs := pathW.map D.str) (eo_lst (ea_cons ev_s (ea_cons ev_s (ea_cons ev_s (ea_cons ev_s (ea_cons ev_s (ea_cons ev_s (ea_cons ev_s (ea_cons ev_s ea_nil))))))))) ?_
  show Rs _ _ [.da (.scr ns), .da (.int sh), .da (.lst (lv.map inj)), .da (.int (m : Nat)), .da (inj t), .ow (fsT st.1), .ow (rsT st.2), .ol (pathW.map D.str), .un, .un, .un, .un] _ _
  refine rs_setLc (ys := List.range (((st.2.map injR).length : Int)).toNat) (inj := fun k => D.int (k : Nat)) (p := fun i => decide ((st.2.getD i ("", 0, 0)).1 ∈ pathW)) (f := fun i => D.int (i : Nat)) 8 11 rfl nd (ei_r1 T.range (ev_len T.len (er_w (xs := st.2.map injR) 6)) (by rw [List.length_map]; omega)) (blkOk_by (own := [("_law_k", 11)]) (N := ["_law_script", "_law_shape", "_law_leaves_here", "_law_steps", "_law_formula_here", "_law_facts", "_law_rows", "_law_paths", "_law_temporal", "_law_names_here", "_law_actual", "_law_k"]) (sc := defScope s_law) (by decide +kernel)) (by rw [List.length_range, List.length_map]; exact sz6 (by omega)) (fun _ _ _ _ _ => pg_name (i := 11) nd rfl (Or.inl rfl))
    (fun y hy _ _ _ _ _ => pts_1 (et_c (ec_inL (ev_ixT (xs := [.str (st.2.getD y ("", 0, 0)).1, .int (st.2.getD y ("", 0, 0)).2.1, .int (st.2.getD y ("", 0, 0)).2.2]) (ev_ix (er_w (xs := st.2.map injR) 6) (ev_v 11) (by
      have hy' : y < st.2.length := by
        have := List.mem_range.mp hy
        rw [List.length_map] at this
        omega
      refine at_map (f := injR) (x := st.2.getD y ("", 0, 0)) ?_
      rw [List.getD_eq_getElem?_getD]
      simp [hy'])) ev_i rfl) (er_v 7)))) (fun y hy _ _ _ _ _ _ => ev_v 11) ?_
  have etm : ((List.range (((st.2.map injR).length : Int)).toNat).filter fun i => decide ((st.2.getD i ("", 0, 0)).1 ∈ pathW)).map (fun i => D.int (i : Nat)) = (temps st.2).map fun i => D.int (i : Nat) := by
    unfold temps
    rw [List.length_map, Int.toNat_natCast]
    congr 1
    refine List.filter_congr fun i hi => ?_
    have hi' := List.mem_range.mp hi
    refine row_words _ (hw _ ?_)
    rw [List.getD_eq_getElem?_getD]
    simp [hi']
  rw [etm]
  refine rs_set 9 nd (ev_cal Cni (hr.mono (by decide)) (ea_cons (ev_v 4) ea_nil) ⟨t, rfl, tT, ft.no, d28, by omega, rfl⟩) ?_
  have okn : okD (.lst ((addN [] (seqN t)).map D.str)) 64 = true := by
    rw [okD]
    refine okA_map fun x m => ?_
    have := addN_mem.mp m
    exact seq_txt t ft.tx x (this.resolve_left fun z => nomatch z)
  refine rs_if1 (et_w (ew_or (k := false) (et_not (et_b (ev_isi (k := true) T.isinstance (ev_v 9) T.list boot_list rfl))) (fun _ => (ew_or1 (et_c (ec_neR (ev_v 9) (ev_eq (ev_new (en_calA (t := namesT []) (t' := namesT (addN [] (seqN t))) Cln (hr.mono (by decide)) (ev_v 4) (en_o (eo_lst ea_nil)) rfl (fun p => ⟨p, t, [], rfl, rfl, rfl, tT, ft.no, d28, by simp; omega⟩))) fr_ol) okn hr)))))) (fun hc => ?_) (fun _ => ?_)
  · cases hc
  refine rs_setN 10 nd (en_cal Cnb hr (ea_cons (ev_v 4) ea_nil) ⟨t, rfl, okt, rfl⟩) ?_
  rw [hst]
  have z : Frz [.da (.scr ns), .da (.int sh), .da (.lst (lv.map inj)), .da (.int (m : Nat)), .da (inj t), .ow (fsT st.1), .ow (rsT st.2), .ol (pathW.map D.str), .ol ((temps st.2).map fun i => D.int (i : Nat)), .da (.lst ((addN [] (seqN t)).map D.str)), .ow (rowsT C st.1 st.2), .un]
      [.da (.scr ns), .da (.int sh), .da (.lst (lv.map inj)), .da (.int (m : Nat)), .da (inj t), .da (.lst (st.1.map inj)), .da (.lst (st.2.map injR)), .ol (pathW.map D.str), .da (.lst ((temps st.2).map fun i => D.int (i : Nat))), .da (.lst ((addN [] (seqN t)).map D.str)), .da (rowsD C st.1 st.2), .un] :=
    .sm (.sm (.sm (.sm (.sm (.fz fr_ol (.fz fr_ol (.sm (.fz fr_ol (.sm (.fz (rows_fr _ _ _) (.sm .nil)))))))))))
  refine rs_if1 (et_not (et_bor z (et_b (ev_cal Cs (hr.mono (by decide)) (ea_cons (ev_v 10) (ea_cons (ev_v 5) (ea_cons (ev_v 6) (ea_cons (ev_v 8) ea_nil)))) ⟨_, _, rfl, hf, hx, hfl, hrl, rfl⟩)))) (fun hc => ?_) (fun _ => ?_)
  · cases hc
  have htl := temps_len st.2
  refine rs_appP (pt_f (pt_v 10) V.cl V.nF rfl) (ev_tup (ea_cons ev_s ea_nil)) ?_ (by rw [List.length_map, List.length_map]; exact sz6' hfl)
  refine rs_appP (pt_f (s := .lst ((st.2.map injR).map .fz)) (pt_v 10) V.cl V.nR rfl) (ev_tup (ea_cons ev_s (ea_cons (ev_neg ev_i) (ea_cons (ev_neg ev_i) ea_nil)))) ?_ (by rw [List.length_map, List.length_map]; exact sz6' hrl)
  refine rs_appP (pt_f (s := .lst (((temps st.2).map fun i => D.int (i : Nat)).map .fz)) (pt_v 10) V.cl V.nT rfl) ev_i ?_ (by rw [List.length_map, List.length_map]; exact sz6' (by omega))
  have z2 : ∀ s, Frz [.da (.scr ns), .da (.int sh), .da (.lst (lv.map inj)), .da (.int (m : Nat)), .da (inj t), .ow (fsT st.1), .ow (rsT st.2), .ol (pathW.map D.str), .ol ((temps st.2).map fun i => D.int (i : Nat)), .da (.lst ((addN [] (seqN t)).map D.str)), s, .un]
      [.da (.scr ns), .da (.int sh), .da (.lst (lv.map inj)), .da (.int (m : Nat)), .da (inj t), .da (.lst (st.1.map inj)), .da (.lst (st.2.map injR)), .ol (pathW.map D.str), .da (.lst ((temps st.2).map fun i => D.int (i : Nat))), .da (.lst ((addN [] (seqN t)).map D.str)), s, .un] := fun s =>
    .sm (.sm (.sm (.sm (.sm (.fz fr_ol (.fz fr_ol (.sm (.fz fr_ol (.sm (.sm (.sm .nil)))))))))))
  exact rs_ret (ev_bor (z2 _) (ev_cal Cs (hr.mono (by decide)) (ea_cons (ev_eq (ev_new (en_cal Cnb hr (ea_cons (ev_v 4) ea_nil) ⟨t, rfl, okt, rfl⟩)) (by rw [hst]; exact rows_fr C st.1 st.2)) (ea_cons (ev_v 5) (ea_cons (ev_v 6) (ea_cons (ev_v 8) ea_nil)))) ⟨_, _, rfl, hf, hx, hfl, hrl, rfl⟩)) rfl
theorem all_ok (T : Txt K mg) {C B : Addr} (IR : Ini K mg "Rows" "Rows.__init__" C s_Rows ["self", "facts", "rows"]) (is : IsiC K C) (nF : NoAttr K C "facts") (nR : NoAttr K C "rows") (nT : NoAttr K C "temporal") (IB : Ini K mg "RowBook" "RowBook.__init__" B s_RowBook ["self"]) (bF : NoAttr K B "facts") (bR : NoAttr K B "rows") (bN : NoAttr K B "_numbers")
    (M1 : Mdf K B "put" "RowBook.put" s_put ["self", "word", "left", "right"]) (M2 : Mdf K B "put_fact" "RowBook.put_fact" s_put_fact ["self", "comparison"]) (M3 : Mdf K B "put_formula" "RowBook.put_formula" s_put_formula ["self", "formula"])
    (d1 : Dfn K mg "number_rows" s_number_rows ["formula"]) (d2 : Dfn K mg "number_branches" s_number_branches ["formula"]) (d3 : Dfn K mg "parts_of" s_parts_of ["tree"]) (d4 : Dfn K mg "names_in" s_names_in ["tree"]) (d5 : Dfn K mg "_law_is_integer" s_l_is_integer ["_law_actual"]) (d6 : Dfn K mg "_law_cell" s_l_cell ["_law_script", "_law_k"])
    (d7 : Dfn K mg "_law_draws" s_l_draws ["_law_cell_here", "_law_many", "_law_base"]) (d8 : Dfn K mg "_law_leaves" s_l_leaves ["_law_cell_here", "_law_many"]) (d9 : Dfn K mg "_law_formula" s_l_formula ["_law_cell_here", "_law_steps", "_law_leaves_here"]) (d10 : Dfn K mg "_law_number" s_l_number ["_law_formula_here", "_law_facts", "_law_rows"]) (d11 : Dfn K mg "_law_names" s_l_names ["_law_tree", "_law_names_here"])
    (d12 : Dfn K mg "_law_same_row" s_l_same_row ["_law_actual", "_law_expected"]) (d13 : Dfn K mg "_law_same" s_l_same ["_law_actual", "_law_facts", "_law_rows", "_law_temporal"]) (d14 : Dfn K mg "law" s_law ["_law_script"]) : Cal P w K mg base 66 "law" ["_law_script"] SsLaw := by
  have V : Rws K mg C := ⟨IR.1, is, IR.2.1, nF, nR, nT⟩
  have Bb : Bk K mg B := ⟨IB.1, bF, bR, bN⟩
  have MR : Mak P w K mg base 1 "Rows" C ["self", "facts", "rows"] (Ss_Rows C) := IR.mak fun F => oks_Rows F V T
  have MB : Mak P w K mg base 1 "RowBook" B ["self"] (Ss_RowBook B) := IB.mak fun F => oks_RowBook F Bb
  have p1 := ok_put (P := P) (w := w) (base := base) M1 Bb T
  have p2 := ok_put_fact M2 Bb T p1
  have p3 := ok_put_formula M3 Bb T p1 p2 60
  have n1 := ok_number_rows d1 MR MB Bb p3
  have n2 := ok_number_branches d2 n1
  have a1 := oks_parts_of (P := P) (w := w) (base := base) d3 T
  have a2 := oks_names_in d4 T a1 28
  have i1 := oks_l_is_integer (P := P) (w := w) (base := base) d5 T
  have i2 := oks_l_cell (P := P) (w := w) (base := base) d6 T
  have i3 := oks_l_draws (P := P) (w := w) (base := base) d7 T
  have i4 := oks_l_leaves d8 T i3
  have i5 := oks_l_formula d9 T i3
  have i6 := ok_l_number (P := P) (w := w) (base := base) d10 T 28
  have i7 := ok_l_names (P := P) (w := w) (base := base) d11 T 28
  have i8 := oks_l_same_row d12 T i1
  have i9 := oks_l_same d13 T V i1 i8
  exact oks_law d14 T V i2 i4 i5 i6 a2 i7 n2 i9
end
end Lw

open PySem PySem.W PyProof.Rows
set_option maxRecDepth 100000 in
set_option maxHeartbeats 0 in
theorem PySem.Challenge.cw_lassoproof_k90_branching_rows_holds : PySem.Challenge.rw_lassoproof_k90_branching_rows.Holds := by
  w_on; o_law; k_head; (case hw => w_witness2)
  k_fill
  refine Dv.walk_end (l := PySem.Challenge.rw_lassoproof_k90_branching_rows) (st := Lw.s_law) (k := 66) (p := "_law_script") rfl rfl ⟨rfl, by decide, by decide⟩ (fun w h Y => PySem.W.kIn_of Y) (fun _ _ _ _ _ _ _ => rfl) ?F
  case F =>
    intro w mg h KX G
    refine' Dv.use (Dv.dfn_mk KX G (x := "number_rows") (st := Lw.s_number_rows) (ps := ["formula"]) ?a ?l ?c ?k (fun _ _ _ _ _ _ us hl => match us, hl with | [_], _ => rfl)) (fun D_number_rows => ?_)
    (case a => k_is); (case l => k_is); (case c => k_is); (case k => k_is)
    refine' Dv.use (Dv.dfn_mk KX G (x := "number_branches") (st := Lw.s_number_branches) (ps := ["formula"]) ?a ?l ?c ?k (fun _ _ _ _ _ _ us hl => match us, hl with | [_], _ => rfl)) (fun D_number_branches => ?_)
    (case a => k_is); (case l => k_is); (case c => k_is); (case k => k_is)
    refine' Dv.use (Dv.dfn_mk KX G (x := "parts_of") (st := Lw.s_parts_of) (ps := ["tree"]) ?a ?l ?c ?k (fun _ _ _ _ _ _ us hl => match us, hl with | [_], _ => rfl)) (fun D_parts_of => ?_)
    (case a => k_is); (case l => k_is); (case c => k_is); (case k => k_is)
    refine' Dv.use (Dv.dfn_mk KX G (x := "names_in") (st := Lw.s_names_in) (ps := ["tree"]) ?a ?l ?c ?k (fun _ _ _ _ _ _ us hl => match us, hl with | [_], _ => rfl)) (fun D_names_in => ?_)
    (case a => k_is); (case l => k_is); (case c => k_is); (case k => k_is)
    refine' Dv.use (Dv.dfn_mk KX G (x := "_law_is_integer") (st := Lw.s_l_is_integer) (ps := ["_law_actual"]) ?a ?l ?c ?k (fun _ _ _ _ _ _ us hl => match us, hl with | [_], _ => rfl)) (fun D__law_is_integer => ?_)
    (case a => k_is); (case l => k_is); (case c => k_is); (case k => k_is)
    refine' Dv.use (Dv.dfn_mk KX G (x := "_law_cell") (st := Lw.s_l_cell) (ps := ["_law_script", "_law_k"]) ?a ?l ?c ?k (fun _ _ _ _ _ _ us hl => match us, hl with | [_, _], _ => rfl)) (fun D__law_cell => ?_)
    (case a => k_is); (case l => k_is); (case c => k_is); (case k => k_is)
    refine' Dv.use (Dv.dfn_mk KX G (x := "_law_draws") (st := Lw.s_l_draws) (ps := ["_law_cell_here", "_law_many", "_law_base"]) ?a ?l ?c ?k (fun _ _ _ _ _ _ us hl => match us, hl with | [_, _, _], _ => rfl)) (fun D__law_draws => ?_)
    (case a => k_is); (case l => k_is); (case c => k_is); (case k => k_is)
    refine' Dv.use (Dv.dfn_mk KX G (x := "_law_leaves") (st := Lw.s_l_leaves) (ps := ["_law_cell_here", "_law_many"]) ?a ?l ?c ?k (fun _ _ _ _ _ _ us hl => match us, hl with | [_, _], _ => rfl)) (fun D__law_leaves => ?_)
    (case a => k_is); (case l => k_is); (case c => k_is); (case k => k_is)
    refine' Dv.use (Dv.dfn_mk KX G (x := "_law_formula") (st := Lw.s_l_formula) (ps := ["_law_cell_here", "_law_steps", "_law_leaves_here"]) ?a ?l ?c ?k (fun _ _ _ _ _ _ us hl => match us, hl with | [_, _, _], _ => rfl)) (fun D__law_formula => ?_)
    (case a => k_is); (case l => k_is); (case c => k_is); (case k => k_is)
    refine' Dv.use (Dv.dfn_mk KX G (x := "_law_number") (st := Lw.s_l_number) (ps := ["_law_formula_here", "_law_facts", "_law_rows"]) ?a ?l ?c ?k (fun _ _ _ _ _ _ us hl => match us, hl with | [_, _, _], _ => rfl)) (fun D__law_number => ?_)
    (case a => k_is); (case l => k_is); (case c => k_is); (case k => k_is)
    refine' Dv.use (Dv.dfn_mk KX G (x := "_law_names") (st := Lw.s_l_names) (ps := ["_law_tree", "_law_names_here"]) ?a ?l ?c ?k (fun _ _ _ _ _ _ us hl => match us, hl with | [_, _], _ => rfl)) (fun D__law_names => ?_)
    (case a => k_is); (case l => k_is); (case c => k_is); (case k => k_is)
    refine' Dv.use (Dv.dfn_mk KX G (x := "_law_same_row") (st := Lw.s_l_same_row) (ps := ["_law_actual", "_law_expected"]) ?a ?l ?c ?k (fun _ _ _ _ _ _ us hl => match us, hl with | [_, _], _ => rfl)) (fun D__law_same_row => ?_)
    (case a => k_is); (case l => k_is); (case c => k_is); (case k => k_is)
    refine' Dv.use (Dv.dfn_mk KX G (x := "_law_same") (st := Lw.s_l_same) (ps := ["_law_actual", "_law_facts", "_law_rows", "_law_temporal"]) ?a ?l ?c ?k (fun _ _ _ _ _ _ us hl => match us, hl with | [_, _, _, _], _ => rfl)) (fun D__law_same => ?_)
    (case a => k_is); (case l => k_is); (case c => k_is); (case k => k_is)
    refine' Dv.use (Dv.dfn_mk KX G (x := "law") (st := Lw.s_law) (ps := ["_law_script"]) ?a ?l ?c ?k (fun _ _ _ _ _ _ us hl => match us, hl with | [_], _ => rfl)) (fun D_law => ?_)
    (case a => k_is); (case l => k_is); (case c => k_is); (case k => k_is)
    have N_len : mg "len" = none := by
      refine' PySem.W.mg_none_of KX G ?z
      (case z => k_is)
    have N_range : mg "range" = none := by
      refine' PySem.W.mg_none_of KX G ?z
      (case z => k_is)
    have N_int : mg "int" = none := by
      refine' PySem.W.mg_none_of KX G ?z
      (case z => k_is)
    have N_str : mg "str" = none := by
      refine' PySem.W.mg_none_of KX G ?z
      (case z => k_is)
    have N_list : mg "list" = none := by
      refine' PySem.W.mg_none_of KX G ?z
      (case z => k_is)
    have N_tuple : mg "tuple" = none := by
      refine' PySem.W.mg_none_of KX G ?z
      (case z => k_is)
    have N_bool : mg "bool" = none := by
      refine' PySem.W.mg_none_of KX G ?z
      (case z => k_is)
    have N_isinstance : mg "isinstance" = none := by
      refine' PySem.W.mg_none_of KX G ?z
      (case z => k_is)
    have N_abs : mg "abs" = none := by
      refine' PySem.W.mg_none_of KX G ?z
      (case z => k_is)
    have N_enumerate : mg "enumerate" = none := by
      refine' PySem.W.mg_none_of KX G ?z
      (case z => k_is)
    refine' Dv.use (PySem.W.mg_of KX G (n := "PLAIN") ?z) (fun N_PLAIN => ?_)
    (case z => k_is)
    refine' Dv.use (Dv.ktup_of (ws := Lw.plainW) KX N_PLAIN ?l ?v ?hz) (fun K_PLAIN => ?_)
    (case l => k_is); (case v => exact (.cons ⟨_, rfl⟩ (.cons ⟨_, rfl⟩ (.cons ⟨_, rfl⟩ (.cons ⟨_, rfl⟩ (.cons ⟨_, rfl⟩ (.cons ⟨_, rfl⟩ (.cons ⟨_, rfl⟩ (.cons ⟨_, rfl⟩ .nil))))))))); (case hz => decide)
    refine' Dv.use (PySem.W.mg_of KX G (n := "COMPARISONS") ?z) (fun N_COMPARISONS => ?_)
    (case z => k_is)
    refine' Dv.use (Dv.ktup_of (ws := Fo.cmpW) KX N_COMPARISONS ?l ?v ?hz) (fun K_COMPARISONS => ?_)
    (case l => k_is); (case v => exact (.cons ⟨_, rfl⟩ (.cons ⟨_, rfl⟩ (.cons ⟨_, rfl⟩ .nil)))); (case hz => decide)
    refine' Dv.use (Lw.Txt.mk N_len N_range N_int N_str N_list N_tuple N_bool N_isinstance N_abs N_enumerate ⟨_, N_PLAIN, K_PLAIN⟩ ⟨_, N_COMPARISONS, K_COMPARISONS⟩) (fun T => ?_)
    refine' Dv.use (Dv.ini_mk KX G (x := "Rows") (qual := "Rows.__init__") (st := Lw.s_Rows) (ps := ["self", "facts", "rows"]) ?aC ?a ?i ?l ?c ?k ?pg ?hd ?po ?sa ?mk ?kc (fun _ _ _ _ _ _ us hl => match us, hl with | [_, _, _], _ => rfl)) (fun I_Rows => ?_)
    (case aC => k_is); (case a => k_is); (case i => k_is); (case l => k_is); (case c => k_is); (case k => k_is); (case pg => k_is); (case hd => k_is); (case po => k_is); (case sa => k_is); (case mk => k_is); (case kc => k_is)
    refine' Dv.use (Dv.ini_mk KX G (x := "RowBook") (qual := "RowBook.__init__") (st := Lw.s_RowBook) (ps := ["self"]) ?aC ?a ?i ?l ?c ?k ?pg ?hd ?po ?sa ?mk ?kc (fun _ _ _ _ _ _ us hl => match us, hl with | [_], _ => rfl)) (fun I_RowBook => ?_)
    (case aC => k_is); (case a => k_is); (case i => k_is); (case l => k_is); (case c => k_is); (case k => k_is); (case pg => k_is); (case hd => k_is); (case po => k_is); (case sa => k_is); (case mk => k_is); (case kc => k_is)
    refine' Dv.use (Dv.isic_of I_Rows ?ha ?hn ?htk ?hm) (fun S_Rows => ?_)
    (case ha => k_is); (case hn => k_is); (case htk => k_is); (case hm => k_is)
    refine' Dv.use (Dv.mdf_of (m := "put") (qual := "RowBook.put") (st := Lw.s_put) (ps := ["self", "word", "left", "right"]) I_RowBook ?a ?i ?l ?c ?k (fun _ _ _ _ _ _ us hl => match us, hl with | [_, _, _, _], _ => rfl)) (fun M_put => ?_)
    (case a => k_is); (case i => k_is); (case l => k_is); (case c => k_is); (case k => k_is)
    refine' Dv.use (Dv.mdf_of (m := "put_fact") (qual := "RowBook.put_fact") (st := Lw.s_put_fact) (ps := ["self", "comparison"]) I_RowBook ?a ?i ?l ?c ?k (fun _ _ _ _ _ _ us hl => match us, hl with | [_, _], _ => rfl)) (fun M_put_fact => ?_)
    (case a => k_is); (case i => k_is); (case l => k_is); (case c => k_is); (case k => k_is)
    refine' Dv.use (Dv.mdf_of (m := "put_formula") (qual := "RowBook.put_formula") (st := Lw.s_put_formula) (ps := ["self", "formula"]) I_RowBook ?a ?i ?l ?c ?k (fun _ _ _ _ _ _ us hl => match us, hl with | [_, _], _ => rfl)) (fun M_put_formula => ?_)
    (case a => k_is); (case i => k_is); (case l => k_is); (case c => k_is); (case k => k_is)
    refine' ⟨D_law, fun base _ _ => Lw.all_ok T I_Rows S_Rows (Dv.noattr_mk ?n1) (Dv.noattr_mk ?n2) (Dv.noattr_mk ?n3) I_RowBook (Dv.noattr_mk ?n4) (Dv.noattr_mk ?n5) (Dv.noattr_mk ?n6) M_put M_put_fact M_put_formula D_number_rows D_number_branches D_parts_of D_names_in D__law_is_integer D__law_cell D__law_draws D__law_leaves D__law_formula D__law_number D__law_names D__law_same_row D__law_same D_law⟩
    (case n1 => k_is); (case n2 => k_is); (case n3 => k_is); (case n4 => k_is); (case n5 => k_is); (case n6 => k_is)
