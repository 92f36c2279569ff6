import PyProof.Rows.All
import Wide.All
import OpenK.AllK
import Wide.FinOn
import HandS.ForMost
import HandS.IsInst
import HandS.Style
import HandS.Walk
import PySem.Challenge.RW_lassoproof_k76_lassos_written_and_read
set_option Elab.async false
set_option linter.all false
set_option maxRecDepth 100000
set_option maxHeartbeats 4000000
/-! Values as plain data over the hand layer: what an expression gives, what a block does, without addresses. -/
namespace Dv
open PySem PySem.Spec PyProof.Rows L2

/-- plain data; scr: the list that is handed in (read, never written) -/
inductive D where
  | non | bl (b : Bool) | int (i : Int) | str (s : Str) | lst (xs : List D) | tup (xs : List D) | scr (ns : List Int) | obj (C : Addr) (fs : List (Str × D)) | dic (kvs : List (Key × D)) | dit (kvs : List (List Key × D))

mutual
/-- the value v is the data d, by what is laid for good in F -/
inductive Is (K : PySem.W.Frag) (F : Hp) : V → D → Prop
  | non : Is K F .non .non
  | bl (b : Bool) : Is K F (.bl b) (.bl b)
  | int (i : Int) : Is K F (.int i) (.int i)
  | str (s : Str) : Is K F (.str s) (.str s)
  | lst {a : Addr} {vs : List V} {ds : List D} : F a = some (.lst vs) → IsA K F vs ds → Is K F (.ref a) (.lst ds)
  | tup {a : Addr} {vs : List V} {ds : List D} : SqT K F a vs → IsA K F vs ds → Is K F (.ref a) (.tup ds)
  | scr {a : Addr} {ns : List Int} : SqL K F a (ns.map V.int) → Is K F (.ref a) (.scr ns)
  | obj {a C dx : Addr} {fs : List (Str × V)} {gs : List (Str × D)} : F a = some (.ins C dx fs) → fs.map (·.1) = gs.map (·.1) → IsA K F (fs.map (·.2)) (gs.map (·.2)) → Is K F (.ref a) (.obj C gs)
  | dic {a : Addr} {fs : List (Key × V)} {gs : List (Key × D)} : F a = some (.dK fs) → fs.map (·.1) = gs.map (·.1) → IsA K F (fs.map (·.2)) (gs.map (·.2)) → Is K F (.ref a) (.dic gs)
  | dit {a : Addr} {fs : List (List Key × V)} {gs : List (List Key × D)} : F a = some (.dT fs) → fs.map (·.1) = gs.map (·.1) → IsA K F (fs.map (·.2)) (gs.map (·.2)) → Is K F (.ref a) (.dit gs)
inductive IsA (K : PySem.W.Frag) (F : Hp) : List V → List D → Prop
  | nil : IsA K F [] []
  | cons {v : V} {vs : List V} {d : D} {ds : List D} : Is K F v d → IsA K F vs ds → IsA K F (v :: vs) (d :: ds)
end

theorem sqt_mono {K : PySem.W.Frag} {F F' : Hp} {a : Addr} {xs : List V} (e : Same F F') (h : SqT K F a xs) : SqT K F' a xs := by
  rcases h with (h | ⟨o, h⟩) | h
  · exact .inl (.inl (e _ _ h))
  · exact .inl (.inr ⟨o, e _ _ h⟩)
  · exact .inr h

section
variable {K : PySem.W.Frag} {F F' : Hp}
theorem is_mono (e : Same F F') : (∀ v d, Is K F v d → Is K F' v d) ∧ (∀ vs ds, IsA K F vs ds → IsA K F' vs ds) :=
  ⟨fun v d h => @Is.rec K F (fun v d _ => Is K F' v d) (fun vs ds _ => IsA K F' vs ds) .non .bl .int .str (fun h1 _ i => .lst (e _ _ h1) i) (fun h1 _ i => .tup (sqt_mono e h1) i) (fun h1 => .scr (Same.seq e h1))
    (fun h1 h2 _ i => .obj (e _ _ h1) h2 i) (fun h1 h2 _ i => .dic (e _ _ h1) h2 i) (fun h1 h2 _ i => .dit (e _ _ h1) h2 i) .nil (fun _ _ i j => .cons i j) v d h,
   fun v d h => @IsA.rec K F (fun v d _ => Is K F' v d) (fun vs ds _ => IsA K F' vs ds) .non .bl .int .str (fun h1 _ i => .lst (e _ _ h1) i) (fun h1 _ i => .tup (sqt_mono e h1) i) (fun h1 => .scr (Same.seq e h1))
    (fun h1 h2 _ i => .obj (e _ _ h1) h2 i) (fun h1 h2 _ i => .dic (e _ _ h1) h2 i) (fun h1 h2 _ i => .dit (e _ _ h1) h2 i) .nil (fun _ _ i j => .cons i j) v d h⟩
theorem Is.mono {v : V} {d : D} (h : Is K F v d) (e : Same F F') : Is K F' v d := (is_mono e).1 v d h
theorem IsA.mono {v : List V} {d : List D} (h : IsA K F v d) (e : Same F F') : IsA K F' v d := (is_mono e).2 v d h
theorem IsA.length : ∀ {vs : List V} {ds : List D}, IsA K F vs ds → vs.length = ds.length
  | [], _, h => by cases h; rfl
  | v :: vs, _, h => by
    cases h with
    | cons _ t => exact congrArg Nat.succ (IsA.length t)
theorem IsA.get : ∀ {vs : List V} {ds : List D} {i : Nat} {d : D}, IsA K F vs ds → ds[i]? = some d → ∃ v, vs[i]? = some v ∧ Is K F v d
  | [], _, _, _, h, e => by cases h; simp at e
  | v :: vs, _, i, d, h, e => by
    cases h with
    | cons r t =>
      cases i with
      | zero => simp at e; subst e; exact ⟨_, rfl, r⟩
      | succ i =>
        obtain ⟨v, h1, h2⟩ := IsA.get (i := i) (d := d) t (by simpa using e)
        exact ⟨v, by simpa using h1, h2⟩
theorem IsA.get' : ∀ {vs : List V} {ds : List D} {i : Nat} {v : V}, IsA K F vs ds → vs[i]? = some v → ∃ d, ds[i]? = some d ∧ Is K F v d
  | [], _, _, _, h, e => by simp at e
  | u :: vs, _, i, v, h, e => by
    cases h with
    | cons r t =>
      cases i with
      | zero => simp at e; subst e; exact ⟨_, rfl, r⟩
      | succ i =>
        obtain ⟨d, h1, h2⟩ := IsA.get' (i := i) (v := v) t (by simpa using e)
        exact ⟨d, by simpa using h1, h2⟩
theorem IsA.append : ∀ {vs us : List V} {ds es : List D}, IsA K F vs ds → IsA K F us es → IsA K F (vs ++ us) (ds ++ es)
  | [], _, _, _, h, s => by cases h; exact s
  | v :: vs, _, _, _, h, s => by
    cases h with
    | cons r t => exact .cons r (IsA.append t s)
theorem IsA.snoc {vs : List V} {ds : List D} {v : V} {d : D} (h : IsA K F vs ds) (r : Is K F v d) : IsA K F (vs ++ [v]) (ds ++ [d]) := h.append (.cons r .nil)
theorem IsA.take : ∀ {vs : List V} {ds : List D} (n : Nat), IsA K F vs ds → IsA K F (vs.take n) (ds.take n)
  | _, _, 0, _ => .nil
  | [], _, _ + 1, h => by cases h; exact .nil
  | v :: vs, _, n + 1, h => by
    cases h with
    | cons r t => exact .cons r (IsA.take n t)
theorem IsA.drop : ∀ {vs : List V} {ds : List D} (n : Nat), IsA K F vs ds → IsA K F (vs.drop n) (ds.drop n)
  | _, _, 0, r => r
  | [], _, _ + 1, h => by cases h; exact .nil
  | v :: vs, _, n + 1, h => by
    cases h with
    | cons r t => exact IsA.drop n t
theorem IsA.set : ∀ {vs : List V} {ds : List D} {v : V} {d : D} (i : Nat), IsA K F vs ds → Is K F v d → IsA K F (vs.set i v) (ds.set i d)
  | [], _, _, _, _, h, _ => by cases h; exact .nil
  | v :: vs, _, _, _, i, h, q => by
    cases h with
    | cons r t =>
      cases i with
      | zero => exact .cons q t
      | succ i => exact .cons r (IsA.set i t q)
theorem IsA.rep {vs : List V} {ds : List D} (h : IsA K F vs ds) : ∀ n : Nat, IsA K F (List.replicate n vs).flatten (List.replicate n ds).flatten
  | 0 => .nil
  | n + 1 => by
    rw [List.replicate_succ, List.replicate_succ, List.flatten_cons, List.flatten_cons]
    exact h.append (IsA.rep h n)
theorem IsA.reverse {vs : List V} {ds : List D} (h : IsA K F vs ds) : IsA K F vs.reverse ds.reverse := by
  induction vs generalizing ds with
  | nil => cases h; exact .nil
  | cons v vs ih =>
    cases h with
    | cons r t =>
      rw [List.reverse_cons, List.reverse_cons]
      exact (ih t).snoc r
theorem IsA.ints : ∀ {vs : List V} {ns : List Int}, IsA K F vs (ns.map D.int) → vs = ns.map V.int
  | vs, [], h => by
    rw [List.map_nil] at h
    cases h
    rfl
  | vs, n :: ns, h => by
    rw [List.map_cons] at h
    cases h with
    | cons h1 h2 =>
      cases h1
      rw [List.map_cons, IsA.ints h2]
theorem IsA.strs : ∀ {vs : List V} {ns : List Str}, IsA K F vs (ns.map D.str) → vs = ns.map V.str
  | vs, [], h => by
    rw [List.map_nil] at h
    cases h
    rfl
  | vs, n :: ns, h => by
    rw [List.map_cons] at h
    cases h with
    | cons h1 h2 =>
      cases h1
      rw [List.map_cons, IsA.strs h2]
theorem IsA.bls : ∀ {vs : List V} {ns : List Bool}, IsA K F vs (ns.map D.bl) → vs = ns.map V.bl
  | vs, [], h => by
    rw [List.map_nil] at h
    cases h
    rfl
  | vs, n :: ns, h => by
    rw [List.map_cons] at h
    cases h with
    | cons h1 h2 =>
      cases h1
      rw [List.map_cons, IsA.bls h2]
theorem IsA.of_strs : ∀ (ns : List Str), IsA K F (ns.map V.str) (ns.map D.str)
  | [] => .nil
  | _ :: ns => .cons (.str _) (IsA.of_strs ns)
theorem IsA.of_ints : ∀ (ns : List Int), IsA K F (ns.map V.int) (ns.map D.int)
  | [] => .nil
  | _ :: ns => .cons (.int _) (IsA.of_ints ns)
end

/-! ### how heaps go on -/
/-- F (laid for good) and H (all that is tracked) go on: what was laid stays, what was tracked stays, what was not laid for good is not laid now -/
structure Go (F H F' H' : Hp) : Prop where
  ff : Same F F'
  fh : Same F' H'
  kp : Same H H'
  nf : ∀ a o, H a = some o → F a = none → F' a = none
theorem Go.refl {F H : Hp} (e : Same F H) : Go F H F H := ⟨.refl _, e, .refl _, fun _ _ _ h => h⟩
theorem Go.trans {F H F1 H1 F2 H2 : Hp} (a : Go F H F1 H1) (b : Go F1 H1 F2 H2) : Go F H F2 H2 :=
  ⟨a.ff.trans b.ff, b.fh, a.kp.trans b.kp, fun x o h1 h2 => b.nf x o (a.kp x o h1) (a.nf x o h1 h2)⟩
theorem same_new {H : Hp} {p : Addr} {o : HO} (h : H p = none) : Same H (upd H p o) := fun a u e => by
  rw [upd_ne (ne_of_none e h)]
  exact e
/-- a new object is tracked, not laid for good -/
theorem Go.newH {F H : Hp} {p : Addr} {o : HO} (e : Same F H) (h : H p = none) : Go F H F (upd H p o) :=
  ⟨.refl _, e.trans (same_new h), same_new h, fun _ _ _ q => q⟩
/-- a new object is laid for good -/
theorem Go.newF {F H : Hp} {p : Addr} {o : HO} (e : Same F H) (h : H p = none) : Go F H (upd F p o) (upd H p o) := by
  have hf : F p = none := Same.free e h
  refine ⟨same_new hf, fun a u q => ?_, same_new h, fun a u q r => ?_⟩
  · by_cases z : a = p
    · subst z
      rw [upd_same] at q ⊢
      exact q
    · rw [upd_ne z] at q ⊢
      exact e _ _ q
  · rw [upd_ne (ne_of_none q h)]
    exact r
/-- what is tracked at A is laid for good -/
def lay (F H : Hp) (A : List Addr) : Hp := fun a => if a ∈ A then H a else F a
theorem lay_in {F H : Hp} {A : List Addr} {a : Addr} (h : a ∈ A) : lay F H A a = H a := if_pos h
theorem lay_out {F H : Hp} {A : List Addr} {a : Addr} (h : a ∉ A) : lay F H A a = F a := if_neg h
theorem lay_same {F H : Hp} {A : List Addr} (n : ∀ a ∈ A, F a = none) : Same F (lay F H A) := fun a o e => by
  rw [lay_out fun m => by rw [n a m] at e; cases e]
  exact e
theorem lay_sub {F H : Hp} {A : List Addr} (e : Same F H) : Same (lay F H A) H := fun a o q => by
  by_cases m : a ∈ A
  · rw [lay_in m] at q
    exact q
  · rw [lay_out m] at q
    exact e _ _ q
/-- what is new since H is laid for good -/
theorem Go.lay {F H F1 H1 : Hp} {A : List Addr} (g : Go F H F1 H1) (n : ∀ a ∈ A, H a = none ∧ F1 a = none) : Go F H (Dv.lay F1 H1 A) H1 :=
  ⟨g.ff.trans (lay_same fun a m => (n a m).2), lay_sub g.fh, g.kp, fun a o q r => by
    rw [lay_out fun m => by rw [(n a m).1] at q; cases q]
    exact g.nf a o q r⟩

/-! ### what is one's own: trees of lists, objects, dicts that may still be written -/
inductive OT where
  | fz (d : D) | lst (ts : List OT) | obj (C : Addr) (fs : List (Str × OT)) | dic (kvs : List (Key × OT)) | dit (kvs : List (List Key × OT))
mutual
/-- v is the tree t: A, the addresses of its parts -/
inductive Own (K : PySem.W.Frag) (F H : Hp) : V → OT → List Addr → Prop
  | fz {v : V} {d : D} : Is K F v d → Own K F H v (.fz d) []
  | lst {p : Addr} {vs : List V} {ts : List OT} {A : List Addr} : H p = some (.lst vs) → OwnA K F H vs ts A → Own K F H (.ref p) (.lst ts) (p :: A)
  | obj {p C dx : Addr} {vs : List (Str × V)} {ts : List (Str × OT)} {A : List Addr} : H p = some (.ins C dx vs) → vs.map (·.1) = ts.map (·.1) → OwnA K F H (vs.map (·.2)) (ts.map (·.2)) A → Own K F H (.ref p) (.obj C ts) (p :: A)
  | dic {p : Addr} {vs : List (Key × V)} {ts : List (Key × OT)} {A : List Addr} : H p = some (.dK vs) → vs.map (·.1) = ts.map (·.1) → OwnA K F H (vs.map (·.2)) (ts.map (·.2)) A → Own K F H (.ref p) (.dic ts) (p :: A)
  | dit {p : Addr} {vs : List (List Key × V)} {ts : List (List Key × OT)} {A : List Addr} : H p = some (.dT vs) → vs.map (·.1) = ts.map (·.1) → OwnA K F H (vs.map (·.2)) (ts.map (·.2)) A → Own K F H (.ref p) (.dit ts) (p :: A)
inductive OwnA (K : PySem.W.Frag) (F H : Hp) : List V → List OT → List Addr → Prop
  | nil : OwnA K F H [] [] []
  | cons {v : V} {vs : List V} {t : OT} {ts : List OT} {A B : List Addr} : Own K F H v t A → OwnA K F H vs ts B → OwnA K F H (v :: vs) (t :: ts) (A ++ B)
end
mutual
/-- the tree as data -/
def fr : OT → D
  | .fz d => d
  | .lst ts => .lst (frA ts)
  | .obj C fs => .obj C (frS fs)
  | .dic kvs => .dic (frK kvs)
  | .dit kvs => .dit (frT kvs)
def frA : List OT → List D
  | [] => []
  | t :: ts => fr t :: frA ts
def frS : List (Str × OT) → List (Str × D)
  | [] => []
  | (k, t) :: ts => (k, fr t) :: frS ts
def frK : List (Key × OT) → List (Key × D)
  | [] => []
  | (k, t) :: ts => (k, fr t) :: frK ts
def frT : List (List Key × OT) → List (List Key × D)
  | [] => []
  | (k, t) :: ts => (k, fr t) :: frT ts
end
theorem frA_map : ∀ ts : List OT, frA ts = ts.map fr
  | [] => by rw [frA]; rfl
  | t :: ts => by rw [frA, frA_map ts, List.map_cons]
theorem frS_keys : ∀ ts : List (Str × OT), (frS ts).map (·.1) = ts.map (·.1) ∧ (frS ts).map (·.2) = frA (ts.map (·.2))
  | [] => by rw [frS]; exact ⟨rfl, by rw [List.map_nil, List.map_nil, frA]⟩
  | (k, t) :: ts => by
    rw [frS, List.map_cons, List.map_cons, List.map_cons, List.map_cons, (frS_keys ts).1, (frS_keys ts).2, frA]
    exact ⟨rfl, rfl⟩
theorem frK_keys : ∀ ts : List (Key × OT), (frK ts).map (·.1) = ts.map (·.1) ∧ (frK ts).map (·.2) = frA (ts.map (·.2))
  | [] => by rw [frK]; exact ⟨rfl, by rw [List.map_nil, List.map_nil, frA]⟩
  | (k, t) :: ts => by
    rw [frK, List.map_cons, List.map_cons, List.map_cons, List.map_cons, (frK_keys ts).1, (frK_keys ts).2, frA]
    exact ⟨rfl, rfl⟩
theorem frT_keys : ∀ ts : List (List Key × OT), (frT ts).map (·.1) = ts.map (·.1) ∧ (frT ts).map (·.2) = frA (ts.map (·.2))
  | [] => by rw [frT]; exact ⟨rfl, by rw [List.map_nil, List.map_nil, frA]⟩
  | (k, t) :: ts => by
    rw [frT, List.map_cons, List.map_cons, List.map_cons, List.map_cons, (frT_keys ts).1, (frT_keys ts).2, frA]
    exact ⟨rfl, rfl⟩
theorem frA_fz : ∀ ds : List D, frA (ds.map .fz) = ds
  | [] => by rw [List.map_nil, frA]
  | d :: ds => by rw [List.map_cons, frA, fr, frA_fz ds]

section
variable {K : PySem.W.Frag} {F H F' H' : Hp}
/-- a statement on trees, shown for their parts -/
theorem own_rec {P : V → OT → List Addr → Prop} {R : List V → List OT → List Addr → Prop} (h1 : ∀ v d, Is K F v d → P v (.fz d) []) (h2 : ∀ p vs ts A, H p = some (.lst vs) → OwnA K F H vs ts A → R vs ts A → P (.ref p) (.lst ts) (p :: A))
    (h3 : ∀ p C dx (vs : List (Str × V)) (ts : List (Str × OT)) A, H p = some (.ins C dx vs) → vs.map (·.1) = ts.map (·.1) → OwnA K F H (vs.map (·.2)) (ts.map (·.2)) A → R (vs.map (·.2)) (ts.map (·.2)) A → P (.ref p) (.obj C ts) (p :: A))
    (h4 : ∀ p (vs : List (Key × V)) (ts : List (Key × OT)) A, H p = some (.dK vs) → vs.map (·.1) = ts.map (·.1) → OwnA K F H (vs.map (·.2)) (ts.map (·.2)) A → R (vs.map (·.2)) (ts.map (·.2)) A → P (.ref p) (.dic ts) (p :: A))
    (h5 : ∀ p (vs : List (List Key × V)) (ts : List (List Key × OT)) A, H p = some (.dT vs) → vs.map (·.1) = ts.map (·.1) → OwnA K F H (vs.map (·.2)) (ts.map (·.2)) A → R (vs.map (·.2)) (ts.map (·.2)) A → P (.ref p) (.dit ts) (p :: A))
    (h6 : R [] [] []) (h7 : ∀ v vs t ts A B, P v t A → R vs ts B → R (v :: vs) (t :: ts) (A ++ B)) : (∀ v t A, Own K F H v t A → P v t A) ∧ (∀ vs ts A, OwnA K F H vs ts A → R vs ts A) :=
  ⟨fun v t A h => @Own.rec K F H (fun v t A _ => P v t A) (fun vs ts A _ => R vs ts A) (fun q => h1 _ _ q) (fun q r i => h2 _ _ _ _ q r i) (fun q e r i => h3 _ _ _ _ _ _ q e r i) (fun q e r i => h4 _ _ _ _ q e r i) (fun q e r i => h5 _ _ _ _ q e r i) h6 (fun _ _ i j => h7 _ _ _ _ _ _ i j) v t A h,
   fun v t A h => @OwnA.rec K F H (fun v t A _ => P v t A) (fun vs ts A _ => R vs ts A) (fun q => h1 _ _ q) (fun q r i => h2 _ _ _ _ q r i) (fun q e r i => h3 _ _ _ _ _ _ q e r i) (fun q e r i => h4 _ _ _ _ q e r i) (fun q e r i => h5 _ _ _ _ q e r i) h6 (fun _ _ i j => h7 _ _ _ _ _ _ i j) v t A h⟩
theorem own_mono (e : Same F F') : (∀ v t A, Own K F H v t A → (∀ a ∈ A, ∀ o, H a = some o → H' a = some o) → Own K F' H' v t A) ∧ (∀ vs ts A, OwnA K F H vs ts A → (∀ a ∈ A, ∀ o, H a = some o → H' a = some o) → OwnA K F' H' vs ts A) :=
  own_rec (P := fun v t A => (∀ a ∈ A, ∀ o, H a = some o → H' a = some o) → Own K F' H' v t A) (R := fun v t A => (∀ a ∈ A, ∀ o, H a = some o → H' a = some o) → OwnA K F' H' v t A) (fun v d q _ => .fz (q.mono e)) (fun p vs ts A q _ i k => .lst (k p List.mem_cons_self _ q) (i fun a m => k a (List.mem_cons_of_mem _ m)))
    (fun p C dx vs ts A q z _ i k => .obj (k p List.mem_cons_self _ q) z (i fun a m => k a (List.mem_cons_of_mem _ m))) (fun p vs ts A q z _ i k => .dic (k p List.mem_cons_self _ q) z (i fun a m => k a (List.mem_cons_of_mem _ m))) (fun p vs ts A q z _ i k => .dit (k p List.mem_cons_self _ q) z (i fun a m => k a (List.mem_cons_of_mem _ m)))
    (fun _ => .nil) fun v vs t ts A B i j k => .cons (i fun a m => k a (List.mem_append_left _ m)) (j fun a m => k a (List.mem_append_right _ m))
theorem Own.mono {v : V} {t : OT} {A : List Addr} (h : Own K F H v t A) (e : Same F F') (k : ∀ a ∈ A, ∀ o, H a = some o → H' a = some o) : Own K F' H' v t A := (own_mono e).1 v t A h k
theorem OwnA.mono {v : List V} {t : List OT} {A : List Addr} (h : OwnA K F H v t A) (e : Same F F') (k : ∀ a ∈ A, ∀ o, H a = some o → H' a = some o) : OwnA K F' H' v t A := (own_mono e).2 v t A h k
theorem own_dom : (∀ v t A, Own K F H v t A → ∀ a ∈ A, ∃ o, H a = some o) ∧ (∀ vs ts A, OwnA K F H vs ts A → ∀ a ∈ A, ∃ o, H a = some o) :=
  own_rec (P := fun v t A => ∀ a ∈ A, ∃ o, H a = some o) (R := fun v t A => ∀ a ∈ A, ∃ o, H a = some o) (fun _ _ _ a m => by cases m) (fun p vs ts A q _ i a m => (List.mem_cons.mp m).elim (fun z => ⟨_, z ▸ q⟩) (i a)) (fun p C dx vs ts A q _ _ i a m => (List.mem_cons.mp m).elim (fun z => ⟨_, z ▸ q⟩) (i a))
    (fun p vs ts A q _ _ i a m => (List.mem_cons.mp m).elim (fun z => ⟨_, z ▸ q⟩) (i a)) (fun p vs ts A q _ _ i a m => (List.mem_cons.mp m).elim (fun z => ⟨_, z ▸ q⟩) (i a)) (fun a m => by cases m) fun v vs t ts A B i j a m => (List.mem_append.mp m).elim (i a) (j a)
theorem Own.dom {v : V} {t : OT} {A : List Addr} (h : Own K F H v t A) : ∀ a ∈ A, ∃ o, H a = some o := own_dom.1 v t A h
theorem OwnA.dom {v : List V} {t : List OT} {A : List Addr} (h : OwnA K F H v t A) : ∀ a ∈ A, ∃ o, H a = some o := own_dom.2 v t A h
/-- lists, objects, dicts -/
def nodeO : HO → Prop
  | .lst _ => True
  | .ins _ _ _ => True
  | .dK _ => True
  | .dT _ => True
  | _ => False
theorem own_node : (∀ v t A, Own K F H v t A → ∀ a ∈ A, ∃ o, H a = some o ∧ nodeO o) ∧ (∀ vs ts A, OwnA K F H vs ts A → ∀ a ∈ A, ∃ o, H a = some o ∧ nodeO o) :=
  own_rec (P := fun v t A => ∀ a ∈ A, ∃ o, H a = some o ∧ nodeO o) (R := fun v t A => ∀ a ∈ A, ∃ o, H a = some o ∧ nodeO o) (fun _ _ _ a m => by cases m) (fun p vs ts A q _ i a m => (List.mem_cons.mp m).elim (fun z => ⟨.lst vs, z ▸ q, trivial⟩) (i a)) (fun p C dx vs ts A q _ _ i a m => (List.mem_cons.mp m).elim (fun z => ⟨.ins C dx vs, z ▸ q, trivial⟩) (i a))
    (fun p vs ts A q _ _ i a m => (List.mem_cons.mp m).elim (fun z => ⟨.dK vs, z ▸ q, trivial⟩) (i a)) (fun p vs ts A q _ _ i a m => (List.mem_cons.mp m).elim (fun z => ⟨.dT vs, z ▸ q, trivial⟩) (i a)) (fun a m => by cases m) fun v vs t ts A B i j a m => (List.mem_append.mp m).elim (i a) (j a)
/-- laid for good, it is its data -/
theorem own_fr (e : Same F F') : (∀ v t A, Own K F H v t A → (∀ a ∈ A, F' a = H a) → Is K F' v (fr t)) ∧ (∀ vs ts A, OwnA K F H vs ts A → (∀ a ∈ A, F' a = H a) → IsA K F' vs (frA ts)) :=
  own_rec (P := fun v t A => (∀ a ∈ A, F' a = H a) → Is K F' v (fr t)) (R := fun vs ts A => (∀ a ∈ A, F' a = H a) → IsA K F' vs (frA ts)) (fun v d q _ => by rw [fr]; exact q.mono e) (fun p vs ts A q _ i k => by
      rw [fr]
      exact .lst ((k p List.mem_cons_self).trans q) (i fun a m => k a (List.mem_cons_of_mem _ m)))
    (fun p C dx vs ts A q z _ i k => by
      rw [fr]
      exact .obj ((k p List.mem_cons_self).trans q) (z.trans (frS_keys ts).1.symm) (by rw [(frS_keys ts).2]; exact i fun a m => k a (List.mem_cons_of_mem _ m)))
    (fun p vs ts A q z _ i k => by
      rw [fr]
      exact .dic ((k p List.mem_cons_self).trans q) (z.trans (frK_keys ts).1.symm) (by rw [(frK_keys ts).2]; exact i fun a m => k a (List.mem_cons_of_mem _ m)))
    (fun p vs ts A q z _ i k => by
      rw [fr]
      exact .dit ((k p List.mem_cons_self).trans q) (z.trans (frT_keys ts).1.symm) (by rw [(frT_keys ts).2]; exact i fun a m => k a (List.mem_cons_of_mem _ m)))
    (fun _ => by rw [frA]; exact .nil) fun v vs t ts A B i j k => by
      rw [frA]
      exact .cons (i fun a m => k a (List.mem_append_left _ m)) (j fun a m => k a (List.mem_append_right _ m))
theorem Own.fr {v : V} {t : OT} {A : List Addr} (h : Own K F H v t A) (e : Same F F') (k : ∀ a ∈ A, F' a = H a) : Is K F' v (fr t) := (own_fr e).1 v t A h k
theorem Own.lay {v : V} {t : OT} {A : List Addr} (h : Own K F H v t A) (n : ∀ a ∈ A, F a = none) : Is K (lay F H A) v (Dv.fr t) := h.fr (lay_same n) fun _ m => lay_in m
theorem OwnA.length : ∀ {vs : List V} {ts : List OT} {A : List Addr}, OwnA K F H vs ts A → vs.length = ts.length
  | [], _, _, h => by cases h; rfl
  | v :: vs, _, _, h => by
    cases h with
    | cons _ t => exact congrArg Nat.succ (OwnA.length t)
theorem OwnA.fz : ∀ {vs : List V} {ds : List D}, IsA K F vs ds → OwnA K F H vs (ds.map .fz) []
  | [], _, h => by cases h; exact .nil
  | v :: vs, _, h => by
    cases h with
    | cons r t => exact .cons (.fz r) (OwnA.fz t)
theorem OwnA.unfz : ∀ {vs : List V} {ds : List D} {A : List Addr}, OwnA K F H vs (ds.map .fz) A → IsA K F vs ds ∧ A = []
  | _, [], _, h => by
    rw [List.map_nil] at h
    cases h
    exact ⟨.nil, rfl⟩
  | _, d :: ds, _, h => by
    rw [List.map_cons] at h
    cases h with
    | cons r t =>
      cases r with
      | fz r =>
        obtain ⟨h1, h2⟩ := OwnA.unfz t
        exact ⟨.cons r h1, by rw [h2]; rfl⟩
theorem OwnA.append : ∀ {vs us : List V} {ts ss : List OT} {A B : List Addr}, OwnA K F H vs ts A → OwnA K F H us ss B → OwnA K F H (vs ++ us) (ts ++ ss) (A ++ B)
  | [], _, _, _, _, _, h, s => by cases h; exact s
  | v :: vs, _, _, _, _, _, h, s => by
    cases h with
    | cons r t =>
      rw [List.append_assoc]
      exact .cons r (OwnA.append t s)
/-- a part, by its place: it, and what is put there -/
theorem OwnA.at : ∀ {vs : List V} {ts : List OT} {A : List Addr} {i : Nat} {t : OT}, OwnA K F H vs ts A → ts[i]? = some t → ∃ v A1 B A2, vs[i]? = some v ∧ Own K F H v t B ∧ A = A1 ++ (B ++ A2) ∧
    ∀ (F' H' : Hp) (v' : V) (t' : OT) (B' : List Addr), Same F F' → Own K F' H' v' t' B' → (∀ a ∈ A1 ++ A2, ∀ o, H a = some o → H' a = some o) → OwnA K F' H' (vs.set i v') (ts.set i t') (A1 ++ (B' ++ A2))
  | [], _, _, _, _, h, e => by cases h; simp at e
  | v :: vs, _, _, i, t, h, e => by
    cases h with
    | @cons _ _ u ts A B r q =>
      cases i with
      | zero =>
        simp at e
        subst e
        exact ⟨v, [], A, B, rfl, r, rfl, fun F' H' v' t' B' sm h' k => (show OwnA K F' H' (v' :: vs) (t' :: ts) (B' ++ B) from .cons h' (q.mono sm fun a m => k a (by simpa using m)))⟩
      | succ i =>
        obtain ⟨w, A1, B1, A2, e1, e2, e3, e4⟩ := OwnA.at (i := i) (t := t) q (by simpa using e)
        refine ⟨w, A ++ A1, B1, A2, by simpa using e1, e2, by rw [e3, List.append_assoc], fun F' H' v' t' B' sm h' k => ?_⟩
        rw [List.append_assoc]
        refine .cons (r.mono sm fun a m => k a (List.mem_append_left _ (List.mem_append_left _ m))) (e4 F' H' v' t' B' sm h' fun a m => k a ?_)
        rw [List.append_assoc]
        exact List.mem_append_right _ m
end

/-! ### a frame's names -/
/-- un: not looked at; da: data laid for good; ow: a tree of one's own, that may still grow -/
inductive Sl where
  | un | da (d : D) | tr (o : Option Addr) (t : OT)
abbrev Sl.ow (t : OT) : Sl := .tr none t
/-- .. at a known address -/
abbrev Sl.slf (p : Addr) (t : OT) : Sl := .tr (some p) t
/-- a list of one's own of items laid for good -/
def Sl.ol (xs : List D) : Sl := .ow (.lst (xs.map .fz))
def SlotOk (K : PySem.W.Frag) (F H : Hp) (o : Option (Option V)) (s : Sl) (A : List Addr) : Prop := match s with
  | .un => True
  | .da d => ∃ v, o = some (some v) ∧ Is K F v d
  | .tr q t => ∃ v, o = some (some v) ∧ Own K F H v t A ∧ ∀ p, q = some p → v = .ref p
structure Hold (K : PySem.W.Frag) (H0 F H : Hp) (σ : L2.St) (Γ : List Sl) : Prop where
  len : σ.length = Γ.length
  fh : Same F H
  h0 : Same H0 H
  ex : ∃ fp : Nat → List Addr, (∀ (i : Nat) (s : Sl), Γ[i]? = some s → SlotOk K F H σ[i]? s (fp i)) ∧ (∀ i a, a ∈ fp i → F a = none ∧ H0 a = none ∧ ∃ o, H a = some o) ∧ (∀ i, (fp i).Nodup) ∧ (∀ i j a, a ∈ fp i → a ∈ fp j → i = j)
/-- what is laid for good grows, by things that the entry did not know -/
structure Tr (H0 F F' : Hp) : Prop where
  ff : Same F F'
  nf : ∀ a o, H0 a = some o → F a = none → F' a = none
theorem Tr.refl {H0 F : Hp} : Tr H0 F F := ⟨.refl _, fun _ _ _ h => h⟩
theorem Tr.trans {H0 F F1 F2 : Hp} (a : Tr H0 F F1) (b : Tr H0 F1 F2) : Tr H0 F F2 := ⟨a.ff.trans b.ff, fun x o h1 h2 => b.nf x o h1 (a.nf x o h1 h2)⟩
theorem Go.tr {H0 F H F' H' : Hp} (g : Go F H F' H') (h : Same H0 H) : Tr H0 F F' := ⟨g.ff, fun a o h1 h2 => g.nf a o (h a o h1) h2⟩
section
variable {K : PySem.W.Frag} {H0 F H F' H' : Hp} {σ : L2.St} {Γ : List Sl}
theorem Hold.da (h : Hold K H0 F H σ Γ) (i : Nat) (d : D) (e : Γ[i]? = some (.da d)) : ∃ v : V, σ[i]? = some (some v) ∧ Is K F v d := by
  obtain ⟨fp, h1, _⟩ := h.ex
  exact h1 i _ e
/-- a list of one's own -/
theorem Hold.ol (h : Hold K H0 F H σ Γ) (i : Nat) (xs : List D) (e : Γ[i]? = some (.ol xs)) : ∃ (p : Addr) (vs : List V), σ[i]? = some (some (V.ref p)) ∧ F p = none ∧ H0 p = none ∧ H p = some (.lst vs) ∧ IsA K F vs xs := by
  obtain ⟨fp, h1, h2, _⟩ := h.ex
  obtain ⟨v, e1, o, _⟩ := h1 i _ e
  generalize hA : fp i = A at o
  cases o with
  | @lst p vs ts A q r =>
    have m : p ∈ fp i := by rw [hA]; exact List.mem_cons_self
    obtain ⟨n1, n2, _⟩ := h2 i p m
    exact ⟨p, vs, e1, n1, n2, q, r.unfz.1⟩
theorem SlotOk.go (g : Go F H F' H') {o : Option (Option V)} {s : Sl} {A : List Addr} (h : SlotOk K F H o s A) : SlotOk K F' H' o s A := by
  cases s with
  | un => trivial
  | da d =>
    obtain ⟨v, e, r⟩ := h
    exact ⟨v, e, r.mono g.ff⟩
  | tr q t =>
    obtain ⟨v, e, r, z⟩ := h
    exact ⟨v, e, r.mono g.ff fun a _ o q => g.kp a o q, z⟩
theorem Hold.go (h : Hold K H0 F H σ Γ) (g : Go F H F' H') : Hold K H0 F' H' σ Γ := by
  obtain ⟨fp, h1, h2, h3, h4⟩ := h.ex
  refine ⟨h.len, g.fh, h.h0.trans g.kp, fp, fun i s e => (h1 i s e).go g, fun i a m => ?_, h3, h4⟩
  obtain ⟨n1, n2, o, e⟩ := h2 i a m
  exact ⟨g.nf a o e n1, n2, o, g.kp a o e⟩
theorem Hold.tr (h : Hold K H0 F H σ Γ) (g : Go F H F' H') : Tr H0 F F' := g.tr h.h0
theorem set_at {α : Type} {l : List α} {i : Nat} {x y : α} (h : (l.set i x)[i]? = some y) : i < l.length ∧ x = y := by
  have hl : i < l.length := by
    have := (List.getElem?_eq_some_iff.mp h).1
    simpa using this
  rw [List.getElem?_set_self hl] at h
  exact ⟨hl, Option.some.inj h⟩
def fput (fp : Nat → List Addr) (i : Nat) (A : List Addr) : Nat → List Addr := fun j => if j = i then A else fp j
theorem fput_eq {fp : Nat → List Addr} {i j : Nat} {A : List Addr} (h : j = i) : fput fp i A j = A := if_pos h
theorem fput_ne {fp : Nat → List Addr} {i j : Nat} {A : List Addr} (h : j ≠ i) : fput fp i A j = fp j := if_neg h
/-- one slot anew, with its own addresses -/
theorem Hold.put (h : Hold K H0 F H σ Γ) {o : Option V} {s : Sl} {A : List Addr} (i : Nat) (r : i < Γ.length → SlotOk K F H (some o) s A) (n : ∀ a ∈ A, F a = none ∧ H0 a = none ∧ ∃ o, H a = some o) (nd : A.Nodup)
    (fr : ∀ (fp : Nat → List Addr) (j : Nat) (a : Addr), (∀ (i : Nat) (s : Sl), Γ[i]? = some s → SlotOk K F H σ[i]? s (fp i)) → (∀ i a, a ∈ fp i → F a = none ∧ H0 a = none ∧ ∃ o, H a = some o) → (∀ i j a, a ∈ fp i → a ∈ fp j → i = j) → j ≠ i → a ∈ A → a ∉ fp j) : Hold K H0 F H (σ.set i o) (Γ.set i s) := by
  obtain ⟨fp, h1, h2, h3, h4⟩ := h.ex
  refine ⟨by simp [h.len], h.fh, h.h0, fput fp i A, fun j s' e => ?_, fun j a m => ?_, fun j => ?_, fun j k a m1 m2 => ?_⟩
  · by_cases z : i = j
    · subst z
      obtain ⟨hl, e1⟩ := set_at e
      subst e1
      rw [List.getElem?_set_self (by rw [h.len]; exact hl), fput_eq rfl]
      exact r hl
    · rw [List.getElem?_set_ne z] at e ⊢
      rw [fput_ne (Ne.symm z)]
      exact h1 j s' e
  · by_cases z : j = i
    · rw [fput_eq z] at m
      exact n a m
    · rw [fput_ne z] at m
      exact h2 j a m
  · by_cases z : j = i
    · rw [fput_eq z]
      exact nd
    · rw [fput_ne z]
      exact h3 j
  · by_cases z1 : j = i
    · by_cases z2 : k = i
      · exact z1.trans z2.symm
      · rw [fput_eq z1] at m1
        rw [fput_ne z2] at m2
        exact absurd m2 (fr fp k a h1 h2 h4 z2 m1)
    · by_cases z2 : k = i
      · rw [fput_ne z1] at m1
        rw [fput_eq z2] at m2
        exact absurd m1 (fr fp j a h1 h2 h4 z1 m2)
      · rw [fput_ne z1] at m1
        rw [fput_ne z2] at m2
        exact h4 j k a m1 m2
/-- a name is stored: data -/
theorem Hold.setD (h : Hold K H0 F H σ Γ) {v : V} {d : D} (i : Nat) (r : Is K F v d) : Hold K H0 F H (σ.set i (some v)) (Γ.set i (.da d)) :=
  h.put (A := []) i (fun _ => ⟨v, rfl, r⟩) (fun a m => by cases m) List.nodup_nil fun fp j a _ _ _ _ m => by cases m
/-- a name is stored: a new tree of one's own -/
theorem Hold.setN (h : Hold K H0 F H σ Γ) (g : Go F H F' H') {v : V} {t : OT} {A : List Addr} (i : Nat) (r : Own K F' H' v t A) (nd : A.Nodup) (n : ∀ a ∈ A, H a = none ∧ F' a = none) : Hold K H0 F' H' (σ.set i (some v)) (Γ.set i (.ow t)) := by
  obtain ⟨fp, h1, h2, h3, h4⟩ := h.ex
  refine ⟨by simp [h.len], g.fh, h.h0.trans g.kp, fput fp i A, fun j s' e => ?_, fun j a m => ?_, fun j => ?_, fun j k a m1 m2 => ?_⟩
  · by_cases z : i = j
    · subst z
      obtain ⟨hl, e1⟩ := set_at e
      subst e1
      rw [List.getElem?_set_self (by rw [h.len]; exact hl), fput_eq rfl]
      exact ⟨v, rfl, r, fun _ z => nomatch z⟩
    · rw [List.getElem?_set_ne z] at e ⊢
      rw [fput_ne (Ne.symm z)]
      exact (h1 j s' e).go g
  · by_cases z : j = i
    · rw [fput_eq z] at m
      exact ⟨(n a m).2, Same.free h.h0 (n a m).1, r.dom a m⟩
    · rw [fput_ne z] at m
      obtain ⟨n1, n2, o, e⟩ := h2 j a m
      exact ⟨g.nf a o e n1, n2, o, g.kp a o e⟩
  · by_cases z : j = i
    · rw [fput_eq z]
      exact nd
    · rw [fput_ne z]
      exact h3 j
  · have old : ∀ l, a ∈ A → a ∈ fp l → False := fun l q1 q2 => by
      obtain ⟨_, _, o, e⟩ := h2 l a q2
      rw [(n a q1).1] at e
      cases e
    by_cases z1 : j = i
    · by_cases z2 : k = i
      · exact z1.trans z2.symm
      · rw [fput_eq z1] at m1
        rw [fput_ne z2] at m2
        exact (old k m1 m2).elim
    · by_cases z2 : k = i
      · rw [fput_ne z1] at m1
        rw [fput_eq z2] at m2
        exact (old j m2 m1).elim
      · rw [fput_ne z1] at m1
        rw [fput_ne z2] at m2
        exact h4 j k a m1 m2
/-- a tree of one's own is written: within its addresses, or by new ones -/
theorem Hold.mutG (h : Hold K H0 F H σ Γ) {i : Nat} {q : Option Addr} {t : OT} (hi : Γ[i]? = some (.tr q t)) : ∃ v A, σ[i]? = some (some v) ∧ Own K F H v t A ∧ A.Nodup ∧ (∀ a ∈ A, F a = none ∧ H0 a = none) ∧ (∀ p, q = some p → v = .ref p) ∧
    ∀ (F' H' : Hp) (t' : OT) (A' : List Addr), Same F F' → Same F' H' → (∀ a, a ∉ A → ∀ o, H a = some o → F a = none → F' a = none) → Own K F' H' v t' A' → A'.Nodup → (∀ a ∈ A', (a ∈ A ∨ H a = none) ∧ F' a = none) → (∀ a, a ∉ A → ∀ o, H a = some o → H' a = some o) → Hold K H0 F' H' σ (Γ.set i (.tr q t')) := by
  obtain ⟨fp, h1, h2, h3, h4⟩ := h.ex
  obtain ⟨v, e1, r, hq⟩ := h1 i _ hi
  have hl : i < Γ.length := (List.getElem?_eq_some_iff.mp hi).1
  refine ⟨v, fp i, e1, r, h3 i, fun a m => ⟨(h2 i a m).1, (h2 i a m).2.1⟩, hq, fun F' H' t' A' ff fh nf r' nd' n' k => ?_⟩
  have nofp0 : ∀ a o, H0 a = some o → a ∉ fp i := fun a o q m => by
    rw [(h2 i a m).2.1] at q
    cases q
  refine ⟨by simp [h.len], fh, fun a o q => k a (nofp0 a o q) o (h.h0 a o q), fput fp i A', fun j s' e => ?_, fun j a m => ?_, fun j => ?_, fun j l a m1 m2 => ?_⟩
  · by_cases z : i = j
    · subst z
      obtain ⟨_, e2⟩ := set_at e
      subst e2
      rw [fput_eq rfl]
      exact ⟨v, e1, r', hq⟩
    · rw [List.getElem?_set_ne z] at e
      rw [fput_ne (Ne.symm z)]
      have q := h1 j s' e
      cases s' with
      | un => trivial
      | da d =>
        obtain ⟨w, q1, q2⟩ := q
        exact ⟨w, q1, q2.mono ff⟩
      | tr qq u =>
        obtain ⟨w, q1, q2, q3⟩ := q
        exact ⟨w, q1, q2.mono ff fun a m o x => k a (fun m' => z (h4 i j a m' m)) o x, q3⟩
  · by_cases z : j = i
    · rw [fput_eq z] at m
      obtain ⟨q, q2⟩ := n' a m
      refine ⟨q2, ?_, r'.dom a m⟩
      rcases q with q | q
      · exact (h2 i a q).2.1
      · exact Same.free h.h0 q
    · rw [fput_ne z] at m
      obtain ⟨n1, n2, o, x⟩ := h2 j a m
      exact ⟨nf a (fun m' => z (h4 j i a m m')) o x n1, n2, o, k a (fun m' => z (h4 j i a m m')) o x⟩
  · by_cases z : j = i
    · rw [fput_eq z]
      exact nd'
    · rw [fput_ne z]
      exact h3 j
  · have old : ∀ l, l ≠ i → a ∈ A' → a ∈ fp l → False := fun l hl q1 q2 => by
      rcases (n' a q1).1 with q | q
      · exact hl (h4 l i a q2 q)
      · obtain ⟨_, _, o, x⟩ := h2 l a q2
        rw [q] at x
        cases x
    by_cases z1 : j = i
    · by_cases z2 : l = i
      · exact z1.trans z2.symm
      · rw [fput_eq z1] at m1
        rw [fput_ne z2] at m2
        exact (old l z2 m1 m2).elim
    · by_cases z2 : l = i
      · rw [fput_ne z1] at m1
        rw [fput_eq z2] at m2
        exact (old j z1 m2 m1).elim
      · rw [fput_ne z1] at m1
        rw [fput_ne z2] at m2
        exact h4 j l a m1 m2
theorem Hold.mut (h : Hold K H0 F H σ Γ) {i : Nat} {q : Option Addr} {t : OT} (hi : Γ[i]? = some (.tr q t)) : ∃ v A, σ[i]? = some (some v) ∧ Own K F H v t A ∧ A.Nodup ∧ (∀ a ∈ A, F a = none ∧ H0 a = none) ∧ (∀ p, q = some p → v = .ref p) ∧
    ∀ (H' : Hp) (t' : OT) (A' : List Addr), Own K F H' v t' A' → A'.Nodup → (∀ a ∈ A', a ∈ A ∨ (H a = none ∧ F a = none)) → (∀ a, a ∉ A → ∀ o, H a = some o → H' a = some o) → Hold K H0 F H' σ (Γ.set i (.tr q t')) := by
  obtain ⟨v, A, e1, r, nd, n, hq, k⟩ := h.mutG hi
  refine ⟨v, A, e1, r, nd, n, hq, fun H' t' A' r' nd' n' k' => k F H' t' A' (.refl _) (fun a o x => k' a (fun m => by rw [(n a m).1] at x; cases x) o (h.fh a o x)) (fun _ _ _ _ x => x) r' nd' (fun a m => ?_) k'⟩
  rcases n' a m with q | q
  · exact ⟨.inl q, (n a q).1⟩
  · exact ⟨.inr q.1, q.2⟩
/-- a list of one's own, its items laid for good, is written -/
theorem Hold.write (h : Hold K H0 F H σ Γ) {p : Addr} {us : List V} {xs ys : List D} {i : Nat} (hi : Γ[i]? = some (.ol xs)) (hp : σ[i]? = some (some (.ref p))) (r : IsA K F us ys) : Hold K H0 F (upd H p (.lst us)) σ (Γ.set i (.ol ys)) := by
  obtain ⟨v, A, e1, o, nd, n, _, k⟩ := h.mut hi
  rw [hp] at e1
  cases e1
  cases o with
  | @lst _ vs ts A q w =>
    obtain ⟨w1, w2⟩ := w.unfz
    subst w2
    refine k _ _ [p] (.lst upd_same (.fz r)) (by simp) (fun a m => .inl m) fun a m o x => ?_
    rw [upd_ne (fun z => m (by rw [z]; exact List.mem_cons_self))]
    exact x
/-- forgetting -/
inductive Sub : List Sl → List Sl → Prop
  | nil : Sub [] []
  | un {s : Sl} {a b : List Sl} : Sub a b → Sub (s :: a) (.un :: b)
  | eq {s t : Sl} {a b : List Sl} : s = t → Sub a b → Sub (s :: a) (t :: b)
theorem Sub.refl : ∀ (a : List Sl), Sub a a
  | [] => .nil
  | _ :: a => .eq rfl (Sub.refl a)
theorem Sub.length {a b : List Sl} (h : Sub a b) : a.length = b.length := by
  induction h with
  | nil => rfl
  | un _ ih => exact congrArg Nat.succ ih
  | eq _ _ ih => exact congrArg Nat.succ ih
theorem Sub.get {a b : List Sl} (h : Sub a b) : ∀ {i : Nat} {s : Sl}, b[i]? = some s → s = .un ∨ a[i]? = some s := by
  induction h with
  | nil => intro i s e; simp at e
  | un _ ih =>
    intro i s e
    cases i with
    | zero => simp at e; exact .inl e.symm
    | succ i => simp at e; simpa using ih e
  | eq q _ ih =>
    intro i s e
    cases i with
    | zero => simp at e; subst q; subst e; exact .inr (by simp)
    | succ i => simp at e; simpa using ih e
theorem Hold.sub {Γ' : List Sl} (h : Hold K H0 F H σ Γ) (s : Sub Γ Γ') : Hold K H0 F H σ Γ' := by
  obtain ⟨fp, h1, h2, h3, h4⟩ := h.ex
  refine ⟨h.len.trans s.length, h.fh, h.h0, fp, fun i s' e => ?_, h2, h3, h4⟩
  rcases s.get e with z | z
  · subst z
    trivial
  · exact h1 i s' z
/-- a tree of one's own is laid for good -/
theorem Hold.freeze (h : Hold K H0 F H σ Γ) {i : Nat} {q : Option Addr} {t : OT} (hi : Γ[i]? = some (.tr q t)) : ∃ F', Tr H0 F F' ∧ Same F' H ∧ (∀ a o, F' a = some o → F a = none → H a = some o) ∧ Hold K H0 F' H σ (Γ.set i (.da (fr t))) := by
  obtain ⟨fp, h1, h2, h3, h4⟩ := h.ex
  obtain ⟨v, e1, r, _⟩ := h1 i _ hi
  have hl : i < Γ.length := (List.getElem?_eq_some_iff.mp hi).1
  have nF : ∀ a ∈ fp i, F a = none := fun a m => (h2 i a m).1
  have sm : Same F (lay F H (fp i)) := lay_same nF
  refine ⟨lay F H (fp i), ⟨sm, fun a o q r => ?_⟩, lay_sub h.fh, fun a o q _ => lay_sub h.fh a o q, by simp [h.len], lay_sub h.fh, h.h0, fput fp i [], fun j s' e => ?_, fun j a m => ?_, fun j => ?_, fun j l a m1 m2 => ?_⟩
  · rw [lay_out fun m => by rw [(h2 i a m).2.1] at q; cases q]
    exact r
  · by_cases z : i = j
    · subst z
      obtain ⟨_, e2⟩ := set_at e
      subst e2
      exact ⟨v, e1, r.lay nF⟩
    · rw [List.getElem?_set_ne z] at e
      rw [fput_ne (Ne.symm z)]
      have q := h1 j s' e
      cases s' with
      | un => trivial
      | da d =>
        obtain ⟨w, q1, q2⟩ := q
        exact ⟨w, q1, q2.mono sm⟩
      | tr qq u =>
        obtain ⟨w, q1, q2, q3⟩ := q
        exact ⟨w, q1, q2.mono sm fun _ _ _ x => x, q3⟩
  · by_cases z : j = i
    · rw [fput_eq z] at m
      cases m
    · rw [fput_ne z] at m
      obtain ⟨n1, n2, n3⟩ := h2 j a m
      refine ⟨?_, n2, n3⟩
      rw [lay_out fun m' => z (h4 j i a m m')]
      exact n1
  · by_cases z : j = i
    · rw [fput_eq z]
      exact List.nodup_nil
    · rw [fput_ne z]
      exact h3 j
  · by_cases z1 : j = i
    · rw [fput_eq z1] at m1
      cases m1
    · by_cases z2 : l = i
      · rw [fput_eq z2] at m2
        cases m2
      · rw [fput_ne z1] at m1
        rw [fput_ne z2] at m2
        exact h4 j l a m1 m2
theorem Hold.wipe (h : Hold K H0 F H σ Γ) (j : Nat) : Hold K H0 F H (σ.set j none) (Γ.set j .un) :=
  h.put (o := none) (A := []) j (fun _ => trivial) (fun a m => by cases m) List.nodup_nil fun fp j a _ _ _ _ m => by cases m
end
theorem fr_ol {xs : List D} : fr (.lst (xs.map .fz)) = .lst xs := by rw [fr, frA_fz]
end Dv

namespace Dv
open PySem PySem.Spec PyProof.Rows L2

section
variable {X : Cx}
theorem wkE {e : Expr} {t t' : TE} (h : PE X e t) (k : ∀ σ H Q, t' σ H Q → t σ H Q) : PE X e t' := ⟨fun pins s σ H Q I q => h.run pins s σ H Q I (k σ H Q q)⟩
theorem wkT {e : Expr} {t t' : TT} (h : PT X e t) (k : ∀ σ H Q, t' σ H Q → t σ H Q) : PT X e t' := ⟨fun pins s σ H Q I q => h.run pins s σ H Q I (k σ H Q q)⟩
theorem wkW {e : Expr} {t t' : TT} (h : PW X e t) (k : ∀ σ H Q, t' σ H Q → t σ H Q) : PW X e t' := ⟨fun wh pins s σ H Q I q => h.run wh pins s σ H Q I (k σ H Q q)⟩
theorem wkA {e : List Expr} {t t' : TA} (h : PA X e t) (k : ∀ σ H Q, t' σ H Q → t σ H Q) : PA X e t' := ⟨fun pos pins s σ H Q I q => h.run pos pins s σ H Q I (k σ H Q q)⟩
theorem wkO {e : Option Expr} {t t' : TO} (h : PO X e t) (k : ∀ σ H Q, t' σ H Q → t σ H Q) : PO X e t' := ⟨fun pins s σ H Q I q => h.run pins s σ H Q I (k σ H Q q)⟩
theorem wkI {tg e : Expr} {t t' : TI} (h : PI X tg e t) (k : ∀ σ H Q, t' σ H Q → t σ H Q) : PI X tg e t' := ⟨fun pins s σ H Q I q => h.run pins s σ H Q I (k σ H Q q)⟩
theorem wkS {e : Stmt} {t t' : TS} (h : PS X e t) (k : ∀ D σ H, t' D σ H → t D σ H) : PS X e t' := ⟨fun pins s σ H D I q => h.run pins s σ H D I (k D σ H q)⟩
theorem wkSs {e : List Stmt} {t t' : TS} (h : PSs X e t) (k : ∀ D σ H, t' D σ H → t D σ H) : PSs X e t' := ⟨fun pins s σ H D I q => h.run pins s σ H D I (k D σ H q)⟩
end

section
variable (K : PySem.W.Frag) (H0 : Hp) (Γ : List Sl)
def rEv (d : D) : TE := fun σ H Q => ∃ F, Hold K H0 F H σ Γ ∧ ∀ v F' H', Go F H F' H' → Is K F' v d → Q v H'
/-- a new list of one's own -/
def rEo (xs : List D) : TE := fun σ H Q => ∃ F, Hold K H0 F H σ Γ ∧ ∀ p vs F' H', Go F H F' H' → H p = none → F' p = none → H' p = some (.lst vs) → IsA K F' vs xs → Q (.ref p) H'
/-- a list to be read -/
def rEr (xs : List D) : TE := fun σ H Q => ∃ F, Hold K H0 F H σ Γ ∧ ∀ p vs F' H', Go F H F' H' → H' p = some (.lst vs) → IsA K F' vs xs → Q (.ref p) H'
/-- a new tree of one's own -/
def rEn (t : OT) : TE := fun σ H Q => ∃ F, Hold K H0 F H σ Γ ∧ ∀ v A F' H', Go F H F' H' → Own K F' H' v t A → A.Nodup → (∀ a ∈ A, H a = none ∧ F' a = none) → Q v H'
def rEt (b : Bool) : TT := fun σ H Q => ∃ F, Hold K H0 F H σ Γ ∧ ∀ F' H', Go F H F' H' → Q b H'
def rEa (ds : List D) : TA := fun σ H Q => ∃ F, Hold K H0 F H σ Γ ∧ ∀ vs F' H', Go F H F' H' → IsA K F' vs ds → Q vs H'
def rEp (o : Option Int) : TO := fun σ H Q => ∃ F, Hold K H0 F H σ Γ ∧ ∀ F' H', Go F H F' H' → Q o H'
end
def Ev (X : Cx) (H0 : Hp) (Γ : List Sl) (e : Expr) (d : D) : Prop := PE X e (rEv X.K H0 Γ d)
def Eo (X : Cx) (H0 : Hp) (Γ : List Sl) (e : Expr) (xs : List D) : Prop := PE X e (rEo X.K H0 Γ xs)
def En (X : Cx) (H0 : Hp) (Γ : List Sl) (e : Expr) (t : OT) : Prop := PE X e (rEn X.K H0 Γ t)
def Er (X : Cx) (H0 : Hp) (Γ : List Sl) (e : Expr) (xs : List D) : Prop := PE X e (rEr X.K H0 Γ xs)
def Et (X : Cx) (H0 : Hp) (Γ : List Sl) (e : Expr) (b : Bool) : Prop := PT X e (rEt X.K H0 Γ b)
def Ew (X : Cx) (H0 : Hp) (Γ : List Sl) (e : Expr) (b : Bool) : Prop := PW X e (rEt X.K H0 Γ b)
def Ea (X : Cx) (H0 : Hp) (Γ : List Sl) (es : List Expr) (ds : List D) : Prop := PA X es (rEa X.K H0 Γ ds)
def Ep (X : Cx) (H0 : Hp) (Γ : List Sl) (e : Option Expr) (o : Option Int) : Prop := PO X e (rEp X.K H0 Γ o)
/-- a comparison -/
def Ec (X : Cx) (H0 : Hp) (Γ : List Sl) (op : CmpOp) (a b : Expr) (k : Bool) : Prop :=
  ∃ r ta tb, OpR X (compareOp op) r ∧ PE X a ta ∧ PE X b tb ∧ ∀ σ H (Q : VK), (∃ F, Hold X.K H0 F H σ Γ ∧ ∀ F' H', Go F H F' H' → Q (.bl k) H') → tOp r ta tb σ H Q

theorem atI_is {K : PySem.W.Frag} {F : Hp} {vs : List V} {ds : List D} {i : Int} {d : D} (h : IsA K F vs ds) (e : atI ds i = some d) : ∃ v, atI vs i = some v ∧ Is K F v d := by
  unfold atI at e ⊢
  rw [h.length]
  cases q : ixN ds.length i with
  | none =>
    rw [q] at e
    cases e
  | some j =>
    rw [q] at e
    exact h.get e
theorem atI_map {α β : Type} {f : α → β} {xs : List α} {i : Int} {x : α} (e : atI xs i = some x) : atI (xs.map f) i = some (f x) := by
  unfold atI at e ⊢
  rw [List.length_map]
  cases q : ixN xs.length i with
  | none =>
    rw [q] at e
    cases e
  | some j =>
    rw [q] at e
    have e' : xs[j]? = some x := e
    show (xs.map f)[j]? = some (f x)
    rw [List.getElem?_map, e']
    rfl
/-- a slice -/
def cutL {α : Type} (xs : List α) (lo hi : Option Int) : List α := (xs.drop (HT.sIx xs.length 0 lo)).take (HT.sIx xs.length xs.length hi - HT.sIx xs.length 0 lo)
theorem cutL_is {K : PySem.W.Frag} {F : Hp} {vs : List V} {ds : List D} (h : IsA K F vs ds) (lo hi : Option Int) : IsA K F (cutV vs lo hi) (cutL ds lo hi) := by
  unfold cutV cutL
  rw [h.length]
  exact (h.drop _).take _

section
variable {X : Cx} {H0 : Hp} {Γ : List Sl} {a b c e : Expr} {d d1 d2 : D} {xs ys : List D} {pos : Pos}

/-! ### names, constants -/
theorem ev_i {i j} : Ev X H0 Γ (.Constant (.int i) j pos) (.int i) := wkE pe_int fun _ H _ ⟨F, h, k⟩ => k _ F H (.refl h.fh) (.int i)
theorem ev_b {i j} : Ev X H0 Γ (.Constant (.bool i) j pos) (.bl i) := wkE pe_bl fun _ H _ ⟨F, h, k⟩ => k _ F H (.refl h.fh) (.bl i)
theorem ev_n {j} : Ev X H0 Γ (.Constant .none j pos) .non := wkE pe_non fun _ H _ ⟨F, h, k⟩ => k _ F H (.refl h.fh) .non
theorem ev_s {i j} : Ev X H0 Γ (.Constant (.str i) j pos) (.str i) := wkE pe_str fun _ H _ ⟨F, h, k⟩ => k _ F H (.refl h.fh) (.str i)
theorem ev_v (i : Nat) {x : Str} (hΓ : Γ[i]? = some (.da d) := by rfl) (hN : X.N[i]? = some x := by rfl) (hv : Vis X.env.scope x := by first | exact Or.inl rfl | exact Or.inr (Or.inl rfl) | exact Or.inr (Or.inr rfl)) (hd : (x == ("__debug__" : Str)) = false := by decide)
    (hcd : (x == ("__classdict__" : Str)) = false := by decide) : Ev X H0 Γ (.Name x pos) d := wkE (pe_var (i := i) hN hv hd hcd) fun σ H Q ⟨F, h, k⟩ => by
  obtain ⟨v, e1, e2⟩ := h.da i d hΓ
  exact ⟨v, e1, k v F H (.refl h.fh) e2⟩
theorem er_v (i : Nat) {x : Str} (hΓ : Γ[i]? = some (.ol xs) := by rfl) (hN : X.N[i]? = some x := by rfl) (hv : Vis X.env.scope x := by first | exact Or.inl rfl | exact Or.inr (Or.inl rfl) | exact Or.inr (Or.inr rfl)) (hd : (x == ("__debug__" : Str)) = false := by decide)
    (hcd : (x == ("__classdict__" : Str)) = false := by decide) : Er X H0 Γ (.Name x pos) xs := wkE (pe_var (i := i) hN hv hd hcd) fun σ H Q ⟨F, h, k⟩ => by
  obtain ⟨p, vs, e1, e2, e3, e4, e5⟩ := h.ol i xs hΓ
  exact ⟨_, e1, k p vs F H (.refl h.fh) e4 e5⟩
/-- a constant of the module -/
theorem ev_g {x : Str} {v : V} {u : Value} (hm : X.mg x = some u) (r : RelV v u) (hd : ∀ F, Is X.K F v d) (hg : Gl X x := by rfl) (hdb : (x == ("__debug__" : Str)) = false := by decide) : Ev X H0 Γ (.Name x pos) d :=
  wkE (pe_glob hg hm r hdb) fun _ H _ ⟨F, h, k⟩ => k _ F H (.refl h.fh) (hd F)
theorem ev_gS {x : Str} {t : Tok} {s : Str} (hm : X.mg x = some (.str s t)) (hg : Gl X x := by rfl) (hdb : (x == ("__debug__" : Str)) = false := by decide) : Ev X H0 Γ (.Name x pos) (.str s) := ev_g (v := .str s) hm ⟨_, rfl⟩ (fun _ => .str s) hg hdb
theorem ev_gI {x : Str} {t : Tok} {s : Int} (hm : X.mg x = some (.int s t)) (hg : Gl X x := by rfl) (hdb : (x == ("__debug__" : Str)) = false := by decide) : Ev X H0 Γ (.Name x pos) (.int s) := ev_g (v := .int s) hm ⟨_, rfl⟩ (fun _ => .int s) hg hdb

theorem ev_o (h : Eo X H0 Γ e xs) : Ev X H0 Γ e (.lst xs) := wkE h fun σ H Q ⟨F, h, k⟩ => ⟨F, h, fun p vs F' H' g n1 n2 e1 e2 => by
  have g' := g.lay (A := [p]) fun a m => by
    cases List.mem_singleton.mp m
    exact ⟨n1, n2⟩
  exact k _ _ H' g' (.lst ((lay_in (List.mem_singleton.mpr rfl)).trans e1) (e2.mono (lay_same fun a m => by
    cases List.mem_singleton.mp m
    exact n2)))⟩
theorem en_o (h : Eo X H0 Γ e xs) : En X H0 Γ e (.lst (xs.map .fz)) := wkE h fun σ H Q ⟨F, h, k⟩ => ⟨F, h, fun p vs F' H' g n1 n2 e1 e2 => k _ [p] F' H' g (.lst e1 (.fz e2)) (by simp) fun a m => by
  cases List.mem_singleton.mp m
  exact ⟨n1, n2⟩⟩
theorem ev_new {t : OT} (h : En X H0 Γ e t) : Ev X H0 Γ e (fr t) := wkE h fun σ H Q ⟨F, h, k⟩ => ⟨F, h, fun v A F' H' g o nd n => k v _ H' (g.lay n) (o.lay fun a m => (n a m).2)⟩
theorem er_d (h : Ev X H0 Γ e (.lst xs)) : Er X H0 Γ e xs := wkE h fun σ H Q ⟨F, h, k⟩ => ⟨F, h, fun v F' H' g r => by
  cases r with
  | lst e1 e2 => exact k _ _ F' H' g (g.fh _ _ e1) e2⟩
theorem er_o (h : Eo X H0 Γ e xs) : Er X H0 Γ e xs := wkE h fun σ H Q ⟨F, h, k⟩ => ⟨F, h, fun p vs F' H' g n1 n2 e1 e2 => k p vs F' H' g e1 e2⟩
theorem ev_eq (h : Ev X H0 Γ e d1) (q : d1 = d2) : Ev X H0 Γ e d2 := q ▸ h
theorem eo_eq (h : Eo X H0 Γ e xs) (q : xs = ys) : Eo X H0 Γ e ys := q ▸ h
theorem er_eq (h : Er X H0 Γ e xs) (q : xs = ys) : Er X H0 Γ e ys := q ▸ h
theorem et_eq {k k' : Bool} (h : Et X H0 Γ e k) (q : k = k') : Et X H0 Γ e k' := q ▸ h

/-! ### arguments -/
theorem ea_nil : Ea X H0 Γ [] [] := wkA pa_nil fun σ H Q ⟨F, h, k⟩ => k [] F H (.refl h.fh) .nil
theorem ea_cons {es : List Expr} {ds : List D} (h1 : Ev X H0 Γ e d) (h2 : Ea X H0 Γ es ds) (hs : starEach (e :: es) X.env = (false, eval e X.env) :: starEach es X.env := by rfl) : Ea X H0 Γ (e :: es) (d :: ds) :=
  wkA (pa_cons h1 h2 hs) fun σ H Q ⟨F, h, k⟩ => ⟨F, h, fun v F1 H1 g1 r1 => ⟨F1, h.go g1, fun vs F2 H2 g2 r2 => k (v :: vs) F2 H2 (g1.trans g2) (.cons (r1.mono g2.ff) r2)⟩⟩

/-! ### operators -/
theorem ev_op {op : Operator} {r : R2} (ho : OpR X (binaryOp op) r) (ha : Ev X H0 Γ a d1) (hb : Ev X H0 Γ b d2)
    (hr : ∀ F H x y (Q : VK), Same F H → Is X.K F x d1 → Is X.K F y d2 → (∀ v F' H', Go F H F' H' → Is X.K F' v d → Q v H') → r x y H Q) : Ev X H0 Γ (.BinOp a op b pos) d :=
  wkE (pe_op ho ha hb) fun σ H Q ⟨F, h, k⟩ => ⟨F, h, fun x F1 H1 g1 r1 => ⟨F1, h.go g1, fun y F2 H2 g2 r2 => hr F2 H2 x y Q g2.fh (r1.mono g2.ff) r2 fun v F' H' g3 r3 => k v F' H' ((g1.trans g2).trans g3) r3⟩⟩
theorem ev_opI0 {op : Operator} {g : Int → Int → Int} {i j : Int} (ho : OpR X (binaryOp op) (rI0 fun i j => .int (g i j))) (ha : Ev X H0 Γ a (.int i)) (hb : Ev X H0 Γ b (.int j)) : Ev X H0 Γ (.BinOp a op b pos) (.int (g i j)) :=
  ev_op ho ha hb fun F H x y Q sm r1 r2 k => by
    cases r1
    cases r2
    exact ⟨i, j, rfl, rfl, k _ F H (.refl sm) (.int _)⟩
theorem ev_opI {op : Operator} {C : Int → Int → Prop} {g : Int → Int → Int} {i j : Int} (ho : OpR X (binaryOp op) (rI C fun i j => .int (g i j))) (ha : Ev X H0 Γ a (.int i)) (hb : Ev X H0 Γ b (.int j)) (hc : C i j) : Ev X H0 Γ (.BinOp a op b pos) (.int (g i j)) :=
  ev_op ho ha hb fun F H x y Q sm r1 r2 k => by
    cases r1
    cases r2
    exact ⟨i, j, rfl, rfl, hc, k _ F H (.refl sm) (.int _)⟩
theorem ev_add {i j : Int} (ha : Ev X H0 Γ a (.int i)) (hb : Ev X H0 Γ b (.int j)) : Ev X H0 Γ (.BinOp a .Add b pos) (.int (i + j)) := ev_opI0 op_add ha hb
theorem ev_sub {i j : Int} (ha : Ev X H0 Γ a (.int i)) (hb : Ev X H0 Γ b (.int j)) : Ev X H0 Γ (.BinOp a .Sub b pos) (.int (i - j)) := ev_opI0 op_sub ha hb
/-- one factor below 2 ^ 64 -/
theorem ev_mul {i j : Int} (ha : Ev X H0 Γ a (.int i)) (hb : Ev X H0 Γ b (.int j)) (hc : CMul i j := by first | exact .inl ⟨by omega, by omega⟩ | exact .inr ⟨by omega, by omega⟩) : Ev X H0 Γ (.BinOp a .Mult b pos) (.int (i * j)) := ev_opI op_mul ha hb hc
theorem ev_div {i j : Int} (ha : Ev X H0 Γ a (.int i)) (hb : Ev X H0 Γ b (.int j)) (hc : CDiv i j := by exact ⟨by omega, by omega⟩) : Ev X H0 Γ (.BinOp a .FloorDiv b pos) (.int (i / j)) := ev_opI op_fdiv ha hb hc
theorem ev_mod {i j : Int} (ha : Ev X H0 Γ a (.int i)) (hb : Ev X H0 Γ b (.int j)) (hc : 0 < j := by omega) : Ev X H0 Γ (.BinOp a .Mod b pos) (.int (i % j)) := ev_opI op_mod ha hb hc
theorem ev_pow {i j : Int} (ha : Ev X H0 Γ a (.int i)) (hb : Ev X H0 Γ b (.int j)) (hc : CPow i j := by exact ⟨by omega, by omega, by decide⟩) : Ev X H0 Γ (.BinOp a .Pow b pos) (.int (i ^ j.toNat)) := ev_opI op_pow ha hb hc
theorem ev_neg {i : Int} (ha : Ev X H0 Γ a (.int i)) : Ev X H0 Γ (.UnaryOp .USub a pos) (.int (-i)) :=
  wkE (pe_un un_neg ha) fun σ H Q ⟨F, h, k⟩ => ⟨F, h, fun x F1 H1 g1 r1 => by
    cases r1
    exact ⟨i, rfl, k _ F1 H1 g1 (.int _)⟩⟩
theorem ev_addS {s t : Str} (ha : Ev X H0 Γ a (.str s)) (hb : Ev X H0 Γ b (.str t)) (hz : s.length + t.length ≤ sizeLine) : Ev X H0 Γ (.BinOp a .Add b pos) (.str (s ++ t)) :=
  ev_op op_add_str ha hb fun F H x y Q sm r1 r2 k => by
    cases r1
    cases r2
    exact ⟨s, t, rfl, rfl, hz, k _ F H (.refl sm) (.str _)⟩
/-- two lists in a row -/
theorem eo_cat (ha : Er X H0 Γ a xs) (hb : Er X H0 Γ b ys) (hz : xs.length + ys.length ≤ sizeLine) : Eo X H0 Γ (.BinOp a .Add b pos) (xs ++ ys) :=
  wkE (pe_op op_cat ha hb) fun σ H Q ⟨F, h, k⟩ => ⟨F, h, fun p vs F1 H1 g1 e1 r1 => ⟨F1, h.go g1, fun q us F2 H2 g2 e2 r2 =>
    ⟨p, q, vs, us, rfl, rfl, g2.kp _ _ e1, e2, by rw [r1.length, r2.length]; exact hz, fun n hn => k n _ F2 _ ((g1.trans g2).trans (.newH g2.fh hn)) (Same.free (g1.trans g2).kp hn) (Same.free g2.fh hn) upd_same ((r1.mono g2.ff).append r2)⟩⟩⟩
theorem eo_rep {n : Int} (ha : Er X H0 Γ a xs) (hb : Ev X H0 Γ b (.int n)) (h1 : -(2 ^ 63) ≤ n ∧ n < 2 ^ 63) (hz : xs.length * n.toNat ≤ sizeLine) : Eo X H0 Γ (.BinOp a .Mult b pos) (List.replicate n.toNat xs).flatten :=
  wkE (pe_op op_rep ha hb) fun σ H Q ⟨F, h, k⟩ => ⟨F, h, fun p vs F1 H1 g1 e1 r1 => ⟨F1, h.go g1, fun y F2 H2 g2 r2 => by
    cases r2
    exact ⟨p, n, vs, rfl, rfl, g2.kp _ _ e1, h1.1, h1.2, by rw [r1.length]; exact hz, fun q hn => k q _ F2 _ ((g1.trans g2).trans (.newH g2.fh hn)) (Same.free (g1.trans g2).kp hn) (Same.free g2.fh hn) upd_same ((r1.mono g2.ff).rep _)⟩⟩⟩

/-! ### displays -/
theorem eo_lst {es : List Expr} (h : Ea X H0 Γ es xs) (hz : xs.length ≤ sizeLine := by exact Nat.le_of_ble_eq_true rfl) : Eo X H0 Γ (.List es pos) xs :=
  wkE (pe_lst h) fun σ H Q ⟨F, h, k⟩ => ⟨F, h, fun vs F1 H1 g1 r1 => ⟨by rw [r1.length]; exact hz, fun p hp => k p vs F1 _ (g1.trans (.newH g1.fh hp)) (Same.free g1.kp hp) (Same.free g1.fh hp) upd_same r1⟩⟩
theorem ev_tup {es : List Expr} {x1} (h : Ea X H0 Γ es xs) (hz : xs.length ≤ sizeLine := by exact Nat.le_of_ble_eq_true rfl) : Ev X H0 Γ (.Tuple es x1 pos) (.tup xs) :=
  wkE (pe_tup h) fun σ H Q ⟨F, h, k⟩ => ⟨F, h, fun vs F1 H1 g1 r1 => ⟨by rw [r1.length]; exact hz, fun p hp => k _ _ _ (g1.trans (.newF g1.fh hp)) (.tup (.inl (.inl upd_same)) (r1.mono (same_new (Same.free g1.fh hp))))⟩⟩

/-! ### subscripts, slices -/
theorem ev_ix {i : Int} (ha : Er X H0 Γ a xs) (hb : Ev X H0 Γ b (.int i)) (e : atI xs i = some d) (hs : PlainIx b := by exact fun _ _ => rfl) : Ev X H0 Γ (.Subscript a b pos) d :=
  wkE (pe_ix ix_list ha hb hs) fun σ H Q ⟨F, h, k⟩ => ⟨F, h, fun p vs F1 H1 g1 e1 r1 => ⟨F1, h.go g1, fun y F2 H2 g2 r2 => by
    cases r2
    obtain ⟨v, q1, q2⟩ := atI_is (r1.mono g2.ff) e
    exact ⟨p, vs, i, v, rfl, rfl, .of (g2.kp _ _ e1), q1, k v F2 H2 (g1.trans g2) q2⟩⟩⟩
theorem ev_ixT {i : Int} (ha : Ev X H0 Γ a (.tup xs)) (hb : Ev X H0 Γ b (.int i)) (e : atI xs i = some d) (hs : PlainIx b := by exact fun _ _ => rfl) : Ev X H0 Γ (.Subscript a b pos) d :=
  wkE (pe_ix ix_tup ha hb hs) fun σ H Q ⟨F, h, k⟩ => ⟨F, h, fun x F1 H1 g1 r1 => ⟨F1, h.go g1, fun y F2 H2 g2 r2 => by
    cases r2
    cases r1 with
    | tup e1 r1 =>
      obtain ⟨v, q1, q2⟩ := atI_is (r1.mono g2.ff) e
      exact ⟨_, _, i, v, rfl, rfl, sqt_mono (g2.ff.trans g2.fh) e1, q1, k v F2 H2 (g1.trans g2) q2⟩⟩⟩
theorem ev_ixC {ns : List Int} {i n : Int} (ha : Ev X H0 Γ a (.scr ns)) (hb : Ev X H0 Γ b (.int i)) (e : atI ns i = some n) (hs : PlainIx b := by exact fun _ _ => rfl) : Ev X H0 Γ (.Subscript a b pos) (.int n) :=
  wkE (pe_ix ix_list ha hb hs) fun σ H Q ⟨F, h, k⟩ => ⟨F, h, fun x F1 H1 g1 r1 => ⟨F1, h.go g1, fun y F2 H2 g2 r2 => by
    cases r2
    cases r1 with
    | scr e1 => exact ⟨_, _, i, _, rfl, rfl, Same.seq (g2.ff.trans g2.fh) e1, atI_map e, k _ F2 H2 (g1.trans g2) (.int n)⟩⟩⟩
theorem ev_ixS {s : Str} {i : Int} {c : Nat} (ha : Ev X H0 Γ a (.str s)) (hb : Ev X H0 Γ b (.int i)) (e : atI s.cps.toList i = some c) (hz : s.length ≤ sizeLine) (hs : PlainIx b := by exact fun _ _ => rfl) : Ev X H0 Γ (.Subscript a b pos) (.str ⟨#[c]⟩) :=
  wkE (pe_ix ix_str ha hb hs) fun σ H Q ⟨F, h, k⟩ => ⟨F, h, fun x F1 H1 g1 r1 => ⟨F1, h.go g1, fun y F2 H2 g2 r2 => by
    cases r2
    cases r1
    exact ⟨s, i, c, rfl, rfl, hz, e, k _ F2 H2 (g1.trans g2) (.str _)⟩⟩⟩
theorem ep_n : Ep X H0 Γ none none := wkO po_none fun σ H Q ⟨F, h, k⟩ => k F H (.refl h.fh)
theorem ep_s {i : Int} (h : Ev X H0 Γ e (.int i)) : Ep X H0 Γ (some e) (some i) := wkO (po_some h) fun σ H Q ⟨F, h, k⟩ => ⟨F, h, fun v F1 H1 g1 r1 => by
  cases r1
  exact ⟨i, rfl, k F1 H1 g1⟩⟩
theorem eo_sl {lo hi : Option Expr} {l u : Option Int} {p2 : Pos} (he : Er X H0 Γ e xs) (hl : Ep X H0 Γ lo l) (hu : Ep X H0 Γ hi u) : Eo X H0 Γ (.Subscript e (.Slice lo hi none p2) pos) (cutL xs l u) :=
  wkE (pe_slice sl_list he hl hu) fun σ H Q ⟨F, h, k⟩ => ⟨F, h, fun p vs F1 H1 g1 e1 r1 => ⟨F1, h.go g1, fun F2 H2 g2 => ⟨F2, (h.go g1).go g2, fun F3 H3 g3 =>
    ⟨p, vs, rfl, .of (g3.kp _ _ (g2.kp _ _ e1)), fun q hq => k q _ F3 _ (((g1.trans g2).trans g3).trans (.newH g3.fh hq)) (Same.free ((g1.trans g2).trans g3).kp hq) (Same.free g3.fh hq) upd_same (cutL_is (r1.mono (g2.ff.trans g3.ff)) l u)⟩⟩⟩⟩
theorem ev_slS {lo hi : Option Expr} {l u : Option Int} {p2 : Pos} {s : Str} (he : Ev X H0 Γ e (.str s)) (hl : Ep X H0 Γ lo l) (hu : Ep X H0 Γ hi u) (hz : s.length ≤ sizeLine) : Ev X H0 Γ (.Subscript e (.Slice lo hi none p2) pos) (.str (cutS s l u)) :=
  wkE (pe_slice sl_str he hl hu) fun σ H Q ⟨F, h, k⟩ => ⟨F, h, fun v F1 H1 g1 r1 => ⟨F1, h.go g1, fun F2 H2 g2 => ⟨F2, (h.go g1).go g2, fun F3 H3 g3 => by
    cases r1
    exact ⟨s, rfl, hz, k _ F3 H3 ((g1.trans g2).trans g3) (.str _)⟩⟩⟩⟩

/-! ### built-ins -/
theorem ev_cb {id : String} {r : List V → Hp → VK → Prop} {x : Str} {p : Pos} {es : List Expr} {ds : List D} (hc : CallR X (.builtin id) r) (hm : X.mg x = none) (hv : bootBuiltins x = some (.builtin id)) (ha : Ea X H0 Γ (e :: es) ds)
    (hr : ∀ F H vs (Q : VK), Same F H → IsA X.K F vs ds → (∀ v F' H', Go F H F' H' → Is X.K F' v d → Q v H') → r vs H Q) (hg : Gl X x := by rfl) (hn : x ≠ "__name__" := by decide) (hdb : (x == ("__debug__" : Str)) = false := by decide)
    (he : starEach (e :: es) X.env = (false, eval e X.env) :: starEach es X.env := by rfl) (hpl : (backTo pos (starEach es X.env)).any (·.1) = false := by rfl) : Ev X H0 Γ (.Call (.Name x p) (e :: es) [] pos) d :=
  wkE (pe_callB hc hg hm hv ha hn hdb he hpl) fun σ H Q ⟨F, h, k⟩ => ⟨F, h, fun vs F1 H1 g1 r1 => hr F1 H1 vs Q g1.fh r1 fun v F' H' g2 r2 => k v F' H' (g1.trans g2) r2⟩
theorem ev_ct {T : String} {r : List V → Hp → VK → Prop} {x : Str} {p : Pos} {es : List Expr} {ds : List D} (hc : CallR X (.type T) r) (hm : X.mg x = none) (hv : bootBuiltins x = some (.type T)) (ha : Ea X H0 Γ (e :: es) ds)
    (hr : ∀ F H vs (Q : VK), Same F H → IsA X.K F vs ds → (∀ v F' H', Go F H F' H' → Is X.K F' v d → Q v H') → r vs H Q) (hg : Gl X x := by rfl) (hn : x ≠ "__name__" := by decide) (hdb : (x == ("__debug__" : Str)) = false := by decide)
    (he : starEach (e :: es) X.env = (false, eval e X.env) :: starEach es X.env := by rfl) (hpl : (backTo pos (starEach es X.env)).any (·.1) = false := by rfl) : Ev X H0 Γ (.Call (.Name x p) (e :: es) [] pos) d :=
  wkE (pe_callTy hc hg hm hv ha hn hdb he hpl) fun σ H Q ⟨F, h, k⟩ => ⟨F, h, fun vs F1 H1 g1 r1 => hr F1 H1 vs Q g1.fh r1 fun v F' H' g2 r2 => k v F' H' (g1.trans g2) r2⟩
theorem isa1 {K : PySem.W.Frag} {F : Hp} {vs : List V} {d : D} (h : IsA K F vs [d]) : ∃ v, vs = [v] ∧ Is K F v d := by
  cases h with
  | cons h1 h2 =>
    cases h2
    exact ⟨_, rfl, h1⟩
theorem isa2 {K : PySem.W.Frag} {F : Hp} {vs : List V} {d d' : D} (h : IsA K F vs [d, d']) : ∃ v u, vs = [v, u] ∧ Is K F v d ∧ Is K F u d' := by
  cases h with
  | cons h1 h2 =>
    obtain ⟨u, rfl, q⟩ := isa1 h2
    exact ⟨_, _, rfl, h1, q⟩
theorem ev_len {p : Pos} (hm : X.mg "len" = none) (ha : Er X H0 Γ e xs) (hg : Gl X "len" := by rfl) (he : starEach [e] X.env = (false, eval e X.env) :: starEach [] X.env := by rfl) : Ev X H0 Γ (.Call (.Name "len" p) [e] [] pos) (.int (xs.length : Int)) :=
  wkE (pe_callB call_len_seq hg hm PySem.boot_len (pa_cons ha pa_nil he) (by decide) (by decide) he) fun σ H Q ⟨F, h, k⟩ => ⟨F, h, fun p vs F1 H1 g1 e1 r1 => ⟨p, vs, rfl, .inl (.of e1), by
    have q := k _ F1 H1 g1 (.int ((xs.length : Nat) : Int))
    rw [← r1.length] at q
    exact q⟩⟩
theorem ev_lenT {p : Pos} (hm : X.mg "len" = none) (ha : Ev X H0 Γ e (.tup xs)) (hg : Gl X "len" := by rfl) (he : starEach [e] X.env = (false, eval e X.env) :: starEach [] X.env := by rfl) : Ev X H0 Γ (.Call (.Name "len" p) [e] [] pos) (.int (xs.length : Int)) :=
  wkE (pe_callB call_len_seq hg hm PySem.boot_len (pa_cons ha pa_nil he) (by decide) (by decide) he) fun σ H Q ⟨F, h, k⟩ => ⟨F, h, fun v F1 H1 g1 r1 => by
    cases r1 with
    | tup e1 r1 =>
      refine ⟨_, _, rfl, .inr (sqt_mono g1.fh e1), ?_⟩
      rw [r1.length]
      exact k _ F1 H1 g1 (.int _)⟩
theorem ev_lenC {p : Pos} {ns : List Int} (hm : X.mg "len" = none) (ha : Ev X H0 Γ e (.scr ns)) (hg : Gl X "len" := by rfl) (he : starEach [e] X.env = (false, eval e X.env) :: starEach [] X.env := by rfl) : Ev X H0 Γ (.Call (.Name "len" p) [e] [] pos) (.int (ns.length : Int)) :=
  wkE (pe_callB call_len_seq hg hm PySem.boot_len (pa_cons ha pa_nil he) (by decide) (by decide) he) fun σ H Q ⟨F, h, k⟩ => ⟨F, h, fun v F1 H1 g1 r1 => by
    cases r1 with
    | scr e1 =>
      refine ⟨_, _, rfl, .inl (Same.seq g1.fh e1), ?_⟩
      rw [List.length_map]
      exact k _ F1 H1 g1 (.int _)⟩
theorem ev_lenS {p : Pos} {s : Str} (hm : X.mg "len" = none) (ha : Ev X H0 Γ e (.str s)) (hz : s.length ≤ sizeLine) (hg : Gl X "len" := by rfl) (he : starEach [e] X.env = (false, eval e X.env) :: starEach [] X.env := by rfl) : Ev X H0 Γ (.Call (.Name "len" p) [e] [] pos) (.int (s.length : Int)) :=
  wkE (pe_callB call_len hg hm PySem.boot_len (pa_cons ha pa_nil he) (by decide) (by decide) he) fun σ H Q ⟨F, h, k⟩ => ⟨F, h, fun v F1 H1 g1 r1 => by
    cases r1
    exact ⟨_, s.length, rfl, ⟨hz, rfl⟩, k _ F1 H1 g1 (.int _)⟩⟩
theorem ev_intI {p : Pos} {i : Int} (hm : X.mg "int" = none) (ha : Ev X H0 Γ e (.int i)) (hg : Gl X "int" := by rfl) (he : starEach [e] X.env = (false, eval e X.env) :: starEach [] X.env := by rfl) : Ev X H0 Γ (.Call (.Name "int" p) [e] [] pos) (.int i) :=
  ev_ct call_int1 hm boot_int (ea_cons ha ea_nil he) (fun F H vs Q sm r k => by
    obtain ⟨v, rfl, q⟩ := isa1 r
    cases q
    exact .inl ⟨i, rfl, k _ F H (.refl sm) (.int i)⟩) hg (by decide) (by decide) he
theorem ev_intB {p : Pos} {i : Bool} (hm : X.mg "int" = none) (ha : Ev X H0 Γ e (.bl i)) (hg : Gl X "int" := by rfl) (he : starEach [e] X.env = (false, eval e X.env) :: starEach [] X.env := by rfl) : Ev X H0 Γ (.Call (.Name "int" p) [e] [] pos) (.int (if i then 1 else 0)) :=
  ev_ct call_int1 hm boot_int (ea_cons ha ea_nil he) (fun F H vs Q sm r k => by
    obtain ⟨v, rfl, q⟩ := isa1 r
    cases q
    exact .inr ⟨i, rfl, k _ F H (.refl sm) (.int _)⟩) hg (by decide) (by decide) he
theorem ev_intS {p : Pos} {s : Str} {n : Int} (hm : X.mg "int" = none) (ha : Ev X H0 Γ e (.str s)) (hn : PySem.intText? s = some n) (hz : s.length ≤ 640) (hg : Gl X "int" := by rfl) (he : starEach [e] X.env = (false, eval e X.env) :: starEach [] X.env := by rfl) : Ev X H0 Γ (.Call (.Name "int" p) [e] [] pos) (.int n) :=
  ev_ct call_int_str hm boot_int (ea_cons ha ea_nil he) (fun F H vs Q sm r k => by
    obtain ⟨v, rfl, q⟩ := isa1 r
    cases q
    exact ⟨s, n, rfl, hn, hz, k _ F H (.refl sm) (.int _)⟩) hg (by decide) (by decide) he
theorem ev_strI {p : Pos} {i : Int} (hm : X.mg "str" = none) (ha : Ev X H0 Γ e (.int i)) (hz : i.natAbs.log2 < 1920) (hg : Gl X "str" := by rfl) (he : starEach [e] X.env = (false, eval e X.env) :: starEach [] X.env := by rfl) : Ev X H0 Γ (.Call (.Name "str" p) [e] [] pos) (.str (toString i)) :=
  ev_ct call_str_int hm boot_str (ea_cons ha ea_nil he) (fun F H vs Q sm r k => by
    obtain ⟨v, rfl, q⟩ := isa1 r
    cases q
    exact ⟨i, rfl, hz, k _ F H (.refl sm) (.str _)⟩) hg (by decide) (by decide) he
theorem ev_tupL {p : Pos} (hm : X.mg "tuple" = none) (ha : Er X H0 Γ e xs) (hg : Gl X "tuple" := by rfl) (he : starEach [e] X.env = (false, eval e X.env) :: starEach [] X.env := by rfl) : Ev X H0 Γ (.Call (.Name "tuple" p) [e] [] pos) (.tup xs) :=
  wkE (pe_callTy call_tuple_of hg hm boot_tuple (pa_cons ha pa_nil he) (by decide) (by decide) he) fun σ H Q ⟨F, h, k⟩ => ⟨F, h, fun p vs F1 H1 g1 e1 r1 => ⟨p, vs, rfl, .inl ⟨.of e1, fun l hl =>
    k _ _ _ (g1.trans (.newF g1.fh hl)) (.tup (.inl (.inl upd_same)) (r1.mono (same_new (Same.free g1.fh hl))))⟩⟩⟩
theorem eo_listL {p : Pos} (hm : X.mg "list" = none) (ha : Er X H0 Γ e xs) (hg : Gl X "list" := by rfl) (he : starEach [e] X.env = (false, eval e X.env) :: starEach [] X.env := by rfl) : Eo X H0 Γ (.Call (.Name "list" p) [e] [] pos) xs :=
  wkE (pe_callTy call_list_of hg hm boot_list (pa_cons ha pa_nil he) (by decide) (by decide) he) fun σ H Q ⟨F, h, k⟩ => ⟨F, h, fun p vs F1 H1 g1 e1 r1 => ⟨p, vs, rfl, .inl (.of e1), fun l hl =>
    k l vs F1 _ (g1.trans (.newH g1.fh hl)) (Same.free g1.kp hl) (Same.free g1.fh hl) upd_same r1⟩⟩
theorem eo_listT {p : Pos} (hm : X.mg "list" = none) (ha : Ev X H0 Γ e (.tup xs)) (hg : Gl X "list" := by rfl) (he : starEach [e] X.env = (false, eval e X.env) :: starEach [] X.env := by rfl) : Eo X H0 Γ (.Call (.Name "list" p) [e] [] pos) xs :=
  wkE (pe_callTy call_list_of hg hm boot_list (pa_cons ha pa_nil he) (by decide) (by decide) he) fun σ H Q ⟨F, h, k⟩ => ⟨F, h, fun v F1 H1 g1 r1 => by
    cases r1 with
    | tup e1 r1 => exact ⟨_, _, rfl, .inr (sqt_mono g1.fh e1), fun l hl => k l _ F1 _ (g1.trans (.newH g1.fh hl)) (Same.free g1.kp hl) (Same.free g1.fh hl) upd_same r1⟩⟩
theorem ev_all {p : Pos} {bs : List Bool} (hm : X.mg "all" = none) (ha : Er X H0 Γ e (bs.map D.bl)) (hc : X.calm = true := by rfl) (hg : Gl X "all" := by rfl) (he : starEach [e] X.env = (false, eval e X.env) :: starEach [] X.env := by rfl) : Ev X H0 Γ (.Call (.Name "all" p) [e] [] pos) (.bl (bs.all id)) :=
  wkE (pe_callB (cr_all hc) hg hm boot_all (pa_cons ha pa_nil he) (by decide) (by decide) he) fun σ H Q ⟨F, h, k⟩ => ⟨F, h, fun p vs F1 H1 g1 e1 r1 => by
    rw [r1.bls] at e1
    exact ⟨p, bs, rfl, .of e1, k _ F1 H1 g1 (.bl _)⟩⟩
theorem ev_any {p : Pos} {bs : List Bool} (hm : X.mg "any" = none) (ha : Er X H0 Γ e (bs.map D.bl)) (hc : X.calm = true := by rfl) (hg : Gl X "any" := by rfl) (he : starEach [e] X.env = (false, eval e X.env) :: starEach [] X.env := by rfl) : Ev X H0 Γ (.Call (.Name "any" p) [e] [] pos) (.bl (bs.any id)) :=
  wkE (pe_callB (cr_any hc) hg hm (by decide +kernel) (pa_cons ha pa_nil he) (by decide) (by decide) he) fun σ H Q ⟨F, h, k⟩ => ⟨F, h, fun p vs F1 H1 g1 e1 r1 => by
    rw [r1.bls] at e1
    exact ⟨p, bs, rfl, .of e1, k _ F1 H1 g1 (.bl _)⟩⟩
/-- isinstance with a built-in type: by kitB -/
def tyD : D → Option String
  | .non => some "NoneType" | .bl _ => some "bool" | .int _ => some "int" | .str _ => some "str" | .lst _ => some "list" | .tup _ => some "tuple" | .scr _ => some "list" | .obj _ _ => none | .dic _ => some "dict" | .dit _ => some "dict"
theorem tyx_of {K : PySem.W.Frag} {F H : Hp} {v : V} {d : D} {n : String} (sm : Same F H) (h : Is K F v d) (e : tyD d = some n) : TyX K H v (.type n) := by
  cases h with
  | non => cases e; exact .base .non
  | bl b => cases e; exact .base (.bl b)
  | int i => cases e; exact .base (.int i)
  | str s => cases e; exact .base (.str s)
  | lst h1 h2 => cases e; exact .base (.lst (sm _ _ h1))
  | tup h1 h2 =>
    cases e
    rcases h1 with (h1 | ⟨o, h1⟩) | ⟨o, its, n, h1, h2, h3⟩
    · exact .base (.tup (sm _ _ h1))
    · exact .fTuple (sm _ _ h1)
    · exact .kTuple h1 h2
  | scr h1 =>
    cases e
    rcases h1 with (h1 | ⟨o, h1⟩) | ⟨o, its, n, h1, h2, h3⟩
    · exact .base (.lst (sm _ _ h1))
    · exact .base (.frz (sm _ _ h1))
    · exact .kList h1 h2
  | obj h1 h2 => cases e
  | dic h1 h2 => cases e; exact .base (.dK (sm _ _ h1))
  | dit h1 h2 => cases e; exact .base (.dT (sm _ _ h1))
theorem ev_isi {p p2 : Pos} {T : Str} {U W : String} {k : Bool} (hm : X.mg "isinstance" = none) (ha : Ev X H0 Γ e d) (hT : X.mg T = none) (hU : bootBuiltins T = some (.type U)) (hd : tyD d = some W) (hk : kitB W U = some k := by decide +kernel)
    (hg : Gl X "isinstance" := by rfl) (hg2 : Gl X T := by rfl) (hn : T ≠ "__name__" := by decide) (hdb : (T == ("__debug__" : Str)) = false := by decide)
    (he : starEach [e, .Name T p2] X.env = (false, eval e X.env) :: starEach [.Name T p2] X.env := by rfl) (he2 : starEach [.Name T p2] X.env = (false, eval (.Name T p2) X.env) :: starEach [] X.env := by rfl) (hpl : (backTo pos (starEach [.Name T p2] X.env)).any (·.1) = false := by rfl) :
    Ev X H0 Γ (.Call (.Name "isinstance" p) [e, .Name T p2] [] pos) (.bl k) :=
  wkE (pe_callB call_isi hg hm boot_isinstance (pa_cons ha (pa_cons (pe_bltn (v := .ty U) hg2 hT hU rfl hn hdb) pa_nil he2) he) (by decide) (by decide) he hpl) fun σ H Q ⟨F, h, q⟩ => ⟨F, h, fun v F1 H1 g1 r1 =>
    ⟨v, .ty U, .type W, .type U, k, rfl, .ty U, tyx_of g1.fh r1 hd, kit_ty hk, q _ F1 H1 g1 (.bl k)⟩⟩

/-! ### comparisons -/
theorem ec_of {op : CmpOp} {r : R2} {k : Bool} (ho : OpR X (compareOp op) r) (ha : Ev X H0 Γ a d1) (hb : Ev X H0 Γ b d2)
    (hr : ∀ F H x y (Q : VK), Same F H → Is X.K F x d1 → Is X.K F y d2 → Q (.bl k) H → r x y H Q) : Ec X H0 Γ op a b k :=
  ⟨r, _, _, ho, ha, hb, fun σ H Q ⟨F, h, q⟩ => ⟨F, h, fun x F1 H1 g1 r1 => ⟨F1, h.go g1, fun y F2 H2 g2 r2 => hr F2 H2 x y Q g2.fh (r1.mono g2.ff) r2 (q F2 H2 (g1.trans g2))⟩⟩⟩
theorem ev_c {op : CmpOp} {k : Bool} (h : Ec X H0 Γ op a b k) (hm : behindInMarks op b = false := by first | exact nomark _ | with_unfolding_all rfl) : Ev X H0 Γ (.Compare a [op] [b] pos) (.bl k) := by
  obtain ⟨r, ta, tb, ho, ha, hb, h⟩ := h
  exact wkE (pe_cmpR ho ha hb hm) fun σ H Q ⟨F, h1, q⟩ => h σ H Q ⟨F, h1, fun F' H' g => q _ F' H' g (.bl k)⟩
theorem et_c {op : CmpOp} {k : Bool} (h : Ec X H0 Γ op a b k) (hm : behindInMarks op b = false := by first | exact nomark _ | with_unfolding_all rfl) : Et X H0 Γ (.Compare a [op] [b] pos) k := by
  obtain ⟨r, ta, tb, ho, ha, hb, h⟩ := h
  exact wkT (pt_cmpR ho ha hb hm) fun σ H Q ⟨F, h1, q⟩ => h σ H _ ⟨F, h1, fun F' H' g => ⟨k, rfl, q F' H' g⟩⟩
theorem ec_I {op : CmpOp} {g : Int → Int → Bool} {i j : Int} (ho : OpR X (compareOp op) (rI0 fun i j => .bl (g i j))) (ha : Ev X H0 Γ a (.int i)) (hb : Ev X H0 Γ b (.int j)) : Ec X H0 Γ op a b (g i j) :=
  ec_of ho ha hb fun F H x y Q sm r1 r2 q => by
    cases r1
    cases r2
    exact ⟨i, j, rfl, rfl, q⟩
theorem ec_lt {i j : Int} (ha : Ev X H0 Γ a (.int i)) (hb : Ev X H0 Γ b (.int j)) : Ec X H0 Γ .Lt a b (decide (i < j)) := ec_I op_lt ha hb
theorem ec_le {i j : Int} (ha : Ev X H0 Γ a (.int i)) (hb : Ev X H0 Γ b (.int j)) : Ec X H0 Γ .LtE a b (decide (i ≤ j)) := ec_I op_le ha hb
theorem ec_gt {i j : Int} (ha : Ev X H0 Γ a (.int i)) (hb : Ev X H0 Γ b (.int j)) : Ec X H0 Γ .Gt a b (decide (j < i)) := ec_I op_gt ha hb
theorem ec_ge {i j : Int} (ha : Ev X H0 Γ a (.int i)) (hb : Ev X H0 Γ b (.int j)) : Ec X H0 Γ .GtE a b (decide (j ≤ i)) := ec_I op_ge ha hb
/-- scalars -/
def valD : D → Option V
  | .non => some .non | .bl b => some (.bl b) | .int i => some (.int i) | .str s => some (.str s) | _ => none
theorem is_val {K : PySem.W.Frag} {F : Hp} {v u : V} {d : D} (h : Is K F v d) (e : valD d = some u) : v = u := by
  cases h <;> cases e <;> rfl
theorem ec_eq {u v : V} (ha : Ev X H0 Γ a d1) (hb : Ev X H0 Γ b d2) (e1 : valD d1 = some u := by rfl) (e2 : valD d2 = some v := by rfl) (hs : scal u v = true := by rfl) : Ec X H0 Γ .Eq a b (decide (u = v)) :=
  ec_of op_eq ha hb fun F H x y Q sm r1 r2 q => by
    cases is_val r1 e1
    cases is_val r2 e2
    exact ⟨hs, q⟩
theorem ec_ne {u v : V} (ha : Ev X H0 Γ a d1) (hb : Ev X H0 Γ b d2) (e1 : valD d1 = some u := by rfl) (e2 : valD d2 = some v := by rfl) (hs : scal u v = true := by rfl) : Ec X H0 Γ .NotEq a b (!decide (u = v)) :=
  ec_of op_ne ha hb fun F H x y Q sm r1 r2 q => by
    cases is_val r1 e1
    cases is_val r2 e2
    exact ⟨hs, q⟩
theorem deq_i {i j : Int} : decide (V.int i = V.int j) = decide (i = j) := by
  rw [Bool.eq_iff_iff]
  simp
theorem deq_s {i j : Str} : decide (V.str i = V.str j) = decide (i = j) := by
  rw [Bool.eq_iff_iff]
  simp
theorem ec_eqI {i j : Int} (ha : Ev X H0 Γ a (.int i)) (hb : Ev X H0 Γ b (.int j)) : Ec X H0 Γ .Eq a b (decide (i = j)) := deq_i ▸ ec_eq ha hb
theorem ec_neI {i j : Int} (ha : Ev X H0 Γ a (.int i)) (hb : Ev X H0 Γ b (.int j)) : Ec X H0 Γ .NotEq a b (!decide (i = j)) := deq_i ▸ ec_ne ha hb
theorem ec_eqS {i j : Str} (ha : Ev X H0 Γ a (.str i)) (hb : Ev X H0 Γ b (.str j)) : Ec X H0 Γ .Eq a b (decide (i = j)) := deq_s ▸ ec_eq ha hb
theorem ec_neS {i j : Str} (ha : Ev X H0 Γ a (.str i)) (hb : Ev X H0 Γ b (.str j)) : Ec X H0 Γ .NotEq a b (!decide (i = j)) := deq_s ▸ ec_ne ha hb
/-- is None, is not None; is False .. of bools -/
def isNone : D → Bool
  | .non => true
  | _ => false
theorem is_none {K : PySem.W.Frag} {F : Hp} {v : V} {d : D} (h : Is K F v d) : decide (v = .non) = isNone d := by
  cases h <;> rfl
theorem ec_isN (ha : Ev X H0 Γ a d) (hb : Ev X H0 Γ b .non) : Ec X H0 Γ .Is a b (isNone d) :=
  ec_of op_isN ha hb fun F H x y Q sm r1 r2 q => by
    cases r2
    exact ⟨rfl, by rw [is_none r1]; exact q⟩
theorem ec_notN (ha : Ev X H0 Γ a d) (hb : Ev X H0 Γ b .non) : Ec X H0 Γ .IsNot a b (!isNone d) :=
  ec_of op_notN ha hb fun F H x y Q sm r1 r2 q => by
    cases r2
    exact ⟨rfl, by rw [is_none r1]; exact q⟩
/-- a sign in a text -/
theorem ec_inS {s t : Str} (ha : Ev X H0 Γ a (.str s)) (hb : Ev X H0 Γ b (.str t)) : Ec X H0 Γ .In a b (!(Builtin.Str.occurrences t s 0 t.length 1).isEmpty) :=
  ec_of op_in_str ha hb fun F H x y Q sm r1 r2 q => by
    cases r1
    cases r2
    exact ⟨s, t, rfl, rfl, q⟩
theorem ec_niS {s t : Str} (ha : Ev X H0 Γ a (.str s)) (hb : Ev X H0 Γ b (.str t)) : Ec X H0 Γ .NotIn a b (!(!(Builtin.Str.occurrences t s 0 t.length 1).isEmpty)) :=
  ec_of op_notin_str ha hb fun F H x y Q sm r1 r2 q => by
    cases r1
    cases r2
    exact ⟨s, t, rfl, rfl, q⟩

theorem ec_inC {c : Nat} {t : Str} (ha : Ev X H0 Γ a (.str ⟨#[c]⟩)) (hb : Ev X H0 Γ b (.str t)) : Ec X H0 Γ .In a b (decide (c ∈ t.cps.toList)) :=
  ec_of op_in_sign ha hb fun F H x y Q sm r1 r2 q => by
    cases r1
    cases r2
    exact ⟨c, t, rfl, rfl, q⟩
theorem ec_niC {c : Nat} {t : Str} (ha : Ev X H0 Γ a (.str ⟨#[c]⟩)) (hb : Ev X H0 Γ b (.str t)) : Ec X H0 Γ .NotIn a b (!decide (c ∈ t.cps.toList)) :=
  ec_of op_notIn_sign ha hb fun F H x y Q sm r1 r2 q => by
    cases r1
    cases r2
    exact ⟨c, t, rfl, rfl, q⟩

/-! ### data compared at any depth -/
mutual
def toPy : D → PyData
  | .non => .none
  | .bl b => .bool b
  | .int i => .int i
  | .str s => .str s
  | .lst xs => .list (toPyA xs)
  | .tup xs => .tuple (toPyA xs)
  | .scr ns => .list (ns.map .int)
  | _ => .none
def toPyA : List D → List PyData
  | [] => []
  | x :: xs => toPy x :: toPyA xs
end
mutual
/-- no object, no script within -/
def datD : D → Bool
  | .lst xs => datA xs
  | .tup xs => datA xs
  | .obj _ _ => false
  | .dic _ => false
  | .dit _ => false
  | .scr _ => false
  | _ => true
def datA : List D → Bool
  | [] => true
  | x :: xs => datD x && datA xs
end
mutual
theorem dp_of {K : PySem.W.Frag} {F H : Hp} (sm : Same F H) : ∀ (d : D) (v : V), datD d = true → Is K F v d → Dp K H v (toPy d)
  | .non, _, _, h => by cases h; exact .non
  | .bl b, _, _, h => by cases h; exact .bl b
  | .int i, _, _, h => by cases h; exact .int i
  | .str s, _, _, h => by cases h; exact .str s
  | .lst ds, _, p, h => by
    cases h with
    | lst h1 h2 => exact .lst (.of (sm _ _ h1)) (dp_all sm ds _ p h2)
  | .tup ds, _, p, h => by
    cases h with
    | tup h1 h2 => exact .tup (sqt_mono sm h1) (dp_all sm ds _ p h2)
  | .scr ns, _, p, h => by cases p
  | .obj C gs, _, p, h => by cases p
  | .dic _, _, p, h => by cases p
  | .dit _, _, p, h => by cases p
theorem dp_all {K : PySem.W.Frag} {F H : Hp} (sm : Same F H) : ∀ (ds : List D) (vs : List V), datA ds = true → IsA K F vs ds → DpAll K H vs (toPyA ds)
  | [], _, _, h => by cases h; exact .nil
  | d :: ds, _, p, h => by
    rw [datA, Bool.and_eq_true] at p
    cases h with
    | cons h1 h2 => exact .cons (dp_of sm d _ p.1 h1) (dp_all sm ds _ p.2 h2)
end
theorem ec_eqD (ha : Ev X H0 Γ a d1) (hb : Ev X H0 Γ b d2) (p1 : datD d1 = true) (p2 : datD d2 = true) (s1 : SeqAt.shaped (toPy d1) = true) (s2 : SeqAt.shaped (toPy d2) = true) (hu : X.A.units + 64 < cLine) : Ec X H0 Γ .Eq a b (PyData.eqv (toPy d1) (toPy d2)) :=
  ec_of (op_eqD hu) ha hb fun F H x y Q sm r1 r2 q => ⟨_, _, dp_of sm d1 x p1 r1, dp_of sm d2 y p2 r2, s1, s2, q⟩
theorem ec_neD (ha : Ev X H0 Γ a d1) (hb : Ev X H0 Γ b d2) (p1 : datD d1 = true) (p2 : datD d2 = true) (s1 : SeqAt.shaped (toPy d1) = true) (s2 : SeqAt.shaped (toPy d2) = true) (hu : X.A.units + 64 < cLine) : Ec X H0 Γ .NotEq a b (!PyData.eqv (toPy d1) (toPy d2)) :=
  ec_of (op_neD hu) ha hb fun F H x y Q sm r1 r2 q => ⟨_, _, dp_of sm d1 x p1 r1, dp_of sm d2 y p2 r2, s1, s2, q⟩

/-! ### tests -/
theorem ev_not {k : Bool} (h : Ev X H0 Γ a (.bl k)) : Ev X H0 Γ (.UnaryOp .Not a pos) (.bl (!k)) := wkE (pe_not h) fun σ H Q ⟨F, h, q⟩ => ⟨F, h, fun v F' H' g r => by
  cases r
  exact ⟨k, rfl, q _ F' H' g (.bl _)⟩⟩
theorem ev_one {op} (h : Ev X H0 Γ a d) : Ev X H0 Γ (.BoolOp op [a] pos) d := pe_one h
theorem ev_and {rest : List Expr} {k l : Bool} (ha : Ev X H0 Γ a (.bl k)) (hb : k = true → Ev X H0 Γ (.BoolOp .And (b :: rest) pos) (.bl l)) : Ev X H0 Γ (.BoolOp .And (a :: b :: rest) pos) (.bl (k && l)) := by
  cases k with
  | true =>
    exact wkE (pe_and ha (hb rfl)) fun σ H Q ⟨F, h, q⟩ => ⟨F, h, fun v F' H' g r => by
      cases r
      exact ⟨true, rfl, ⟨F', h.go g, fun u F2 H2 g2 r2 => q u F2 H2 (g.trans g2) r2⟩⟩⟩
  | false =>
    exact wkE (pe_and ha ⟨fun pins s σ H Q I (q : False) => q.elim⟩) fun σ H Q ⟨F, h, q⟩ => ⟨F, h, fun v F' H' g r => by
      cases r
      exact ⟨false, rfl, q _ F' H' g (.bl false)⟩⟩
theorem ev_or {rest : List Expr} {k l : Bool} (ha : Ev X H0 Γ a (.bl k)) (hb : k = false → Ev X H0 Γ (.BoolOp .Or (b :: rest) pos) (.bl l)) : Ev X H0 Γ (.BoolOp .Or (a :: b :: rest) pos) (.bl (k || l)) := by
  cases k with
  | false =>
    exact wkE (pe_or ha (hb rfl)) fun σ H Q ⟨F, h, q⟩ => ⟨F, h, fun v F' H' g r => by
      cases r
      exact ⟨false, rfl, ⟨F', h.go g, fun u F2 H2 g2 r2 => q u F2 H2 (g.trans g2) r2⟩⟩⟩
  | true =>
    exact wkE (pe_or ha ⟨fun pins s σ H Q I (q : False) => q.elim⟩) fun σ H Q ⟨F, h, q⟩ => ⟨F, h, fun v F' H' g r => by
      cases r
      exact ⟨true, rfl, q _ F' H' g (.bl true)⟩⟩
theorem et_not {k : Bool} (h : Et X H0 Γ a k) : Et X H0 Γ (.UnaryOp .Not a pos) (!k) := wkT (pt_not h) fun σ H Q ⟨F, h, q⟩ => ⟨F, h, fun F' H' g => q F' H' g⟩
theorem et_w {k : Bool} (h : Ew X H0 Γ a k) : Et X H0 Γ a k := PW.pt h
theorem ew_and1 {k : Bool} (h : Et X H0 Γ a k) : Ew X H0 Γ (.BoolOp .And [a] pos) k := pw_and1 h
theorem ew_or1 {k : Bool} (h : Et X H0 Γ a k) : Ew X H0 Γ (.BoolOp .Or [a] pos) k := pw_or1 h
theorem ew_and {rest : List Expr} {k l : Bool} (ha : Et X H0 Γ a k) (hb : k = true → Ew X H0 Γ (.BoolOp .And (b :: rest) pos) l) : Ew X H0 Γ (.BoolOp .And (a :: b :: rest) pos) (k && l) := by
  cases k with
  | true =>
    exact wkW (pw_and ha (hb rfl)) fun σ H Q ⟨F, h, q⟩ => ⟨F, h, fun F' H' g => ⟨F', h.go g, fun F2 H2 g2 => q F2 H2 (g.trans g2)⟩⟩
  | false =>
    exact wkW (pw_and ha ⟨fun wh pins s σ H Q I (q : False) => q.elim⟩) fun σ H Q ⟨F, h, q⟩ => ⟨F, h, fun F' H' g => q F' H' g⟩
theorem ew_or {rest : List Expr} {k l : Bool} (ha : Et X H0 Γ a k) (hb : k = false → Ew X H0 Γ (.BoolOp .Or (b :: rest) pos) l) : Ew X H0 Γ (.BoolOp .Or (a :: b :: rest) pos) (k || l) := by
  cases k with
  | false =>
    exact wkW (pw_or ha (hb rfl)) fun σ H Q ⟨F, h, q⟩ => ⟨F, h, fun F' H' g => ⟨F', h.go g, fun F2 H2 g2 => q F2 H2 (g.trans g2)⟩⟩
  | true =>
    exact wkW (pw_or ha ⟨fun wh pins s σ H Q I (q : False) => q.elim⟩) fun σ H Q ⟨F, h, q⟩ => ⟨F, h, fun F' H' g => q F' H' g⟩
/-- a value's truth -/
theorem et_b {k : Bool} (h : Ev X H0 Γ e (.bl k)) (he : ∀ whole, isTrue e X.env whole = (do let v ← whole; standAt e.pos; holding [v] (truthy v)) := by exact fun _ => rfl) : Et X H0 Γ e k :=
  wkT (pt_truth h he) fun σ H Q ⟨F, h, q⟩ => ⟨F, h, fun v F' H' g r => by
    cases r
    exact ⟨k, rfl, q F' H' g⟩⟩
theorem et_l (h : Er X H0 Γ e xs) (he : ∀ whole, isTrue e X.env whole = (do let v ← whole; standAt e.pos; holding [v] (truthy v)) := by exact fun _ => rfl) : Et X H0 Γ e (!xs.isEmpty) :=
  wkT (pt_truth h he) fun σ H Q ⟨F, h, q⟩ => ⟨F, h, fun p vs F' H' g e1 r1 => ⟨!xs.isEmpty, .inl ⟨vs, .of e1, by
    cases r1 <;> rfl⟩, q F' H' g⟩⟩
theorem et_i {i : Int} (h : Ev X H0 Γ e (.int i)) (he : ∀ whole, isTrue e X.env whole = (do let v ← whole; standAt e.pos; holding [v] (truthy v)) := by exact fun _ => rfl) : Et X H0 Γ e (i != 0) :=
  wkT (pt_truth h he) fun σ H Q ⟨F, h, q⟩ => ⟨F, h, fun v F' H' g r => by
    cases r
    exact ⟨i != 0, rfl, q F' H' g⟩⟩
theorem ev_if {k : Bool} (hc : Et X H0 Γ c k) (ha : k = true → Ev X H0 Γ a d) (hb : k = false → Ev X H0 Γ b d) : Ev X H0 Γ (.IfExp c a b pos) d := by
  cases k with
  | true => exact wkE (pe_ifExp hc (ha rfl) ⟨fun pins s σ H Q I (q : False) => q.elim⟩) fun σ H Q ⟨F, h, q⟩ => ⟨F, h, fun F' H' g => ⟨F', h.go g, fun v F2 H2 g2 r => q v F2 H2 (g.trans g2) r⟩⟩
  | false => exact wkE (pe_ifExp hc ⟨fun pins s σ H Q I (q : False) => q.elim⟩ (hb rfl)) fun σ H Q ⟨F, h, q⟩ => ⟨F, h, fun F' H' g => ⟨F', h.go g, fun v F2 H2 g2 r => q v F2 H2 (g.trans g2) r⟩⟩

/-! ### texts -/
theorem ev_join {apos : Pos} {s : Str} {ts : List Str} (ho : Ev X H0 Γ a (.str s)) (he : Er X H0 Γ e (ts.map D.str)) (hz : (ts.map (·.length)).sum + ts.length * s.length ≤ 16777216) (hs : starEach [e] X.env = [(false, eval e X.env)] := by rfl)
    (hbase : attributeBase a "join" X.env (eval a X.env) = eval a X.env := by rfl) (hline : (apos.endLine == pos.line) = true := by rfl) : Ev X H0 Γ (.Call (.Attribute a "join" apos) [e] [] pos) (.str (Txt.join s ts)) :=
  wkE (pe_join ho he hs hbase hline) fun σ H Q ⟨F, h, q⟩ => ⟨F, h, fun v F1 H1 g1 r1 => by
    cases r1
    exact ⟨⟨s, rfl⟩, F1, h.go g1, fun p vs F2 H2 g2 e2 r2 => by
      rw [r2.strs] at e2
      exact ⟨s, p, ts, rfl, rfl, .inl (.of e2), hz, q _ F2 H2 (g1.trans g2) (.str _)⟩⟩⟩
theorem eo_split {apos : Pos} {s t : Str} (ho : Ev X H0 Γ a (.str s)) (he : Ev X H0 Γ e (.str t)) (ht : (t.length == 0) = false := by decide) (hz : s.length + 2 ≤ sizeLine) (hs : starEach [e] X.env = [(false, eval e X.env)] := by rfl)
    (hbase : attributeBase a "split" X.env (eval a X.env) = eval a X.env := by rfl) (hline : (apos.endLine == pos.line) = true := by rfl) : Eo X H0 Γ (.Call (.Attribute a "split" apos) [e] [] pos) ((Txt.split s t).map D.str) :=
  wkE (pe_split ho he hs hbase hline) fun σ H Q ⟨F, h, q⟩ => ⟨F, h, fun v F1 H1 g1 r1 => by
    cases r1
    exact ⟨⟨s, rfl⟩, F1, h.go g1, fun y F2 H2 g2 r2 => by
      cases r2
      exact ⟨s, t, rfl, rfl, ht, hz, fun p hp => q p _ F2 _ ((g1.trans g2).trans (.newH g2.fh hp)) (Same.free (g1.trans g2).kp hp) (Same.free g2.fh hp) upd_same (IsA.of_strs _)⟩⟩⟩

/-! ### a def of the text called -/
def SpD (K : PySem.W.Frag) (S : List D → D → Prop) : Sp := fun vs H Q _ => ∃ F ds r, Same F H ∧ IsA K F vs ds ∧ S ds r ∧ ∀ v F' H', Go F H F' H' → Is K F' v r → Q v H'
theorem ev_call {k : Nat} {f : Addr} {fd : FuncData} {ps : List Str} {S : List D → D → Prop} {x : Str} {p : Pos} {es : List Expr} {ds : List D} {r : D} (F : FnOk X.prog X.w X.K X.mg X.base CX0 k f fd ps (SpD X.K S)) (hr : Room k X.A) (hm : X.mg x = some (.ref f))
    (hk : PySem.W.keepIn X.K (.ref f) = true) (hb : Binds X.K fd ps []) (ha : Ea X H0 Γ (e :: es) ds) (hS : S ds r) (hg : Gl X x := by rfl) (hdb : (x == ("__debug__" : Str)) = false := by decide)
    (he : starEach (e :: es) X.env = (false, eval e X.env) :: starEach es X.env := by rfl) (hpl : (backTo pos (starEach es X.env)).any (·.1) = false := by rfl) : Ev X H0 Γ (.Call (.Name x p) (e :: es) [] pos) r :=
  wkE (pe_call F hr hg hm hk hb .nil pass0 ha hdb he hpl) fun σ H Q ⟨F, h, q⟩ => ⟨F, h, fun vs F1 H1 g1 r1 => ⟨F1, ds, r, g1.fh, by rw [List.append_nil]; exact r1, hS, fun v F' H' g2 r2 => q v F' H' (g1.trans g2) r2⟩⟩
end
end Dv

namespace Dv
open PySem PySem.Spec PyProof.Rows L2

/-! ### what is walked -/
def rEi (K : PySem.W.Frag) (H0 : Hp) (Γ : List Sl) (xs : List D) : TI := fun σ H R => ∃ F, Hold K H0 F H σ Γ ∧ ∀ (J : It) (G : Hp → Prop) (Y : Nat → Hp → V → Hp → Prop) (F1 H1 : Hp), Go F H F1 H1 → Walk J xs.length G Y → (∀ H', Same F1 H' → G H') →
  (∀ (i : Nat) (x : V) (d : D) (F2 H2 H3 : Hp), Same F1 F2 → Same F2 H2 → xs[i]? = some d → Y i H2 x H3 → ∃ F3, Go F2 H2 F3 H3 ∧ Is K F3 x d) → R J H1
def Ei (X : Cx) (H0 : Hp) (Γ : List Sl) (tg iter : Expr) (xs : List D) : Prop := PI X tg iter (rEi X.K H0 Γ xs)

section
variable {X : Cx} {H0 : Hp} {Γ : List Sl} {tg a b e iter : Expr} {d : D} {xs ys : List D} {pos : Pos}
theorem ei_l (h : Ev X H0 Γ e (.lst xs)) : Ei X H0 Γ tg e xs := wkI (pi_list h) fun σ H R ⟨F, h, k⟩ => ⟨F, h, fun v F1 H1 g1 r1 => by
  cases r1 with
  | @lst a vs _ e1 r1 =>
    refine ⟨a, rfl, ⟨vs, .of (g1.fh _ _ e1)⟩, k _ _ _ F1 H1 g1 (by rw [← r1.length]; exact walk_list) (fun H' sm => SqL.of (sm _ _ e1)) fun i x d F2 H2 H3 s1 s2 q y => ?_⟩
    obtain ⟨rfl, y⟩ := y
    obtain ⟨d', q1, q2⟩ := r1.get' y
    rw [q] at q1
    cases q1
    exact ⟨F2, .refl s2, q2.mono s1⟩⟩
theorem ei_t (h : Ev X H0 Γ e (.tup xs)) : Ei X H0 Γ tg e xs := wkI (pi_tup h) fun σ H R ⟨F, h, k⟩ => ⟨F, h, fun v F1 H1 g1 r1 => by
  cases r1 with
  | @tup a vs _ e1 r1 =>
    refine ⟨a, rfl, ⟨vs, sqt_mono g1.fh e1⟩, k _ _ _ F1 H1 g1 (by rw [← r1.length]; exact walk_tup) (fun H' sm => sqt_mono sm e1) fun i x d F2 H2 H3 s1 s2 q y => ?_⟩
    obtain ⟨rfl, y⟩ := y
    obtain ⟨d', q1, q2⟩ := r1.get' y
    rw [q] at q1
    cases q1
    exact ⟨F2, .refl s2, q2.mono s1⟩⟩
theorem ei_c {ns : List Int} (h : Ev X H0 Γ e (.scr ns)) : Ei X H0 Γ tg e (ns.map D.int) := wkI (pi_list h) fun σ H R ⟨F, h, k⟩ => ⟨F, h, fun v F1 H1 g1 r1 => by
  cases r1 with
  | @scr a _ e1 =>
    refine ⟨a, rfl, ⟨_, Same.seq g1.fh e1⟩, k _ _ _ F1 H1 g1 (by rw [List.length_map, ← List.length_map (f := V.int)]; exact walk_list) (fun H' sm => Same.seq sm e1) fun i x d F2 H2 H3 s1 s2 q y => ?_⟩
    obtain ⟨rfl, y⟩ := y
    obtain ⟨d', q1, q2⟩ := (IsA.of_ints (K := X.K) (F := F2) ns).get' y
    rw [q] at q1
    cases q1
    exact ⟨F2, .refl s2, q2⟩⟩
theorem ei_s {s : Str} (h : Ev X H0 Γ e (.str s)) : Ei X H0 Γ tg e (s.cps.toList.map fun c => D.str ⟨#[c]⟩) := wkI (pi_str h) fun σ H R ⟨F, h, k⟩ => ⟨F, h, fun v F1 H1 g1 r1 => by
  cases r1
  refine ⟨s, rfl, k _ _ _ F1 H1 g1 (by rw [List.length_map, Array.length_toList]; exact walk_str) (fun H' sm => trivial) fun i x d F2 H2 H3 s1 s2 q y => ?_⟩
  obtain ⟨rfl, c, y, rfl⟩ := y
  rw [List.getElem?_map] at q
  rw [← Array.getElem?_toList] at y
  rw [y] at q
  cases q
  exact ⟨F2, .refl s2, .str _⟩⟩
theorem ei_r1 {p : Pos} {n : Int} (hm : X.mg "range" = none) (h : Ev X H0 Γ e (.int n)) (hn : -(2 ^ 62) ≤ n ∧ n < 2 ^ 62 := by omega) (hg : Gl X "range" := by rfl) (he : starEach [e] X.env = (false, eval e X.env) :: starEach [] X.env := by rfl) (hs : starEach [e] X.env = [(false, eval e X.env)] := by rfl) :
    Ei X H0 Γ tg (.Call (.Name "range" p) [e] [] pos) ((List.range n.toNat).map fun k => D.int (k : Nat)) :=
  wkI (pi_range1 hg hm (pa_cons h pa_nil he) hs) fun σ H R ⟨F, h, k⟩ => ⟨F, h, fun v F1 H1 g1 r1 => by
    cases r1
    refine ⟨n, rfl, hn.1, hn.2, k _ _ _ F1 H1 g1 (by rw [List.length_map, List.length_range]; exact walk_range) (fun H' sm => trivial) fun i x d F2 H2 H3 s1 s2 q y => ?_⟩
    obtain ⟨rfl, rfl⟩ := y
    rw [List.getElem?_map] at q
    obtain ⟨j, q1, q2⟩ := Option.map_eq_some_iff.mp q
    obtain ⟨q3, q4⟩ := List.getElem?_eq_some_iff.mp q1
    rw [List.getElem_range] at q4
    subst q4
    subst q2
    have z : V.int (0 + ((i : Nat) : Int)) = V.int ((i : Nat) : Int) := by rw [Int.zero_add]
    exact ⟨F2, .refl s2, by show Is X.K F2 (V.int (0 + ((i : Nat) : Int))) _; rw [z]; exact .int _⟩⟩
theorem ei_r2 {p : Pos} {m n : Int} (hm : X.mg "range" = none) (h1 : Ev X H0 Γ a (.int m)) (h2 : Ev X H0 Γ b (.int n)) (hn : (-(2 ^ 62) ≤ m ∧ m < 2 ^ 62 ∧ -(2 ^ 62) ≤ n ∧ n < 2 ^ 62) := by omega) (hg : Gl X "range" := by rfl)
    (he : starEach [a, b] X.env = (false, eval a X.env) :: starEach [b] X.env := by rfl) (he2 : starEach [b] X.env = (false, eval b X.env) :: starEach [] X.env := by rfl) (hs : starEach [a, b] X.env = [(false, eval a X.env), (false, eval b X.env)] := by rfl) (hs2 : starEach [b] X.env = [(false, eval b X.env)] := by rfl) :
    Ei X H0 Γ tg (.Call (.Name "range" p) [a, b] [] pos) ((List.range (n - m).toNat).map fun k => D.int (m + (k : Nat))) :=
  wkI (pi_range2 hg hm (pa_cons h1 (pa_cons h2 pa_nil he2) he) hs hs2) fun σ H R ⟨F, h, k⟩ => ⟨F, h, fun v F1 H1 g1 r1 => ⟨F1, h.go g1, fun u F2 H2 g2 r2 => by
    cases r1
    cases r2
    refine ⟨m, n, rfl, hn, k _ _ _ F2 H2 (g1.trans g2) (by rw [List.length_map, List.length_range]; exact walk_range) (fun H' sm => trivial) fun i x d F2 H2 H3 s1 s2 q y => ?_⟩
    obtain ⟨rfl, rfl⟩ := y
    rw [List.getElem?_map] at q
    obtain ⟨j, q1, q2⟩ := Option.map_eq_some_iff.mp q
    obtain ⟨q3, q4⟩ := List.getElem?_eq_some_iff.mp q1
    rw [List.getElem_range] at q4
    subst q4
    subst q2
    exact ⟨F2, .refl s2, .int _⟩⟩⟩
/-- enumerate(a list) -/
def enumD (xs : List D) : List D := (List.range xs.length).map fun i => D.tup [.int (i : Nat), xs.getD i .non]
theorem ei_en {p tpos : Pos} {elts : List Expr} {kk : Nat} (hm : X.mg "enumerate" = none) (h : Ev X H0 Γ e (.lst xs)) (hg : Gl X "enumerate" := by rfl) (he : starEach [e] X.env = (false, eval e X.env) :: starEach [] X.env := by rfl) (hs : starEach [e] X.env = [(false, eval e X.env)] := by rfl) :
    Ei X H0 Γ (.Tuple elts kk tpos) (.Call (.Name "enumerate" p) [e] [] pos) (enumD xs) :=
  wkI (pi_enum hg hm (pa_cons h pa_nil he) hs) fun σ H R ⟨F, h, k⟩ => ⟨F, h, fun v F1 H1 g1 r1 => by
    cases r1 with
    | @lst a vs _ e1 r1 =>
      refine ⟨a, vs, rfl, .of (g1.fh _ _ e1), k _ _ _ F1 H1 g1 (by unfold enumD; rw [List.length_map, List.length_range, ← r1.length]; exact walk_enum) (fun H' sm => SqL.of (sm _ _ e1)) fun i x d F2 H2 H3 s1 s2 q y => ?_⟩
      obtain ⟨T, x1, y1, rfl, nT, rfl, f1, f2⟩ := y
      cases f1
      obtain ⟨d', q1, q2⟩ := r1.get' f2
      unfold enumD at q
      rw [List.getElem?_map] at q
      obtain ⟨j, z1, z2⟩ := Option.map_eq_some_iff.mp q
      obtain ⟨z3, z4⟩ := List.getElem?_eq_some_iff.mp z1
      rw [List.getElem_range] at z4
      subst z4
      subst z2
      rw [List.getD_eq_getElem?_getD, q1]
      exact ⟨_, .newF s2 nT, .tup (.inl (.inl upd_same)) (.cons (.int _) (.cons (q2.mono (s1.trans (same_new (Same.free s2 nT)))) .nil))⟩⟩
/-- zip of two lists -/
def zipD (xs ys : List D) : List D := (xs.zip ys).map fun p => D.tup [p.1, p.2]
theorem ei_zip {p tpos : Pos} {elts : List Expr} {kk : Nat} (hm : X.mg "zip" = none) (h1 : Ev X H0 Γ a (.lst xs)) (h2 : Ev X H0 Γ b (.lst ys)) (hg : Gl X "zip" := by rfl)
    (he : starEach [a, b] X.env = (false, eval a X.env) :: starEach [b] X.env := by rfl) (he2 : starEach [b] X.env = (false, eval b X.env) :: starEach [] X.env := by rfl) (hpl : (backTo pos (starEach [b] X.env)).any (·.1) = false := by rfl) :
    Ei X H0 Γ (.Tuple elts kk tpos) (.Call (.Name "zip" p) [a, b] [] pos) (zipD xs ys) :=
  wkI (pi_zip hg hm (pa_cons h1 (pa_cons h2 pa_nil he2) he) he hpl) fun σ H R ⟨F, h, k⟩ => ⟨F, h, fun v F1 H1 g1 r1 => ⟨F1, h.go g1, fun u F2 H2 g2 r2 => by
    cases r1 with
    | @lst a vs _ e1 r1 =>
      cases r2 with
      | @lst b us _ e2 r2 =>
        refine ⟨a, b, vs, us, rfl, .of (g2.kp _ _ (g1.fh _ _ e1)), .of (g2.fh _ _ e2), k _ _ _ F2 H2 (g1.trans g2) (walk_zip (xs := vs) (ys := us) (by unfold zipD; rw [List.length_map, List.length_zip, r1.length, r2.length])) (fun H' sm => ⟨SqL.of (sm _ _ (g2.ff _ _ e1)), SqL.of (sm _ _ e2)⟩) fun i x d F3 H3 H4 s1 s2 q y => ?_⟩
        obtain ⟨T, x1, y1, rfl, nT, rfl, f1, f2⟩ := y
        obtain ⟨d1, q1, q2⟩ := r1.get' f1
        obtain ⟨d2, q3, q4⟩ := r2.get' f2
        unfold zipD at q
        rw [List.getElem?_map, show (xs.zip ys)[i]? = some (d1, d2) from List.getElem?_zip_eq_some.mpr ⟨q1, q3⟩] at q
        cases q
        have sm := s1.trans (same_new (o := HO.tup [x1, y1]) (Same.free s2 nT))
        exact ⟨_, .newF s2 nT, .tup (.inl (.inl upd_same)) (.cons (q2.mono (g2.ff.trans sm)) (.cons (q4.mono sm) .nil))⟩⟩⟩
end

/-! ### targets -/
/-- data d is given to a target: Γ becomes Γ' -/
def Tg (X : Cx) (H0 : Hp) (tg : Expr) (U : D → List Sl → List Sl → Prop) : Prop := ∃ g : TG, PG X tg g ∧ ∀ d Γ Γ', U d Γ Γ' → ∀ F H σ v (Q : L2.St → Hp → Prop), Hold X.K H0 F H σ Γ → Is X.K F v d → (∀ σ', Hold X.K H0 F H σ' Γ' → Q σ' H) → g v σ H Q
def Tgs (X : Cx) (H0 : Hp) (tgs : List Expr) (U : List D → List Sl → List Sl → Prop) : Prop := ∃ g : TGs, PGs X tgs g ∧ ∀ ds Γ Γ', U ds Γ Γ' → ∀ F H σ vs (Q : L2.St → Hp → Prop), Hold X.K H0 F H σ Γ → IsA X.K F vs ds → (∀ σ', Hold X.K H0 F H σ' Γ' → Q σ' H) → g vs σ H Q
def uN (i : Nat) : D → List Sl → List Sl → Prop := fun d Γ Γ' => Γ' = Γ.set i (.da d)
def uT (U : List D → List Sl → List Sl → Prop) : D → List Sl → List Sl → Prop := fun d Γ Γ' => ∃ ds, d = .tup ds ∧ U ds Γ Γ'
def uNil : List D → List Sl → List Sl → Prop := fun ds Γ Γ' => ds = [] ∧ Γ' = Γ
def uCons (U : D → List Sl → List Sl → Prop) (W : List D → List Sl → List Sl → Prop) : List D → List Sl → List Sl → Prop := fun ds Γ Γ' => ∃ d r Γ1, ds = d :: r ∧ U d Γ Γ1 ∧ W r Γ1 Γ'
section
variable {X : Cx} {H0 : Hp} {e : Expr} {es : List Expr} {pos : Pos} {x : Str}
theorem tg_n (i : Nat) (hN : X.N.Nodup) (hi : X.N[i]? = some x := by rfl) (hx : Loc X.env.scope x := by first | exact .inl rfl | exact .inr rfl) (hf : X.fn x = true ∨ X.env.scope.names.lookup x = some .local := by first | exact .inl rfl | exact .inr rfl | assumption) :
    Tg X H0 (.Name x pos) (uN i) := ⟨_, pg_name (i := i) hN hi hx hf, fun d Γ Γ' u F H σ v Q h r k => by
  cases (show Γ' = Γ.set i (.da d) from u)
  exact k _ (h.setD i r)⟩
theorem tg_nil : Tgs X H0 [] uNil := ⟨_, pgs_nil, fun ds Γ Γ' u F H σ vs Q h r k => by
  obtain ⟨rfl, rfl⟩ := u
  cases r
  exact ⟨rfl, k _ h⟩⟩
theorem tg_cons {U : D → List Sl → List Sl → Prop} {W : List D → List Sl → List Sl → Prop} (h1 : Tg X H0 e U) (h2 : Tgs X H0 es W) (hs : (assignEach (e :: es) X.env).map (·.2) = assign e X.env :: (assignEach es X.env).map (·.2) := by rfl) :
    Tgs X H0 (e :: es) (uCons U W) := by
  obtain ⟨g1, p1, k1⟩ := h1
  obtain ⟨g2, p2, k2⟩ := h2
  refine ⟨_, pgs_cons p1 p2 hs, fun ds Γ Γ' u F H σ vs Q h r k => ?_⟩
  obtain ⟨d, rr, Γ1, rfl, u1, u2⟩ := u
  cases r with
  | cons r1 r2 => exact ⟨_, _, rfl, k1 d Γ Γ1 u1 F H σ _ _ h r1 fun σ1 h1 => k2 _ Γ1 Γ' u2 F H σ1 _ _ h1 r2 k⟩
theorem tg_t {k : Nat} {U : List D → List Sl → List Sl → Prop} {n : Nat} (h : Tgs X H0 es U) (hU : ∀ ds Γ Γ', U ds Γ Γ' → ds.length = n) (hc : X.calm = true := by rfl) (hn : (assignEach es X.env).length = n := by rfl) (hst : (assignEach es X.env).findIdx? (·.1) = none := by rfl) : Tg X H0 (.Tuple es k pos) (uT U) := by
  obtain ⟨g, p, q⟩ := h
  refine ⟨_, pg_tup hc p hn hst, fun d Γ Γ' u F H σ v Q h r k => ?_⟩
  obtain ⟨ds, rfl, u⟩ := u
  cases r with
  | tup e1 r1 => exact ⟨_, _, rfl, sqt_mono h.fh e1, r1.length.trans (hU _ _ _ u), q ds Γ Γ' u F H σ _ Q h r1 k⟩
theorem u_len0 : ∀ ds Γ Γ', uNil ds Γ Γ' → ds.length = 0 := fun _ _ _ u => by rw [u.1]; rfl
theorem u_len {n : Nat} {U : D → List Sl → List Sl → Prop} {W : List D → List Sl → List Sl → Prop} (h : ∀ ds Γ Γ', W ds Γ Γ' → ds.length = n) : ∀ ds Γ Γ', uCons U W ds Γ Γ' → ds.length = n + 1 := fun _ _ _ u => by
  obtain ⟨d, r, Γ1, rfl, _, u2⟩ := u
  rw [List.length_cons, h _ _ _ u2]
end

/-! ### comprehensions -/
section
variable {X : Cx} {H0 : Hp} {Γ : List Sl} {tg iter elt : Expr} {xs : List D} {pos : Pos}
theorem wipe_set {σ : L2.St} {j : Nat} {x : Option V} : wipe ((wipe σ [j]).set j x) [j] = wipe σ [j] := by
  show ((σ.set j none).set j x).set j none = σ.set j none
  rw [List.set_set, List.set_set]
/-- the block's names: Γ without the slot j, then the item there -/
abbrev blkΓ (Γ : List Sl) (j : Nat) (x : D) : List Sl := (Γ.set j .un).set j (.da x)
/-- the items are inj of ys -/
theorem lc_read {K : PySem.W.Frag} {α : Type} {ys : List α} {inj : α → D} {j : Nat} {p : α → Bool} {f : α → D} (hz : ys.length ≤ sizeLine) {σ : L2.St} {H : Hp} {Q : VK} (h : rEo K H0 Γ ((ys.filter p).map f) σ H Q) :
    tLc (rEi K H0 Γ (ys.map inj)) (gName j) (fun σ H Q => ∃ y, y ∈ ys ∧ rEt K H0 (blkΓ Γ j (inj y)) (p y) σ H Q) (fun σ H Q => ∃ y, y ∈ ys ∧ p y = true ∧ rEv K H0 (blkΓ Γ j (inj y)) (f y) σ H Q) [j] σ H Q := by
  obtain ⟨F, h, k⟩ := h
  refine ⟨F, h, fun J G Y F1 H1 g1 w hG hY D hD => ?_⟩
  have hF1 : F1 D = none := Same.free g1.fh hD
  rw [List.length_map] at w
  refine lc_it (g := gName j) (tt := fun σ H Q => ∃ y, y ∈ ys ∧ rEt K H0 (blkΓ Γ j (inj y)) (p y) σ H Q) (te := fun σ H Q => ∃ y, y ∈ ys ∧ p y = true ∧ rEv K H0 (blkΓ Γ j (inj y)) (f y) σ H Q) (vs := [j]) (σ := σ) (Qd := fun H => Q (.ref D) H) w (fun i H' => ∃ F2 acc, Go F1 H1 F2 H' ∧ F2 D = none ∧ H' D = some (.lst acc) ∧ IsA K F2 acc (((ys.take i).filter p).map f)) ⟨F1, [], .newH g1.fh hD, hF1, upd_same, .nil⟩ (fun i H' _ ⟨F2, acc, g2, _⟩ => hG H' (g2.ff.trans g2.fh)) (fun i x H2 H3 hi ⟨F2, acc, g2, n2, e2, r2⟩ y => ?_) fun H' ⟨F2, acc, g2, n2, e2, r2⟩ => ?_
  · have hx : ys[i]? = some ys[i] := by simp [hi]
    have hx' : (ys.map inj)[i]? = some (inj ys[i]) := by rw [List.getElem?_map, hx]; rfl
    obtain ⟨F3, g3, r3⟩ := hY i x (inj ys[i]) F2 H2 H3 g2.ff g2.fh hx' y
    have mem : ys[i] ∈ ys := List.getElem_mem hi
    have hold : Hold K H0 F3 H3 ((L2.wipe σ [j]).set j (some x)) (blkΓ Γ j (inj ys[i])) := Hold.setD (σ := L2.wipe σ [j]) ((((h.go g1).go g2).go g3).wipe j) j r3
    have tk : ys.take (i + 1) = ys.take i ++ [ys[i]] := by rw [List.take_add_one, hx]; rfl
    have e3 : H3 D = some (.lst acc) := g3.kp _ _ e2
    have n3 : F3 D = none := g3.nf D _ e2 n2
    have hl : acc.length < sizeLine := by
      rw [r2.length, List.length_map]
      have := List.length_filter_le p (ys.take i)
      rw [List.length_take] at this
      omega
    refine ⟨wipe_set, ys[i], mem, F3, hold, fun F4 H4 g4 => ?_⟩
    have e4 : H4 D = some (.lst acc) := g4.kp _ _ e3
    have n4 : F4 D = none := g4.nf D _ e3 n3
    have go4 : Go F1 H1 F4 H4 := (g2.trans g3).trans g4
    cases hp : p ys[i] with
    | false =>
      refine ⟨F4, acc, go4, n4, e4, ?_⟩
      rw [tk, List.filter_append, List.filter_cons, if_neg (by rw [hp]; decide)]
      show IsA K F4 acc (List.map f (List.filter p (List.take i ys) ++ []))
      rw [List.append_nil]
      exact r2.mono (g3.ff.trans g4.ff)
    | true =>
      refine ⟨ys[i], mem, hp, F4, hold.go g4, fun v F5 H5 g5 r5 => ?_⟩
      have e5 : H5 D = some (.lst acc) := g5.kp _ _ e4
      have n5 : F5 D = none := g5.nf D _ e4 n4
      have go5 : Go F1 H1 F5 H5 := go4.trans g5
      refine ⟨acc, e5, hl, F5, acc ++ [v], ⟨go5.ff, fun a o q => ?_, fun a o q => ?_, go5.nf⟩, n5, upd_same, ?_⟩
      · rw [upd_ne (ne_of_none q n5)]
        exact go5.fh _ _ q
      · rw [upd_ne (ne_of_none q hD)]
        exact go5.kp _ _ q
      · rw [tk, List.filter_append, List.map_append, List.filter_cons, if_pos hp]
        exact (r2.mono (g3.ff.trans (g4.ff.trans g5.ff))).snoc r5
  · have gg : Go F1 H1 F2 H' := g2
    refine k D acc F2 H' (g1.trans g2) (Same.free g1.kp hD) n2 e2 ?_
    rw [List.take_length] at r2
    exact r2
theorem eo_lc {α : Type} {ys : List α} {inj : α → D} {ifs : List Expr} {scope : Scope} {nm : Str} (j : Nat) {p : α → Bool} {f : α → D} (hc : X.calm = true) (hN : X.N.Nodup) (hi : Ei X H0 Γ tg iter (ys.map inj)) (ok : BlkOk X.N X.env.scope scope [(nm, j)]) (hz : ys.length ≤ sizeLine)
    (hg : ∀ (s : Shared) (H : Hp) (C : Addr) (cl : List (Str × Addr)) (fp : List Addr), PG (X.blk s H scope (compEnvC scope cl C X.env) fp) tg (gName j))
    (ht : ∀ y ∈ ys, ∀ (s : Shared) (H : Hp) (C : Addr) (cl : List (Str × Addr)) (fp : List Addr), PTs (X.blk s H scope (compEnvC scope cl C X.env) fp) ifs (rEt X.K H0 (blkΓ Γ j (inj y)) (p y)))
    (he : ∀ y ∈ ys, p y = true → ∀ (s : Shared) (H : Hp) (C : Addr) (cl : List (Str × Addr)) (fp : List Addr), Ev (X.blk s H scope (compEnvC scope cl C X.env) fp) H0 (blkΓ Γ j (inj y)) elt (f y))
    (hs : ∀ x, foldedSetIterable iter X.env x = pure x := by intro _; rfl) : Eo X H0 Γ (.ListComp elt [⟨tg, iter, ifs, 0⟩] scope pos) ((ys.filter p).map f) :=
  wkE (pe_lc (own := [(nm, j)]) (g := gName j) (tt := fun σ H Q => ∃ y, y ∈ ys ∧ rEt X.K H0 (blkΓ Γ j (inj y)) (p y) σ H Q) (te := fun σ H Q => ∃ y, y ∈ ys ∧ p y = true ∧ rEv X.K H0 (blkΓ Γ j (inj y)) (f y) σ H Q) hc hN hi ok hg
    (fun s H C cl fp => ⟨fun pins s' σ H' Q I ⟨x, m, q⟩ => (ht x m s H C cl fp).run pins s' σ H' Q I q⟩) (fun s H C cl fp => ⟨fun pins s' σ H' Q I ⟨x, m, hp, q⟩ => (he x m hp s H C cl fp).run pins s' σ H' Q I q⟩) hs) fun σ H Q q => lc_read hz q
theorem filter_tt {α : Type} (ys : List α) : ys.filter (fun _ => true) = ys := List.filter_eq_self.mpr fun _ _ => rfl
/-- without a test -/
theorem eo_lc1 {α : Type} {ys : List α} {inj : α → D} {scope : Scope} {nm : Str} (j : Nat) {f : α → D} (hc : X.calm = true) (hN : X.N.Nodup) (hi : Ei X H0 Γ tg iter (ys.map inj)) (ok : BlkOk X.N X.env.scope scope [(nm, j)]) (hz : ys.length ≤ sizeLine)
    (hg : ∀ (s : Shared) (H : Hp) (C : Addr) (cl : List (Str × Addr)) (fp : List Addr), PG (X.blk s H scope (compEnvC scope cl C X.env) fp) tg (gName j))
    (he : ∀ y ∈ ys, ∀ (s : Shared) (H : Hp) (C : Addr) (cl : List (Str × Addr)) (fp : List Addr), Ev (X.blk s H scope (compEnvC scope cl C X.env) fp) H0 (blkΓ Γ j (inj y)) elt (f y))
    (hs : ∀ x, foldedSetIterable iter X.env x = pure x := by intro _; rfl) : Eo X H0 Γ (.ListComp elt [⟨tg, iter, [], 0⟩] scope pos) (ys.map f) := by
  have h := eo_lc (pos := pos) (p := fun _ => true) (f := f) j hc hN hi ok hz hg (fun y _ s H C cl fp => ⟨fun pins s' σ H' Q I ⟨F, h, k⟩ => pts_nil.run pins s' σ H' Q I (k F H' (.refl h.fh))⟩) (fun y m _ => he y m) hs
  rw [filter_tt] at h
  exact h
theorem pts_no {X' : Cx} {Γ' : List Sl} : PTs X' [] (rEt X'.K H0 Γ' true) := ⟨fun pins s σ H Q I ⟨F, h, k⟩ => pts_nil.run pins s σ H Q I (k F H (.refl h.fh))⟩
theorem pts_1 {X' : Cx} {Γ' : List Sl} {c : Expr} {k : Bool} (h : Et X' H0 Γ' c k) : PTs X' [c] (rEt X'.K H0 Γ' k) := pts_one h
end

/-! ### statements -/
structure Kt where
  nx : List Sl → Prop
  rt : D → List Sl → Prop
  bk : List Sl → Prop := fun _ => False
  ct : List Sl → Prop := fun _ => False
  /-- a tree of one's own is handed back -/
  rn : OT → List Sl → Prop := fun _ _ => False
def Pass1 (K : PySem.W.Frag) (H0 F : Hp) (M : List Sl → Prop) (N : L2.St → Hp → Prop) : Prop := ∀ F' H' σ' Γ', Tr H0 F F' → Hold K H0 F' H' σ' Γ' → M Γ' → N σ' H'
structure KOk (K : PySem.W.Frag) (H0 F : Hp) (κ : Kt) (E : Ends) : Prop where
  nx : Pass1 K H0 F κ.nx E.nx
  rt : ∀ F' H' σ' Γ' v d, Tr H0 F F' → Hold K H0 F' H' σ' Γ' → Is K F' v d → κ.rt d Γ' → E.rt v H'
  bk : Pass1 K H0 F κ.bk E.bk
  ct : Pass1 K H0 F κ.ct E.ct
  rn : ∀ F' H' σ' Γ' v t A, Tr H0 F F' → Hold K H0 F' H' σ' Γ' → Own K F' H' v t A → A.Nodup → (∀ a ∈ A, F' a = none ∧ H0 a = none) → κ.rn t Γ' → E.rt v H'
theorem Pass1.tr {K : PySem.W.Frag} {H0 F F' : Hp} {M : List Sl → Prop} {N : L2.St → Hp → Prop} (h : Pass1 K H0 F M N) (t : Tr H0 F F') : Pass1 K H0 F' M N := fun F2 H2 σ2 Γ2 t2 => h F2 H2 σ2 Γ2 (t.trans t2)
theorem KOk.tr {K : PySem.W.Frag} {H0 F F' : Hp} {κ : Kt} {E : Ends} (h : KOk K H0 F κ E) (t : Tr H0 F F') : KOk K H0 F' κ E := ⟨h.nx.tr t, fun F2 H2 σ2 Γ2 v d t2 => h.rt F2 H2 σ2 Γ2 v d (t.trans t2), h.bk.tr t, h.ct.tr t, fun F2 H2 σ2 Γ2 v d A t2 => h.rn F2 H2 σ2 Γ2 v d A (t.trans t2)⟩
def rRs (K : PySem.W.Frag) (H0 : Hp) (Γ : List Sl) (κ : Kt) : TS := fun E σ H => ∃ F, Hold K H0 F H σ Γ ∧ KOk K H0 F κ E
def Rn (X : Cx) (H0 : Hp) (Γ : List Sl) (st : Stmt) (κ : Kt) : Prop := PS X st (rRs X.K H0 Γ κ)
def Rs (X : Cx) (H0 : Hp) (Γ : List Sl) (sts : List Stmt) (κ : Kt) : Prop := PSs X sts (rRs X.K H0 Γ κ)

section
variable {X : Cx} {H0 : Hp} {Γ Γ' : List Sl} {st : Stmt} {rest body : List Stmt} {κ : Kt} {tg iter a b c e : Expr} {d : D} {xs ys : List D} {pos : Pos} {x : Str}
theorem rs_nil (h : κ.nx Γ) : Rs X H0 Γ [] κ := wkSs pss_nil fun E σ H ⟨F, hh, k⟩ => k.nx F H σ Γ .refl hh h
theorem rs_cons (M : List Sl → Prop) (h1 : Rn X H0 Γ st { κ with nx := M }) (h2 : ∀ Γ', M Γ' → Rs X H0 Γ' rest κ) : Rs X H0 Γ (st :: rest) κ :=
  wkSs (pss_cons (u := fun E σ H => ∃ Γ' F, M Γ' ∧ Hold X.K H0 F H σ Γ' ∧ KOk X.K H0 F κ E) h1 ⟨fun pins s σ H E I ⟨Γ', F, m, h, k⟩ => (h2 Γ' m).run pins s σ H E I ⟨F, h, k⟩⟩) fun E σ H ⟨F, h, k⟩ =>
    ⟨F, h, fun F' H' σ' Γ' t h' m => ⟨Γ', F', m, h', k.tr t⟩, k.rt, k.bk, k.ct, k.rn⟩
theorem rs_last (h : Rn X H0 Γ st κ) : Rs X H0 Γ [st] κ := pss_one h
theorem rs_sub (s : Sub Γ Γ') (h : Rs X H0 Γ' rest κ) : Rs X H0 Γ rest κ := wkSs h fun E σ H ⟨F, hh, k⟩ => ⟨F, hh.sub s, k⟩
theorem rs_freezeT (i : Nat) {q : Option Addr} {t : OT} (hi : Γ[i]? = some (.tr q t)) (h : Rs X H0 (Γ.set i (.da (fr t))) rest κ) : Rs X H0 Γ rest κ := wkSs h fun E σ H ⟨F, hh, k⟩ => by
  obtain ⟨F', t, _, _, h'⟩ := hh.freeze hi
  exact ⟨F', h', k.tr t⟩
theorem rs_freeze (i : Nat) (hi : Γ[i]? = some (.ol xs)) (h : Rs X H0 (Γ.set i (.da (.lst xs))) rest κ) : Rs X H0 Γ rest κ := rs_freezeT i hi (by rw [fr_ol]; exact h)
theorem rs_mono {κ' : Kt} (h : Rs X H0 Γ rest κ') (h1 : ∀ Γ, κ'.nx Γ → κ.nx Γ) (h2 : ∀ d Γ, κ'.rt d Γ → κ.rt d Γ) (h3 : ∀ Γ, κ'.bk Γ → κ.bk Γ) (h4 : ∀ Γ, κ'.ct Γ → κ.ct Γ) (h5 : ∀ d Γ, κ'.rn d Γ → κ.rn d Γ) : Rs X H0 Γ rest κ := wkSs h fun E σ H ⟨F, hh, k⟩ =>
  ⟨F, hh, fun F' H' σ' Γ' t g m => k.nx F' H' σ' Γ' t g (h1 _ m), fun F' H' σ' Γ' v d t g r m => k.rt F' H' σ' Γ' v d t g r (h2 _ _ m), fun F' H' σ' Γ' t g m => k.bk F' H' σ' Γ' t g (h3 _ m), fun F' H' σ' Γ' t g m => k.ct F' H' σ' Γ' t g (h4 _ m), fun F' H' σ' Γ' v d A t g r nd n m => k.rn F' H' σ' Γ' v d A t g r nd n (h5 _ _ m)⟩
/-! ### a statement -/
theorem rn_set (i : Nat) {pos' : Pos} (hN : X.N.Nodup) (he : Ev X H0 Γ e d) (hk : κ.nx (Γ.set i (.da d))) (hi : X.N[i]? = some x := by rfl) (hx : Loc X.env.scope x := by first | exact .inl rfl | exact .inr rfl) (hs : swapsWith e (some (.Name x pos')) pos.line X.env = pure false := by rfl)
    (hf : X.fn x = true ∨ X.env.scope.names.lookup x = some .local := by first | exact .inl rfl | exact .inr rfl | assumption) : Rn X H0 Γ (.Assign [.Name x pos'] e pos) κ :=
  wkS (ps_set (i := i) hN hi hx he hs hf) fun E σ H ⟨F, h, k⟩ => ⟨F, h, fun v F' H' g r => k.nx F' H' _ _ (h.tr g) ((h.go g).setD i r) hk⟩
theorem Hold.setO {K : PySem.W.Frag} {F H F' H' : Hp} {σ : L2.St} (h : Hold K H0 F H σ Γ) (g : Go F H F' H') {p : Addr} {vs : List V} (i : Nat) (n1 : H p = none) (n2 : F' p = none) (e : H' p = some (.lst vs)) (r : IsA K F' vs xs) : Hold K H0 F' H' (σ.set i (some (.ref p))) (Γ.set i (.ol xs)) :=
  h.setN g (A := [p]) i (.lst e (.fz r)) (by simp) fun a m => by
    cases List.mem_singleton.mp m
    exact ⟨n1, n2⟩
theorem rn_setO (i : Nat) {pos' : Pos} (hN : X.N.Nodup) (he : Eo X H0 Γ e xs) (hk : κ.nx (Γ.set i (.ol xs))) (hi : X.N[i]? = some x := by rfl) (hx : Loc X.env.scope x := by first | exact .inl rfl | exact .inr rfl) (hs : swapsWith e (some (.Name x pos')) pos.line X.env = pure false := by rfl)
    (hf : X.fn x = true ∨ X.env.scope.names.lookup x = some .local := by first | exact .inl rfl | exact .inr rfl | assumption) : Rn X H0 Γ (.Assign [.Name x pos'] e pos) κ :=
  wkS (ps_set (i := i) hN hi hx he hs hf) fun E σ H ⟨F, h, k⟩ => ⟨F, h, fun p vs F' H' g n1 n2 e1 r1 => k.nx F' H' _ _ (h.tr g) (h.setO g i n1 n2 e1 r1) hk⟩
theorem rs_set (i : Nat) {pos' : Pos} (hN : X.N.Nodup) (he : Ev X H0 Γ e d) (hk : Rs X H0 (Γ.set i (.da d)) rest κ) (hi : X.N[i]? = some x := by rfl) (hx : Loc X.env.scope x := by first | exact .inl rfl | exact .inr rfl) (hs : swapsWith e (some (.Name x pos')) pos.line X.env = pure false := by rfl)
    (hf : X.fn x = true ∨ X.env.scope.names.lookup x = some .local := by first | exact .inl rfl | exact .inr rfl | assumption) : Rs X H0 Γ (.Assign [.Name x pos'] e pos :: rest) κ :=
  rs_cons (fun Γ' => Γ' = Γ.set i (.da d)) (rn_set i hN he rfl hi hx hs hf) fun Γ' q => q ▸ hk
theorem rs_setO (i : Nat) {pos' : Pos} (hN : X.N.Nodup) (he : Eo X H0 Γ e xs) (hk : Rs X H0 (Γ.set i (.ol xs)) rest κ) (hi : X.N[i]? = some x := by rfl) (hx : Loc X.env.scope x := by first | exact .inl rfl | exact .inr rfl) (hs : swapsWith e (some (.Name x pos')) pos.line X.env = pure false := by rfl)
    (hf : X.fn x = true ∨ X.env.scope.names.lookup x = some .local := by first | exact .inl rfl | exact .inr rfl | assumption) : Rs X H0 Γ (.Assign [.Name x pos'] e pos :: rest) κ :=
  rs_cons (fun Γ' => Γ' = Γ.set i (.ol xs)) (rn_setO i hN he rfl hi hx hs hf) fun Γ' q => q ▸ hk
/-- name = [..] on one line, owned -/
theorem rs_setLc (i : Nat) {py : Pos} {elt : Expr} {α : Type} {ys : List α} {inj : α → D} {ifs : List Expr} {scope : Scope} {nm y : Str} {spos : Pos} (j : Nat) {p : α → Bool} {f : α → D} (hc : X.calm = true) (hN : X.N.Nodup) (hi : Ei X H0 Γ tg iter (ys.map inj)) (ok : BlkOk X.N X.env.scope scope [(nm, j)]) (hz : ys.length ≤ sizeLine)
    (hg : ∀ (s : Shared) (H : Hp) (C : Addr) (cl : List (Str × Addr)) (fp : List Addr), PG (X.blk s H scope (compEnvC scope cl C X.env) fp) tg (gName j))
    (ht : ∀ y ∈ ys, ∀ (s : Shared) (H : Hp) (C : Addr) (cl : List (Str × Addr)) (fp : List Addr), PTs (X.blk s H scope (compEnvC scope cl C X.env) fp) ifs (rEt X.K H0 (blkΓ Γ j (inj y)) (p y)))
    (he : ∀ y ∈ ys, p y = true → ∀ (s : Shared) (H : Hp) (C : Addr) (cl : List (Str × Addr)) (fp : List Addr), Ev (X.blk s H scope (compEnvC scope cl C X.env) fp) H0 (blkΓ Γ j (inj y)) elt (f y))
    (hk : Rs X H0 (Γ.set i (.ol ((ys.filter p).map f))) rest κ)
    (hy : X.N[i]? = some y := by rfl) (hyl : X.env.scope.names.lookup y = some .local := by rfl) (hsw : swapsWith (.ListComp elt [⟨tg, iter, ifs, 0⟩] scope pos) (some (.Name y py)) spos.line X.env = pure true := by exact sw_true rfl rfl rfl (by decide +kernel))
    (hs : ∀ x, foldedSetIterable iter X.env x = pure x := by intro _; rfl) : Rs X H0 Γ (.Assign [.Name y py] (.ListComp elt [⟨tg, iter, ifs, 0⟩] scope pos) spos :: rest) κ :=
  rs_cons (fun Γ' => Γ' = Γ.set i (.ol ((ys.filter p).map f))) (wkS (ps_setLc (i := i) (own := [(nm, j)]) (g := gName j) (tt := fun σ H Q => ∃ y, y ∈ ys ∧ rEt X.K H0 (blkΓ Γ j (inj y)) (p y) σ H Q) (te := fun σ H Q => ∃ y, y ∈ ys ∧ p y = true ∧ rEv X.K H0 (blkΓ Γ j (inj y)) (f y) σ H Q) hc hN hy hyl hsw hi ok hg
    (fun s H C cl fp => ⟨fun pins s' σ H' Q I ⟨x, m, q⟩ => (ht x m s H C cl fp).run pins s' σ H' Q I q⟩) (fun s H C cl fp => ⟨fun pins s' σ H' Q I ⟨x, m, hp, q⟩ => (he x m hp s H C cl fp).run pins s' σ H' Q I q⟩) hs) fun E σ H ⟨F, h, k⟩ =>
      lc_read hz ⟨F, h, fun p vs F' H' g n1 n2 e1 r1 => k.nx F' H' _ _ (h.tr g) (h.setO g i n1 n2 e1 r1) rfl⟩) fun Γ' q => q ▸ hk
theorem rs_setLc1 (i : Nat) {py : Pos} {elt : Expr} {α : Type} {ys : List α} {inj : α → D} {scope : Scope} {nm y : Str} {spos : Pos} (j : Nat) {f : α → D} (hc : X.calm = true) (hN : X.N.Nodup) (hi : Ei X H0 Γ tg iter (ys.map inj)) (ok : BlkOk X.N X.env.scope scope [(nm, j)]) (hz : ys.length ≤ sizeLine)
    (hg : ∀ (s : Shared) (H : Hp) (C : Addr) (cl : List (Str × Addr)) (fp : List Addr), PG (X.blk s H scope (compEnvC scope cl C X.env) fp) tg (gName j))
    (he : ∀ y ∈ ys, ∀ (s : Shared) (H : Hp) (C : Addr) (cl : List (Str × Addr)) (fp : List Addr), Ev (X.blk s H scope (compEnvC scope cl C X.env) fp) H0 (blkΓ Γ j (inj y)) elt (f y))
    (hk : Rs X H0 (Γ.set i (.ol (ys.map f))) rest κ)
    (hy : X.N[i]? = some y := by rfl) (hyl : X.env.scope.names.lookup y = some .local := by rfl) (hsw : swapsWith (.ListComp elt [⟨tg, iter, [], 0⟩] scope pos) (some (.Name y py)) spos.line X.env = pure true := by exact sw_true rfl rfl rfl (by decide +kernel))
    (hs : ∀ x, foldedSetIterable iter X.env x = pure x := by intro _; rfl) : Rs X H0 Γ (.Assign [.Name y py] (.ListComp elt [⟨tg, iter, [], 0⟩] scope pos) spos :: rest) κ :=
  rs_setLc (p := fun _ => true) (f := f) i j hc hN hi ok hz hg (fun y _ s H C cl fp => ⟨fun pins s' σ H' Q I ⟨F, h, k⟩ => pts_nil.run pins s' σ H' Q I (k F H' (.refl h.fh))⟩) (fun y m _ => he y m) (by rw [filter_tt]; exact hk) hy hyl hsw hs
/-- any target -/
theorem rs_tg {U : D → List Sl → List Sl → Prop} (ht : Tg X H0 tg U) (he : Ev X H0 Γ e d) (hU : U d Γ Γ') (hk : Rs X H0 Γ' rest κ) (hs : swapsWithSole [tg] e pos.line X.env = pure false := by rfl) (hw : swappedStores [tg] e X.env = pure none := by rfl)
    (h1 : (assignEach [tg] X.env).map (·.2) = [assign tg X.env] := by rfl) : Rs X H0 Γ (.Assign [tg] e pos :: rest) κ := by
  obtain ⟨g, pg, q⟩ := ht
  exact rs_cons (fun Γ1 => Γ1 = Γ') (wkS (ps_asg he pg hs hw h1) fun E σ H ⟨F, h, k⟩ => ⟨F, h, fun v F' H' g1 r => q d Γ Γ' hU F' H' σ v _ (h.go g1) r fun σ' h' => k.nx F' H' σ' Γ' (h.tr g1) h' rfl⟩) fun Γ1 z => z ▸ hk
/-- name op= e, ints -/
theorem rs_augI (i : Nat) {pos' : Pos} {op : Operator} {f : Int → Int → Int} {m n : Int} (ho : PIp X op (ipI f)) (hN : X.N.Nodup) (he : Ev X H0 Γ e (.int n)) (hk : Rs X H0 (Γ.set i (.da (.int (f m n)))) rest κ) (hΓ : Γ[i]? = some (.da (.int m)) := by rfl) (hi : X.N[i]? = some x := by rfl)
    (hx : Loc X.env.scope x := by first | exact .inl rfl | exact .inr rfl) (hf : X.fn x = true ∨ X.env.scope.names.lookup x = some .local := by first | exact .inl rfl | exact .inr rfl | assumption) : Rs X H0 Γ (.AugAssign (.Name x pos') op e pos :: rest) κ :=
  rs_cons (fun Γ' => Γ' = Γ.set i (.da (.int (f m n)))) (wkS (ps_aug (i := i) hN hi hx he ho hf) fun E σ H ⟨F, h, k⟩ => by
    obtain ⟨v, e1, r1⟩ := h.da i _ hΓ
    cases r1
    exact ⟨_, e1, F, h, fun u F' H' g r => by
      cases r
      exact ⟨m, n, rfl, rfl, k.nx F' H' _ _ (h.tr g) ((h.go g).setD i (.int _)) rfl⟩⟩) fun Γ' q => q ▸ hk
/-- xs.append(e) -/
theorem rs_app (i : Nat) {apos cpos p : Pos} (he : Ev X H0 Γ e d) (hk : Rs X H0 (Γ.set i (.ol (xs ++ [d]))) rest κ) (hz : xs.length < sizeLine) (hΓ : Γ[i]? = some (.ol xs) := by rfl) (hN : X.N[i]? = some x := by rfl)
    (hv : Vis X.env.scope x := by first | exact Or.inl rfl | exact Or.inr (Or.inl rfl) | exact Or.inr (Or.inr rfl)) (hdb : (x == ("__debug__" : Str)) = false := by decide) (hcd : (x == ("__classdict__" : Str)) = false := by decide)
    (hse : starEach [e] X.env = (false, eval e X.env) :: starEach [] X.env := by rfl)
    (hbase : attributeBase (.Name x p) "append" X.env (eval (.Name x p) X.env) = eval (.Name x p) X.env := by rfl)
    (hfew : ((backTo cpos (starEach [e] X.env)).all (fun x => !x.1) && (backToKw cpos (keywordEach [] X.env)).all (fun x => x.1.isSome)
      && decide (([e] : List Expr).length + ([] : List Keyword).length + (if ([] : List Keyword).isEmpty then 0 else 1) < 30)) = true := by rfl)
    (hline : (apos.endLine == cpos.line) = true := by rfl) (hpl : (backTo cpos (starEach [] X.env)).any (·.1) = false := by rfl)
    (hsw : swapsWith (.Call (.Attribute (.Name x p) "append" apos) [e] [] cpos) none pos.line X.env = pure false := by rfl) :
    Rs X H0 Γ (.Expr (.Call (.Attribute (.Name x p) "append" apos) [e] [] cpos) pos :: rest) κ :=
  rs_cons (fun Γ' => Γ' = Γ.set i (.ol (xs ++ [d]))) (wkS (ps_expr (pe_bm PySem.F.plainAttrs_list PySem.F.slot_list_append PySem.F.type_list_append mt_append (pe_var (i := i) hN hv hdb hcd) (pa_cons he pa_nil hse) hbase hfew hline hse hpl) hsw) fun E σ H ⟨F, h, k⟩ => by
    obtain ⟨p, vs, e1, e2, e3, e4, e5⟩ := h.ol i xs hΓ
    refine ⟨_, e1, .inl ⟨rfl, vs, .of e4⟩, F, h, fun v F' H' g r => ⟨p, vs, v, rfl, rfl, g.kp _ _ e4, by rw [e5.length]; exact hz, ?_⟩⟩
    exact k.nx F' _ _ _ (h.tr g) ((h.go g).write hΓ e1 ((e5.mono g.ff).snoc r)) rfl) fun Γ' q => q ▸ hk
/-- xs[k] = e -/
theorem rs_put (i : Nat) {p tpos : Pos} {k : Int} {j : Nat} (he : Ev X H0 Γ e d) (hb : Ev X H0 Γ b (.int k)) (hj : ixN xs.length k = some j) (hk : Rs X H0 (Γ.set i (.ol (xs.set j d))) rest κ) (hΓ : Γ[i]? = some (.ol xs) := by rfl) (hN : X.N[i]? = some x := by rfl)
    (hv : Vis X.env.scope x := by first | exact Or.inl rfl | exact Or.inr (Or.inl rfl) | exact Or.inr (Or.inr rfl)) (hdb : (x == ("__debug__" : Str)) = false := by decide) (hcd : (x == ("__classdict__" : Str)) = false := by decide)
    (ha : ∀ v, assign (.Subscript (.Name x p) b tpos) X.env v = (do
      let ov ← holding [v] (eval (.Name x p) X.env)
      let iv ← holding [v, ov] (eval b X.env)
      standAt tpos
      holding [v, ov, iv] (setItem ov iv v)
      release [v, ov, iv] []) := by intro _; rfl)
    (hs : swapsWithSole [.Subscript (.Name x p) b tpos] e pos.line X.env = pure false := by rfl) (hw : swappedStores [.Subscript (.Name x p) b tpos] e X.env = pure none := by rfl)
    (h1 : (assignEach [.Subscript (.Name x p) b tpos] X.env).map (·.2) = [assign (.Subscript (.Name x p) b tpos) X.env] := by rfl) : Rs X H0 Γ (.Assign [.Subscript (.Name x p) b tpos] e pos :: rest) κ :=
  rs_cons (fun Γ' => Γ' = Γ.set i (.ol (xs.set j d))) (wkS (ps_asg he (pg_sub (pe_var (i := i) hN hv hdb hcd) hb set_list ha) hs hw h1) fun E σ H ⟨F, h, kk⟩ => ⟨F, h, fun v F1 H1 g1 r1 => by
    obtain ⟨p, vs, e1, e2, e3, e4, e5⟩ := (h.go g1).ol i xs hΓ
    refine ⟨_, e1, F1, h.go g1, fun u F2 H2 g2 r2 => ?_⟩
    cases r2
    refine ⟨p, vs, k, j, rfl, rfl, g2.kp _ _ e4, by rw [e5.length]; exact hj, ?_⟩
    exact kk.nx F2 _ _ _ ((h.tr g1).trans ((h.go g1).tr g2)) (((h.go g1).go g2).write hΓ e1 ((e5.mono g2.ff).set j (r1.mono g2.ff))) rfl⟩) fun Γ' q => q ▸ hk
theorem rn_ret (he : Ev X H0 Γ e d) (hk : κ.rt d Γ) : Rn X H0 Γ (.Return (some e) pos) κ := wkS (ps_ret he) fun E σ H ⟨F, h, k⟩ => ⟨F, h, fun v F' H' g r => k.rt F' H' σ Γ v d (h.tr g) (h.go g) r hk⟩
theorem rs_ret (he : Ev X H0 Γ e d) (hk : κ.rt d Γ) : Rs X H0 Γ (.Return (some e) pos :: rest) κ := rs_cons (fun _ => False) (rn_ret he hk) fun _ z => z.elim
theorem rs_retN (hk : κ.rt .non Γ) : Rs X H0 Γ (.Return none pos :: rest) κ := rs_cons (fun _ => False) (wkS ps_retN fun E σ H ⟨F, h, k⟩ => k.rt F H σ Γ .non .non .refl h .non hk) fun _ z => z.elim
theorem rs_cont (hk : κ.ct Γ) : Rs X H0 Γ (.Continue pos :: rest) κ := rs_cons (fun _ => False) (wkS ps_continue fun E σ H ⟨F, h, k⟩ => k.ct F H σ Γ .refl h hk) fun _ z => z.elim
theorem rs_break (hk : κ.bk Γ) : Rs X H0 Γ (.Break pos :: rest) κ := rs_cons (fun _ => False) (wkS ps_break fun E σ H ⟨F, h, k⟩ => k.bk F H σ Γ .refl h hk) fun _ z => z.elim
theorem rs_pass (hk : Rs X H0 Γ rest κ) : Rs X H0 Γ (.Pass pos :: rest) κ := rs_cons (fun Γ' => Γ' = Γ) (wkS ps_pass fun E σ H ⟨F, h, k⟩ => k.nx F H σ Γ .refl h rfl) fun Γ' q => q ▸ hk
theorem rn_if {A B : List Stmt} {k : Bool} (hc : Et X H0 Γ c k) (h1 : k = true → Rs X H0 Γ A κ) (h2 : k = false → Rs X H0 Γ B κ) : Rn X H0 Γ (.If c A B pos) κ := by
  cases k with
  | true => exact wkS (ps_if hc (h1 rfl) (pss_never (sts := B))) fun E σ H ⟨F, h, k⟩ => ⟨F, h, fun F' H' g => ⟨F', h.go g, k.tr (h.tr g)⟩⟩
  | false => exact wkS (ps_if hc (pss_never (sts := A)) (h2 rfl)) fun E σ H ⟨F, h, k⟩ => ⟨F, h, fun F' H' g => ⟨F', h.go g, k.tr (h.tr g)⟩⟩
/-- if with what follows: M is what both ways lead to -/
theorem rs_if {A B : List Stmt} {k : Bool} (M : List Sl → Prop) (hc : Et X H0 Γ c k) (h1 : k = true → Rs X H0 Γ A { κ with nx := M }) (h2 : k = false → Rs X H0 Γ B { κ with nx := M }) (h3 : ∀ Γ', M Γ' → Rs X H0 Γ' rest κ) : Rs X H0 Γ (.If c A B pos :: rest) κ :=
  rs_cons M (rn_if hc h1 h2) h3
/-- if without else, whose way does not come back -/
theorem rs_if1 {A : List Stmt} {k : Bool} (hc : Et X H0 Γ c k) (h1 : k = true → Rs X H0 Γ A { κ with nx := fun _ => False }) (h2 : k = false → Rs X H0 Γ rest κ) : Rs X H0 Γ (.If c A [] pos :: rest) κ :=
  rs_if (fun Γ' => k = false ∧ Γ' = Γ) hc (fun e => rs_mono (h1 e) (fun _ z => z.elim) (fun _ _ z => z) (fun _ z => z) (fun _ z => z) (fun _ _ z => z)) (fun e => rs_nil ⟨e, rfl⟩) fun Γ' ⟨e, q⟩ => q ▸ h2 e
/-- if c: x = e, told by the value that x has behind it -/
theorem rs_ifset (i : Nat) {k : Bool} {d0 : D} {pos' pos2 : Pos} (hN : X.N.Nodup) (hc : Et X H0 Γ c k) (he : k = true → Ev X H0 Γ e d) (hk : Rs X H0 (Γ.set i (.da (if k then d else d0))) rest κ) (hΓ : Γ[i]? = some (.da d0) := by rfl) (hi : X.N[i]? = some x := by rfl) (hx : Loc X.env.scope x := by first | exact .inl rfl | exact .inr rfl)
    (hs : swapsWith e (some (.Name x pos')) pos2.line X.env = pure false := by rfl) (hf : X.fn x = true ∨ X.env.scope.names.lookup x = some .local := by first | exact .inl rfl | exact .inr rfl | assumption) : Rs X H0 Γ (.If c [.Assign [.Name x pos'] e pos2] [] pos :: rest) κ :=
  rs_if (fun Γ' => Γ' = Γ.set i (.da (if k then d else d0))) hc (fun q => by
    subst q
    exact rs_last (rn_set i hN (he rfl) rfl hi hx hs hf)) (fun q => by
    subst q
    refine rs_nil ?_
    show Γ = Γ.set i (.da d0)
    obtain ⟨hl, e⟩ := List.getElem?_eq_some_iff.mp hΓ
    rw [← e, List.set_getElem_self]) fun Γ' q => q ▸ hk
/-- if without else, each way to the end -/
theorem rs_ifs {A B : List Stmt} {k : Bool} {MA MB : List Sl → Prop} (hc : Et X H0 Γ c k) (h1 : k = true → Rs X H0 Γ A { κ with nx := MA }) (h2 : k = false → Rs X H0 Γ B { κ with nx := MB }) (h3 : k = true → ∀ Γ', MA Γ' → Rs X H0 Γ' rest κ) (h4 : k = false → ∀ Γ', MB Γ' → Rs X H0 Γ' rest κ) : Rs X H0 Γ (.If c A B pos :: rest) κ := by
  cases k with
  | true => exact rs_if MA hc h1 (fun e => nomatch e) (h3 rfl)
  | false => exact rs_if MB hc (fun e => nomatch e) h2 (h4 rfl)
/-- for -/
theorem rn_for {U : D → List Sl → List Sl → Prop} (I : Nat → List Sl → Prop) (hp : PassesOwn (model X.prog X.w) X.A X.env X.xe) (hi : Ei X H0 Γ tg iter xs) (ht : Tg X H0 tg U) (h0 : I 0 Γ)
    (hs : ∀ i d Γ', xs[i]? = some d → I i Γ' → ∃ Γ1, U d Γ' Γ1 ∧ Rs X H0 Γ1 body ⟨I (i + 1), κ.rt, κ.nx, I (i + 1), κ.rn⟩) (hd : ∀ Γ', I xs.length Γ' → κ.nx Γ') (hc : X.calm = true := by rfl)
    (hsx : ∀ x, foldedSetIterable iter X.env x = pure x := by intro _; rfl) : Rn X H0 Γ (.For tg iter body [] pos) κ := by
  obtain ⟨g, pg, q⟩ := ht
  refine wkS (ps_for (tb := fun E σ H => ∃ i d Γ' Γ1, xs[i]? = some d ∧ I i Γ' ∧ U d Γ' Γ1 ∧ Rs X H0 Γ1 body ⟨I (i + 1), κ.rt, κ.nx, I (i + 1), κ.rn⟩ ∧ rRs X.K H0 Γ1 ⟨I (i + 1), κ.rt, κ.nx, I (i + 1), κ.rn⟩ E σ H) hp hc hi pg ⟨fun pins s σ H E J ⟨i, d, Γ', Γ1, e, m, u, r, z⟩ => r.run pins s σ H E J z⟩ hsx) fun E σ H ⟨F, h, k⟩ => ?_
  refine ⟨F, h, fun J G Y F1 H1 g1 w hG hY => for_it (g := g) (tb := fun E σ H => ∃ i d Γ' Γ1, xs[i]? = some d ∧ I i Γ' ∧ U d Γ' Γ1 ∧ Rs X H0 Γ1 body ⟨I (i + 1), κ.rt, κ.nx, I (i + 1), κ.rn⟩ ∧ rRs X.K H0 Γ1 ⟨I (i + 1), κ.rt, κ.nx, I (i + 1), κ.rn⟩ E σ H) (D := E) w (fun i σ' H' => ∃ F' Γ', I i Γ' ∧ Hold X.K H0 F' H' σ' Γ' ∧ Tr H0 F1 F') ⟨F1, Γ, h0, h.go g1, .refl⟩ (fun i σ' H' _ ⟨F', Γ', _, h', t⟩ => hG H' (t.ff.trans h'.fh)) (fun i x σ' H' H2 hi ⟨F', Γ', m, h', t⟩ y => ?_) fun σ' H' ⟨F', Γ', m, h', t⟩ => ?_⟩
  · have hx : xs[i]? = some xs[i] := by simp [hi]
    obtain ⟨F3, g3, r3⟩ := hY i x xs[i] F' H' H2 t.ff h'.fh hx y
    obtain ⟨Γ1, u, r⟩ := hs i _ Γ' hx m
    have t3 : Tr H0 F1 F3 := t.trans (h'.tr g3)
    refine q _ Γ' Γ1 u F3 H2 σ' x _ (h'.go g3) r3 fun σ1 h1 => ⟨i, xs[i], Γ', Γ1, hx, m, u, r, F3, h1, fun F4 H4 σ4 Γ4 t4 h4 m4 => ⟨F4, Γ4, m4, h4, t3.trans t4⟩, fun F4 H4 σ4 Γ4 v d t4 g4 r4 m4 => ?_, fun F4 H4 σ4 Γ4 t4 h4 m4 => ?_, fun F4 H4 σ4 Γ4 t4 h4 m4 => ⟨F4, Γ4, m4, h4, t3.trans t4⟩, fun F4 H4 σ4 Γ4 v d A t4 g4 r4 nd n m4 => k.rn F4 H4 σ4 Γ4 v d A ((h.tr g1).trans (t3.trans t4)) g4 r4 nd n m4⟩
    · exact k.rt F4 H4 σ4 Γ4 v d ((h.tr g1).trans (t3.trans t4)) g4 r4 m4
    · exact k.nx F4 H4 σ4 Γ4 ((h.tr g1).trans (t3.trans t4)) h4 m4
  · exact k.nx F' H' σ' Γ' ((h.tr g1).trans t) h' (hd Γ' m)
theorem rs_for {U : D → List Sl → List Sl → Prop} (I : Nat → List Sl → Prop) (hp : PassesOwn (model X.prog X.w) X.A X.env X.xe) (hi : Ei X H0 Γ tg iter xs) (ht : Tg X H0 tg U) (h0 : I 0 Γ)
    (hs : ∀ i d Γ', xs[i]? = some d → I i Γ' → ∃ Γ1, U d Γ' Γ1 ∧ Rs X H0 Γ1 body ⟨I (i + 1), κ.rt, I xs.length, I (i + 1), κ.rn⟩) (hd : ∀ Γ', I xs.length Γ' → Rs X H0 Γ' rest κ) (hc : X.calm = true := by rfl)
    (hsx : ∀ x, foldedSetIterable iter X.env x = pure x := by intro _; rfl) : Rs X H0 Γ (.For tg iter body [] pos :: rest) κ :=
  rs_cons (I xs.length) (rn_for I hp hi ht h0 hs (fun _ z => z) hc hsx) hd
/-- for, with the names as they stand at each turn: G i, up to forgetting -/
theorem rs_forG {U : D → List Sl → List Sl → Prop} (G : Nat → List Sl) (hp : PassesOwn (model X.prog X.w) X.A X.env X.xe) (hi : Ei X H0 Γ tg iter xs) (ht : Tg X H0 tg U) (h0 : Sub Γ (G 0))
    (hs : ∀ i d, xs[i]? = some d → ∃ Γ1, U d (G i) Γ1 ∧ Rs X H0 Γ1 body ⟨fun Γ' => Sub Γ' (G (i + 1)), κ.rt, fun _ => False, fun Γ' => Sub Γ' (G (i + 1)), κ.rn⟩) (hd : Rs X H0 (G xs.length) rest κ) (hc : X.calm = true := by rfl)
    (hsx : ∀ x, foldedSetIterable iter X.env x = pure x := by intro _; rfl) : Rs X H0 Γ (.For tg iter body [] pos :: rest) κ := by
  obtain ⟨g, pg, q⟩ := ht
  refine rs_cons (fun Γ' => Sub Γ' (G xs.length)) (wkS (ps_for (tb := fun E σ H => ∃ i d Γ1, xs[i]? = some d ∧ U d (G i) Γ1 ∧ Rs X H0 Γ1 body ⟨fun Γ' => Sub Γ' (G (i + 1)), κ.rt, fun _ => False, fun Γ' => Sub Γ' (G (i + 1)), κ.rn⟩ ∧ rRs X.K H0 Γ1 ⟨fun Γ' => Sub Γ' (G (i + 1)), κ.rt, fun _ => False, fun Γ' => Sub Γ' (G (i + 1)), κ.rn⟩ E σ H) hp hc hi pg ⟨fun pins s σ H E J ⟨i, d, Γ1, e, u, r, z⟩ => r.run pins s σ H E J z⟩ hsx) fun E σ H ⟨F, h, k⟩ => ?_) fun Γ' s => rs_sub s hd
  refine ⟨F, h, fun J GG Y F1 H1 g1 w hG hY => for_it (g := g) (tb := fun E σ H => ∃ i d Γ1, xs[i]? = some d ∧ U d (G i) Γ1 ∧ Rs X H0 Γ1 body ⟨fun Γ' => Sub Γ' (G (i + 1)), κ.rt, fun _ => False, fun Γ' => Sub Γ' (G (i + 1)), κ.rn⟩ ∧ rRs X.K H0 Γ1 ⟨fun Γ' => Sub Γ' (G (i + 1)), κ.rt, fun _ => False, fun Γ' => Sub Γ' (G (i + 1)), κ.rn⟩ E σ H) (D := E) w (fun i σ' H' => ∃ F', Hold X.K H0 F' H' σ' (G i) ∧ Tr H0 F1 F') ⟨F1, (h.go g1).sub h0, .refl⟩ (fun i σ' H' _ ⟨F', h', t⟩ => hG H' (t.ff.trans h'.fh)) (fun i x σ' H' H2 hi ⟨F', h', t⟩ y => ?_) fun σ' H' ⟨F', h', t⟩ => ?_⟩
  · have hx : xs[i]? = some xs[i] := by simp [hi]
    obtain ⟨F3, g3, r3⟩ := hY i x xs[i] F' H' H2 t.ff h'.fh hx y
    obtain ⟨Γ1, u, r⟩ := hs i _ hx
    have t3 : Tr H0 F1 F3 := t.trans (h'.tr g3)
    refine q _ (G i) Γ1 u F3 H2 σ' x _ (h'.go g3) r3 fun σ1 h1 => ⟨i, xs[i], Γ1, hx, u, r, F3, h1, fun F4 H4 σ4 Γ4 t4 h4 m4 => ⟨F4, h4.sub m4, t3.trans t4⟩, fun F4 H4 σ4 Γ4 v d t4 g4 r4 m4 => ?_, fun F4 H4 σ4 Γ4 t4 h4 m4 => m4.elim, fun F4 H4 σ4 Γ4 t4 h4 m4 => ⟨F4, h4.sub m4, t3.trans t4⟩, fun F4 H4 σ4 Γ4 v d A t4 g4 r4 nd n m4 => k.rn F4 H4 σ4 Γ4 v d A ((h.tr g1).trans (t3.trans t4)) g4 r4 nd n m4⟩
    exact k.rt F4 H4 σ4 Γ4 v d ((h.tr g1).trans (t3.trans t4)) g4 r4 m4
  · exact k.nx F' H' σ' (G xs.length) ((h.tr g1).trans t) h' (Sub.refl _)
/-- .. and with what holds between the turns: P i; a break leads to what follows by M -/
theorem rs_forP {U : D → List Sl → List Sl → Prop} (G : Nat → List Sl) (P : Nat → Prop) (M : List Sl → Prop) (hp : PassesOwn (model X.prog X.w) X.A X.env X.xe) (hi : Ei X H0 Γ tg iter xs) (ht : Tg X H0 tg U) (h0 : Sub Γ (G 0)) (p0 : P 0)
    (hs : ∀ i d, xs[i]? = some d → P i → ∃ Γ1, U d (G i) Γ1 ∧ Rs X H0 Γ1 body ⟨fun Γ' => Sub Γ' (G (i + 1)) ∧ P (i + 1), κ.rt, M, fun Γ' => Sub Γ' (G (i + 1)) ∧ P (i + 1), κ.rn⟩) (hd : P xs.length → Rs X H0 (G xs.length) rest κ) (hb : ∀ Γ', M Γ' → Rs X H0 Γ' rest κ) (hc : X.calm = true := by rfl)
    (hsx : ∀ x, foldedSetIterable iter X.env x = pure x := by intro _; rfl) : Rs X H0 Γ (.For tg iter body [] pos :: rest) κ := by
  obtain ⟨g, pg, q⟩ := ht
  refine rs_cons (fun Γ' => (Sub Γ' (G xs.length) ∧ P xs.length) ∨ M Γ') (wkS (ps_for (tb := fun E σ H => ∃ i d Γ1, xs[i]? = some d ∧ U d (G i) Γ1 ∧ Rs X H0 Γ1 body ⟨fun Γ' => Sub Γ' (G (i + 1)) ∧ P (i + 1), κ.rt, M, fun Γ' => Sub Γ' (G (i + 1)) ∧ P (i + 1), κ.rn⟩ ∧ rRs X.K H0 Γ1 ⟨fun Γ' => Sub Γ' (G (i + 1)) ∧ P (i + 1), κ.rt, M, fun Γ' => Sub Γ' (G (i + 1)) ∧ P (i + 1), κ.rn⟩ E σ H) hp hc hi pg ⟨fun pins s σ H E J ⟨i, d, Γ1, e, u, r, z⟩ => r.run pins s σ H E J z⟩ hsx) fun E σ H ⟨F, h, k⟩ => ?_) fun Γ' s => s.elim (fun s => rs_sub s.1 (hd s.2)) (hb Γ')
  refine ⟨F, h, fun J GG Y F1 H1 g1 w hG hY => for_it (g := g) (tb := fun E σ H => ∃ i d Γ1, xs[i]? = some d ∧ U d (G i) Γ1 ∧ Rs X H0 Γ1 body ⟨fun Γ' => Sub Γ' (G (i + 1)) ∧ P (i + 1), κ.rt, M, fun Γ' => Sub Γ' (G (i + 1)) ∧ P (i + 1), κ.rn⟩ ∧ rRs X.K H0 Γ1 ⟨fun Γ' => Sub Γ' (G (i + 1)) ∧ P (i + 1), κ.rt, M, fun Γ' => Sub Γ' (G (i + 1)) ∧ P (i + 1), κ.rn⟩ E σ H) (D := E) w (fun i σ' H' => ∃ F', Hold X.K H0 F' H' σ' (G i) ∧ Tr H0 F1 F' ∧ P i) ⟨F1, (h.go g1).sub h0, .refl, p0⟩ (fun i σ' H' _ ⟨F', h', t, _⟩ => hG H' (t.ff.trans h'.fh)) (fun i x σ' H' H2 hi ⟨F', h', t, p⟩ y => ?_) fun σ' H' ⟨F', h', t, p⟩ => ?_⟩
  · have hx : xs[i]? = some xs[i] := by simp [hi]
    obtain ⟨F3, g3, r3⟩ := hY i x xs[i] F' H' H2 t.ff h'.fh hx y
    obtain ⟨Γ1, u, r⟩ := hs i _ hx p
    have t3 : Tr H0 F1 F3 := t.trans (h'.tr g3)
    refine q _ (G i) Γ1 u F3 H2 σ' x _ (h'.go g3) r3 fun σ1 h1 => ⟨i, xs[i], Γ1, hx, u, r, F3, h1, fun F4 H4 σ4 Γ4 t4 h4 m4 => ⟨F4, h4.sub m4.1, t3.trans t4, m4.2⟩, fun F4 H4 σ4 Γ4 v d t4 g4 r4 m4 => ?_, fun F4 H4 σ4 Γ4 t4 h4 m4 => k.nx F4 H4 σ4 Γ4 ((h.tr g1).trans (t3.trans t4)) h4 (.inr m4), fun F4 H4 σ4 Γ4 t4 h4 m4 => ⟨F4, h4.sub m4.1, t3.trans t4, m4.2⟩, fun F4 H4 σ4 Γ4 v d A t4 g4 r4 nd n m4 => k.rn F4 H4 σ4 Γ4 v d A ((h.tr g1).trans (t3.trans t4)) g4 r4 nd n m4⟩
    exact k.rt F4 H4 σ4 Γ4 v d ((h.tr g1).trans (t3.trans t4)) g4 r4 m4
  · exact k.nx F' H' σ' (G xs.length) ((h.tr g1).trans t) h' (.inl ⟨Sub.refl _, p⟩)
/-- while -/
theorem rs_while {M : List Sl → Prop} (W : Nat → List Sl → Prop) (hp : PassesOwn (model X.prog X.w) X.A X.env X.xe) (h0 : ∃ m, W m Γ)
    (hs : ∀ m Γ', W m Γ' → ∃ k, Et X H0 Γ' c k ∧ (k = true → Rs X H0 Γ' body ⟨fun Γ2 => ∃ m', m' < m ∧ W m' Γ2, κ.rt, M, fun Γ2 => ∃ m', m' < m ∧ W m' Γ2, κ.rn⟩) ∧ (k = false → M Γ')) (hd : ∀ Γ', M Γ' → Rs X H0 Γ' rest κ) : Rs X H0 Γ (.While c body [] pos :: rest) κ := by
  refine rs_cons M (wkS (ps_while (tc := fun σ H Q => ∃ Γ' k, Et X H0 Γ' c k ∧ rEt X.K H0 Γ' k σ H Q) (tb := fun E σ H => ∃ m Γ', Rs X H0 Γ' body ⟨fun Γ2 => ∃ m', m' < m ∧ W m' Γ2, κ.rt, M, fun Γ2 => ∃ m', m' < m ∧ W m' Γ2, κ.rn⟩ ∧ rRs X.K H0 Γ' ⟨fun Γ2 => ∃ m', m' < m ∧ W m' Γ2, κ.rt, M, fun Γ2 => ∃ m', m' < m ∧ W m' Γ2, κ.rn⟩ E σ H) hp
    ⟨fun pins s σ H Q J ⟨Γ', k, hE, r⟩ => hE.run pins s σ H Q J r⟩ ⟨fun pins s σ H E J ⟨m, Γ', r, z⟩ => r.run pins s σ H E J z⟩) fun E σ H ⟨F, h, k⟩ => ?_) hd
  obtain ⟨m0, w0⟩ := h0
  refine ⟨fun m σ' H' => ∃ F' Γ', W m Γ' ∧ Hold X.K H0 F' H' σ' Γ' ∧ Tr H0 F F', ⟨m0, F, Γ, w0, h, .refl⟩, fun m σ1 H1 ⟨F1, Γ1, w1, h1, t1⟩ => ?_⟩
  obtain ⟨b, hE, hT, hF⟩ := hs m Γ1 w1
  refine ⟨Γ1, b, hE, F1, h1, fun F2 H2 g2 => ?_⟩
  have t2 : Tr H0 F F2 := t1.trans (h1.tr g2)
  cases b with
  | true =>
    refine ⟨fun σ' H' => ∃ F' Γ', (∃ m', m' < m ∧ W m' Γ') ∧ Hold X.K H0 F' H' σ' Γ' ∧ Tr H0 F F', fun σ' H' ⟨F', Γ', ⟨m', hm, w'⟩, h', t'⟩ => ⟨m', hm, F', Γ', w', h', t'⟩, m, Γ1, hT rfl, F2, h1.go g2, fun F4 H4 σ4 Γ4 t4 h4 m4 => ⟨F4, Γ4, m4, h4, t2.trans t4⟩, fun F4 H4 σ4 Γ4 v d t4 g4 r4 m4 => k.rt F4 H4 σ4 Γ4 v d (t2.trans t4) g4 r4 m4, fun F4 H4 σ4 Γ4 t4 h4 m4 => k.nx F4 H4 σ4 Γ4 (t2.trans t4) h4 m4, fun F4 H4 σ4 Γ4 t4 h4 m4 => ⟨F4, Γ4, m4, h4, t2.trans t4⟩, fun F4 H4 σ4 Γ4 v d A t4 g4 r4 nd n m4 => k.rn F4 H4 σ4 Γ4 v d A (t2.trans t4) g4 r4 nd n m4⟩
  | false => exact k.nx F2 H2 σ1 Γ1 t2 (h1.go g2) (hF rfl)
end

/-! ### a def -/
def startΓ (n : Nat) (ds : List D) : List Sl := ds.map Sl.da ++ List.replicate (n - ds.length) Sl.un
theorem hold_start {K : PySem.W.Frag} {F H : Hp} {N : List Str} {vs : List V} {ds : List D} (sm : Same F H) (r : IsA K F vs ds) : Hold K H F H (L2.start N vs) (startΓ N.length ds) := by
  have hl := r.length
  refine ⟨by unfold L2.start startΓ; simp [hl], sm, .refl _, fun _ => [], fun i s e => ?_, fun i a m => (by cases m), fun _ => List.nodup_nil, fun i j a m => (by cases m)⟩
  unfold startΓ at e
  by_cases hi : i < ds.length
  · rw [List.getElem?_append_left (by simpa using hi), List.getElem?_map] at e
    obtain ⟨d', e1, e2⟩ := Option.map_eq_some_iff.mp e
    subst e2
    obtain ⟨v, q1, q2⟩ := r.get e1
    refine ⟨v, ?_, q2⟩
    unfold L2.start
    rw [List.getElem?_append_left (by simp [hl]; exact hi), List.getElem?_map, q1]
    rfl
  · rw [List.getElem?_append_right (by simpa using hi), List.getElem?_replicate] at e
    split at e
    · cases e
      trivial
    · cases e
section
variable {P : Program} {w : World} {K : PySem.W.Frag} {mg : Str → Option Value} {base : Heap}
theorem fn_ok {x qual : Str} {st : Stmt} {f : Addr} {fd : FuncData} {N ps : List Str} {k : Nat} {S : List D → D → Prop} (F : Fun K x qual st f fd) (sc : FnScope N ps (defScope st)) (len : ∀ ds r, S ds r → ds.length = ps.length)
    (body : ∀ (cdv : Value) (A : Around) (outer : List Env) (s : Shared) (H : Hp) (E : XK) (ds : List D) (r : D), Room k (A.deeper (envOfC qual (defScope st) s.heap.objs.size f cdv)) → S ds r →
      Rs (cxOf CX0 P w K mg base N qual (defScope st) f cdv A outer s H E).nox H (startΓ N.length ds) (defBody st) ⟨fun _ => r = .non, fun d _ => d = r, fun _ => False, fun _ => False, fun t _ => fr t = r⟩) : FnOk P w K mg base CX0 (k + 1) f fd ps (SpD K S) := by
  refine F.ok sc (fun vs H Q E h => ?_) (fun cdv A outer s H vs Q E hr h => ?_)
  · obtain ⟨F, ds, r, sm, ia, hS, _⟩ := h
    rw [ia.length]
    exact len ds r hS
  · obtain ⟨F, ds, r, sm, ia, hS, q⟩ := h
    refine ⟨_, body cdv A outer s H E ds r hr hS, F, hold_start sm ia, fun F' H' σ' Γ' t h' m => ?_, fun F' H' σ' Γ' v d t h' ri m => ?_, fun F' H' σ' Γ' t h' m => m.elim, fun F' H' σ' Γ' t h' m => m.elim, fun F' H' σ' Γ' v d A t h' ri nd n m => ?_⟩
    · cases (show r = .non from m)
      exact q .non F' H' ⟨t.ff, h'.fh, h'.h0, t.nf⟩ .non
    · cases (show d = r from m)
      exact q v F' H' ⟨t.ff, h'.fh, h'.h0, t.nf⟩ ri
    · cases (show fr d = r from m)
      exact q v _ H' (Go.lay ⟨t.ff, h'.fh, h'.h0, t.nf⟩ fun a m => ⟨(n a m).2, (n a m).1⟩) (ri.lay fun a m => (n a m).1)

/-! ### defs that stand at the top -/
/-- a def as the top has left it -/
def Dfn (K : PySem.W.Frag) (mg : Str → Option Value) (x : Str) (st : Stmt) (ps : List Str) : Prop := ∃ f fd, Fun K x x st f fd ∧ mg x = some (.ref f) ∧ Binds K fd ps []
/-- it may be called -/
structure Cal (P : Program) (w : World) (K : PySem.W.Frag) (mg : Str → Option Value) (base : Heap) (k : Nat) (x : Str) (ps : List Str) (S : List D → D → Prop) : Prop where
  ex : ∃ f fd, FnOk P w K mg base CX0 k f fd ps (SpD K S) ∧ mg x = some (.ref f) ∧ PySem.W.keepIn K (.ref f) = true ∧ Binds K fd ps [] ∧ ∃ oc od osl, K.lookup f = some ⟨oc, od, .func fd, osl⟩
theorem cal_ok {x : Str} {st : Stmt} {N ps : List Str} {k : Nat} {S : List D → D → Prop} (F : Dfn K mg x st ps) (sc : FnScope N ps (defScope st)) (len : ∀ ds r, S ds r → ds.length = ps.length)
    (body : ∀ (f : Addr) (cdv : Value) (A : Around) (outer : List Env) (s : Shared) (H : Hp) (E : XK) (ds : List D) (r : D), Room k (A.deeper (envOfC x (defScope st) s.heap.objs.size f cdv)) → S ds r →
      Rs (cxOf CX0 P w K mg base N x (defScope st) f cdv A outer s H E).nox H (startΓ N.length ds) (defBody st) ⟨fun _ => r = .non, fun d _ => d = r, fun _ => False, fun _ => False, fun t _ => fr t = r⟩) : Cal P w K mg base (k + 1) x ps S := by
  obtain ⟨f, fd, h1, h2, h3⟩ := F
  refine ⟨f, fd, fn_ok h1 sc len fun cdv A outer s H E ds r => body f cdv A outer s H E ds r, h2, h1.kp, h3, ?_⟩
  obtain ⟨oc, od, kV, doc, pm, an, cdv, ct, osl, e, lk, hcd⟩ := h1.ex
  exact ⟨oc, od, osl, lk⟩
theorem Cal.mono {x : Str} {ps : List Str} {j k : Nat} {S : List D → D → Prop} (C : Cal P w K mg base j x ps S) (h : j ≤ k) : Cal P w K mg base k x ps S := by
  obtain ⟨f, fd, h1, h2⟩ := C.ex
  exact ⟨f, fd, h1.mono h, h2⟩
end
theorem ev_cal {X : Cx} {H0 : Hp} {Γ : List Sl} {e : Expr} {pos : Pos} {k : Nat} {ps : List Str} {S : List D → D → Prop} {x : Str} {p : Pos} {es : List Expr} {ds : List D} {r : D} (C : Cal X.prog X.w X.K X.mg X.base k x ps S) (hr : Room k X.A) (ha : Ea X H0 Γ (e :: es) ds) (hS : S ds r)
    (hg : Gl X x := by rfl) (hdb : (x == ("__debug__" : Str)) = false := by decide)
    (he : starEach (e :: es) X.env = (false, eval e X.env) :: starEach es X.env := by rfl) (hpl : (backTo pos (starEach es X.env)).any (·.1) = false := by rfl) : Ev X H0 Γ (.Call (.Name x p) (e :: es) [] pos) r := by
  obtain ⟨f, fd, h1, h2, h3, h4, _⟩ := C.ex
  exact ev_call h1 hr h2 h3 h4 ha hS hg hdb he hpl
/-- a list of items of one kind, by place -/
theorem get_inj {α : Type} {ys : List α} {inj : α → D} {i : Nat} {d : D} (h : (ys.map inj)[i]? = some d) : ∃ y, ys[i]? = some y ∧ d = inj y := by
  rw [List.getElem?_map] at h
  obtain ⟨y, h1, h2⟩ := Option.map_eq_some_iff.mp h
  exact ⟨y, h1, h2.symm⟩
theorem get_range {n i : Nat} {inj : Nat → D} {d : D} (h : ((List.range n).map inj)[i]? = some d) : i < n ∧ d = inj i := by
  obtain ⟨y, h1, rfl⟩ := get_inj h
  obtain ⟨h2, h3⟩ := List.getElem?_eq_some_iff.mp h1
  rw [List.getElem_range] at h3
  subst h3
  rw [List.length_range] at h2
  exact ⟨h2, rfl⟩
theorem at_nat {α : Type} {xs : List α} {i : Nat} {x : α} (h : xs[i]? = some x) : atI xs (i : Int) = some x := atI_nat h
theorem at_map {α β : Type} {f : α → β} {xs : List α} {i : Nat} {x : α} (h : xs[i]? = some x) : atI (xs.map f) (i : Int) = some (f x) := atI_map (atI_nat h)
end Dv

namespace Dv
open PySem PySem.Spec PyProof.Rows L2

/-! ### one's own read as if it were laid for good, where the answer holds nothing of it -/
inductive Frz : List Sl → List Sl → Prop
  | nil : Frz [] []
  | sm {s : Sl} {a b : List Sl} : Frz a b → Frz (s :: a) (s :: b)
  | fz {q : Option Addr} {t : OT} {d : D} {a b : List Sl} : fr t = d → Frz a b → Frz (.tr q t :: a) (.da d :: b)
theorem Frz.length {a b : List Sl} (h : Frz a b) : a.length = b.length := by
  induction h with
  | nil => rfl
  | sm _ ih => exact congrArg Nat.succ ih
  | fz _ _ ih => exact congrArg Nat.succ ih
theorem Frz.get {a b : List Sl} (h : Frz a b) : ∀ {i : Nat} {s : Sl}, b[i]? = some s → a[i]? = some s ∨ ∃ q t, a[i]? = some (.tr q t) ∧ s = .da (fr t) := by
  induction h with
  | nil => intro i s e; simp at e
  | sm _ ih =>
    intro i s e
    cases i with
    | zero => exact .inl (by simpa using e)
    | succ i => simpa using ih (by simpa using e)
  | fz z _ ih =>
    intro i s e
    cases i with
    | zero =>
      simp at e
      subst e
      exact .inr ⟨_, _, rfl, by rw [z]⟩
    | succ i => simpa using ih (by simpa using e)
open Classical in
theorem Hold.frz {K : PySem.W.Frag} {H0 F H : Hp} {σ : L2.St} {Γ Γ' : List Sl} (h : Hold K H0 F H σ Γ) (z : Frz Γ Γ') : ∃ F', Same F F' ∧ (∀ a o, F a = none → F' a = some o → nodeO o) ∧ Hold K H0 F' H σ Γ' := by
  obtain ⟨fp, h1, h2, h3, h4⟩ := h.ex
  let L : Nat → Prop := fun i => ∃ t d, (∃ q, Γ[i]? = some (.tr q t)) ∧ Γ'[i]? = some (.da d)
  let F' : Hp := fun a => if ∃ i, L i ∧ a ∈ fp i then H a else F a
  have sm : Same F F' := fun a o e => by
    have n : ¬ ∃ i, L i ∧ a ∈ fp i := fun ⟨i, _, m⟩ => by
      rw [(h2 i a m).1] at e
      cases e
    show (if ∃ i, L i ∧ a ∈ fp i then H a else F a) = some o
    rw [if_neg n]
    exact e
  have fe : ∀ i, L i → (fun i => if L i then [] else fp i) i = [] := fun i c => if_pos c
  have fn : ∀ i, ¬ L i → (fun i => if L i then [] else fp i) i = fp i := fun i c => if_neg c
  generalize (fun i => if L i then [] else fp i) = fq at fe fn
  refine ⟨F', sm, fun a o n e => ?_, h.len.trans z.length, fun a o e => ?_, h.h0, fq, fun i s e => ?_, fun i a m => ?_, fun i => ?_, fun i j a m1 m2 => ?_⟩
  · have e' : (if ∃ i, L i ∧ a ∈ fp i then H a else F a) = some o := e
    by_cases c : ∃ i, L i ∧ a ∈ fp i
    · rw [if_pos c] at e'
      obtain ⟨i, ⟨t, d, ⟨q, hq⟩, _⟩, m⟩ := c
      obtain ⟨v, r1, r2, r3⟩ := h1 i _ hq
      obtain ⟨o', w1, w2⟩ := own_node.1 _ _ _ r2 a m
      rw [e'] at w1
      cases w1
      exact w2
    · rw [if_neg c, n] at e'
      cases e'
  · have e' : (if ∃ i, L i ∧ a ∈ fp i then H a else F a) = some o := e
    by_cases c : ∃ i, L i ∧ a ∈ fp i
    · rw [if_pos c] at e'
      exact e'
    · rw [if_neg c] at e'
      exact h.fh _ _ e'
  · rcases z.get e with q | ⟨q, t, e1, e2⟩
    · have r := h1 i s q
      cases s with
      | un => trivial
      | da d =>
        obtain ⟨v, r1, r2⟩ := r
        exact ⟨v, r1, r2.mono sm⟩
      | tr qq t =>
        have nL : ¬ L i := fun ⟨_, d, _, e3⟩ => by
          rw [e] at e3
          cases e3
        obtain ⟨v, r1, r2, r3⟩ := r
        exact ⟨v, r1, (by rw [fn i nL]; exact r2.mono sm fun _ _ _ x => x), r3⟩
    · subst e2
      obtain ⟨v, r1, r2, r3⟩ := h1 i _ e1
      have hL : L i := ⟨t, fr t, ⟨q, e1⟩, e⟩
      refine ⟨v, r1, r2.fr sm fun a m => ?_⟩
      show (if ∃ i, L i ∧ a ∈ fp i then H a else F a) = H a
      rw [if_pos ⟨i, hL, m⟩]
  · by_cases c : L i
    · rw [fe i c] at m
      cases m
    · rw [fn i c] at m
      obtain ⟨n1, n2, n3⟩ := h2 i a m
      refine ⟨?_, n2, n3⟩
      have nn : ¬ ∃ j, L j ∧ a ∈ fp j := fun ⟨j, l, m'⟩ => c (by rw [h4 i j a m m']; exact l)
      show (if ∃ i, L i ∧ a ∈ fp i then H a else F a) = none
      rw [if_neg nn]
      exact n1
  · by_cases c : L i
    · rw [fe i c]
      exact List.nodup_nil
    · rw [fn i c]
      exact h3 i
  · by_cases c1 : L i
    · rw [fe i c1] at m1
      cases m1
    · by_cases c2 : L j
      · rw [fe j c2] at m2
        cases m2
      · rw [fn i c1] at m1
        rw [fn j c2] at m2
        exact h4 i j a m1 m2
open Classical in
/-- going on, what was lent taken back -/
noncomputable def unlay (F F' F2 : Hp) : Hp := fun a => if F a = none ∧ F' a ≠ none then none else F2 a
open Classical in
theorem Go.unlay {F F' H F2 H2 : Hp} (s : Same F F') (g : Go F' H F2 H2) : Go F H (Dv.unlay F F' F2) H2 := by
  refine ⟨fun a o e => ?_, fun a o e => ?_, g.kp, fun a o e n => ?_⟩
  · show (if F a = none ∧ F' a ≠ none then none else F2 a) = some o
    rw [if_neg (fun z => by rw [z.1] at e; cases e)]
    exact g.ff _ _ (s _ _ e)
  · have e' : (if F a = none ∧ F' a ≠ none then none else F2 a) = some o := e
    by_cases c : F a = none ∧ F' a ≠ none
    · rw [if_pos c] at e'
      cases e'
    · rw [if_neg c] at e'
      exact g.fh _ _ e'
  · show (if F a = none ∧ F' a ≠ none then none else F2 a) = none
    by_cases c : F a = none ∧ F' a ≠ none
    · rw [if_pos c]
    · rw [if_neg c]
      have n' : F' a = none := by
        cases q : F' a with
        | none => rfl
        | some u => exact absurd ⟨n, by rw [q]; simp⟩ c
      exact g.nf a o e n'
mutual
/-- scalars, and tuples of such -/
def tupD : D → Bool
  | .non => true
  | .bl _ => true
  | .int _ => true
  | .str _ => true
  | .tup ds => tupDA ds
  | _ => false
def tupDA : List D → Bool
  | [] => true
  | d :: ds => tupD d && tupDA ds
end
mutual
/-- the leaves are such -/
def lvT : OT → Bool
  | .fz d => tupD d
  | .lst ts => lvA ts
  | .obj _ fs => lvS fs
  | .dic fs => lvK fs
  | .dit fs => lvTT fs
def lvA : List OT → Bool
  | [] => true
  | t :: ts => lvT t && lvA ts
def lvS : List (Str × OT) → Bool
  | [] => true
  | (_, t) :: ts => lvT t && lvS ts
def lvK : List (Key × OT) → Bool
  | [] => true
  | (_, t) :: ts => lvT t && lvK ts
def lvTT : List (List Key × OT) → Bool
  | [] => true
  | (_, t) :: ts => lvT t && lvTT ts
end
theorem lvS_map : ∀ fs : List (Str × OT), lvS fs = lvA (fs.map (·.2))
  | [] => by rw [lvS, List.map_nil, lvA]
  | (_, t) :: fs => by rw [lvS, List.map_cons, lvA, lvS_map fs]
theorem lvK_map : ∀ fs : List (Key × OT), lvK fs = lvA (fs.map (·.2))
  | [] => by rw [lvK, List.map_nil, lvA]
  | (_, t) :: fs => by rw [lvK, List.map_cons, lvA, lvK_map fs]
theorem lvTT_map : ∀ fs : List (List Key × OT), lvTT fs = lvA (fs.map (·.2))
  | [] => by rw [lvTT, List.map_nil, lvA]
  | (_, t) :: fs => by rw [lvTT, List.map_cons, lvA, lvTT_map fs]
theorem unlay_at {F F' F2 : Hp} {a : Addr} {o : HO} (n : ∀ a o, F a = none → F' a = some o → nodeO o) (g : Same F' F2) (e : F2 a = some o) (no : ¬ nodeO o) : unlay F F' F2 a = some o := by
  unfold unlay
  rw [if_neg]
  · exact e
  · intro c
    cases q : F' a with
    | none => exact c.2 q
    | some u =>
      have := g a u q
      rw [e] at this
      cases this
      exact no (n a o c.1 q)
mutual
theorem unlay_is {K : PySem.W.Frag} {F F' F2 : Hp} (n : ∀ a o, F a = none → F' a = some o → nodeO o) (g : Same F' F2) : ∀ (d : D) (v : V), tupD d = true → Is K F2 v d → Is K (unlay F F' F2) v d
  | .non, _, _, h => by cases h; exact .non
  | .bl b, _, _, h => by cases h; exact .bl b
  | .int b, _, _, h => by cases h; exact .int b
  | .str b, _, _, h => by cases h; exact .str b
  | .tup ds, _, p, h => by
    rw [tupD] at p
    cases h with
    | tup h1 h2 =>
      refine .tup ?_ (unlay_isA n g ds _ p h2)
      rcases h1 with (h1 | ⟨o, h1⟩) | h1
      · exact .inl (.inl (unlay_at n g h1 (fun z => z)))
      · exact .inl (.inr ⟨o, unlay_at n g h1 (fun z => z)⟩)
      · exact .inr h1
  | .lst _, _, p, _ => by cases p
  | .scr _, _, p, _ => by cases p
  | .obj _ _, _, p, _ => by cases p
  | .dic _, _, p, _ => by cases p
  | .dit _, _, p, _ => by cases p
theorem unlay_isA {K : PySem.W.Frag} {F F' F2 : Hp} (n : ∀ a o, F a = none → F' a = some o → nodeO o) (g : Same F' F2) : ∀ (ds : List D) (vs : List V), tupDA ds = true → IsA K F2 vs ds → IsA K (unlay F F' F2) vs ds
  | [], _, _, h => by cases h; exact .nil
  | d :: ds, _, p, h => by
    rw [tupDA, Bool.and_eq_true] at p
    cases h with
    | cons h1 h2 => exact .cons (unlay_is n g d _ p.1 h1) (unlay_isA n g ds _ p.2 h2)
end
theorem unlay_own {K : PySem.W.Frag} {F F' F2 H2 : Hp} (n : ∀ a o, F a = none → F' a = some o → nodeO o) (g : Same F' F2) {v : V} {t : OT} {A : List Addr} (h : Own K F2 H2 v t A) (p : lvT t = true) : Own K (unlay F F' F2) H2 v t A :=
  (own_rec (K := K) (F := F2) (H := H2) (P := fun v t A => lvT t = true → Own K (unlay F F' F2) H2 v t A) (R := fun vs ts A => lvA ts = true → OwnA K (unlay F F' F2) H2 vs ts A) (fun v d q p => .fz (unlay_is n g d v (by rw [lvT] at p; exact p) q))
    (fun p vs ts A q _ i z => .lst q (i (by rw [lvT] at z; exact z))) (fun p C dx vs ts A q e _ i z => .obj q e (i (by rw [lvT, lvS_map] at z; exact z))) (fun p vs ts A q e _ i z => .dic q e (i (by rw [lvT, lvK_map] at z; exact z))) (fun p vs ts A q e _ i z => .dit q e (i (by rw [lvT, lvTT_map] at z; exact z)))
    (fun _ => .nil) fun v vs t ts A B i j z => by
      rw [lvA, Bool.and_eq_true] at z
      exact .cons (i z.1) (j z.2)).1 v t A h p
theorem tupDA_ints (ns : List Int) : tupDA (ns.map D.int) = true := by
  induction ns with
  | nil => rw [List.map_nil, tupDA]
  | cons n ns ih => rw [List.map_cons, tupDA, tupD, ih]; rfl
theorem lvA_fz {ds : List D} (h : tupDA ds = true) : lvA (ds.map .fz) = true := by
  induction ds with
  | nil => rw [List.map_nil, lvA]
  | cons d ds ih =>
    rw [tupDA, Bool.and_eq_true] at h
    rw [List.map_cons, lvA, lvT, h.1, ih h.2]
    rfl
section
variable {X : Cx} {H0 : Hp} {Γ Γ' : List Sl} {a b c e : Expr} {d d1 d2 : D} {xs ys : List D} {pos : Pos}
theorem ev_bor (z : Frz Γ Γ') (h : Ev X H0 Γ' e d) (hv : tupD d = true := by rfl) : Ev X H0 Γ e d := wkE h fun σ H Q ⟨F, h, k⟩ => by
  obtain ⟨F', s, n, h'⟩ := h.frz z
  exact ⟨F', h', fun v F2 H2 g r => k v _ H2 (g.unlay s) (unlay_is n g.ff d v hv r)⟩
theorem en_bor {t : OT} (z : Frz Γ Γ') (h : En X H0 Γ' e t) (hv : lvT t = true) : En X H0 Γ e t := wkE h fun σ H Q ⟨F, h, k⟩ => by
  obtain ⟨F', s, n, h'⟩ := h.frz z
  refine ⟨F', h', fun v A F2 H2 g o nd na => k v A _ H2 (g.unlay s) (unlay_own n g.ff o hv) nd fun a m => ⟨(na a m).1, ?_⟩⟩
  unfold unlay
  split
  · rfl
  · exact (na a m).2
theorem et_bor {k : Bool} (z : Frz Γ Γ') (h : Et X H0 Γ' e k) : Et X H0 Γ e k := wkT h fun σ H Q ⟨F, h, k⟩ => by
  obtain ⟨F', s, _, h'⟩ := h.frz z
  exact ⟨F', h', fun F2 H2 g => k _ H2 (g.unlay s)⟩
theorem ec_bor {op : CmpOp} {k : Bool} (z : Frz Γ Γ') (h : Ec X H0 Γ' op a b k) : Ec X H0 Γ op a b k := by
  obtain ⟨r, ta, tb, h1, h2, h3, h4⟩ := h
  exact ⟨r, ta, tb, h1, h2, h3, fun σ H Q ⟨F, h, k⟩ => by
    obtain ⟨F', s, _, h'⟩ := h.frz z
    exact h4 σ H Q ⟨F', h', fun F2 H2 g => k _ H2 (g.unlay s)⟩⟩

/-! ### is of bools -/
theorem ec_isB {i j : Bool} (ha : Ev X H0 Γ a (.bl i)) (hb : Ev X H0 Γ b (.bl j)) : Ec X H0 Γ .Is a b (decide (i = j)) :=
  ec_of op_isBl ha hb fun F H x y Q sm r1 r2 q => by
    cases r1
    cases r2
    exact ⟨i, j, rfl, rfl, q⟩
theorem ec_notB {i j : Bool} (ha : Ev X H0 Γ a (.bl i)) (hb : Ev X H0 Γ b (.bl j)) : Ec X H0 Γ .IsNot a b (!decide (i = j)) :=
  ec_of op_notBl ha hb fun F H x y Q sm r1 r2 q => by
    cases r1
    cases r2
    exact ⟨i, j, rfl, rfl, q⟩

/-! ### new trees in a row -/
def rEna (K : PySem.W.Frag) (H0 : Hp) (Γ : List Sl) (ts : List OT) : TA := fun σ H Q => ∃ F, Hold K H0 F H σ Γ ∧ ∀ vs A F' H', Go F H F' H' → OwnA K F' H' vs ts A → A.Nodup → (∀ a ∈ A, H a = none ∧ F' a = none) → Q vs H'
def Ena (X : Cx) (H0 : Hp) (Γ : List Sl) (es : List Expr) (ts : List OT) : Prop := PA X es (rEna X.K H0 Γ ts)
theorem en_d (h : Ev X H0 Γ e d) : En X H0 Γ e (.fz d) := wkE h fun σ H Q ⟨F, h, k⟩ => ⟨F, h, fun v F' H' g r => k v [] F' H' g (.fz r) List.nodup_nil fun a m => by cases m⟩
theorem ena_nil : Ena X H0 Γ [] [] := wkA pa_nil fun σ H Q ⟨F, h, k⟩ => k [] [] F H (.refl h.fh) .nil List.nodup_nil fun a m => by cases m
theorem ena_cons {es : List Expr} {t : OT} {ts : List OT} (h1 : En X H0 Γ e t) (h2 : Ena X H0 Γ es ts) (hs : starEach (e :: es) X.env = (false, eval e X.env) :: starEach es X.env := by rfl) : Ena X H0 Γ (e :: es) (t :: ts) :=
  wkA (pa_cons h1 h2 hs) fun σ H Q ⟨F, h, k⟩ => ⟨F, h, fun v A F1 H1 g1 o1 nd1 n1 => ⟨F1, h.go g1, fun vs B F2 H2 g2 o2 nd2 n2 => k (v :: vs) (A ++ B) F2 H2 (g1.trans g2) (.cons (o1.mono g2.ff fun a _ o q => g2.kp a o q) o2)
    (List.nodup_append.mpr ⟨nd1, nd2, fun a m1 b m2 z => by
      subst z
      obtain ⟨o, q⟩ := o1.dom a m1
      rw [(n2 a m2).1] at q
      cases q⟩) fun a m => by
    rcases List.mem_append.mp m with m | m
    · obtain ⟨o, q⟩ := o1.dom a m
      exact ⟨(n1 a m).1, g2.nf a o q (n1 a m).2⟩
    · exact ⟨Same.free g1.kp (n2 a m).1, (n2 a m).2⟩⟩⟩
theorem en_lst {es : List Expr} {ts : List OT} (h : Ena X H0 Γ es ts) (hz : ts.length ≤ sizeLine := by exact Nat.le_of_ble_eq_true rfl) : En X H0 Γ (.List es pos) (.lst ts) :=
  wkE (pe_lst h) fun σ H Q ⟨F, h, k⟩ => ⟨F, h, fun vs A F1 H1 g1 o1 nd1 n1 => ⟨by rw [o1.length]; exact hz, fun p hp => by
    have np : p ∉ A := fun m => by
      obtain ⟨o, q⟩ := o1.dom p m
      rw [hp] at q
      cases q
    refine k _ (p :: A) F1 _ (g1.trans (.newH g1.fh hp)) (.lst upd_same (o1.mono (.refl _) fun a m o q => ?_)) (List.nodup_cons.mpr ⟨np, nd1⟩) fun a m => ?_
    · rw [upd_ne (fun z : a = p => np (by rw [← z]; exact m))]
      exact q
    · rcases List.mem_cons.mp m with z | m
      · subst z
        exact ⟨Same.free g1.kp hp, Same.free g1.fh hp⟩
      · exact n1 a m⟩⟩

/-! ### objects that are laid for good: their attributes -/
theorem lookup_is {K : PySem.W.Frag} {F : Hp} {κ : Type} [BEq κ] {f : κ} {d : D} : ∀ {fs : List (κ × V)} {gs : List (κ × D)}, fs.map (·.1) = gs.map (·.1) → IsA K F (fs.map (·.2)) (gs.map (·.2)) → gs.lookup f = some d → ∃ v, fs.lookup f = some v ∧ Is K F v d
  | [], [], _, _, h => by cases h
  | [], _ :: _, e, _, _ => by cases e
  | _ :: _, [], e, _, _ => by cases e
  | (k, v) :: fs, (k', d') :: gs, e, a, h => by
    rw [List.map_cons, List.map_cons] at e
    obtain ⟨e1, e2⟩ := List.cons.inj e
    cases (show k = k' from e1)
    rw [List.map_cons, List.map_cons] at a
    cases a with
    | cons r a =>
      rw [List.lookup_cons] at h ⊢
      cases q : f == k with
      | true =>
        rw [q] at h
        cases h
        exact ⟨v, rfl, r⟩
      | false =>
        rw [q] at h
        exact lookup_is e2 a h
theorem ev_fld {C : Addr} {f : Str} {gs : List (Str × D)} (h : Ev X H0 Γ e (.obj C gs)) (c : Cls X.K C) (n : NoAttr X.K C f) (hl : gs.lookup f = some d) (hb : attributeBase e f X.env (eval e X.env) = eval e X.env := by rfl) : Ev X H0 Γ (.Attribute e f pos) d :=
  wkE (pe_fld h hb) fun σ H Q ⟨F, h, k⟩ => ⟨F, h, fun v F' H' g r => by
    cases r with
    | obj r1 r2 r3 =>
      obtain ⟨v, q1, q2⟩ := lookup_is r2 r3 hl
      exact ⟨_, C, _, _, v, rfl, g.fh _ _ r1, c, n, q1, k v F' H' g q2⟩⟩

/-! ### a method, an __init__: the object that is handed in is written -/
/-- the self's tree t becomes t', r is handed back -/
def SpM (K : PySem.W.Frag) (S : OT → List D → OT → D → Prop) : Sp := fun vs H Q _ => ∃ F A p rest t ds t' r, vs = .ref p :: rest ∧ Own K F H (.ref p) t A ∧ A.Nodup ∧ (∀ a ∈ A, F a = none) ∧ Same F H ∧ IsA K F rest ds ∧ S t ds t' r ∧
  ∀ v F' H' A', Same F F' → Same F' H' → (∀ a, a ∉ A → ∀ o, H a = some o → H' a = some o) → (∀ a, a ∉ A → ∀ o, H a = some o → F a = none → F' a = none) → Own K F' H' (.ref p) t' A' → A'.Nodup → (∀ a ∈ A', (a ∈ A ∨ H a = none) ∧ F' a = none) → Is K F' v r → Q v H'
/-- C(..): a class that is made by its __init__ -/
structure Mak (P : Program) (w : World) (K : PySem.W.Frag) (mg : Str → Option Value) (base : Heap) (k : Nat) (x : Str) (C : Addr) (ps : List Str) (S : OT → List D → OT → D → Prop) : Prop where
  cl : Cls K C
  gl : mg x = some (.ref C)
  ex : ∃ f fd, FnOk P w K mg base CX0 k f fd ps (SpM K S) ∧ Mk K C f ∧ Binds K fd ps []
theorem en_make {k : Nat} {x : Str} {C : Addr} {ps : List Str} {S : OT → List D → OT → D → Prop} {p : Pos} {es : List Expr} {ds : List D} {t : OT} (M : Mak X.prog X.w X.K X.mg X.base k x C ps S) (hr : Room (k + 1) X.A) (ha : Ea X H0 Γ (e :: es) ds) (hS : S (.obj C []) ds t .non)
    (hg : Gl X x := by rfl) (hdb : (x == ("__debug__" : Str)) = false := by decide) (he : starEach (e :: es) X.env = (false, eval e X.env) :: starEach es X.env := by rfl) (hpl : (backTo pos (starEach es X.env)).any (·.1) = false := by rfl) : En X H0 Γ (.Call (.Name x p) (e :: es) [] pos) t := by
  obtain ⟨f, fd, h1, h2, h3⟩ := M.ex
  refine wkE (pe_make h2 h1 hr hg M.gl h3 .nil pass0 ha hdb he hpl) fun σ H Q ⟨F, h, q⟩ => ⟨F, h, fun vs F1 H1 g1 r1 x dx nx ndx nex => ?_⟩
  have nF : F1 x = none := Same.free g1.fh nx
  have s1 : Same H1 (upd (upd H1 dx (.own x)) x (.ins C dx [])) := fun a o e => by
    rw [upd_ne (ne_of_none e nx), upd_ne (ne_of_none e ndx)]
    exact e
  refine ⟨F1, [x], x, vs, .obj C [], ds, t, .non, by rw [List.append_nil], .obj upd_same rfl .nil, by simp, fun a m => ?_, g1.fh.trans s1, r1, hS, fun v F' H' A' ff fh kp nf o nd n r => ?_⟩
  · cases List.mem_singleton.mp m
    exact nF
  · cases r
    have kp1 : Same H1 H' := fun a o e => kp a (fun m => ne_of_none e nx (List.mem_singleton.mp m)) o (s1 a o e)
    refine ⟨rfl, q _ A' F' H' (g1.trans ⟨ff, fh, kp1, fun a o e z => nf a (fun m => ne_of_none e nx (List.mem_singleton.mp m)) o (s1 a o e) z⟩) o nd fun a m => ⟨?_, (n a m).2⟩⟩
    rcases (n a m).1 with z | z
    · cases List.mem_singleton.mp z
      exact Same.free g1.kp nx
    · exact Same.free g1.kp (Same.free s1 z)
end

section
variable {P : Program} {w : World} {K : PySem.W.Frag} {mg : Str → Option Value} {base : Heap}
/-- the entry of a def whose first argument is written -/
def less (H : Hp) (A : List Addr) : Hp := fun a => if a ∈ A then none else H a
theorem less_in {H : Hp} {A : List Addr} {a : Addr} (h : a ∈ A) : less H A a = none := if_pos h
theorem less_out {H : Hp} {A : List Addr} {a : Addr} (h : a ∉ A) : less H A a = H a := if_neg h
theorem less_same {H : Hp} {A : List Addr} : Same (less H A) H := fun a o e => by
  by_cases m : a ∈ A
  · rw [less_in m] at e
    cases e
  · rw [less_out m] at e
    exact e
theorem hold_startM {F H : Hp} {N : List Str} {p : Addr} {t : OT} {A : List Addr} {vs : List V} {ds : List D} (sm : Same F H) (o : Own K F H (.ref p) t A) (nd : A.Nodup) (n : ∀ a ∈ A, F a = none) (r : IsA K F vs ds) :
    Hold K (less H A) F H (L2.start N (.ref p :: vs)) (.slf p t :: (ds.map Sl.da ++ List.replicate (N.length - (ds.length + 1)) Sl.un)) := by
  have hl := r.length
  refine ⟨by unfold L2.start; simp [hl], sm, less_same, fput (fun _ => []) 0 A, fun i s e => ?_, fun i a m => ?_, fun i => ?_, fun i j a m1 m2 => ?_⟩
  · cases i with
    | zero =>
      simp at e
      subst e
      rw [fput_eq rfl]
      exact ⟨_, rfl, o, fun q z => by cases z; rfl⟩
    | succ i =>
      rw [List.getElem?_cons_succ] at e
      rw [fput_ne (by omega : i + 1 ≠ 0)]
      by_cases hi : i < ds.length
      · rw [List.getElem?_append_left (by simpa using hi), List.getElem?_map] at e
        obtain ⟨d', e1, e2⟩ := Option.map_eq_some_iff.mp e
        subst e2
        obtain ⟨v, q1, q2⟩ := r.get e1
        refine ⟨v, ?_, q2⟩
        unfold L2.start
        rw [List.map_cons, List.cons_append, List.getElem?_cons_succ, List.getElem?_append_left (by simp [hl]; exact hi), List.getElem?_map, q1]
        rfl
      · rw [List.getElem?_append_right (by simpa using hi), List.getElem?_replicate] at e
        split at e
        · cases e
          trivial
        · cases e
  · by_cases z : i = 0
    · rw [fput_eq z] at m
      exact ⟨n a m, less_in m, o.dom a m⟩
    · rw [fput_ne z] at m
      cases m
  · by_cases z : i = 0
    · rw [fput_eq z]
      exact nd
    · rw [fput_ne z]
      exact List.nodup_nil
  · by_cases z1 : i = 0
    · by_cases z2 : j = 0
      · omega
      · rw [fput_ne z2] at m2
        cases m2
    · rw [fput_ne z1] at m1
      cases m1
/-- the self stands at p in the first slot, its tree is t -/
def SelfAt (p : Addr) (t : OT) (Γ : List Sl) : Prop := Γ[0]? = some (.slf p t)
theorem fn_okM {x qual : Str} {st : Stmt} {f : Addr} {fd : FuncData} {N ps : List Str} {k : Nat} {S : OT → List D → OT → D → Prop} (F : Fun K x qual st f fd) (sc : FnScope N ps (defScope st)) (len : ∀ t ds t' r, S t ds t' r → ds.length + 1 = ps.length)
    (body : ∀ (cdv : Value) (A : Around) (outer : List Env) (s : Shared) (H Hg : Hp) (E : XK) (p : Addr) (t : OT) (ds : List D) (t' : OT) (r : D), Room k (A.deeper (envOfC qual (defScope st) s.heap.objs.size f cdv)) → S t ds t' r →
      Rs (cxOf CX0 P w K mg base N qual (defScope st) f cdv A outer s H E).nox Hg (.slf p t :: (ds.map Sl.da ++ List.replicate (N.length - (ds.length + 1)) Sl.un)) (defBody st)
        ⟨fun Γ => SelfAt p t' Γ ∧ r = .non, fun d Γ => SelfAt p t' Γ ∧ d = r, fun _ => False, fun _ => False, fun _ _ => False⟩) : FnOk P w K mg base CX0 (k + 1) f fd ps (SpM K S) := by
  refine F.ok sc (fun vs H Q E h => ?_) (fun cdv A outer s H vs Q E hr h => ?_)
  · obtain ⟨F, A, p, rest, t, ds, t', r, rfl, o, nd, n, sm, ia, hS, _⟩ := h
    rw [List.length_cons, ia.length]
    exact len t ds t' r hS
  · obtain ⟨F, A', p, rest, t, ds, t', r, rfl, o, nd, n, sm, ia, hS, q⟩ := h
    have fin : ∀ F' H' σ' Γ' v d, Tr (less H A') F F' → Hold K (less H A') F' H' σ' Γ' → Is K F' v d → SelfAt p t' Γ' ∧ d = r → Q v H' := fun F' H' σ' Γ' v d t h' ri m => by
      obtain ⟨m1, rfl⟩ := m
      obtain ⟨u, B, e1, o', nd', n', hq, _⟩ := h'.mut m1
      cases hq p rfl
      refine q v F' H' B t.ff h'.fh (fun a m o e => h'.h0 a o (by rw [less_out m]; exact e)) (fun a m o e z => t.nf a o (by rw [less_out m]; exact e) z) o' nd' (fun a m => ⟨?_, (n' a m).1⟩) ri
      · by_cases m' : a ∈ A'
        · exact .inl m'
        · have z := (n' a m).2
          rw [less_out m'] at z
          exact .inr z
    refine ⟨_, body cdv A outer s H (less H A') E p t ds t' r hr hS, F, hold_startM sm o nd n ia, fun F' H' σ' Γ' t h' m => fin F' H' σ' Γ' .non .non t h' .non ⟨m.1, m.2.symm⟩, fun F' H' σ' Γ' v d t h' ri m => fin F' H' σ' Γ' v d t h' ri m, fun F' H' σ' Γ' t h' m => m.elim, fun F' H' σ' Γ' t h' m => m.elim, fun F' H' σ' Γ' v d A t h' ri nd n m => m.elim⟩
end
end Dv

namespace Dv
open PySem PySem.Spec PyProof.Rows L2

/-! ### attributes of one's own object -/
def putT (f : Str) (t : OT) : List (Str × OT) → List (Str × OT)
  | [] => [(f, t)]
  | (g, x) :: r => if g = f then (g, t) :: r else (g, x) :: putT f t r
section
variable {K : PySem.W.Frag} {F H H' : Hp}
theorem putF_keys {f : Str} {v : V} {t : OT} : ∀ {vs : List (Str × V)} {ts : List (Str × OT)}, vs.map (·.1) = ts.map (·.1) → (putF f v vs).map (·.1) = (putT f t ts).map (·.1)
  | [], [], _ => rfl
  | [], _ :: _, e => by cases e
  | _ :: _, [], e => by cases e
  | (k, v') :: vs, (k', t') :: ts, e => by
    rw [List.map_cons, List.map_cons] at e
    obtain ⟨e1, e2⟩ := List.cons.inj e
    cases (show k = k' from e1)
    rw [putF, putT]
    by_cases z : k = f
    · rw [if_pos z, if_pos z, List.map_cons, List.map_cons, e2]
    · rw [if_neg z, if_neg z, List.map_cons, List.map_cons, putF_keys e2]
theorem own_putF {f : Str} {y : V} {t : OT} {B : List Addr} (o : Own K F H y t B) (ndB : B.Nodup) : ∀ {vs : List (Str × V)} {ts : List (Str × OT)} {A : List Addr}, vs.map (·.1) = ts.map (·.1) → OwnA K F H (vs.map (·.2)) (ts.map (·.2)) A → A.Nodup → (∀ a ∈ A, a ∉ B) →
    ∃ A', OwnA K F H ((putF f y vs).map (·.2)) ((putT f t ts).map (·.2)) A' ∧ A'.Nodup ∧ ∀ a ∈ A', a ∈ A ∨ a ∈ B
  | [], [], A, _, h, nd, dj => by
    refine ⟨B ++ [], .cons o .nil, by rw [List.append_nil]; exact ndB, fun a m => .inr (by simpa using m)⟩
  | [], _ :: _, _, e, _, _, _ => by cases e
  | _ :: _, [], _, e, _, _, _ => by cases e
  | (k, v') :: vs, (k', t') :: ts, A, e, h, nd, dj => by
    rw [List.map_cons, List.map_cons] at e
    obtain ⟨e1, e2⟩ := List.cons.inj e
    cases (show k = k' from e1)
    rw [List.map_cons, List.map_cons] at h
    cases h with
    | @cons _ _ _ _ A1 A2 h1 h2 =>
      obtain ⟨n1, n2, n3⟩ := List.nodup_append.mp nd
      rw [putF, putT]
      by_cases z : k = f
      · rw [if_pos z, if_pos z, List.map_cons, List.map_cons]
        refine ⟨B ++ A2, .cons o h2, List.nodup_append.mpr ⟨ndB, n2, fun a m b m' q => ?_⟩, fun a m => ?_⟩
        · subst q
          exact dj a (List.mem_append_right _ m') m
        · rcases List.mem_append.mp m with m | m
          · exact .inr m
          · exact .inl (List.mem_append_right _ m)
      · rw [if_neg z, if_neg z, List.map_cons, List.map_cons]
        obtain ⟨A3, q1, q2, q3⟩ := own_putF o ndB (vs := vs) (ts := ts) (A := A2) e2 h2 n2 fun a m => dj a (List.mem_append_right _ m)
        refine ⟨A1 ++ A3, .cons h1 q1, List.nodup_append.mpr ⟨n1, q2, fun a m b m' q => ?_⟩, fun a m => ?_⟩
        · subst q
          rcases q3 a m' with w | w
          · exact n3 a m a w rfl
          · exact dj a (List.mem_append_left _ m) w
        · rcases List.mem_append.mp m with m | m
          · exact .inl (List.mem_append_left _ m)
          · rcases q3 a m with w | w
            · exact .inl (List.mem_append_right _ w)
            · exact .inr w
end

section
variable {X : Cx} {H0 : Hp} {Γ Γ' : List Sl} {a b c e : Expr} {d : D} {xs : List D} {pos : Pos} {rest : List Stmt} {κ : Kt} {x : Str}
/-- x.f = e, x one's own object -/
theorem rs_fld (i : Nat) {C : Addr} {q : Option Addr} {f : Str} {fs : List (Str × OT)} {t : OT} {p pos' : Pos} (he : En X H0 Γ e t) (cl : Cls X.K C) (n : NoAttr X.K C f) (hk : Rs X H0 (Γ.set i (.tr q (.obj C (putT f t fs)))) rest κ) (hΓ : Γ[i]? = some (.tr q (.obj C fs)) := by rfl) (hz : fs.length < 1000 := by exact Nat.le_of_ble_eq_true rfl)
    (hN : X.N[i]? = some x := by rfl) (hv : Vis X.env.scope x := by first | exact Or.inl rfl | exact Or.inr (Or.inl rfl) | exact Or.inr (Or.inr rfl)) (hdb : (x == ("__debug__" : Str)) = false := by decide) (hcd : (x == ("__classdict__" : Str)) = false := by decide)
    (hs : swapsWith e (some (.Attribute (.Name x p) f pos')) pos.line X.env = pure false := by rfl) : Rs X H0 Γ (.Assign [.Attribute (.Name x p) f pos'] e pos :: rest) κ :=
  rs_cons (fun Γ' => Γ' = Γ.set i (.tr q (.obj C (putT f t fs)))) (wkS (ps_fld (pe_var (i := i) hN hv hdb hcd) he hs) fun E σ H ⟨F, h, k⟩ => by
    obtain ⟨u, A, e1, o, nd, nA, hq, upd⟩ := h.mutG hΓ
    refine ⟨F, h, fun v B F1 H1 g1 o1 nd1 n1 => ⟨u, e1, ?_⟩⟩
    cases o with
    | @obj p _ dx vs ts A r1 r2 r3 =>
      obtain ⟨np, nd'⟩ := List.nodup_cons.mp nd
      have dj : ∀ a ∈ A, a ∉ B := fun a m m' => by
        obtain ⟨o, z⟩ := r3.dom a m
        rw [(n1 a m').1] at z
        cases z
      have pB : p ∉ B := fun m' => by
        rw [(n1 p m').1] at r1
        cases r1
      have pF : F1 p = none := g1.nf p _ r1 (nA p List.mem_cons_self).1
      obtain ⟨A', q1, q2, q3⟩ := own_putF o1 nd1 r2 (r3.mono g1.ff fun a _ o q => g1.kp a o q) nd' dj
      have pA : p ∉ A' := fun m => (q3 p m).elim np pB
      have ne : ∀ a ∈ A', a ≠ p := fun a m z => pA (z ▸ m)
      refine ⟨p, C, dx, vs, rfl, g1.kp _ _ r1, cl, n, ?_, ?_⟩
      · have z := congrArg List.length r2
        rw [List.length_map, List.length_map] at z
        rw [z]
        exact hz
      · refine k.nx F1 _ σ _ (h.tr g1) (upd F1 _ (.obj C (putT f t fs)) (p :: A') g1.ff (fun a o z => ?_) (fun a _ o z w => g1.nf a o z w) (.obj upd_same (putF_keys r2) (q1.mono (.refl _) fun a m o q => ?_)) (List.nodup_cons.mpr ⟨pA, q2⟩) (fun a m => ?_) fun a m o z => ?_) rfl
        · rw [upd_ne (ne_of_none z pF)]
          exact g1.fh _ _ z
        · rw [upd_ne (ne a m)]
          exact q
        · rcases List.mem_cons.mp m with z | m
          · subst z
            exact ⟨.inl List.mem_cons_self, pF⟩
          · rcases q3 a m with w | w
            · obtain ⟨o, z⟩ := r3.dom a w
              exact ⟨.inl (List.mem_cons_of_mem _ w), g1.nf a o z (nA a (List.mem_cons_of_mem _ w)).1⟩
            · exact ⟨.inr (n1 a w).1, (n1 a w).2⟩
        · rw [upd_ne (fun q : a = p => m (by rw [q]; exact List.mem_cons_self))]
          exact g1.kp _ _ z) fun Γ' q => q ▸ hk
/-- name = a new tree -/
theorem rs_setN (i : Nat) {pos' : Pos} {t : OT} (hN : X.N.Nodup) (he : En X H0 Γ e t) (hk : Rs X H0 (Γ.set i (.ow t)) rest κ) (hi : X.N[i]? = some x := by rfl) (hx : Loc X.env.scope x := by first | exact .inl rfl | exact .inr rfl) (hs : swapsWith e (some (.Name x pos')) pos.line X.env = pure false := by rfl)
    (hf : X.fn x = true ∨ X.env.scope.names.lookup x = some .local := by first | exact .inl rfl | exact .inr rfl | assumption) : Rs X H0 Γ (.Assign [.Name x pos'] e pos :: rest) κ :=
  rs_cons (fun Γ' => Γ' = Γ.set i (.ow t)) (wkS (ps_set (i := i) hN hi hx he hs hf) fun E σ H ⟨F, h, k⟩ => ⟨F, h, fun v A F' H' g o nd n => k.nx F' H' _ _ (h.tr g) (h.setN g i o nd n) rfl⟩) fun Γ' q => q ▸ hk
/-- xs[j].append(e), xs a list of one's own of such lists -/
theorem rs_app1 (i j : Nat) {q : Option Addr} {ts : List OT} {ic : Int} {jc : Nat} {apos cpos p p1 p2 : Pos} (he : Ev X H0 Γ e d) (hk : Rs X H0 (Γ.set i (.tr q (.lst (ts.set j (.lst ((xs ++ [d]).map .fz)))))) rest κ) (hz : xs.length < sizeLine) (ht : ts[j]? = some (.lst (xs.map .fz))) (hj : ic = (j : Int) := by rfl) (hΓ : Γ[i]? = some (.tr q (.lst ts)) := by rfl) (hN : X.N[i]? = some x := by rfl)
    (hv : Vis X.env.scope x := by first | exact Or.inl rfl | exact Or.inr (Or.inl rfl) | exact Or.inr (Or.inr rfl)) (hdb : (x == ("__debug__" : Str)) = false := by decide) (hcd : (x == ("__classdict__" : Str)) = false := by decide)
    (hse : starEach [e] X.env = (false, eval e X.env) :: starEach [] X.env := by rfl)
    (hbase : attributeBase (.Subscript (.Name x p) (.Constant (.int ic) jc p1) p2) "append" X.env (eval (.Subscript (.Name x p) (.Constant (.int ic) jc p1) p2) X.env) = eval (.Subscript (.Name x p) (.Constant (.int ic) jc p1) p2) X.env := by rfl)
    (hfew : ((backTo cpos (starEach [e] X.env)).all (fun x => !x.1) && (backToKw cpos (keywordEach [] X.env)).all (fun x => x.1.isSome)
      && decide (([e] : List Expr).length + ([] : List Keyword).length + (if ([] : List Keyword).isEmpty then 0 else 1) < 30)) = true := by rfl)
    (hline : (apos.endLine == cpos.line) = true := by rfl) (hpl : (backTo cpos (starEach [] X.env)).any (·.1) = false := by rfl)
    (hsw : swapsWith (.Call (.Attribute (.Subscript (.Name x p) (.Constant (.int ic) jc p1) p2) "append" apos) [e] [] cpos) none pos.line X.env = pure false := by rfl) (hix : PlainIx (.Constant (.int ic) jc p1) := by exact fun _ _ => rfl) :
    Rs X H0 Γ (.Expr (.Call (.Attribute (.Subscript (.Name x p) (.Constant (.int ic) jc p1) p2) "append" apos) [e] [] cpos) pos :: rest) κ := by
  subst hj
  exact rs_cons (fun Γ' => Γ' = Γ.set i (.tr q (.lst (ts.set j (.lst ((xs ++ [d]).map .fz)))))) (wkS (ps_expr (pe_bm PySem.F.plainAttrs_list PySem.F.slot_list_append PySem.F.type_list_append mt_append (pe_ix ix_list (pe_var (i := i) hN hv hdb hcd) pe_int hix) (pa_cons he pa_nil hse) hbase hfew hline hse hpl) hsw) fun E σ H ⟨F, h, k⟩ => by
    obtain ⟨u, A, e1, o, nd, nA, hq, upd⟩ := h.mutG hΓ
    cases o with
    | @lst p vs _ A r1 r2 =>
      obtain ⟨v, A1, B, A2, z1, z2, z3, z4⟩ := r2.at ht
      cases z2 with
      | @lst p1 us _ B' w1 w2 =>
        obtain ⟨w3, w4⟩ := w2.unfz
        subst w4
        subst z3
        refine ⟨_, e1, p, vs, _, _, rfl, rfl, .of r1, atI_nat z1, .inl ⟨rfl, us, .of w1⟩, F, h, fun y F' H' g r => ⟨p1, us, y, rfl, rfl, g.kp _ _ w1, by rw [w3.length]; exact hz, ?_⟩⟩
        have m1 : p1 ∈ p :: (A1 ++ ([p1] ++ A2)) := List.mem_cons_of_mem _ (List.mem_append_right _ (List.mem_append_left _ List.mem_cons_self))
        have nF : F' p1 = none := g.nf p1 _ w1 (nA p1 m1).1
        obtain ⟨np, nd1⟩ := List.nodup_cons.mp nd
        obtain ⟨_, nd2, nd3⟩ := List.nodup_append.mp nd1
        have nd4 := (List.nodup_cons.mp nd2).1
        have ne1 : ∀ a ∈ A1 ++ A2, a ≠ p1 := fun a m z => by
          subst z
          rcases List.mem_append.mp m with m | m
          · exact nd3 a m a List.mem_cons_self rfl
          · exact nd4 m
        have pne : p ≠ p1 := fun z => np (by rw [z]; exact List.mem_append_right _ (List.mem_append_left _ List.mem_cons_self))
        have q := z4 F' (L2.upd H' p1 (.lst (us ++ [y]))) (.ref p1) (.lst ((xs ++ [d]).map .fz)) [p1] g.ff (.lst upd_same (.fz ((w3.mono g.ff).snoc r))) fun a m o z => by
          rw [upd_ne (ne1 a m)]
          exact g.kp _ _ z
        rw [show vs.set j (V.ref p1) = vs from by
          obtain ⟨hl, e⟩ := List.getElem?_eq_some_iff.mp z1
          rw [← e, List.set_getElem_self]] at q
        refine k.nx F' _ σ _ (h.tr g) (upd F' _ _ (p :: (A1 ++ ([p1] ++ A2))) g.ff (fun a o z => ?_) (fun a _ o z w => g.nf a o z w) (.lst ?_ q) nd (fun a m => ⟨.inl m, ?_⟩) fun a m o z => ?_) rfl
        · rw [upd_ne (ne_of_none z nF)]
          exact g.fh _ _ z
        · rw [upd_ne pne]
          exact g.kp _ _ r1
        · obtain ⟨o, z⟩ : ∃ o, H a = some o := by
            rcases List.mem_cons.mp m with z | m
            · exact ⟨_, z ▸ r1⟩
            · exact r2.dom a m
          exact g.nf a o z (nA a m).1
        · rw [upd_ne (fun q : a = p1 => m (by rw [q]; exact m1))]
          exact g.kp _ _ z) fun Γ' q => q ▸ hk
end
end Dv

namespace Dv
open PySem PySem.Spec PyProof.Rows L2
/-! ### data that can be compared: of at most so many levels -/
mutual
def okD : D → Nat → Bool
  | .non, _ => true
  | .bl _, _ => true
  | .int _, _ => true
  | .str s, _ => PyData.strOk s
  | .lst _, 0 => false
  | .lst xs, n + 1 => okA xs n
  | .tup _, 0 => false
  | .tup xs, n + 1 => okA xs n
  | _, _ => false
def okA : List D → Nat → Bool
  | [], _ => true
  | x :: xs, n => okD x n && okA xs n
end
theorem okA_of {n : Nat} : ∀ {xs : List D}, (∀ x ∈ xs, okD x n = true) → okA xs n = true
  | [], _ => by rw [okA]
  | x :: xs, h => by
    rw [okA, h x List.mem_cons_self, okA_of fun y m => h y (List.mem_cons_of_mem _ m)]
    rfl
theorem okA_map {α : Type} {n : Nat} {f : α → D} {xs : List α} (h : ∀ x ∈ xs, okD (f x) n = true) : okA (xs.map f) n = true := okA_of fun y m => by
  obtain ⟨x, q, rfl⟩ := List.mem_map.mp m
  exact h x q
mutual
theorem okD_py : ∀ (d : D) (n : Nat), okD d n = true → datD d = true ∧ (toPy d).canLay0 = true ∧ (toPy d).depth ≤ n
  | .non, _, _ => ⟨rfl, rfl, Nat.zero_le _⟩
  | .bl _, _, _ => ⟨rfl, rfl, Nat.zero_le _⟩
  | .int _, _, _ => ⟨rfl, rfl, Nat.zero_le _⟩
  | .str _, _, h => ⟨rfl, h, Nat.zero_le _⟩
  | .lst xs, 0, h => by cases h
  | .lst xs, n + 1, h => by
    rw [okD] at h
    obtain ⟨a, b, c⟩ := okA_py xs n h
    rw [datD, toPy, PyData.canLay0, PyData.depth]
    exact ⟨a, b, Nat.succ_le_succ c⟩
  | .tup xs, 0, h => by cases h
  | .tup xs, n + 1, h => by
    rw [okD] at h
    obtain ⟨a, b, c⟩ := okA_py xs n h
    rw [datD, toPy, PyData.canLay0, PyData.depth]
    exact ⟨a, b, Nat.succ_le_succ c⟩
  | .scr _, _, h => by cases h
  | .obj _ _, _, h => by cases h
  | .dic _, _, h => by cases h
  | .dit _, _, h => by cases h
theorem okA_py : ∀ (ds : List D) (n : Nat), okA ds n = true → datA ds = true ∧ PyData.canLayAll0 (toPyA ds) = true ∧ PyData.depthAll (toPyA ds) ≤ n
  | [], _, _ => by rw [datA, toPyA, PyData.canLayAll0, PyData.depthAll]; exact ⟨rfl, rfl, Nat.zero_le _⟩
  | d :: ds, n, h => by
    rw [okA, Bool.and_eq_true] at h
    obtain ⟨a, b, c⟩ := okD_py d n h.1
    obtain ⟨a', b', c'⟩ := okA_py ds n h.2
    rw [datA, toPyA, PyData.canLayAll0, PyData.depthAll, a, a', b, b']
    exact ⟨rfl, rfl, Nat.max_le.mpr ⟨c, c'⟩⟩
end
theorem ok_shaped {d : D} (h : okD d 64 = true) : SeqAt.shaped (toPy d) = true := by
  obtain ⟨_, b, c⟩ := okD_py d 64 h
  unfold SeqAt.shaped
  rw [b, decide_eq_true c]
  rfl
theorem eqv_self {d : D} (h : okD d 64 = true) : PyData.eqv (toPy d) (toPy d) = true := SeqAt.eqv_refl _ (okD_py d 64 h).2.1
mutual
/-- of one kind: ints, texts, None and lists, tuples of such -/
def plD : D → Bool
  | .non => true
  | .int _ => true
  | .str _ => true
  | .lst xs => plA xs
  | .tup xs => plA xs
  | _ => false
def plA : List D → Bool
  | [] => true
  | x :: xs => plD x && plA xs
end
mutual
theorem eqv_pl : ∀ (a b : D), plD a = true → plD b = true → PyData.eqv (toPy a) (toPy b) = true → a = b
  | .non, b, _, h, e => by
    cases b <;> first | rfl | (cases h; done) | (cases e; done)
  | .int i, b, _, h, e => by
    cases b with
    | int j => rw [eq_of_beq (show (i == j) = true from e)]
    | bl _ => cases h
    | _ => first | cases e | cases h
  | .str i, b, _, h, e => by
    cases b with
    | str j => rw [eq_of_beq (show (i == j) = true from e)]
    | _ => first | cases e | cases h
  | .lst xs, b, g, h, e => by
    cases b with
    | lst ys => rw [eqv_plA xs ys g h e]
    | _ => first | cases e | cases h
  | .tup xs, b, g, h, e => by
    cases b with
    | tup ys => rw [eqv_plA xs ys g h e]
    | _ => first | cases e | cases h
  | .bl _, _, g, _, _ => by cases g
  | .scr _, _, g, _, _ => by cases g
  | .obj _ _, _, g, _, _ => by cases g
  | .dic _, _, g, _, _ => by cases g
  | .dit _, _, g, _, _ => by cases g
theorem eqv_plA : ∀ (a b : List D), plA a = true → plA b = true → PyData.eqvAll (toPyA a) (toPyA b) = true → a = b
  | [], [], _, _, _ => rfl
  | [], _ :: _, _, _, e => by rw [toPyA, toPyA, PyData.eqvAll] at e; cases e
  | _ :: _, [], _, _, e => by rw [toPyA, toPyA, PyData.eqvAll] at e; cases e
  | x :: xs, y :: ys, g, h, e => by
    rw [plA, Bool.and_eq_true] at g h
    rw [toPyA, toPyA, PyData.eqvAll, Bool.and_eq_true] at e
    rw [eqv_pl x y g.1 h.1 e.1, eqv_plA xs ys g.2 h.2 e.2]
end
section
variable {X : Cx} {H0 : Hp} {Γ : List Sl} {a b : Expr} {d d1 d2 : D}
theorem ec_eqW (ha : Ev X H0 Γ a d1) (hb : Ev X H0 Γ b d2) (p1 : okD d1 64 = true) (p2 : okD d2 64 = true) {k : Nat} (hr : Room k X.A) : Ec X H0 Γ .Eq a b (PyData.eqv (toPy d1) (toPy d2)) :=
  ec_eqD ha hb (okD_py _ _ p1).1 (okD_py _ _ p2).1 (ok_shaped p1) (ok_shaped p2) (by have := hr.un; omega)
theorem ec_neW (ha : Ev X H0 Γ a d1) (hb : Ev X H0 Γ b d2) (p1 : okD d1 64 = true) (p2 : okD d2 64 = true) {k : Nat} (hr : Room k X.A) : Ec X H0 Γ .NotEq a b (!PyData.eqv (toPy d1) (toPy d2)) :=
  ec_neD ha hb (okD_py _ _ p1).1 (okD_py _ _ p2).1 (ok_shaped p1) (ok_shaped p2) (by have := hr.un; omega)
/-- the same data -/
theorem ec_eqR (ha : Ev X H0 Γ a d) (hb : Ev X H0 Γ b d) (p : okD d 64 = true) {k : Nat} (hr : Room k X.A) : Ec X H0 Γ .Eq a b true := eqv_self p ▸ ec_eqW ha hb p p hr
theorem ec_neR (ha : Ev X H0 Γ a d) (hb : Ev X H0 Γ b d) (p : okD d 64 = true) {k : Nat} (hr : Room k X.A) : Ec X H0 Γ .NotEq a b false := by
  have z := ec_neW ha hb p p hr
  rw [eqv_self p] at z
  exact z
end
end Dv

namespace Dv
open PySem PySem.Spec PyProof.Rows L2
/-! ### what the top has written, and the law's own head -/
theorem dfn_mk {K : PySem.W.Frag} {h : Heap} {mg : Str → Option Value} (X : K.In h) (G : h.Ns mainGlobals mg) {x : Str} {st : Stmt} {ps : List Str} {f : Addr} {oc : Value} {od an : Option Addr} {osl : Array (Option Value)} {kV doc pm cdv ct : Value} (a : PySem.W.nsIn K mainGlobals x = some (some (.ref f)))
    (l : K.lookup f = some ⟨oc, od, .func (PySem.W.fnOf x x (defArgs st) (defBody st) (defScope st) .none kV doc pm an cdv ct), osl⟩) (c : PySem.W.codeIn K cdv x = true) (k : PySem.W.keepIn K (.ref f) = true)
    (b : ∀ (kV doc pm : Value) (an : Option Addr) (cdv ct : Value) (us : List Value), us.length = ps.length → bindArgs (PySem.W.fnOf x x (defArgs st) (defBody st) (defScope st) .none kV doc pm an cdv ct) ⟨us, []⟩ = pure (ps.zip us)) : Dfn K mg x st ps :=
  ⟨f, _, fun_mk l c k, PySem.W.mg_of X G a, (fun_mk l c k).binds b⟩
theorem use {p q : Prop} (h : p) (k : p → q) : q := k h
theorem noattr_mk {K : PySem.W.Frag} {C : Addr} {f : Str} (h : PySem.W.findIn K (.ref C) f = some none) : NoAttr K C f := h
/-- an __init__ as the top has left it -/
def Ini (K : PySem.W.Frag) (mg : Str → Option Value) (x qual : Str) (C : Addr) (st : Stmt) (ps : List Str) : Prop := Cls K C ∧ mg x = some (.ref C) ∧ ∃ f fd, Fun K "__init__" qual st f fd ∧ Mk K C f ∧ Binds K fd ps []
theorem ini_mk {K : PySem.W.Frag} {h : Heap} {mg : Str → Option Value} (X : K.In h) (G : h.Ns mainGlobals mg) {x qual : Str} {st : Stmt} {ps : List Str} {C f : Addr} {oc : Value} {od an : Option Addr} {osl : Array (Option Value)} {kV doc pm cdv ct : Value} (aC : PySem.W.nsIn K mainGlobals x = some (some (.ref C)))
    (a : PySem.W.findIn K (.ref C) "__init__" = some (some (.ref f))) (i : PySem.W.isFn K (.ref f) = true)
    (l : K.lookup f = some ⟨oc, od, .func (PySem.W.fnOf "__init__" qual (defArgs st) (defBody st) (defScope st) .none kV doc pm an cdv ct), osl⟩) (c : PySem.W.codeIn K cdv qual = true) (k : PySem.W.keepIn K (.ref f) = true)
    (pg : PySem.W.plainGet K C Str.empty = true) (hd : PySem.W.hasDictIn K C = true) (po : PySem.W.plainOver K C = true) (sa : PySem.W.findIn K (.ref C) "__setattr__" = some (some (.builtin "object.__setattr__"))) (mk : PySem.W.makesIn K C = true) (kc : PySem.W.keepIn K (.ref C) = true)
    (b : ∀ (kV doc pm : Value) (an : Option Addr) (cdv ct : Value) (us : List Value), us.length = ps.length → bindArgs (PySem.W.fnOf "__init__" qual (defArgs st) (defBody st) (defScope st) .none kV doc pm an cdv ct) ⟨us, []⟩ = pure (ps.zip us)) : Ini K mg x qual C st ps :=
  ⟨⟨pg, hd, po, sa⟩, PySem.W.mg_of X G aC, f, _, fun_mk l c k, ⟨mk, a, i, kc⟩, (fun_mk l c k).binds b⟩
theorem Ini.mak {P : Program} {w : World} {K : PySem.W.Frag} {mg : Str → Option Value} {base : Heap} {x qual : Str} {C : Addr} {st : Stmt} {ps : List Str} {k : Nat} {S : OT → List D → OT → D → Prop} (I : Ini K mg x qual C st ps) (h : ∀ {f fd}, Fun K "__init__" qual st f fd → FnOk P w K mg base CX0 k f fd ps (SpM K S)) : Mak P w K mg base k x C ps S := by
  obtain ⟨c, g, f, fd, F, m, b⟩ := I
  exact ⟨c, g, f, fd, h F, m, b⟩
/-- the promise of law: a script of at most 63 ints, True -/
def SsLaw (ds : List D) (r : D) : Prop := ∃ ns : List Int, ds = [.scr ns] ∧ ns.length ≤ 63 ∧ r = .bl true
theorem law_fn {P : Program} {w : World} {K : PySem.W.Frag} {mg : Str → Option Value} {x p : Str} {st : Stmt} {k : Nat} {S : List D → D → Prop} {fa : Addr} (Df : Dfn K mg x st [p]) (hfa : mg x = some (.ref fa))
    (hb : ∀ (kV doc pm : Value) (an : Option Addr) (cdv ct u : Value), bindArgs (PySem.W.fnOf x x (defArgs st) (defBody st) (defScope st) .none kV doc pm an cdv ct) ⟨[u], []⟩ = pure [(p, u)])
    (hC : ∀ base : Heap, K.In base → base.Ns mainGlobals mg → Cal P w K mg base k x [p] S) :
    ∃ fd : FuncData, (∀ (s : Shared) (u : Value), BindsTo s fd ⟨[u], []⟩ [(p, u)]) ∧ ∀ base : Heap, K.In base → base.Ns mainGlobals mg → FnOk P w K mg base CX0 k fa fd [p] (SpD K S) := by
  obtain ⟨f, fd, F, hm, b⟩ := Df
  rw [hfa] at hm
  cases hm
  obtain ⟨oc, od, kV, doc, pm, an, cdv, ct, osl, e, lk, hcd⟩ := F.ex
  refine ⟨fd, fun s u => ?_, fun base h1 h2 => ?_⟩
  · rw [e]
    exact .of_eq (hb kV doc pm an cdv ct u)
  · obtain ⟨f', fd', q1, q2, q3, q4, oc', od', osl', q5⟩ := (hC base h1 h2).ex
    rw [hfa] at q2
    cases q2
    rw [lk] at q5
    cases q5
    exact q1
theorem walk_end {l : PySem.W.OpenLaw} {q : Program} {loose : List Str} {XP : (Str → Option Value) → Heap → Prop} {YP : World → Heap → Prop} {d : DefRec} {K : Params → PySem.W.Frag} {st : Stmt} {k : Nat} {p : Str} (hn : l.most = some 63) (hdf : d.params.defaults = []) (hr : Room k callerA)
    (hY : ∀ (w : World) (h : Heap), YP w h → (K w.params).In h)
    (hb : ∀ (kV doc pm : Value) (an : Option Addr) (cdv ct u : Value), bindArgs (PySem.W.fnOf d.name d.name (defArgs st) (defBody st) (defScope st) .none kV doc pm an cdv ct) ⟨[u], []⟩ = pure [(p, u)])
    (F : ∀ (w : World) (mg : Str → Option Value) (h : Heap), (K w.params).In h → h.Ns mainGlobals mg → Dfn (K w.params) mg d.name st [p] ∧ ∀ base : Heap, (K w.params).In base → base.Ns mainGlobals mg → Cal l.prog w (K w.params) mg base k d.name [p] SsLaw) :
    PySem.W.WalkO q loose XP YP l.row.toRowW d [] (fun f vs => PySem.call f vs) :=
  L2.walk_of (n := 63) (k := k) (x := p) (CX := fun _ => CX0) (sp := fun w => SpD (K w.params) SsLaw) hn (by decide) hdf hr hY (fun w mg fa h KX G hfa => law_fn (F w mg h KX G).1 hfa hb (F w mg h KX G).2)
    (fun w H a ns hl _ hS => ⟨H, [.scr ns], .bl true, Same.refl H, .cons (.scr hS) .nil, ⟨ns, rfl, hl, rfl⟩, fun v F' H' g r => by
      cases r
      rfl⟩) fun _ _ _ _ _ z => z
end Dv

/-! Numbers as texts: what the papers write and read. -/
namespace Tx
open PySem PySem.Spec PyProof.Rows L2 Dv TL

def isDig (c : Nat) : Bool := decide (48 ≤ c ∧ c ≤ 57)
/-- a number from 0 on, as it is written -/
def plainL (l : List Nat) : Bool := (!l.isEmpty && decide (l.length ≤ 18)) && (l.all isDig && (decide (l = [48]) || !decide (l.head? = some 48)))
def signedL (l : List Nat) : Bool := if l.head? = some 45 then plainL l.tail && !decide (l = [45, 48]) else plainL l
def valL (l : List Nat) : Int := if l.head? = some 45 then -((NumText.digitsVal l.tail : Nat) : Int) else ((NumText.digitsVal l : Nat) : Int)
def numS (n : Int) : Str := Str.ofString (toString n)

theorem plain_dig {l : List Nat} (h : plainL l = true) : NumText.AllDigits l ∧ l ≠ [] ∧ l.length ≤ 18 := by
  unfold plainL at h
  simp only [Bool.and_eq_true, Bool.not_eq_true', decide_eq_true_eq, List.all_eq_true] at h
  obtain ⟨⟨h1, h2⟩, h3, _⟩ := h
  refine ⟨fun c hc => ?_, fun e => by rw [e] at h1; simp at h1, h2⟩
  have := h3 c hc
  unfold isDig at this
  exact of_decide_eq_true this
theorem len_str (s : Str) : s.length = (tl s).length := len_tl s
/-- int of a word that writes a number -/
theorem int_signed {s : Str} (h : signedL (tl s) = true) : PySem.intText? s = some (valL (tl s)) ∧ s.length ≤ 640 := by
  unfold signedL at h
  by_cases c : (tl s).head? = some 45
  · rw [if_pos c, Bool.and_eq_true] at h
    obtain ⟨h1, h2, h3⟩ := plain_dig h.1
    obtain ⟨cs, e⟩ : ∃ cs, tl s = 45 :: cs := by
      cases q : tl s with
      | nil => rw [q] at c; cases c
      | cons a r => rw [q] at c; cases c; exact ⟨r, rfl⟩
    have hl : s.length ≤ 640 := by
      rw [len_str, e]
      rw [e] at h3
      simp at h3 ⊢
      omega
    refine ⟨?_, hl⟩
    unfold valL
    rw [if_pos c]
    rw [e] at h1 h2
    have z := intText_neg (x := s) (cs := cs) e h1 h2 (by omega)
    rw [z, e]
    rfl
  · rw [if_neg c] at h
    obtain ⟨h1, h2, h3⟩ := plain_dig h
    have hl : s.length ≤ 640 := by
      rw [len_str]
      omega
    refine ⟨?_, hl⟩
    unfold valL
    rw [if_neg c]
    exact intText_digits h1 h2 (by omega)
theorem plain_signed {l : List Nat} (h : plainL l = true) : signedL l = true := by
  unfold signedL
  have d := (plain_dig h).1
  rw [if_neg, h]
  intro e
  cases l with
  | nil => cases e
  | cons a r =>
    cases e
    have := d 45 List.mem_cons_self
    omega
theorem numL_head {n : Nat} (h : n ≠ 0) : (numL n).head? ≠ some 48 := by
  induction n using Nat.strongRecOn with
  | _ n ih =>
    by_cases c : n < 10
    · rw [numL_lt c]
      intro e
      simp at e
      omega
    · rw [numL_step (by omega)]
      have := ih (n / 10) (by omega) (by omega)
      cases q : numL (n / 10) with
      | nil => exact absurd q (numL_ne _)
      | cons a r =>
        rw [q] at this
        simpa using this
theorem plain_num {n : Nat} (h : n < 10 ^ 18) : plainL (numL n) = true := by
  unfold plainL
  have hl := numL_len (n := n) (k := 18) (by decide) h
  have hd := numL_digits n
  have hn := numL_ne n
  simp only [Bool.and_eq_true, Bool.not_eq_true', decide_eq_true_eq, List.all_eq_true, Bool.or_eq_true, decide_eq_false_iff_not]
  refine ⟨⟨?_, hl⟩, fun c hc => ?_, ?_⟩
  · cases q : numL n with
    | nil => exact absurd q hn
    | cons a r => rfl
  · unfold isDig
    exact decide_eq_true (hd c hc)
  · by_cases z : n = 0
    · subst z
      exact .inl (by rw [numL_lt (by decide)])
    · exact .inr (numL_head z)
theorem tl_numS_nat (n : Nat) : tl (numS (n : Int)) = numL n := tl_num n
theorem tl_numS_neg {n : Nat} (h : n ≠ 0) : tl (numS (-(n : Int))) = 45 :: numL n := by
  unfold numS
  rw [toString_neg (by omega : -(n : Int) < 0)]
  rw [show (0 : Int) - (-(n : Int)) = (n : Int) by omega]
  rw [tl_ofString, String.toList_append, List.map_append]
  have e : List.map Char.toNat (toString ((n : Nat) : Int)).toList = numL n := by rw [← tl_ofString]; exact tl_num n
  rw [e]
  rfl
/-- the words of whole numbers below 10 ^ 18 -/
theorem signed_num {n : Int} (h : n.natAbs < 10 ^ 18) : signedL (tl (numS n)) = true ∧ valL (tl (numS n)) = n := by
  by_cases c : 0 ≤ n
  · obtain ⟨m, rfl⟩ := Int.eq_ofNat_of_zero_le c
    rw [tl_numS_nat]
    have hp := plain_num (n := m) (by simpa using h)
    refine ⟨plain_signed hp, ?_⟩
    unfold valL
    rw [if_neg, numL_val]
    intro e
    have d := numL_digits m
    cases q : numL m with
    | nil => rw [q] at e; cases e
    | cons a r =>
      rw [q] at e d
      cases e
      have := d 45 List.mem_cons_self
      omega
  · obtain ⟨m, hm⟩ : ∃ m : Nat, n = -(m : Int) := ⟨n.natAbs, by omega⟩
    subst hm
    have hm0 : m ≠ 0 := by omega
    rw [tl_numS_neg hm0]
    have hp := plain_num (n := m) (by simpa using h)
    refine ⟨?_, ?_⟩
    · unfold signedL
      rw [if_pos (show (45 :: numL m).head? = some 45 from rfl)]
      show (plainL (numL m) && !decide (45 :: numL m = [45, 48])) = true
      rw [hp, Bool.true_and, Bool.not_eq_true', decide_eq_false_iff_not]
      intro e
      have e2 : numL m = numL 0 := by
        rw [numL_lt (n := 0) (by decide)]
        exact (List.cons.inj e).2
      exact hm0 (numL_inj e2)
    · unfold valL
      rw [if_pos (show (45 :: numL m).head? = some 45 from rfl)]
      show -((NumText.digitsVal (numL m) : Nat) : Int) = _
      rw [numL_val]
theorem num_free {n : Int} {s : Nat} (h : s < 45 ∨ 57 < s) : s ∉ tl (numS n) := by
  by_cases c : 0 ≤ n
  · obtain ⟨m, rfl⟩ := Int.eq_ofNat_of_zero_le c
    rw [tl_numS_nat]
    exact numL_free (by omega)
  · obtain ⟨m, hm⟩ : ∃ m : Nat, n = -(m : Int) := ⟨n.natAbs, by omega⟩
    subst hm
    rw [tl_numS_neg (by omega)]
    intro z
    rcases List.mem_cons.mp z with z | z
    · omega
    · exact numL_free (by omega) z
theorem num_len {n : Int} (h : n.natAbs < 10 ^ 18) : (numS n).length ≤ 19 := by
  rw [len_str]
  by_cases c : 0 ≤ n
  · obtain ⟨m, rfl⟩ := Int.eq_ofNat_of_zero_le c
    rw [tl_numS_nat]
    have := numL_len (n := m) (k := 18) (by decide) (by simpa using h)
    omega
  · obtain ⟨m, hm⟩ : ∃ m : Nat, n = -(m : Int) := ⟨n.natAbs, by omega⟩
    subst hm
    rw [tl_numS_neg (by omega)]
    have := numL_len (n := m) (k := 18) (by decide) (by simpa using h)
    simp
    omega
theorem num_log {n : Int} (h : n.natAbs < 10 ^ 18) : n.natAbs.log2 < 1920 := by
  have h2 : n.natAbs < 2 ^ 60 := Nat.lt_trans h (by decide)
  by_cases z : n.natAbs = 0
  · rw [z]; decide
  · have := (Nat.log2_lt z).mpr h2
    omega
/-! ### lines -/
theorem join_len (s : Str) : ∀ ps : List Str, (Txt.join s ps).length + s.length ≤ (ps.map fun p => p.length + s.length).sum + s.length
  | [] => by
    rw [join_eq, len_str, tl_join]
    simp [joinL]
  | [p] => by
    rw [join_eq, len_str (Str.join s [p]), tl_join]
    show (joinL (tl s) [tl p]).length + _ ≤ _
    rw [joinL, ← len_str]
    simp
  | p :: q :: r => by
    have ih := join_len s (q :: r)
    rw [join_eq, len_str, tl_join] at ih ⊢
    rw [List.map_cons, List.map_cons, joinL, ← List.map_cons, List.length_append, List.length_append, ← len_str p, ← len_str s, List.map_cons (l := q :: r), List.sum_cons]
    omega
theorem join_free {s : Str} {c : Nat} (hs : c ∉ tl s) {ps : List Str} (h : ∀ p ∈ ps, c ∉ tl p) : c ∉ tl (Txt.join s ps) := by
  rw [join_eq, tl_join]
  have go : ∀ ls : List (List Nat), (∀ l ∈ ls, c ∉ l) → c ∉ joinL (tl s) ls := by
    intro ls
    induction ls with
    | nil => intro _ z; cases z
    | cons a r ih =>
      intro hh
      cases r with
      | nil => exact hh a List.mem_cons_self
      | cons b r =>
        intro z
        rw [joinL] at z
        rcases List.mem_append.mp z with z | z
        · exact hh a List.mem_cons_self z
        · rcases List.mem_append.mp z with z | z
          · exact hs z
          · exact ih (fun l m => hh l (List.mem_cons_of_mem _ m)) z
  refine go _ fun l m => ?_
  obtain ⟨p, hp, rfl⟩ := List.mem_map.mp m
  exact h p hp

/-! ### slices -/
theorem cut_from {α : Type} (xs : List α) (a : Nat) : cutL xs (some (a : Int)) none = xs.drop a := by
  unfold cutL
  rw [HT.sIx_nat, HT.sIx_none, List.take_of_length_le (by rw [List.length_drop]; exact Nat.le_refl _)]
  by_cases h : a ≤ xs.length
  · rw [Nat.min_eq_left h]
  · rw [Nat.min_eq_right (by omega), List.drop_length, List.drop_of_length_le (by omega)]
theorem cut_upto {α : Type} (xs : List α) (b : Nat) : cutL xs none (some (b : Int)) = xs.take b := by
  unfold cutL
  rw [HT.sIx_nat, HT.sIx_none, List.drop_zero, Nat.sub_zero]
  by_cases h : b ≤ xs.length
  · rw [Nat.min_eq_left h]
  · rw [Nat.min_eq_right (by omega), List.take_length, List.take_of_length_le (by omega)]
theorem cut_mid {α : Type} (xs : List α) (a b : Nat) : cutL xs (some (a : Int)) (some (b : Int)) = (xs.drop a).take (b - a) := by
  unfold cutL
  rw [HT.sIx_nat, HT.sIx_nat]
  by_cases h : a ≤ xs.length
  · rw [Nat.min_eq_left h]
    by_cases h2 : b ≤ xs.length
    · rw [Nat.min_eq_left h2]
    · rw [Nat.min_eq_right (by omega), List.take_of_length_le (l := xs.drop a) (by rw [List.length_drop]; exact Nat.le_refl _), List.take_of_length_le (l := xs.drop a) (by rw [List.length_drop]; omega)]
  · rw [Nat.min_eq_right (a := a) (by omega), List.drop_length, List.drop_of_length_le (by omega), List.take_nil, List.take_nil]
theorem cutS_tl (s : Str) (lo hi : Option Int) : tl (cutS s lo hi) = cutL (tl s) lo hi := by
  unfold cutS cutL
  rw [tl_mk, ← len_tl]
theorem cutL_map {α β : Type} (f : α → β) (xs : List α) (lo hi : Option Int) : cutL (xs.map f) lo hi = (cutL xs lo hi).map f := by
  unfold cutL
  rw [List.length_map, List.map_take, List.map_drop]
theorem cutL_mem {α : Type} {xs : List α} {lo hi : Option Int} {x : α} (h : x ∈ cutL xs lo hi) : x ∈ xs := List.mem_of_mem_drop (List.mem_of_mem_take h)
theorem sum_le {α : Type} {f : α → Nat} {B : Nat} : ∀ {xs : List α}, (∀ x ∈ xs, f x ≤ B) → (xs.map f).sum ≤ xs.length * B
  | [], _ => by simp
  | x :: xs, h => by
    rw [List.map_cons, List.sum_cons, List.length_cons, Nat.succ_mul]
    have h1 := h x List.mem_cons_self
    have h2 := sum_le (xs := xs) fun y m => h y (List.mem_cons_of_mem _ m)
    omega
theorem join_le {s : Str} {B : Nat} {ps : List Str} (h : ∀ p ∈ ps, p.length ≤ B) : (Txt.join s ps).length ≤ ps.length * (B + s.length) := by
  have z := join_len s ps
  have y := sum_le (f := fun p : Str => p.length + s.length) (B := B + s.length) (xs := ps) fun p m => Nat.add_le_add_right (h p m) _
  omega
/-- the line of a word and numbers -/
def stLine (w : Str) (ns : List Int) : Str := Txt.join " " (w :: ns.map numS)
def Small (ns : List Int) : Prop := ∀ n ∈ ns, n.natAbs < 10 ^ 18
theorem line_words {w : Str} {ns : List Int} (hw : 32 ∉ tl w) : Txt.split (stLine w ns) " " = w :: ns.map numS := by
  refine split_join (s := 32) (S := []) (by decide +kernel) (by decide +kernel) (by simp) fun p m => ?_
  rcases List.mem_cons.mp m with m | m
  · subst m
    exact hw
  · obtain ⟨n, _, rfl⟩ := List.mem_map.mp m
    exact num_free (by omega)
theorem line_free {w : Str} {ns : List Int} (hw : 10 ∉ tl w) : 10 ∉ tl (stLine w ns) := by
  refine join_free (by decide +kernel) fun p m => ?_
  rcases List.mem_cons.mp m with m | m
  · subst m
    exact hw
  · obtain ⟨n, _, rfl⟩ := List.mem_map.mp m
    exact num_free (by omega)
theorem line_len {w : Str} {ns : List Int} (hs : Small ns) (hw : w.length ≤ 19) : (stLine w ns).length ≤ (ns.length + 1) * 20 := by
  have h := join_le (s := " ") (B := 19) (ps := w :: ns.map numS) fun p m => by
    rcases List.mem_cons.mp m with m | m
    · subst m
      exact hw
    · obtain ⟨n, q, rfl⟩ := List.mem_map.mp m
      exact num_len (hs n q)
  rw [List.length_cons, List.length_map] at h
  exact h
end Tx

namespace Lw
open PySem PySem.Spec PyProof.Rows L2 Dv
def topS (i : Nat) : Stmt := PySem.Challenge.pw_lassoproof_k76_lassos_written_and_read.main.body.getD i (.Pass ⟨0, 0, 0, 0⟩)
structure Txt (mg : Str → Option Value) : Prop where
  len : mg "len" = none
  range : mg "range" = none
  int : mg "int" = none
  str : mg "str" = none
  list : mg "list" = none
  tuple : mg "tuple" = none
  bool : mg "bool" = none
  isinstance : mg "isinstance" = none
  all : mg "all" = none
  DIGITS : ∃ t, mg "DIGITS" = some (.str "0123456789" t)
  MOST_DIGITS : ∃ t, mg "MOST_DIGITS" = some (.int 18 t)
end Lw

namespace Lw
open PySem PySem.Spec PyProof.Rows L2 Dv
/-! ### draws: the mathematics -/
def cellAt (ns : List Int) (at' : Nat) : Int := if (at' : Int) < (ns.length : Int) then ns.getD at' 0 else 0
def two (c : Int) (at' : Nat) (k : Nat) : Int :=
  let one := (c * 48271 + ((k : Int) + 1) * 69621 + (at' : Int) * 104729) % 2147483647
  (one * one + one / 1000 + 7919 * (k : Int)) % 1000003
def drSt (c : Int) (at' : Nat) (sizes : List Int) : Nat → Int × List Int
  | 0 => (if c ≥ 1000000000000000000 then c else 0, [])
  | i + 1 =>
    let p := drSt c at' sizes i
    let s := sizes.getD i 1
    if 0 < p.1 then (p.1 / s, p.2 ++ [p.1 % s]) else (p.1, p.2 ++ [two c at' i % s])
def draws (ns : List Int) (at' : Nat) (sizes : List Int) : List Int := (drSt (cellAt ns at') at' sizes sizes.length).2
theorem drSt_len (c : Int) (at' : Nat) (sizes : List Int) : ∀ i, (drSt c at' sizes i).2.length = i
  | 0 => rfl
  | i + 1 => by
    have ih := drSt_len c at' sizes i
    unfold drSt
    dsimp only
    split <;> simp [ih]
theorem draws_len (ns : List Int) (at' : Nat) (sizes : List Int) : (draws ns at' sizes).length = sizes.length := drSt_len _ _ _ _
def OkSizes (sizes : List Int) : Prop := ∀ s ∈ sizes, 0 < s ∧ s < 1073741824
theorem drSt_get (c : Int) (at' : Nat) (sizes : List Int) (hs : OkSizes sizes) : ∀ (i j : Nat) (v : Int), i ≤ sizes.length → (drSt c at' sizes i).2[j]? = some v → ∃ s, sizes[j]? = some s ∧ 0 ≤ v ∧ v < s
  | 0, j, v, _, h => by simp [drSt] at h
  | i + 1, j, v, hi, h => by
    have hl := drSt_len c at' sizes i
    have hx : sizes[i]? = some sizes[i] := by simp [show i < sizes.length by omega]
    have e : sizes.getD i 1 = sizes[i] := by rw [List.getD_eq_getElem?_getD, hx]; rfl
    have p := hs _ (List.getElem_mem (show i < sizes.length by omega))
    have key : ∀ z : Int, ((drSt c at' sizes i).2 ++ [z % sizes[i]])[j]? = some v → ∃ s, sizes[j]? = some s ∧ 0 ≤ v ∧ v < s := fun z h => by
      by_cases hj : j < i
      · rw [List.getElem?_append_left (by omega)] at h
        exact drSt_get c at' sizes hs i j v (by omega) h
      · rw [List.getElem?_append_right (by omega), hl] at h
        have : j = i := by
          have := (List.getElem?_eq_some_iff.mp h).1
          simp at this
          omega
        subst this
        simp at h
        subst h
        exact ⟨_, hx, Int.emod_nonneg _ (by omega), Int.emod_lt_of_pos _ p.1⟩
    unfold drSt at h
    dsimp only at h
    rw [e] at h
    split at h
    · exact key _ h
    · exact key _ h
theorem draws_get {ns : List Int} {at' : Nat} {sizes : List Int} (hs : OkSizes sizes) {j : Nat} {v : Int} (h : (draws ns at' sizes)[j]? = some v) : ∃ s, sizes[j]? = some s ∧ 0 ≤ v ∧ v < s := drSt_get _ _ _ hs _ j v (Nat.le_refl _) h

theorem atI_at {α : Type} {xs : List α} {i : Nat} {x : α} (h : xs[i]? = some x) : atI xs (i : Int) = some x := atI_nat h
section
variable {P : Program} {w : World} {K : PySem.W.Frag} {mg : Str → Option Value} {base : Heap}
abbrev s_l_draws : Stmt := topS 17
theorem cs_l_draws : FnScope ["_law_script", "_law_at", "_law_sizes", "_law_cell", "_law_rest", "_law_row", "_law_k", "_law_one", "_law_two"] ["_law_script", "_law_at", "_law_sizes"] (defScope s_l_draws) := ⟨rfl, rfl, rfl, by decide +kernel, rfl, by decide +kernel, by decide +kernel⟩
def Ss_l_draws (ds : List D) (r : D) : Prop := ∃ (ns : List Int) (at' : Nat) (sizes : List Int), ds = [.scr ns, .int at', .lst (sizes.map D.int)] ∧ OkSizes sizes ∧ sizes.length ≤ 1000000 ∧ r = .lst ((draws ns at' sizes).map D.int)
theorem oks_l_draws (Df : Dfn K mg "_law_draws" s_l_draws ["_law_script", "_law_at", "_law_sizes"]) (T : Txt mg) : Cal P w K mg base 1 "_law_draws" ["_law_script", "_law_at", "_law_sizes"] Ss_l_draws := by
  refine cal_ok Df cs_l_draws (fun ds r h => ?_) (fun f cdv A outer s H E ds r hr h => ?_)
  · obtain ⟨ns, at', sizes, rfl, _⟩ := h
    rfl
  obtain ⟨ns, at', sizes, rfl, hs, hz, rfl⟩ := h
  show Rs _ _ [.da (.scr ns), .da (.int at'), .da (.lst (sizes.map D.int)), .un, .un, .un, .un, .un, .un] _ _
  have nd := cs_l_draws.nd
  refine rs_set 3 nd ev_i ?_
  refine rs_ifset 3 (d := .int (ns.getD at' 0)) nd (et_c (ec_lt (ev_v 1) (ev_lenC T.len (ev_v 0)))) (fun hc => ev_ixC (ev_v 0) (ev_v 1) ?ix) ?_
  case ix =>
    have h : (at' : Int) < ns.length := of_decide_eq_true hc
    refine atI_at ?_
    rw [List.getD_eq_getElem?_getD]
    simp [show at' < ns.length by omega]
  rw [show (if decide ((at' : Int) < (ns.length : Int)) then D.int (ns.getD at' 0) else D.int 0) = D.int (cellAt ns at') by unfold cellAt; by_cases h : (at' : Int) < (ns.length : Int) <;> simp [h]]
  generalize hcell : cellAt ns at' = c
  refine rs_set 4 nd ev_i ?_
  refine rs_ifset 4 nd (et_c (ec_ge (ev_v 3) (ev_pow ev_i ev_i))) (fun hc => (ev_v 3)) ?_
  rw [show (if decide ((10 : Int) ^ (18 : Int).toNat ≤ c) then D.int c else D.int 0) = D.int (drSt c at' sizes 0).1 by
    have e : (10 : Int) ^ (18 : Int).toNat = 1000000000000000000 := by decide
    rw [e]
    unfold drSt
    by_cases h : (1000000000000000000 : Int) ≤ c
    · simp [h, show c ≥ 1000000000000000000 from h]
    · simp [h]]
  refine rs_setO 5 nd (eo_lst ea_nil) ?_
  refine rs_forG (fun i => [.da (.scr ns), .da (.int at'), .da (.lst (sizes.map D.int)), .da (.int c), .da (.int (drSt c at' sizes i).1), .ol ((drSt c at' sizes i).2.map D.int), .un, .un, .un]) PassesOwn.never (ei_r1 T.range (ev_len T.len (er_d (ev_v 2))) ?hn) (tg_n 6 nd) ?s0 (fun i d hd => ?_) ?_
  case hn =>
    rw [List.length_map]
    omega
  case s0 => exact .eq rfl (.eq rfl (.eq rfl (.eq rfl (.eq rfl (.eq rfl (.un (.un (.un .nil))))))))
  · obtain ⟨hi, rfl⟩ := get_range hd
    rw [List.length_map, Int.toNat_natCast] at hi
    refine ⟨_, rfl, ?_⟩
    have hx : sizes[i]? = some sizes[i] := by simp [hi]
    have eD : sizes.getD i 1 = sizes[i] := by rw [List.getD_eq_getElem?_getD, hx]; rfl
    have p := hs _ (List.getElem_mem hi)
    have hl := drSt_len c at' sizes i
    refine rs_last (rn_if (et_c (ec_gt (ev_v 4) ev_i)) (fun hc => ?_) (fun hc => ?_))
    · have hc' : 0 < (drSt c at' sizes i).1 := of_decide_eq_true hc
      refine rs_app 5 (ev_mod (ev_intI T.int (ev_v 4)) (ev_ix (er_d (ev_v 2)) (ev_v 6) (at_map hx)) p.1) ?_ ?hz
      case hz => rw [List.length_map, hl]; exact Nat.lt_of_lt_of_le hi (Nat.le_trans hz (by decide))
      refine rs_set 4 nd (ev_div (ev_v 4) (ev_ix (er_d (ev_v 2)) (ev_v 6) (at_map hx)) p) ?_
      refine rs_nil ?_
      show Sub _ _
      have e : drSt c at' sizes (i + 1) = ((drSt c at' sizes i).1 / sizes[i], (drSt c at' sizes i).2 ++ [(drSt c at' sizes i).1 % sizes[i]]) := by
        rw [drSt, eD, if_pos hc']
      rw [e]
      exact .eq rfl (.eq rfl (.eq rfl (.eq rfl (.eq rfl (.eq (by simp) (.un (.un (.un .nil))))))))
    · have hc' : ¬ 0 < (drSt c at' sizes i).1 := of_decide_eq_false hc
      refine rs_set 7 nd (ev_mod (ev_intI T.int (ev_add (ev_add (ev_mul (ev_v 3) ev_i) (ev_mul (ev_add (ev_v 6) ev_i) ev_i)) (ev_mul (ev_v 1) ev_i))) ev_i) ?_
      refine rs_set 8 nd (ev_mod (ev_intI T.int (ev_add (ev_add (ev_mul (ev_v 7) (ev_v 7)) (ev_div (ev_v 7) ev_i)) (ev_mul ev_i (ev_v 6)))) ev_i) ?_
      refine rs_app 5 (ev_mod (ev_intI T.int (ev_v 8)) (ev_ix (er_d (ev_v 2)) (ev_v 6) (at_map hx)) p.1) ?_ ?hz
      case hz => rw [List.length_map, hl]; exact Nat.lt_of_lt_of_le hi (Nat.le_trans hz (by decide))
      refine rs_nil ?_
      show Sub _ _
      have e : drSt c at' sizes (i + 1) = ((drSt c at' sizes i).1, (drSt c at' sizes i).2 ++ [two c at' i % sizes[i]]) := by
        rw [drSt, eD, if_neg hc']
      rw [e]
      exact .eq rfl (.eq rfl (.eq rfl (.eq rfl (.eq rfl (.eq (by simp [two]) (.un (.un (.un .nil))))))))
  refine rs_freeze 5 rfl ?_
  refine rs_ret (ev_v 5) ?_
  show D.lst _ = D.lst _
  rw [List.length_map, List.length_range, List.length_map, Int.toNat_natCast, ← hcell]
  rfl
end
end Lw

namespace Lw
open PySem PySem.Spec PyProof.Rows L2 Dv Tx TL
theorem sz6 {n : Nat} (h : n ≤ 1000000) : n ≤ sizeLine := Nat.le_trans h (by decide)
theorem sz6' {n : Nat} (h : n ≤ 1000000) : n < sizeLine := Nat.lt_of_le_of_lt h (by decide)
section
variable {P : Program} {w : World} {K : PySem.W.Frag} {mg : Str → Option Value} {base : Heap}
/-! ### is_plain -/
abbrev s_is_plain : Stmt := topS 6
theorem cs_is_plain : FnScope ["word", "char"] ["word"] (defScope s_is_plain) := ⟨rfl, rfl, rfl, by decide +kernel, rfl, by decide +kernel, by decide +kernel⟩
def Ss_is_plain (ds : List D) (r : D) : Prop := ∃ s : Str, ds = [.str s] ∧ s.length ≤ 1000000 ∧ r = .bl (plainL (tl s))
theorem str_nil {s : Str} : s = ("" : Str) ↔ tl s = [] := ⟨fun e => by rw [e]; rfl, fun e => ext_tl e⟩
theorem dig_mem {c : Nat} : decide (c ∈ ("0123456789" : Str).cps.toList) = isDig c := by
  have e : ("0123456789" : Str).cps.toList = [48, 49, 50, 51, 52, 53, 54, 55, 56, 57] := by decide +kernel
  rw [e]
  unfold isDig
  rw [Bool.eq_iff_iff, decide_eq_true_eq, decide_eq_true_eq]
  simp only [List.mem_cons, List.not_mem_nil, or_false]
  omega
theorem oks_is_plain (Df : Dfn K mg "is_plain" s_is_plain ["word"]) (T : Txt mg) : Cal P w K mg base 1 "is_plain" ["word"] Ss_is_plain := by
  refine cal_ok Df cs_is_plain (fun ds r h => ?_) (fun f cdv A outer s H E ds r hr h => ?_)
  · obtain ⟨s, rfl, _⟩ := h
    rfl
  obtain ⟨s, rfl, hz, rfl⟩ := h
  show Rs _ _ [.da (.str s), .un] _ _
  have nd := cs_is_plain.nd
  obtain ⟨tD, hD⟩ := T.DIGITS
  obtain ⟨tM, hM⟩ := T.MOST_DIGITS
  have hl := len_str s
  refine rs_if1 (et_w (ew_or (et_c (ec_eqS (ev_v 0) ev_s)) (fun _ => (ew_or1 (et_c (ec_gt (ev_lenS T.len (ev_v 0) (sz6 hz)) (ev_gI hM))))))) (fun hc => ?_) (fun hc => ?_)
  · skip
    refine rs_ret ev_b ?_
    show D.bl false = D.bl _
    rw [Bool.or_eq_true, decide_eq_true_eq, decide_eq_true_eq, str_nil] at hc
    have e : plainL (tl s) = false := by
      unfold plainL
      rcases hc with hc | hc
      · rw [hc]; rfl
      · rw [show decide ((tl s).length ≤ 18) = false from decide_eq_false (by omega), Bool.and_false, Bool.false_and]
    rw [e]
  rw [Bool.or_eq_false_iff, decide_eq_false_iff_not, decide_eq_false_iff_not, str_nil] at hc
  refine rs_forP (fun i => [.da (.str s), .un]) (fun i => ((tl s).take i).all isDig = true) (fun _ => False) PassesOwn.never (ei_s (ev_v 0)) (tg_n 1 nd) (Sub.refl _) rfl (fun i d hd hP => ?_) (fun hP => ?_) (fun _ z => z.elim)
  · obtain ⟨c, hy, rfl⟩ := get_inj hd
    refine ⟨_, rfl, ?_⟩
    refine rs_if1 (et_c (ec_niC (ev_v 1) (ev_gS hD))) (fun hc => ?_) (fun hc => ?_)
    · skip
      refine rs_ret ev_b ?_
      show D.bl false = D.bl _
      rw [dig_mem, Bool.not_eq_true'] at hc
      have e : (tl s).all isDig = false := by
        rw [List.all_eq_false]
        exact ⟨c, List.mem_of_getElem? hy, by rw [hc]; decide⟩
      unfold plainL
      rw [e, Bool.false_and, Bool.and_false]
    · rw [dig_mem, Bool.not_eq_false'] at hc
      refine rs_nil ⟨.eq rfl (.un .nil), ?_⟩
      rw [List.take_add_one, hy, List.all_append, hP]
      show (true && (isDig c && true)) = true
      rw [hc]
      rfl
  rw [List.length_map, List.take_length] at hP
  obtain ⟨c0, r0, e0⟩ : ∃ c r, tl s = c :: r := by
    cases q : tl s with
    | nil => exact absurd q hc.1
    | cons c r => exact ⟨c, r, rfl⟩
  refine rs_ret (ev_or (ev_c (ec_eqS (ev_v 0) ev_s)) (fun _ => (ev_one (ev_c (ec_neS (ev_ixS (ev_v 0) ev_i (c := c0) ?ix (sz6 hz)) ev_s))))) ?_
  case ix =>
    show atI (tl s) 0 = some c0
    rw [e0]
    exact atI_nat (j := 0) rfl
  show D.bl _ = D.bl _
  have e1 : decide (s = ("0" : Str)) = decide (tl s = [48]) := by
    rw [Bool.eq_iff_iff, decide_eq_true_eq, decide_eq_true_eq]
    exact ⟨fun e => by rw [e]; rfl, fun e => ext_tl e⟩
  have e2 : decide ((⟨#[c0]⟩ : Str) = ("0" : Str)) = decide ((tl s).head? = some 48) := by
    rw [Bool.eq_iff_iff, decide_eq_true_eq, decide_eq_true_eq, e0]
    constructor
    · intro e
      have := congrArg tl e
      rw [show tl (⟨#[c0]⟩ : Str) = [c0] from rfl, show tl ("0" : Str) = [48] from rfl] at this
      cases this
      rfl
    · intro e
      cases e
      rfl
  unfold plainL
  rw [e1, e2, hP, decide_eq_true (by omega : (tl s).length ≤ 18), show (tl s).isEmpty = false by rw [e0]; rfl]
  rfl

/-! ### is_signed -/
abbrev s_is_signed : Stmt := topS 7
theorem cs_is_signed : FnScope ["word"] ["word"] (defScope s_is_signed) := ⟨rfl, rfl, rfl, by decide +kernel, rfl, by decide +kernel, by decide +kernel⟩
def Ss_is_signed (ds : List D) (r : D) : Prop := ∃ s : Str, ds = [.str s] ∧ s.length ≤ 1000000 ∧ r = .bl (signedL (tl s))
theorem oks_is_signed (Df : Dfn K mg "is_signed" s_is_signed ["word"]) (T : Txt mg) (Cis_plain : Cal P w K mg base 1 "is_plain" ["word"] Ss_is_plain) : Cal P w K mg base 2 "is_signed" ["word"] Ss_is_signed := by
  refine cal_ok Df cs_is_signed (fun ds r h => ?_) (fun f cdv A outer s H E ds r hr h => ?_)
  · obtain ⟨s, rfl, _⟩ := h
    rfl
  obtain ⟨s, rfl, hz, rfl⟩ := h
  show Rs _ _ [.da (.str s)] _ _
  have nd := cs_is_signed.nd
  have e1 : tl (cutS s none (some 1)) = (tl s).take 1 := by rw [cutS_tl]; exact cut_upto (tl s) 1
  have e2 : tl (cutS s (some 1) none) = (tl s).drop 1 := by rw [cutS_tl]; exact cut_from (tl s) 1
  have e3 : decide (cutS s none (some 1) = ("-" : Str)) = decide ((tl s).head? = some 45) := by
    rw [Bool.eq_iff_iff, decide_eq_true_eq, decide_eq_true_eq]
    constructor
    · intro e
      have := congrArg tl e
      rw [e1, show tl ("-" : Str) = [45] from rfl] at this
      cases q : tl s with
      | nil => rw [q] at this; cases this
      | cons a r => rw [q] at this; cases this; rfl
    · intro e
      refine ext_tl ?_
      rw [e1, show tl ("-" : Str) = [45] from rfl]
      cases q : tl s with
      | nil => rw [q] at e; cases e
      | cons a r => rw [q] at e; cases e; rfl
  refine rs_if1 (et_c (ec_eqS (ev_slS (ev_v 0) ep_n (ep_s ev_i) (sz6 hz)) ev_s)) (fun hc => ?_) (fun hc => ?_)
  · skip
    refine rs_ret (ev_and (ev_cal Cis_plain hr (ea_cons (ev_slS (ev_v 0) (ep_s ev_i) ep_n (sz6 hz)) ea_nil) ⟨_, rfl, Nat.le_trans (cutS_length _ _ _) hz, rfl⟩) (fun _ => (ev_one (ev_c (ec_neS (ev_v 0) ev_s))))) ?_
    show D.bl _ = D.bl _
    rw [e3, decide_eq_true_eq] at hc
    unfold signedL
    rw [if_pos hc, e2, List.drop_one]
    have e4 : decide (s = ("-0" : Str)) = decide (tl s = [45, 48]) := by
      rw [Bool.eq_iff_iff, decide_eq_true_eq, decide_eq_true_eq]
      exact ⟨fun e => by rw [e]; rfl, fun e => ext_tl e⟩
    rw [e4]
  refine rs_ret (ev_cal Cis_plain hr (ea_cons (ev_v 0) ea_nil) ⟨_, rfl, hz, rfl⟩) ?_
  show D.bl _ = D.bl _
  rw [e3, decide_eq_false_iff_not] at hc
  unfold signedL
  rw [if_neg hc]
/-! ### all_signed -/
abbrev s_all_signed : Stmt := topS 8
theorem cs_all_signed : FnScope ["words", "word"] ["words"] (defScope s_all_signed) := ⟨rfl, rfl, rfl, by decide +kernel, rfl, by decide +kernel, by decide +kernel⟩
def Ss_all_signed (ds : List D) (r : D) : Prop := ∃ ws : List Str, ds = [.lst (ws.map D.str)] ∧ ws.length ≤ 1000000 ∧ (∀ w ∈ ws, w.length ≤ 1000000) ∧ r = .bl (ws.all fun w => signedL (tl w))
theorem oks_all_signed (Df : Dfn K mg "all_signed" s_all_signed ["words"]) (T : Txt mg) (Cis_signed : Cal P w K mg base 2 "is_signed" ["word"] Ss_is_signed) : Cal P w K mg base 3 "all_signed" ["words"] Ss_all_signed := by
  refine cal_ok Df cs_all_signed (fun ds r h => ?_) (fun f cdv A outer s H E ds r hr h => ?_)
  · obtain ⟨ws, rfl, _⟩ := h
    rfl
  obtain ⟨ws, rfl, hz, hw, rfl⟩ := h
  show Rs _ _ [.da (.lst (ws.map D.str)), .un] _ _
  have nd := cs_all_signed.nd
  refine rs_ret (ev_all T.all (bs := ws.map fun w => signedL (tl w)) (er_o (eo_eq (eo_lc1 (inj := D.str) (f := fun w => D.bl (signedL (tl w))) 1 rfl nd (ei_l (ev_v 0)) (blkOk_by (own := [("word", 1)]) (N := ["words", "word"]) (sc := defScope s_all_signed) (by decide +kernel)) (sz6 hz) (fun _ _ _ _ _ => pg_name (i := 1) nd rfl (Or.inl rfl)) (fun y hy _ _ _ _ _ => (ev_cal Cis_signed hr (ea_cons (ev_v 1) ea_nil) ⟨y, rfl, hw y hy, rfl⟩))) (by rw [List.map_map]; rfl)))) ?_
  show D.bl _ = D.bl _
  rw [List.all_map]
  rfl
/-! ### numbers_of -/
abbrev s_numbers_of : Stmt := topS 9
theorem cs_numbers_of : FnScope ["words", "word"] ["words"] (defScope s_numbers_of) := ⟨rfl, rfl, rfl, by decide +kernel, rfl, by decide +kernel, by decide +kernel⟩
def Ss_numbers_of (ds : List D) (r : D) : Prop := ∃ ws : List Str, ds = [.lst (ws.map D.str)] ∧ ws.length ≤ 1000000 ∧ (∀ w ∈ ws, signedL (tl w) = true) ∧ r = .lst ((ws.map fun w => valL (tl w)).map D.int)
theorem oks_numbers_of (Df : Dfn K mg "numbers_of" s_numbers_of ["words"]) (T : Txt mg) : Cal P w K mg base 1 "numbers_of" ["words"] Ss_numbers_of := by
  refine cal_ok Df cs_numbers_of (fun ds r h => ?_) (fun f cdv A outer s H E ds r hr h => ?_)
  · obtain ⟨ws, rfl, _⟩ := h
    rfl
  obtain ⟨ws, rfl, hz, hw, rfl⟩ := h
  show Rs _ _ [.da (.lst (ws.map D.str)), .un] _ _
  have nd := cs_numbers_of.nd
  refine rs_ret (ev_o (eo_lc1 (inj := D.str) (f := fun w => D.int (valL (tl w))) 1 rfl nd (ei_l (ev_v 0)) (blkOk_by (own := [("word", 1)]) (N := ["words", "word"]) (sc := defScope s_numbers_of) (by decide +kernel)) (sz6 hz) (fun _ _ _ _ _ => pg_name (i := 1) nd rfl (Or.inl rfl)) (fun y hy _ _ _ _ _ => (ev_intS T.int (ev_v 1) (int_signed (hw y hy)).1 (int_signed (hw y hy)).2)))) ?_
  show D.lst _ = D.lst _
  rw [List.map_map]
  rfl
/-! ### state_line -/
abbrev s_state_line : Stmt := topS 11
theorem cs_state_line : FnScope ["word", "state", "number"] ["word", "state"] (defScope s_state_line) := ⟨rfl, rfl, rfl, by decide +kernel, rfl, by decide +kernel, by decide +kernel⟩
def tupI (ns : List Int) : D := .tup (ns.map D.int)
def Ss_state_line (ds : List D) (r : D) : Prop := ∃ (w : Str) (ns : List Int), ds = [.str w, tupI ns] ∧ w.length ≤ 19 ∧ ns.length ≤ 1000 ∧ Small ns ∧ r = .str (stLine w ns)
theorem oks_state_line (Df : Dfn K mg "state_line" s_state_line ["word", "state"]) (T : Txt mg) : Cal P w K mg base 1 "state_line" ["word", "state"] Ss_state_line := by
  refine cal_ok Df cs_state_line (fun ds r h => ?_) (fun f cdv A outer s H E ds r hr h => ?_)
  · obtain ⟨w, ns, rfl, _⟩ := h
    rfl
  obtain ⟨w, ns, rfl, hw, hz, hs, rfl⟩ := h
  show Rs _ _ [.da (.str w), .da (.tup (ns.map D.int)), .un] _ _
  have nd := cs_state_line.nd
  refine rs_ret (ev_join (ts := w :: ns.map numS) ev_s (er_o (eo_eq (eo_cat (er_o (eo_lst (ea_cons (ev_v 0) ea_nil))) (er_o (eo_lc1 (inj := D.int) (f := fun n => D.str (numS n)) 2 rfl nd (ei_t (ev_v 1)) (blkOk_by (own := [("number", 2)]) (N := ["word", "state", "number"]) (sc := defScope s_state_line) (by decide +kernel)) (sz6 (by omega)) (fun _ _ _ _ _ => pg_name (i := 2) nd rfl (Or.inl rfl)) (fun y hy _ _ _ _ _ => (ev_strI T.str (ev_v 2) (num_log (hs y hy)))))) ?h1) ?h2)) ?h3) ?_
  case h1 =>
    rw [List.length_map]
    exact sz6 (by show 1 + ns.length ≤ 1000000; omega)
  case h2 =>
    rw [List.map_cons, List.map_map]
    rfl
  case h3 =>
    have z := sum_le (f := fun p : Str => p.length) (B := 19) (xs := w :: ns.map numS) fun p m => by
      rcases List.mem_cons.mp m with m | m
      · subst m
        exact hw
      · obtain ⟨n, q, rfl⟩ := List.mem_map.mp m
        exact num_len (hs n q)
    rw [List.length_cons, List.length_map] at z ⊢
    have e : (" " : Str).length = 1 := by decide +kernel
    rw [e]
    omega
  rfl
/-! ### write_lasso -/
abbrev s_write_lasso : Stmt := topS 12
theorem cs_write_lasso : FnScope ["stem", "loop", "lines", "state"] ["stem", "loop"] (defScope s_write_lasso) := ⟨rfl, rfl, rfl, by decide +kernel, rfl, by decide +kernel, by decide +kernel⟩
def OkSts (l : List (List Int)) : Prop := l.length ≤ 1000 ∧ ∀ ns ∈ l, ns.length ≤ 100 ∧ Small ns
def lassoLines (stem loop : List (List Int)) : List Str := "fails" :: (stem.map (stLine "stem") ++ loop.map (stLine "loop"))
def lassoText (stem loop : List (List Int)) : Str := Txt.join "\n" (lassoLines stem loop)
theorem stem_len : ("stem" : Str).length ≤ 19 := by decide +kernel
theorem loop_len : ("loop" : Str).length ≤ 19 := by decide +kernel
theorem lasso_lens {stem loop : List (List Int)} (h1 : OkSts stem) (h2 : OkSts loop) : ∀ p ∈ lassoLines stem loop, p.length ≤ 2020 := fun p m => by
  unfold lassoLines at m
  rcases List.mem_cons.mp m with m | m
  · subst m
    decide +kernel
  · rcases List.mem_append.mp m with m | m
    · obtain ⟨ns, q, rfl⟩ := List.mem_map.mp m
      have := line_len (h1.2 ns q).2 stem_len
      have := (h1.2 ns q).1
      omega
    · obtain ⟨ns, q, rfl⟩ := List.mem_map.mp m
      have := line_len (h2.2 ns q).2 loop_len
      have := (h2.2 ns q).1
      omega
theorem lines_n {stem loop : List (List Int)} (h1 : OkSts stem) (h2 : OkSts loop) : (lassoLines stem loop).length ≤ 2001 := by
  unfold lassoLines
  rw [List.length_cons, List.length_append, List.length_map, List.length_map]
  have := h1.1
  have := h2.1
  omega
def Ss_write_lasso (ds : List D) (r : D) : Prop := ∃ stem loop : List (List Int), ds = [.lst (stem.map tupI), .lst (loop.map tupI)] ∧ OkSts stem ∧ OkSts loop ∧ r = .str (lassoText stem loop)
theorem nl_len : ("\n" : Str).length = 1 := by decide +kernel
theorem oks_write_lasso (Df : Dfn K mg "write_lasso" s_write_lasso ["stem", "loop"]) (T : Txt mg) (Cstate_line : Cal P w K mg base 1 "state_line" ["word", "state"] Ss_state_line) : Cal P w K mg base 2 "write_lasso" ["stem", "loop"] Ss_write_lasso := by
  refine cal_ok Df cs_write_lasso (fun ds r h => ?_) (fun f cdv A outer s H E ds r hr h => ?_)
  · obtain ⟨stem, loop, rfl, _⟩ := h
    rfl
  obtain ⟨stem, loop, rfl, h1, h2, rfl⟩ := h
  show Rs _ _ [.da (.lst (stem.map tupI)), .da (.lst (loop.map tupI)), .un, .un] _ _
  have nd := cs_write_lasso.nd
  have z1 := h1.1
  have z2 := h2.1
  refine rs_setO 2 nd (eo_cat (er_o (eo_lst (ea_cons ev_s ea_nil))) (er_o (eo_lc1 (inj := tupI) (f := fun ns => D.str (stLine "stem" ns)) 3 rfl nd (ei_l (ev_v 0)) (blkOk_by (own := [("state", 3)]) (N := ["stem", "loop", "lines", "state"]) (sc := defScope s_write_lasso) (by decide +kernel)) (sz6 (by omega)) (fun _ _ _ _ _ => pg_name (i := 3) nd rfl (Or.inl rfl)) (fun y hy _ _ _ _ _ => (ev_cal Cstate_line hr (ea_cons ev_s (ea_cons (ev_v 3) ea_nil)) ⟨"stem", y, rfl, stem_len, by have := (h1.2 y hy).1; omega, (h1.2 y hy).2, rfl⟩)))) ?hz) ?_
  case hz =>
    rw [List.length_map]
    exact sz6 (by show 1 + stem.length ≤ 1000000; omega)
  refine rs_ret (ev_join (ts := lassoLines stem loop) ev_s (er_o (eo_eq (eo_cat (er_v 2) (er_o (eo_lc1 (inj := tupI) (f := fun ns => D.str (stLine "loop" ns)) 3 rfl nd (ei_l (ev_v 1)) (blkOk_by (own := [("state", 3)]) (N := ["stem", "loop", "lines", "state"]) (sc := defScope s_write_lasso) (by decide +kernel)) (sz6 (by omega)) (fun _ _ _ _ _ => pg_name (i := 3) nd rfl (Or.inl rfl)) (fun y hy _ _ _ _ _ => (ev_cal Cstate_line hr (ea_cons ev_s (ea_cons (ev_v 3) ea_nil)) ⟨"loop", y, rfl, loop_len, by have := (h2.2 y hy).1; omega, (h2.2 y hy).2, rfl⟩)))) ?h1) ?h2)) ?h3) ?_
  case h1 =>
    simp only [List.length_append, List.length_map, List.length_cons, List.length_nil]
    exact sz6 (by omega)
  case h2 =>
    unfold lassoLines
    rw [List.map_cons, List.map_append, List.map_map, List.map_map]
    rfl
  case h3 =>
    have z := sum_le (f := fun p : Str => p.length) (B := 2020) (xs := lassoLines stem loop) (lasso_lens h1 h2)
    have y := lines_n h1 h2
    rw [nl_len]
    omega
  rfl
/-! ### read_lasso -/
abbrev s_read_lasso : Stmt := topS 13
theorem cs_read_lasso : FnScope ["text", "lines", "stem", "loop", "k", "words"] ["text"] (defScope s_read_lasso) := ⟨rfl, rfl, rfl, by decide +kernel, rfl, by decide +kernel, by decide +kernel⟩
def Ss_read_lasso (ds : List D) (r : D) : Prop := ∃ stem loop : List (List Int), ds = [.str (lassoText stem loop)] ∧ OkSts stem ∧ OkSts loop ∧ loop ≠ [] ∧ r = .tup [.lst (stem.map tupI), .lst (loop.map tupI)]
theorem lasso_split {stem loop : List (List Int)} : Txt.split (lassoText stem loop) "\n" = lassoLines stem loop := by
  refine split_join (s := 10) (S := []) (by decide +kernel) (by decide +kernel) (by simp [lassoLines]) fun p m => ?_
  unfold lassoLines at m
  rcases List.mem_cons.mp m with m | m
  · subst m
    decide +kernel
  · rcases List.mem_append.mp m with m | m
    · obtain ⟨ns, q, rfl⟩ := List.mem_map.mp m
      exact line_free (by decide +kernel)
    · obtain ⟨ns, q, rfl⟩ := List.mem_map.mp m
      exact line_free (by decide +kernel)
theorem text_len {stem loop : List (List Int)} (h1 : OkSts stem) (h2 : OkSts loop) : (lassoText stem loop).length ≤ 10000000 := by
  have z := join_le (s := "\n") (lasso_lens h1 h2)
  have y := lines_n h1 h2
  rw [nl_len] at z
  unfold lassoText
  omega
theorem oks_read_lasso (Df : Dfn K mg "read_lasso" s_read_lasso ["text"]) (T : Txt mg) (Call_signed : Cal P w K mg base 3 "all_signed" ["words"] Ss_all_signed) (Cnumbers_of : Cal P w K mg base 1 "numbers_of" ["words"] Ss_numbers_of) : Cal P w K mg base 4 "read_lasso" ["text"] Ss_read_lasso := by
  refine cal_ok Df cs_read_lasso (fun ds r h => ?_) (fun f cdv A outer s H E ds r hr h => ?_)
  · obtain ⟨stem, loop, rfl, _⟩ := h
    rfl
  obtain ⟨stem, loop, rfl, h1, h2, hne, rfl⟩ := h
  show Rs _ _ [.da (.str (lassoText stem loop)), .un, .un, .un, .un, .un] _ _
  have nd := cs_read_lasso.nd
  have z1 := h1.1
  have z2 := h2.1
  have hl := lines_n h1 h2
  refine rs_setO 1 nd (eo_eq (eo_split (ev_v 0) ev_s rfl ?hz) (by rw [lasso_split])) ?_
  case hz =>
    have := text_len h1 h2
    exact Nat.le_trans (by omega : _ ≤ 10000002) (by decide)
  refine rs_if1 (et_c (ec_neS (ev_ix (er_v 1) ev_i (d := .str "fails") (at_map (i := 0) rfl)) ev_s)) (fun hc => ?_) (fun hc => ?_)
  · exact absurd hc (by decide)
  refine rs_setO 2 nd (eo_lst ea_nil) ?_
  refine rs_setO 3 nd (eo_lst ea_nil) ?_
  refine rs_forG (fun i => [.da (.str (lassoText stem loop)), .ol ((lassoLines stem loop).map D.str), .ol ((stem.take i).map tupI), .ol ((loop.take (i - stem.length)).map tupI), .un, .un]) PassesOwn.never (ei_r2 T.range ev_i (ev_len T.len (er_v 1)) ?hn) (tg_n 4 nd) ?s0 (fun i d hd => ?_) ?_
  case hn =>
    rw [List.length_map]
    omega
  case s0 =>
    rw [Nat.zero_sub, List.take_zero, List.take_zero]
    exact .eq rfl (.eq rfl (.eq rfl (.eq rfl (.un (.un .nil)))))
  · obtain ⟨hi, rfl⟩ := get_range hd
    rw [List.length_map] at hi
    have hn : (lassoLines stem loop).length = stem.length + loop.length + 1 := by
      unfold lassoLines
      rw [List.length_cons, List.length_append, List.length_map, List.length_map]
    have hi' : i < stem.length + loop.length := by omega
    refine ⟨_, rfl, ?_⟩
    have ei : (1 : Int) + (i : Nat) = ((i + 1 : Nat) : Int) := by omega
    have line : ∃ (wd : Str) (ns : List Int), (lassoLines stem loop)[i + 1]? = some (stLine wd ns) ∧ 32 ∉ tl wd ∧ wd.length ≤ 19 ∧ ns.length ≤ 100 ∧ Small ns ∧ ((i < stem.length ∧ wd = "stem" ∧ stem[i]? = some ns) ∨ (¬ i < stem.length ∧ wd = "loop" ∧ loop[i - stem.length]? = some ns)) := by
      unfold lassoLines
      rw [List.getElem?_cons_succ]
      by_cases c : i < stem.length
      · have e : stem[i]? = some stem[i] := by simp [c]
        refine ⟨"stem", stem[i], ?_, by decide +kernel, stem_len, (h1.2 _ (List.getElem_mem c)).1, (h1.2 _ (List.getElem_mem c)).2, .inl ⟨c, rfl, e⟩⟩
        rw [List.getElem?_append_left (by rw [List.length_map]; exact c), List.getElem?_map, e]
        rfl
      · have c2 : i - stem.length < loop.length := by omega
        have e : loop[i - stem.length]? = some loop[i - stem.length] := by simp [c2]
        refine ⟨"loop", loop[i - stem.length], ?_, by decide +kernel, loop_len, (h2.2 _ (List.getElem_mem c2)).1, (h2.2 _ (List.getElem_mem c2)).2, .inr ⟨c, rfl, e⟩⟩
        rw [List.getElem?_append_right (by rw [List.length_map]; omega), List.length_map, List.getElem?_map, e]
        rfl
    obtain ⟨wd, ns, hline, hw, hwl, hnl, hsm, hcase⟩ := line
    have hll := line_len hsm hwl
    refine rs_setO 5 nd (eo_eq (eo_split (ev_ix (er_v 1) (ev_eq (ev_v 4) (by rw [ei])) (at_map hline)) ev_s rfl (Nat.le_trans (by omega : _ ≤ 10000) (by decide))) (by rw [line_words hw])) ?_
    have ecut : cutL ((wd :: ns.map numS).map D.str) (some 1) none = (ns.map numS).map D.str := by
      rw [show (1 : Int) = ((1 : Nat) : Int) from rfl, cut_from]
      rfl
    have hwords : (ns.map numS).length ≤ 1000000 := by rw [List.length_map]; omega
    refine rs_if1 (et_not (et_b (ev_cal Call_signed (hr.mono (by decide)) (ea_cons (ev_o (eo_eq (eo_sl (er_v 5) (ep_s ev_i) ep_n) ecut)) ea_nil) ⟨ns.map numS, rfl, hwords, fun p m => ?hp, rfl⟩))) (fun hc => ?_) (fun hc => ?_)
    case hp =>
      obtain ⟨n, q, rfl⟩ := List.mem_map.mp m
      have := num_len (hsm n q)
      omega
    · have e : ((ns.map numS).all fun w => signedL (tl w)) = true := by
        rw [List.all_eq_true]
        intro p m
        obtain ⟨n, q, rfl⟩ := List.mem_map.mp m
        exact (signed_num (hsm n q)).1
      rw [e] at hc
      cases hc
    have hnum : ((ns.map numS).map fun w => valL (tl w)) = ns := by
      rw [List.map_map]
      refine (List.map_congr_left fun n m => (signed_num (hsm n m)).2).trans (List.map_id _)
    have hsg : ∀ w ∈ ns.map numS, signedL (tl w) = true := fun p m => by
      obtain ⟨n, q, rfl⟩ := List.mem_map.mp m
      exact (signed_num (hsm n q)).1
    have enum : Ss_numbers_of [.lst ((ns.map numS).map D.str)] (.lst (ns.map D.int)) := ⟨ns.map numS, rfl, hwords, hsg, by rw [hnum]⟩
    refine rs_last (rn_if (et_c (ec_eqS (ev_ix (er_v 5) ev_i (d := .str wd) (at_map (i := 0) rfl)) ev_s)) (fun hc => ?_) (fun hc => ?_))
    · rcases hcase with ⟨c, rfl, e⟩ | ⟨c, rfl, e⟩
      · exact absurd hc (by decide +kernel)
      refine rs_app 3 (ev_tupL T.tuple (er_d (ev_cal Cnumbers_of (hr.mono (by decide)) (ea_cons (ev_o (eo_eq (eo_sl (er_v 5) (ep_s ev_i) ep_n) ecut)) ea_nil) enum))) ?_ ?hz
      case hz =>
        rw [List.length_map, List.length_take]
        exact sz6' (by omega)
      refine rs_nil ?_
      have e1 : i + 1 - stem.length = (i - stem.length) + 1 := by omega
      have e2 : stem.take (i + 1) = stem.take i := by rw [List.take_of_length_le (by omega), List.take_of_length_le (by omega)]
      refine .eq rfl (.eq rfl (.eq (by rw [e2]) (.eq ?_ (.un (.un .nil)))))
      rw [e1, List.take_add_one, e, List.map_append]
      rfl
    · skip
      rcases hcase with ⟨c, rfl, e⟩ | ⟨c, rfl, e⟩
      · refine rs_last (rn_if (et_w (ew_and (et_c (ec_eqS (ev_ix (er_v 5) ev_i (d := .str "stem") (at_map (i := 0) rfl)) ev_s)) (fun _ => (ew_and1 (et_not (et_l (er_v 3))))))) (fun hc => ?_) (fun hc => ?_))
        · skip
          refine rs_app 2 (ev_tupL T.tuple (er_d (ev_cal Cnumbers_of (hr.mono (by decide)) (ea_cons (ev_o (eo_eq (eo_sl (er_v 5) (ep_s ev_i) ep_n) ecut)) ea_nil) enum))) ?_ ?hz
          case hz =>
            rw [List.length_map, List.length_take]
            exact sz6' (by omega)
          refine rs_nil ?_
          have e1 : i + 1 - stem.length = 0 := by omega
          have e0 : i - stem.length = 0 := by omega
          refine .eq rfl (.eq rfl (.eq ?_ (.eq (by rw [e1, e0]) (.un (.un .nil)))))
          rw [List.take_add_one, e, List.map_append]
          rfl
        · exfalso
          have e0 : i - stem.length = 0 := by omega
          rw [e0, List.take_zero, decide_eq_true rfl] at hc
          cases hc
      · exact absurd hc (by decide +kernel)
  have hn : (lassoLines stem loop).length = stem.length + loop.length + 1 := by
    unfold lassoLines
    rw [List.length_cons, List.length_append, List.length_map, List.length_map]
  have el : ((List.range (((((lassoLines stem loop).map D.str).length : Nat) : Int) - 1).toNat).map fun k => D.int (1 + (k : Nat))).length = stem.length + loop.length := by
    rw [List.length_map, List.length_range, List.length_map, hn]
    omega
  rw [el, Nat.add_sub_cancel_left, List.take_length, List.take_of_length_le (by omega)]
  refine rs_if1 (et_not (et_l (er_v 3))) (fun hc => ?_) (fun hc => ?_)
  · exfalso
    cases loop with
    | nil => exact hne rfl
    | cons a r => cases hc
  refine rs_freeze 2 rfl (rs_freeze 3 rfl ?_)
  exact rs_ret (ev_tup (ea_cons (ev_v 2) (ea_cons (ev_v 3) ea_nil))) rfl
end
end Lw

namespace Lw
open PySem PySem.Spec PyProof.Rows L2 Dv Tx TL
theorem rep_get {α : Type} {l : List α} : ∀ (n k j : Nat), k < n → j < l.length → (List.replicate n l).flatten[l.length * k + j]? = l[j]?
  | 0, _, _, h, _ => by omega
  | n + 1, 0, j, _, hj => by
    rw [List.replicate_succ, List.flatten_cons, Nat.mul_zero, Nat.zero_add, List.getElem?_append_left hj]
  | n + 1, k + 1, j, h, hj => by
    rw [List.replicate_succ, List.flatten_cons, List.getElem?_append_right (by rw [Nat.mul_succ]; omega), show l.length * (k + 1) + j - l.length = l.length * k + j by rw [Nat.mul_succ]; omega]
    exact rep_get n k j (by omega) hj
theorem rep_len {α : Type} {l : List α} (n : Nat) : (List.replicate n l).flatten.length = n * l.length := by
  simp
theorem rep_map {α β : Type} {f : α → β} {l : List α} (n : Nat) : (List.replicate n l).flatten.map f = (List.replicate n (l.map f)).flatten := by
  simp
theorem rep_mem {α : Type} {l : List α} {n : Nat} {x : α} (h : x ∈ (List.replicate n l).flatten) : x ∈ l := by
  obtain ⟨y, q1, q2⟩ := List.mem_flatten.mp h
  rw [List.eq_of_mem_replicate q1] at q2
  exact q2
theorem pick {ns : List Int} {at' : Nat} {sizes : List Int} (hs : OkSizes sizes) {j : Nat} {s : Int} (h : sizes[j]? = some s) : ∃ v, (draws ns at' sizes)[j]? = some v ∧ 0 ≤ v ∧ v < s := by
  have hj := (List.getElem?_eq_some_iff.mp h).1
  have e : (draws ns at' sizes)[j]? = some ((draws ns at' sizes)[j]'(by rw [draws_len]; exact hj)) := by simp [draws_len, hj]
  obtain ⟨s', q1, q2⟩ := draws_get hs e
  rw [h] at q1
  cases q1
  exact ⟨_, e, q2⟩
/-! ### numbers drawn -/
def ws4 : List Int := [4, 9, 1000000000, 1000000000]
def wsz (n : Nat) : List Int := (List.replicate n ws4).flatten
theorem wsz_ok (n : Nat) : OkSizes (wsz n) := fun s m => by
  have := rep_mem m
  unfold ws4 at this
  simp only [List.mem_cons, List.not_mem_nil, or_false] at this
  omega
def wholeAt (p : List Int) (k : Nat) : Int :=
  if p.getD (4 * k) 0 = 0 then p.getD (4 * k + 1) 0
  else if p.getD (4 * k) 0 = 1 then p.getD (4 * k + 1) 0 - 4
  else if p.getD (4 * k) 0 = 2 then p.getD (4 * k + 2) 0 * 1000000000 + p.getD (4 * k + 3) 0
  else -(p.getD (4 * k + 2) 0 * 1000000000 + p.getD (4 * k + 3) 0)
def wholes (ns : List Int) (at' n : Nat) : List Int := (List.range n).map (wholeAt (draws ns at' (wsz n)))
theorem getD_of {l : List Int} {j : Nat} {v d : Int} (h : l[j]? = some v) : l.getD j d = v := by
  rw [List.getD_eq_getElem?_getD, h]
  rfl
theorem wh_pick {ns : List Int} {at' n k : Nat} (hk : k < n) : ∃ a b c e, (draws ns at' (wsz n))[4 * k]? = some a ∧ (draws ns at' (wsz n))[4 * k + 1]? = some b ∧ (draws ns at' (wsz n))[4 * k + 2]? = some c ∧ (draws ns at' (wsz n))[4 * k + 3]? = some e ∧
    0 ≤ a ∧ a < 4 ∧ 0 ≤ b ∧ b < 9 ∧ 0 ≤ c ∧ c < 1000000000 ∧ 0 ≤ e ∧ e < 1000000000 := by
  have g := fun j (h : j < 4) => rep_get (l := ws4) n k j hk h
  obtain ⟨a, a1, a2, a3⟩ := pick (ns := ns) (at' := at') (wsz_ok n) (j := 4 * k) (s := 4) (g 0 (by omega))
  obtain ⟨b, b1, b2, b3⟩ := pick (ns := ns) (at' := at') (wsz_ok n) (j := 4 * k + 1) (s := 9) (g 1 (by omega))
  obtain ⟨c, c1, c2, c3⟩ := pick (ns := ns) (at' := at') (wsz_ok n) (j := 4 * k + 2) (s := 1000000000) (g 2 (by omega))
  obtain ⟨e, e1, e2, e3⟩ := pick (ns := ns) (at' := at') (wsz_ok n) (j := 4 * k + 3) (s := 1000000000) (g 3 (by omega))
  exact ⟨a, b, c, e, a1, b1, c1, e1, a2, a3, b2, b3, c2, c3, e2, e3⟩
theorem wholes_small (ns : List Int) (at' n : Nat) : Small (wholes ns at' n) := fun v m => by
  obtain ⟨k, hk, rfl⟩ := List.mem_map.mp m
  obtain ⟨a, b, c, e, a1, b1, c1, e1, h⟩ := wh_pick (ns := ns) (at' := at') (List.mem_range.mp hk)
  unfold wholeAt
  rw [getD_of a1, getD_of b1, getD_of c1, getD_of e1]
  split
  · omega
  · split
    · omega
    · split <;> omega
theorem wholes_len (ns : List Int) (at' n : Nat) : (wholes ns at' n).length = n := by
  unfold wholes
  rw [List.length_map, List.length_range]
/-! ### states drawn -/
def manyAt (p : List Int) (size : Nat) (vary : Bool) (k : Nat) : Nat := if vary then (p.getD k 0).toNat else size
def s5 (n : Nat) : List Int := (List.replicate n [(5 : Int)]).flatten
def statesOf (ns : List Int) (at' n size : Nat) (vary : Bool) : List (List Int) :=
  (List.range n).map fun k => ((wholes ns (at' + 1) (4 * n)).drop (4 * k)).take (manyAt (draws ns at' (s5 n)) size vary k)
theorem s5_ok (n : Nat) : OkSizes (s5 n) := fun s m => by
  have := rep_mem m
  simp only [List.mem_cons, List.not_mem_nil, or_false] at this
  omega
theorem statesOf_len (ns : List Int) (at' n size : Nat) (vary : Bool) : (statesOf ns at' n size vary).length = n := by
  unfold statesOf
  rw [List.length_map, List.length_range]
theorem s5_pick {ns : List Int} {at' n k : Nat} (hk : k < n) : ∃ v, (draws ns at' (s5 n))[k]? = some v ∧ 0 ≤ v ∧ v < 5 := by
  have g := rep_get (l := [(5 : Int)]) n k 0 hk (by decide)
  rw [show ([(5 : Int)].length * k + 0) = k by simp] at g
  exact pick (s5_ok n) g
theorem statesOf_ok {ns : List Int} {at' n size : Nat} {vary : Bool} (hz : size ≤ 4) : ∀ st ∈ statesOf ns at' n size vary, st.length ≤ 100 ∧ Small st := fun st m => by
  obtain ⟨k, hk, rfl⟩ := List.mem_map.mp m
  refine ⟨?_, fun v q => wholes_small _ _ _ v (List.mem_of_mem_drop (List.mem_of_mem_take q))⟩
  obtain ⟨v, e, h1, h2⟩ := s5_pick (ns := ns) (at' := at') (List.mem_range.mp hk)
  rw [List.length_take]
  unfold manyAt
  rw [getD_of e]
  split <;> omega
/-! ### the lasso drawn -/
def lz : List Int := [8, 6, 5, 4, 16, 40]
def beforeOf (p : List Int) : Nat := if p.getD 4 0 = 0 then 8 + (p.getD 5 0).toNat else (p.getD 0 0).toNat
def manyOf (p : List Int) : Nat := if p.getD 4 0 = 0 then 7 + (p.getD 5 0).toNat else 1 + (p.getD 1 0).toNat
def allSt (ns : List Int) : List (List Int) := let p := draws ns 0 lz; statesOf ns 1 (beforeOf p + manyOf p) (p.getD 2 0).toNat (decide (p.getD 3 0 = 0))
def stemOf (ns : List Int) : List (List Int) := (allSt ns).take (beforeOf (draws ns 0 lz))
def loopOf (ns : List Int) : List (List Int) := (allSt ns).drop (beforeOf (draws ns 0 lz))
theorem lz_ok : OkSizes lz := by
  unfold OkSizes lz
  intro s m
  simp only [List.mem_cons, List.not_mem_nil, or_false] at m
  omega
theorem lz_pick (ns : List Int) : ∃ a b c d e f, draws ns 0 lz = [a, b, c, d, e, f] ∧ 0 ≤ a ∧ a < 8 ∧ 0 ≤ b ∧ b < 6 ∧ 0 ≤ c ∧ c < 5 ∧ 0 ≤ d ∧ d < 4 ∧ 0 ≤ e ∧ e < 16 ∧ 0 ≤ f ∧ f < 40 := by
  have hl : (draws ns 0 lz).length = 6 := draws_len _ _ _
  obtain ⟨a, a1, a2⟩ := pick (ns := ns) (at' := 0) lz_ok (j := 0) (s := 8) rfl
  obtain ⟨b, b1, b2⟩ := pick (ns := ns) (at' := 0) lz_ok (j := 1) (s := 6) rfl
  obtain ⟨c, c1, c2⟩ := pick (ns := ns) (at' := 0) lz_ok (j := 2) (s := 5) rfl
  obtain ⟨d, d1, d2⟩ := pick (ns := ns) (at' := 0) lz_ok (j := 3) (s := 4) rfl
  obtain ⟨e, e1, e2⟩ := pick (ns := ns) (at' := 0) lz_ok (j := 4) (s := 16) rfl
  obtain ⟨f, f1, f2⟩ := pick (ns := ns) (at' := 0) lz_ok (j := 5) (s := 40) rfl
  refine ⟨a, b, c, d, e, f, ?_, a2.1, a2.2, b2.1, b2.2, c2.1, c2.2, d2.1, d2.2, e2.1, e2.2, f2.1, f2.2⟩
  generalize draws ns 0 lz = l at *
  match l, hl with
  | [x0, x1, x2, x3, x4, x5], _ =>
    cases a1; cases b1; cases c1; cases d1; cases e1; cases f1
    rfl
theorem lasso_ok (ns : List Int) : OkSts (stemOf ns) ∧ OkSts (loopOf ns) ∧ loopOf ns ≠ [] := by
  obtain ⟨a, b, c, d, e, f, h, q⟩ := lz_pick ns
  have hl : (allSt ns).length = beforeOf [a, b, c, d, e, f] + manyOf [a, b, c, d, e, f] := by
    unfold allSt
    rw [h]
    exact statesOf_len _ _ _ _ _
  have hb : beforeOf [a, b, c, d, e, f] ≤ 47 := by
    unfold beforeOf
    show (if e = 0 then 8 + f.toNat else a.toNat) ≤ 47
    split <;> omega
  have hm : manyOf [a, b, c, d, e, f] ≤ 46 ∧ 0 < manyOf [a, b, c, d, e, f] := by
    unfold manyOf
    show (if e = 0 then 7 + f.toNat else 1 + b.toNat) ≤ 46 ∧ 0 < (if e = 0 then 7 + f.toNat else 1 + b.toNat)
    split <;> omega
  have ok : ∀ st ∈ allSt ns, st.length ≤ 100 ∧ Small st := by
    unfold allSt
    rw [h]
    exact statesOf_ok (by show c.toNat ≤ 4; omega)
  unfold stemOf loopOf
  rw [h]
  refine ⟨⟨?_, fun st m => ok st (List.mem_of_mem_take m)⟩, ⟨?_, fun st m => ok st (List.mem_of_mem_drop m)⟩, fun z => ?_⟩
  · rw [List.length_take]
    omega
  · rw [List.length_drop]
    omega
  · have := congrArg List.length z
    rw [List.length_drop, List.length_nil] at this
    omega

section
variable {P : Program} {w : World} {K : PySem.W.Frag} {mg : Str → Option Value} {base : Heap}
/-! ### is_number -/
abbrev s_l_is_number : Stmt := topS 18
theorem cs_l_is_number : FnScope ["_law_actual"] ["_law_actual"] (defScope s_l_is_number) := ⟨rfl, rfl, rfl, by decide +kernel, rfl, by decide +kernel, by decide +kernel⟩
def Ss_l_is_number (ds : List D) (r : D) : Prop := ∃ i : Int, ds = [.int i] ∧ r = .bl true
theorem oks_l_is_number (Df : Dfn K mg "_law_is_number" s_l_is_number ["_law_actual"]) (T : Txt mg) : Cal P w K mg base 1 "_law_is_number" ["_law_actual"] Ss_l_is_number := by
  refine cal_ok Df cs_l_is_number (fun ds r h => ?_) (fun f cdv A outer s H E ds r hr h => ?_)
  · obtain ⟨i, rfl, _⟩ := h
    rfl
  obtain ⟨i, rfl, rfl⟩ := h
  show Rs _ _ [.da (.int i)] _ _
  have nd := cs_l_is_number.nd
  exact rs_ret (ev_and (k := true) (l := true) (ev_isi T.isinstance (ev_v 0) T.int boot_int rfl) (fun _ => (ev_one (ev_not (k := false) (ev_isi T.isinstance (ev_v 0) T.bool boot_bool rfl))))) rfl
/-! ### wholes -/
abbrev s_l_wholes : Stmt := topS 19
theorem cs_l_wholes : FnScope ["_law_script", "_law_at", "_law_count", "_law_picks", "_law_found", "_law_k", "_law_great"] ["_law_script", "_law_at", "_law_count"] (defScope s_l_wholes) := ⟨rfl, rfl, rfl, by decide +kernel, rfl, by decide +kernel, by decide +kernel⟩
def Ss_l_wholes (ds : List D) (r : D) : Prop := ∃ (ns : List Int) (at' n : Nat), ds = [.scr ns, .int at', .int n] ∧ n ≤ 10000 ∧ r = .lst ((wholes ns at' n).map D.int)
theorem oks_l_wholes (Df : Dfn K mg "_law_wholes" s_l_wholes ["_law_script", "_law_at", "_law_count"]) (T : Txt mg) (C_l_draws : Cal P w K mg base 1 "_law_draws" ["_law_script", "_law_at", "_law_sizes"] Ss_l_draws) : Cal P w K mg base 2 "_law_wholes" ["_law_script", "_law_at", "_law_count"] Ss_l_wholes := by
  refine cal_ok Df cs_l_wholes (fun ds r h => ?_) (fun f cdv A outer s H E ds r hr h => ?_)
  · obtain ⟨ns, at', n, rfl, _⟩ := h
    rfl
  obtain ⟨ns, at', n, rfl, hn, rfl⟩ := h
  show Rs _ _ [.da (.scr ns), .da (.int at'), .da (.int n), .un, .un, .un, .un] _ _
  have nd := cs_l_wholes.nd
  refine rs_set 3 nd (ev_cal C_l_draws hr (ea_cons (ev_v 0) (ea_cons (ev_v 1) (ea_cons (ev_o (eo_eq (eo_rep (xs := ws4.map D.int) (er_o (eo_lst (ea_cons ev_i (ea_cons ev_i (ea_cons (ev_pow ev_i ev_i) (ea_cons (ev_pow ev_i ev_i) ea_nil)))))) (ev_v 2) (by omega) ?hz) ?hs)) ea_nil))) ⟨ns, at', wsz n, rfl, wsz_ok n, ?hl, rfl⟩) ?_
  case hz => exact Nat.le_trans (by show 4 * (n : Int).toNat ≤ 40000; omega) (by decide)
  case hs => rw [Int.toNat_natCast, ← rep_map]; rfl
  case hl => unfold wsz; rw [rep_len]; show n * 4 ≤ 1000000; omega
  refine rs_setO 4 nd (eo_lst ea_nil) ?_
  refine rs_forG (fun i => [.da (.scr ns), .da (.int at'), .da (.int n), .da (.lst ((draws ns at' (wsz n)).map D.int)), .ol (((List.range i).map (wholeAt (draws ns at' (wsz n)))).map D.int), .un, .un]) PassesOwn.never (ei_r1 T.range (ev_v 2)) (tg_n 5 nd) ?s0 (fun i d hd => ?_) ?_
  case s0 => exact .eq rfl (.eq rfl (.eq rfl (.eq rfl (.eq rfl (.un (.un .nil))))))
  · obtain ⟨hi, rfl⟩ := get_range hd
    rw [Int.toNat_natCast] at hi
    refine ⟨_, rfl, ?_⟩
    obtain ⟨a, b, c, e, a1, b1, c1, e1, h⟩ := wh_pick (ns := ns) (at' := at') hi
    have ix : ∀ {j : Nat} {v : Int} {z : Int}, (draws ns at' (wsz n))[j]? = some v → z = (j : Int) → atI ((draws ns at' (wsz n)).map D.int) z = some (.int v) := fun q z => by rw [z]; exact at_map q
    refine rs_set 6 nd (ev_add (ev_mul (ev_ix (er_d (ev_v 3)) (ev_add (ev_mul ev_i (ev_v 5)) ev_i) (ix c1 (by omega))) (ev_pow ev_i ev_i) ?hm) (ev_ix (er_d (ev_v 3)) (ev_add (ev_mul ev_i (ev_v 5)) ev_i) (ix e1 (by omega)))) ?_
    case hm => exact .inl ⟨by omega, by omega⟩
    have e9 : (10 : Int) ^ (9 : Int).toNat = 1000000000 := by decide
    rw [e9]
    refine rs_app 4 (d := .int (wholeAt (draws ns at' (wsz n)) i)) (ev_ix (er_o (eo_lst (ea_cons (ev_ix (er_d (ev_v 3)) (ev_add (ev_mul ev_i (ev_v 5)) ev_i) (ix b1 (by omega))) (ea_cons (ev_sub (ev_ix (er_d (ev_v 3)) (ev_add (ev_mul ev_i (ev_v 5)) ev_i) (ix b1 (by omega))) ev_i) (ea_cons (ev_v 6) (ea_cons (ev_neg (ev_v 6)) ea_nil)))))) (ev_ix (er_d (ev_v 3)) (ev_mul ev_i (ev_v 5)) (ix a1 (by omega))) ?ix) ?_ ?hz
    case ix =>
      unfold wholeAt
      rw [getD_of a1, getD_of b1, getD_of c1, getD_of e1]
      rcases (by omega : a = 0 ∨ a = 1 ∨ a = 2 ∨ a = 3) with z | z | z | z <;> subst z
      · exact at_nat (i := 0) rfl
      · exact at_nat (i := 1) rfl
      · exact at_nat (i := 2) rfl
      · exact at_nat (i := 3) rfl
    case hz => rw [List.length_map, List.length_map, List.length_range]; exact Nat.lt_of_lt_of_le (by omega : i < 10000) (by decide)
    refine rs_nil ?_
    refine .eq rfl (.eq rfl (.eq rfl (.eq rfl (.eq ?_ (.un (.un .nil))))))
    rw [List.range_succ, List.map_append, List.map_append]
    rfl
  refine rs_freeze 4 rfl ?_
  refine rs_ret (ev_v 4) ?_
  rw [List.length_map, List.length_range, Int.toNat_natCast]
  rfl
/-! ### states -/
abbrev s_l_drawn_states : Stmt := topS 20
theorem cs_l_drawn_states : FnScope ["_law_script", "_law_at", "_law_count", "_law_size", "_law_vary", "_law_picks", "_law_numbers", "_law_found", "_law_k", "_law_many"] ["_law_script", "_law_at", "_law_count", "_law_size", "_law_vary"] (defScope s_l_drawn_states) := ⟨rfl, rfl, rfl, by decide +kernel, rfl, by decide +kernel, by decide +kernel⟩
def Ss_l_drawn_states (ds : List D) (r : D) : Prop := ∃ (ns : List Int) (at' n size : Nat) (vary : Bool), ds = [.scr ns, .int at', .int n, .int size, .bl vary] ∧ n ≤ 1000 ∧ r = .lst ((statesOf ns at' n size vary).map tupI)
theorem oks_l_drawn_states (Df : Dfn K mg "_law_drawn_states" s_l_drawn_states ["_law_script", "_law_at", "_law_count", "_law_size", "_law_vary"]) (T : Txt mg) (C_l_draws : Cal P w K mg base 1 "_law_draws" ["_law_script", "_law_at", "_law_sizes"] Ss_l_draws)
    (C_l_wholes : Cal P w K mg base 2 "_law_wholes" ["_law_script", "_law_at", "_law_count"] Ss_l_wholes) : Cal P w K mg base 3 "_law_drawn_states" ["_law_script", "_law_at", "_law_count", "_law_size", "_law_vary"] Ss_l_drawn_states := by
  refine cal_ok Df cs_l_drawn_states (fun ds r h => ?_) (fun f cdv A outer s H E ds r hr h => ?_)
  · obtain ⟨ns, at', n, size, vary, rfl, _⟩ := h
    rfl
  obtain ⟨ns, at', n, size, vary, rfl, hn, rfl⟩ := h
  show Rs _ _ [.da (.scr ns), .da (.int at'), .da (.int n), .da (.int size), .da (.bl vary), .un, .un, .un, .un, .un] _ _
  have nd := cs_l_drawn_states.nd
  refine rs_set 5 nd (ev_cal C_l_draws (hr.mono (by decide)) (ea_cons (ev_v 0) (ea_cons (ev_v 1) (ea_cons (ev_o (eo_eq (eo_rep (xs := [(5 : Int)].map D.int) (er_o (eo_lst (ea_cons ev_i ea_nil))) (ev_v 2) (by omega) ?hz) ?hs)) ea_nil))) ⟨ns, at', s5 n, rfl, s5_ok n, ?hl, rfl⟩) ?_
  case hz => exact Nat.le_trans (by show 1 * (n : Int).toNat ≤ 40000; omega) (by decide)
  case hs => rw [Int.toNat_natCast, ← rep_map]; rfl
  case hl => unfold s5; rw [rep_len]; show n * 1 ≤ 1000000; omega
  refine rs_set 6 nd (ev_cal C_l_wholes hr (ea_cons (ev_v 0) (ea_cons (ev_add (ev_v 1) ev_i) (ea_cons (ev_mul ev_i (ev_v 2)) ea_nil))) ⟨ns, at' + 1, 4 * n, by rw [Int.natCast_add, Int.natCast_mul]; rfl, by omega, rfl⟩) ?_
  refine rs_setO 7 nd (eo_lst ea_nil) ?_
  refine rs_forG (fun i => [.da (.scr ns), .da (.int at'), .da (.int n), .da (.int size), .da (.bl vary), .da (.lst ((draws ns at' (s5 n)).map D.int)), .da (.lst ((wholes ns (at' + 1) (4 * n)).map D.int)), .ol (((List.range i).map fun k => ((wholes ns (at' + 1) (4 * n)).drop (4 * k)).take (manyAt (draws ns at' (s5 n)) size vary k)).map tupI), .un, .un]) PassesOwn.never (ei_r1 T.range (ev_v 2)) (tg_n 8 nd) ?s0 (fun i d hd => ?_) ?_
  case s0 => exact .eq rfl (.eq rfl (.eq rfl (.eq rfl (.eq rfl (.eq rfl (.eq rfl (.eq rfl (.un (.un .nil)))))))))
  · obtain ⟨hi, rfl⟩ := get_range hd
    rw [Int.toNat_natCast] at hi
    refine ⟨_, rfl, ?_⟩
    obtain ⟨v, e, h1, h2⟩ := s5_pick (ns := ns) (at' := at') hi
    refine rs_set 9 nd (ev_v 3) ?_
    refine rs_ifset 9 (d := .int v) nd (et_b (ev_v 4)) (fun _ => ev_ix (er_d (ev_v 5)) (ev_v 8) (at_map e)) ?_
    have em : (if vary then D.int v else D.int size) = D.int (manyAt (draws ns at' (s5 n)) size vary i : Nat) := by
      unfold manyAt
      rw [getD_of e]
      cases vary
      · rfl
      · show D.int v = D.int (v.toNat : Nat)
        rw [Int.toNat_of_nonneg h1]
    rw [em]
    refine rs_app 7 (d := tupI (((wholes ns (at' + 1) (4 * n)).drop (4 * i)).take (manyAt (draws ns at' (s5 n)) size vary i))) (ev_eq (ev_tupL T.tuple (er_o (eo_sl (er_d (ev_v 6)) (ep_s (ev_mul ev_i (ev_v 8))) (ep_s (ev_add (ev_mul ev_i (ev_v 8)) (ev_v 9)))))) ?he) ?_ ?hz
    case he =>
      rw [cutL_map, show (4 : Int) * (i : Nat) = ((4 * i : Nat) : Int) by omega, show ((4 * i : Nat) : Int) + (manyAt (draws ns at' (s5 n)) size vary i : Nat) = ((4 * i + manyAt (draws ns at' (s5 n)) size vary i : Nat) : Int) by omega, cut_mid, Nat.add_sub_cancel_left]
      rfl
    case hz => rw [List.length_map, List.length_map, List.length_range]; exact Nat.lt_of_lt_of_le (by omega : i < 10000) (by decide)
    refine rs_nil ?_
    refine .eq rfl (.eq rfl (.eq rfl (.eq rfl (.eq rfl (.eq rfl (.eq rfl (.eq ?_ (.un (.un .nil)))))))))
    rw [List.range_succ, List.map_append, List.map_append]
    rfl
  refine rs_freeze 7 rfl ?_
  refine rs_ret (ev_v 7) ?_
  rw [List.length_map, List.length_range, Int.toNat_natCast]
  rfl
/-! ### the lasso -/
abbrev s_l_drawn_lasso : Stmt := topS 21
theorem cs_l_drawn_lasso : FnScope ["_law_script", "_law_picks", "_law_before", "_law_many", "_law_states"] ["_law_script"] (defScope s_l_drawn_lasso) := ⟨rfl, rfl, rfl, by decide +kernel, rfl, by decide +kernel, by decide +kernel⟩
def Ss_l_drawn_lasso (ds : List D) (r : D) : Prop := ∃ ns : List Int, ds = [.scr ns] ∧ r = .tup [.lst ((stemOf ns).map tupI), .lst ((loopOf ns).map tupI)]
theorem oks_l_drawn_lasso (Df : Dfn K mg "_law_drawn_lasso" s_l_drawn_lasso ["_law_script"]) (T : Txt mg) (C_l_draws : Cal P w K mg base 1 "_law_draws" ["_law_script", "_law_at", "_law_sizes"] Ss_l_draws)
    (C_l_drawn_states : Cal P w K mg base 3 "_law_drawn_states" ["_law_script", "_law_at", "_law_count", "_law_size", "_law_vary"] Ss_l_drawn_states) : Cal P w K mg base 4 "_law_drawn_lasso" ["_law_script"] Ss_l_drawn_lasso := by
  refine cal_ok Df cs_l_drawn_lasso (fun ds r h => ?_) (fun f cdv A outer s H E ds r hr h => ?_)
  · obtain ⟨ns, rfl, _⟩ := h
    rfl
  obtain ⟨ns, rfl, rfl⟩ := h
  show Rs _ _ [.da (.scr ns), .un, .un, .un, .un] _ _
  have nd := cs_l_drawn_lasso.nd
  obtain ⟨a, b, c, d, e, f, hp, q⟩ := lz_pick ns
  refine rs_set 1 nd (ev_cal C_l_draws (hr.mono (by decide)) (ea_cons (ev_v 0) (ea_cons ev_i (ea_cons (ev_o (eo_lst (ea_cons ev_i (ea_cons ev_i (ea_cons ev_i (ea_cons ev_i (ea_cons ev_i (ea_cons ev_i ea_nil)))))))) ea_nil))) ⟨ns, 0, lz, rfl, lz_ok, by decide, rfl⟩) ?_
  rw [hp]
  refine rs_set 2 nd (ev_ix (er_d (ev_v 1)) ev_i (at_map (i := 0) rfl)) ?_
  refine rs_set 3 nd (ev_add ev_i (ev_ix (er_d (ev_v 1)) ev_i (at_map (i := 1) rfl))) ?_
  refine rs_if (fun Γ' => Γ' = [.da (.scr ns), .da (.lst ([a, b, c, d, e, f].map D.int)), .da (.int (beforeOf [a, b, c, d, e, f] : Nat)), .da (.int (manyOf [a, b, c, d, e, f] : Nat)), .un]) (et_c (ec_eqI (ev_ix (er_d (ev_v 1)) ev_i (at_map (i := 4) rfl)) ev_i)) (fun hc => ?_) (fun hc => ?_) (fun Γ' m => ?_)
  · have hc' : e = 0 := of_decide_eq_true hc
    refine rs_set 2 nd (ev_add ev_i (ev_ix (er_d (ev_v 1)) ev_i (at_map (i := 5) rfl))) ?_
    refine rs_set 3 nd (ev_add ev_i (ev_ix (er_d (ev_v 1)) ev_i (at_map (i := 5) rfl))) ?_
    refine rs_nil ?_
    show _ = _
    have e1 : beforeOf [a, b, c, d, e, f] = 8 + f.toNat := if_pos hc'
    have e2 : manyOf [a, b, c, d, e, f] = 7 + f.toNat := if_pos hc'
    rw [e1, e2, show ((8 + f.toNat : Nat) : Int) = 8 + f by omega, show ((7 + f.toNat : Nat) : Int) = 7 + f by omega]
    rfl
  · have hc' : ¬ e = 0 := of_decide_eq_false hc
    refine rs_nil ?_
    show _ = _
    have e1 : beforeOf [a, b, c, d, e, f] = a.toNat := if_neg hc'
    have e2 : manyOf [a, b, c, d, e, f] = 1 + b.toNat := if_neg hc'
    rw [e1, e2, show ((a.toNat : Nat) : Int) = a by omega, show ((1 + b.toNat : Nat) : Int) = 1 + b by omega]
    rfl
  subst m
  refine rs_set 4 nd (ev_cal C_l_drawn_states hr (ea_cons (ev_v 0) (ea_cons ev_i (ea_cons (ev_add (ev_v 2) (ev_v 3)) (ea_cons (ev_ix (er_d (ev_v 1)) ev_i (at_map (i := 2) rfl)) (ea_cons (ev_c (ec_eqI (ev_ix (er_d (ev_v 1)) ev_i (at_map (i := 3) rfl)) ev_i)) ea_nil))))) ⟨ns, 1, beforeOf [a, b, c, d, e, f] + manyOf [a, b, c, d, e, f], c.toNat, decide (d = 0), ?hd, ?hb, rfl⟩) ?_
  case hd => rw [Int.natCast_add, Int.toNat_of_nonneg (by omega)]; rfl
  case hb =>
    have hb : beforeOf [a, b, c, d, e, f] ≤ 47 := by
      unfold beforeOf
      show (if e = 0 then 8 + f.toNat else a.toNat) ≤ 47
      split <;> omega
    have hm : manyOf [a, b, c, d, e, f] ≤ 46 := by
      unfold manyOf
      show (if e = 0 then 7 + f.toNat else 1 + b.toNat) ≤ 46
      split <;> omega
    omega
  refine rs_ret (ev_tup (ea_cons (ev_o (eo_sl (er_d (ev_v 4)) ep_n (ep_s (ev_v 2)))) (ea_cons (ev_o (eo_sl (er_d (ev_v 4)) (ep_s (ev_v 2)) ep_n)) ea_nil))) ?_
  show D.tup _ = D.tup _
  rw [cut_upto, cut_from, ← List.map_take, ← List.map_drop]
  unfold stemOf loopOf allSt
  rw [hp]
  rfl
end
end Lw

namespace Lw
open PySem PySem.Spec PyProof.Rows L2 Dv Tx TL
/-- what is asked of the class as the top has made it -/
structure Vd (K : PySem.W.Frag) (mg : Str → Option Value) (C : Addr) : Prop where
  cl : Cls K C
  gl : mg "Verdict" = some (.ref C)
  h : NoAttr K C "holds"
  c : NoAttr K C "certificate"
  s : NoAttr K C "stem"
  l : NoAttr K C "loop"
theorem putT_nil {f : Str} {t : OT} : putT f t [] = [(f, t)] := rfl
theorem putT_ne {f g : Str} {t x : OT} {r : List (Str × OT)} (h : (g == f) = false) : putT f t ((g, x) :: r) = (g, x) :: putT f t r := if_neg fun z => by rw [z, beq_self_eq_true] at h; cases h
theorem putT_eq {f : Str} {t x : OT} {r : List (Str × OT)} : putT f t ((f, x) :: r) = (f, t) :: r := if_pos rfl
section
variable {P : Program} {w : World} {K : PySem.W.Frag} {mg : Str → Option Value} {base : Heap}
/-! ### the text of a lasso -/
abbrev s_l_lasso_text : Stmt := topS 22
theorem cs_l_lasso_text : FnScope ["_law_stem", "_law_loop", "_law_lines", "_law_state", "_law_number"] ["_law_stem", "_law_loop"] (defScope s_l_lasso_text) := ⟨rfl, rfl, rfl, by decide +kernel, rfl, by decide +kernel, by decide +kernel⟩
theorem oks_l_lasso_text (Df : Dfn K mg "_law_lasso_text" s_l_lasso_text ["_law_stem", "_law_loop"]) (T : Txt mg) : Cal P w K mg base 1 "_law_lasso_text" ["_law_stem", "_law_loop"] Ss_write_lasso := by
  refine cal_ok Df cs_l_lasso_text (fun ds r h => ?_) (fun f cdv A outer s H E ds r hr h => ?_)
  · obtain ⟨stem, loop, rfl, _⟩ := h
    rfl
  obtain ⟨stem, loop, rfl, h1, h2, rfl⟩ := h
  show Rs _ _ [.da (.lst (stem.map tupI)), .da (.lst (loop.map tupI)), .un, .un, .un] _ _
  have nd := cs_l_lasso_text.nd
  have z1 := h1.1
  have z2 := h2.1
  have jl : ∀ {wd : Str} {ns : List Int}, wd.length ≤ 19 → ns.length ≤ 100 → Small ns → ((wd :: ns.map numS).map (·.length)).sum + (wd :: ns.map numS).length * (" " : Str).length ≤ 16777216 := fun hw hz hs => by
    rename_i wd ns
    have z := sum_le (f := fun p : Str => p.length) (B := 19) (xs := wd :: ns.map numS) fun p m => by
      rcases List.mem_cons.mp m with m | m
      · subst m
        exact hw
      · obtain ⟨n, q, rfl⟩ := List.mem_map.mp m
        exact num_len (hs n q)
    rw [List.length_cons, List.length_map] at z ⊢
    have e : (" " : Str).length = 1 := by decide +kernel
    rw [e]
    omega
  refine rs_setO 2 nd (eo_lst (ea_cons ev_s ea_nil)) ?_
  refine rs_forG (fun i => [.da (.lst (stem.map tupI)), .da (.lst (loop.map tupI)), .ol ((("fails" : Str) :: (stem.take i).map (stLine "stem")).map D.str), .un, .un]) PassesOwn.never (ei_l (ev_v 0)) (tg_n 3 nd) ?s0 (fun i d hd => ?_) ?_
  case s0 => exact .eq rfl (.eq rfl (.eq rfl (.un (.un .nil))))
  · obtain ⟨ns, hy, rfl⟩ := get_inj hd
    refine ⟨_, rfl, ?_⟩
    have hm := h1.2 ns (List.mem_of_getElem? hy)
    have hi : i < stem.length := (List.getElem?_eq_some_iff.mp hy).1
    refine rs_app 2 (ev_join (ts := "stem" :: ns.map numS) ev_s (er_o (eo_eq (eo_cat (er_o (eo_lst (ea_cons ev_s ea_nil))) (er_o (eo_lc1 (inj := D.int) (f := fun n => D.str (numS n)) 4 rfl nd (ei_t (ev_v 3)) (blkOk_by (own := [("_law_number", 4)]) (N := ["_law_stem", "_law_loop", "_law_lines", "_law_state", "_law_number"]) (sc := defScope s_l_lasso_text) (by decide +kernel)) (sz6 (by omega)) (fun _ _ _ _ _ => pg_name (i := 4) nd rfl (Or.inl rfl)) (fun y hy _ _ _ _ _ => (ev_strI T.str (ev_v 4) (num_log (hm.2 y hy)))))) ?h1) ?h2)) (jl stem_len hm.1 hm.2)) ?_ ?hz
    case h1 => rw [List.length_map]; exact sz6 (by show 1 + ns.length ≤ 1000000; omega)
    case h2 => rw [List.map_cons, List.map_map]; rfl
    case hz => rw [List.length_map, List.length_cons, List.length_map, List.length_take]; exact sz6' (by omega)
    refine rs_nil (.eq rfl (.eq rfl (.eq ?_ (.un (.un .nil)))))
    rw [List.take_add_one, hy, List.map_append, List.map_cons, List.map_cons, List.map_append, List.cons_append]
    rfl
  rw [List.length_map, List.take_length]
  refine rs_forG (fun i => [.da (.lst (stem.map tupI)), .da (.lst (loop.map tupI)), .ol ((("fails" : Str) :: (stem.map (stLine "stem") ++ (loop.take i).map (stLine "loop"))).map D.str), .un, .un]) PassesOwn.never (ei_l (ev_v 1)) (tg_n 3 nd) ?s0 (fun i d hd => ?_) ?_
  case s0 => exact .eq rfl (.eq rfl (.eq (by simp) (.un (.un .nil))))
  · obtain ⟨ns, hy, rfl⟩ := get_inj hd
    refine ⟨_, rfl, ?_⟩
    have hm := h2.2 ns (List.mem_of_getElem? hy)
    have hi : i < loop.length := (List.getElem?_eq_some_iff.mp hy).1
    refine rs_app 2 (ev_join (ts := "loop" :: ns.map numS) ev_s (er_o (eo_eq (eo_cat (er_o (eo_lst (ea_cons ev_s ea_nil))) (er_o (eo_lc1 (inj := D.int) (f := fun n => D.str (numS n)) 4 rfl nd (ei_t (ev_v 3)) (blkOk_by (own := [("_law_number", 4)]) (N := ["_law_stem", "_law_loop", "_law_lines", "_law_state", "_law_number"]) (sc := defScope s_l_lasso_text) (by decide +kernel)) (sz6 (by omega)) (fun _ _ _ _ _ => pg_name (i := 4) nd rfl (Or.inl rfl)) (fun y hy _ _ _ _ _ => (ev_strI T.str (ev_v 4) (num_log (hm.2 y hy)))))) ?h1) ?h2)) (jl loop_len hm.1 hm.2)) ?_ ?hz
    case h1 => rw [List.length_map]; exact sz6 (by show 1 + ns.length ≤ 1000000; omega)
    case h2 => rw [List.map_cons, List.map_map]; rfl
    case hz => rw [List.length_map, List.length_cons, List.length_append, List.length_map, List.length_map, List.length_take]; exact sz6' (by omega)
    refine rs_nil (.eq rfl (.eq rfl (.eq ?_ (.un (.un .nil)))))
    rw [List.take_add_one, hy]
    simp [stLine]
  rw [List.length_map, List.take_length]
  refine rs_ret (ev_join (ts := lassoLines stem loop) ev_s (er_v 2) ?hz) rfl
  case hz =>
    have z := sum_le (f := fun p : Str => p.length) (B := 2020) (xs := lassoLines stem loop) (lasso_lens h1 h2)
    have y := lines_n h1 h2
    rw [nl_len]
    omega
/-! ### the same -/
abbrev s_l_same_state : Stmt := topS 23
theorem cs_l_same_state : FnScope ["_law_actual", "_law_due", "_law_k"] ["_law_actual", "_law_due"] (defScope s_l_same_state) := ⟨rfl, rfl, rfl, by decide +kernel, rfl, by decide +kernel, by decide +kernel⟩
def Ss_l_same_state (ds : List D) (r : D) : Prop := ∃ ns : List Int, ds = [tupI ns, tupI ns] ∧ ns.length ≤ 1000000 ∧ r = .bl true
theorem oks_l_same_state (Df : Dfn K mg "_law_same_state" s_l_same_state ["_law_actual", "_law_due"]) (T : Txt mg) (C_l_is_number : Cal P w K mg base 1 "_law_is_number" ["_law_actual"] Ss_l_is_number) : Cal P w K mg base 2 "_law_same_state" ["_law_actual", "_law_due"] Ss_l_same_state := by
  refine cal_ok Df cs_l_same_state (fun ds r h => ?_) (fun f cdv A outer s H E ds r hr h => ?_)
  · obtain ⟨ns, rfl, _⟩ := h
    rfl
  obtain ⟨ns, rfl, hz, rfl⟩ := h
  show Rs _ _ [.da (.tup (ns.map D.int)), .da (.tup (ns.map D.int)), .un] _ _
  have nd := cs_l_same_state.nd
  refine rs_if1 (et_w (ew_or (et_not (et_b (ev_isi (k := true) T.isinstance (ev_v 0) T.tuple boot_tuple rfl))) (fun _ => (ew_or1 (et_c (ec_neI (ev_lenT T.len (ev_v 0)) (ev_lenT T.len (ev_v 1)))))))) (fun hc => ?_) (fun hc => ?_)
  · simp at hc
  refine rs_forG (fun i => [.da (.tup (ns.map D.int)), .da (.tup (ns.map D.int)), .un]) PassesOwn.never (ei_r1 T.range (ev_lenT T.len (ev_v 1)) ?hn) (tg_n 2 nd) ?s0 (fun i d hd => ?_) ?_
  case hn => rw [List.length_map]; omega
  case s0 => exact Sub.refl _
  · obtain ⟨hi, rfl⟩ := get_range hd
    rw [List.length_map, Int.toNat_natCast] at hi
    refine ⟨_, rfl, ?_⟩
    have hx : ns[i]? = some ns[i] := by simp [hi]
    refine rs_if1 (et_w (ew_or (et_not (et_b (ev_cal C_l_is_number hr (ea_cons (ev_ixT (ev_v 0) (ev_v 2) (at_map hx)) ea_nil) ⟨_, rfl, rfl⟩))) (fun _ => (ew_or1 (et_c (ec_neI (ev_ixT (ev_v 0) (ev_v 2) (at_map hx)) (ev_ixT (ev_v 1) (ev_v 2) (at_map hx)))))))) (fun hc => ?_) (fun hc => ?_)
    · simp at hc
    exact rs_nil (.eq rfl (.eq rfl (.un .nil)))
  exact rs_ret ev_b rfl
abbrev s_l_same_states : Stmt := topS 24
theorem cs_l_same_states : FnScope ["_law_actual", "_law_due", "_law_k"] ["_law_actual", "_law_due"] (defScope s_l_same_states) := ⟨rfl, rfl, rfl, by decide +kernel, rfl, by decide +kernel, by decide +kernel⟩
def Ss_l_same_states (ds : List D) (r : D) : Prop := ∃ sts : List (List Int), ds = [.lst (sts.map tupI), .lst (sts.map tupI)] ∧ OkSts sts ∧ r = .bl true
theorem oks_l_same_states (Df : Dfn K mg "_law_same_states" s_l_same_states ["_law_actual", "_law_due"]) (T : Txt mg) (C_l_same_state : Cal P w K mg base 2 "_law_same_state" ["_law_actual", "_law_due"] Ss_l_same_state) : Cal P w K mg base 3 "_law_same_states" ["_law_actual", "_law_due"] Ss_l_same_states := by
  refine cal_ok Df cs_l_same_states (fun ds r h => ?_) (fun f cdv A outer s H E ds r hr h => ?_)
  · obtain ⟨sts, rfl, _⟩ := h
    rfl
  obtain ⟨sts, rfl, ok, rfl⟩ := h
  show Rs _ _ [.da (.lst (sts.map tupI)), .da (.lst (sts.map tupI)), .un] _ _
  have nd := cs_l_same_states.nd
  have z := ok.1
  refine rs_if1 (et_w (ew_or (et_not (et_b (ev_isi (k := true) T.isinstance (ev_v 0) T.list boot_list rfl))) (fun _ => (ew_or1 (et_c (ec_neI (ev_len T.len (er_d (ev_v 0))) (ev_len T.len (er_d (ev_v 1))))))))) (fun hc => ?_) (fun hc => ?_)
  · simp at hc
  refine rs_forG (fun i => [.da (.lst (sts.map tupI)), .da (.lst (sts.map tupI)), .un]) PassesOwn.never (ei_r1 T.range (ev_len T.len (er_d (ev_v 1))) ?hn) (tg_n 2 nd) ?s0 (fun i d hd => ?_) ?_
  case hn => rw [List.length_map]; omega
  case s0 => exact Sub.refl _
  · obtain ⟨hi, rfl⟩ := get_range hd
    rw [List.length_map, Int.toNat_natCast] at hi
    refine ⟨_, rfl, ?_⟩
    have hx : sts[i]? = some sts[i] := by simp [hi]
    refine rs_if1 (et_not (et_b (ev_cal C_l_same_state hr (ea_cons (ev_ix (er_d (ev_v 0)) (ev_v 2) (at_map hx)) (ea_cons (ev_ix (er_d (ev_v 1)) (ev_v 2) (at_map hx)) ea_nil)) ⟨_, rfl, ?hl, rfl⟩))) (fun hc => ?_) (fun hc => ?_)
    case hl => have := (ok.2 _ (List.getElem_mem hi)).1; omega
    · cases hc
    exact rs_nil (.eq rfl (.eq rfl (.un .nil)))
  exact rs_ret ev_b rfl
/-! ### a verdict made -/
abbrev s_Verdict : Stmt := inClass (topS 15) 0
theorem cs_Verdict : FnScope ["self", "holds", "certificate", "stem", "loop"] ["self", "holds", "certificate", "stem", "loop"] (defScope s_Verdict) := ⟨rfl, rfl, rfl, by decide +kernel, rfl, by decide +kernel, by decide +kernel⟩
def vdT (C : Addr) (xs ys : List D) : OT := .obj C [("holds", .fz (.bl false)), ("certificate", .fz .non), ("stem", .lst (xs.map .fz)), ("loop", .lst (ys.map .fz))]
def vdD (C : Addr) (xs ys : List D) : D := .obj C [("holds", .bl false), ("certificate", .non), ("stem", .lst xs), ("loop", .lst ys)]
theorem vd_fr (C : Addr) (xs ys : List D) : fr (vdT C xs ys) = vdD C xs ys := by
  unfold vdT vdD
  rw [fr, frS, frS, frS, frS, frS, fr_ol, fr_ol, fr, fr]
def Ss_Verdict (C : Addr) (t : OT) (ds : List D) (t' : OT) (r : D) : Prop := ∃ xs ys : List D, t = .obj C [] ∧ ds = [.bl false, .non, .lst xs, .lst ys] ∧ t' = vdT C xs ys ∧ r = .non
theorem oks_Verdict {C f : Addr} {fd : FuncData} (F : Fun K "__init__" "Verdict.__init__" s_Verdict f fd) (V : Vd K mg C) (T : Txt mg) : FnOk P w K mg base CX0 1 f fd ["self", "holds", "certificate", "stem", "loop"] (SpM K (Ss_Verdict C)) := by
  refine fn_okM F cs_Verdict (fun t ds t' r h => ?_) (fun cdv A outer s H Hg E p t ds t' r hr h => ?_)
  · obtain ⟨xs, ys, _, rfl, _⟩ := h
    rfl
  obtain ⟨xs, ys, rfl, rfl, rfl, rfl⟩ := h
  show Rs _ _ [.slf p (.obj C []), .da (.bl false), .da .non, .da (.lst xs), .da (.lst ys)] _ _
  have n1 : (("holds" : Str) == "certificate") = false := by decide +kernel
  have n2 : (("holds" : Str) == "stem") = false := by decide +kernel
  have n3 : (("holds" : Str) == "loop") = false := by decide +kernel
  have n4 : (("certificate" : Str) == "stem") = false := by decide +kernel
  have n5 : (("certificate" : Str) == "loop") = false := by decide +kernel
  have n6 : (("stem" : Str) == "loop") = false := by decide +kernel
  have n7 : (("loop" : Str) == "stem") = false := by decide +kernel
  refine rs_fld 0 (en_d (ev_v 1)) V.cl V.h ?_
  rw [putT_nil]
  refine rs_fld 0 (en_d (ev_v 2)) V.cl V.c ?_
  rw [putT_ne n1, putT_nil]
  refine rs_fld 0 (en_d ev_n) V.cl V.s ?_
  rw [putT_ne n2, putT_ne n4, putT_nil]
  refine rs_fld 0 (en_d ev_n) V.cl V.l ?_
  rw [putT_ne n3, putT_ne n5, putT_ne n6, putT_nil]
  refine rs_last (rn_if (et_not (et_b (ev_v 1))) (fun _ => ?_) (fun hc => by cases hc))
  refine rs_fld 0 (en_o (eo_listL T.list (er_d (ev_v 3)))) V.cl V.s ?_
  rw [putT_ne n2, putT_ne n4, putT_eq]
  refine rs_fld 0 (en_o (eo_listL T.list (er_d (ev_v 4)))) V.cl V.l ?_
  rw [putT_ne n3, putT_ne n5, putT_ne n6, putT_eq]
  exact rs_nil ⟨rfl, rfl⟩
/-! ### law -/
abbrev s_law : Stmt := topS 25
theorem cs_law : FnScope ["_law_script", "_law_stem", "_law_loop", "_law_due", "_law_passed", "_law_text", "_law_back", "_law_verdict"] ["_law_script"] (defScope s_law) := ⟨rfl, rfl, rfl, by decide +kernel, rfl, by decide +kernel, by decide +kernel⟩
def passT (xs ys : List D) : OT := .lst [.lst (xs.map .fz), .lst (ys.map .fz)]
theorem pass_fr (xs ys : List D) : fr (passT xs ys) = .lst [.lst xs, .lst ys] := by
  unfold passT
  rw [fr, frA, frA, frA, fr_ol, fr_ol]
theorem py_sts (l : List (List Int)) : toPyA (l.map tupI) = l.map fun ns => PyData.tuple (ns.map .int) := by
  have e : ∀ ns : List Int, toPyA (ns.map D.int) = ns.map .int := fun ns => by
    induction ns with
    | nil => rw [List.map_nil, toPyA]; rfl
    | cons n ns ih => rw [List.map_cons, toPyA, toPy, ih]; rfl
  induction l with
  | nil => rw [List.map_nil, toPyA]; rfl
  | cons n ns ih => rw [List.map_cons, toPyA, ih, List.map_cons, tupI, toPy, e]
theorem frz_pass {a b c e g h i : Sl} {q : Option Addr} (xs ys : List D) : Frz [a, b, c, e, .tr q (passT xs ys), g, h, i] [a, b, c, e, .da (.lst [.lst xs, .lst ys]), g, h, i] := .sm (.sm (.sm (.sm (.fz (pass_fr xs ys) (.sm (.sm (.sm .nil)))))))
theorem ok_sts (sts : List (List Int)) (n : Nat) : okD (.lst (sts.map tupI)) (n + 2) = true := by
  rw [okD]
  exact okA_map fun ns _ => by
    rw [tupI, okD]
    exact okA_map fun i _ => by rw [okD] <;> intros <;> contradiction
theorem oks_law (Df : Dfn K mg "law" s_law ["_law_script"]) (T : Txt mg) {C : Addr} (V : Vd K mg C) (M : Mak P w K mg base 1 "Verdict" C ["self", "holds", "certificate", "stem", "loop"] (Ss_Verdict C))
    (C_l_drawn_lasso : Cal P w K mg base 4 "_law_drawn_lasso" ["_law_script"] Ss_l_drawn_lasso) (C_l_lasso_text : Cal P w K mg base 1 "_law_lasso_text" ["_law_stem", "_law_loop"] Ss_write_lasso) (Cwrite_lasso : Cal P w K mg base 2 "write_lasso" ["stem", "loop"] Ss_write_lasso)
    (Cread_lasso : Cal P w K mg base 4 "read_lasso" ["text"] Ss_read_lasso) (C_l_same_states : Cal P w K mg base 3 "_law_same_states" ["_law_actual", "_law_due"] Ss_l_same_states) : Cal P w K mg base 5 "law" ["_law_script"] SsLaw := by
  refine cal_ok Df cs_law (fun ds r h => ?_) (fun f cdv A outer s H E ds r hr h => ?_)
  · obtain ⟨ns, rfl, _⟩ := h
    rfl
  obtain ⟨ns, rfl, _, rfl⟩ := h
  show Rs _ _ [.da (.scr ns), .un, .un, .un, .un, .un, .un, .un] _ _
  have nd := cs_law.nd
  obtain ⟨h1, h2, hne⟩ := lasso_ok ns
  refine rs_tg (tg_t (tg_cons (tg_n 1 nd) (tg_cons (tg_n 2 nd) tg_nil)) (u_len (u_len u_len0))) (ev_cal C_l_drawn_lasso hr (ea_cons (ev_v 0) ea_nil) ⟨ns, rfl, rfl⟩) ⟨_, rfl, _, _, _, rfl, rfl, _, _, _, rfl, rfl, rfl, rfl⟩ ?_
  generalize stemOf ns = stem at h1 h2 hne ⊢
  generalize loopOf ns = loop at h1 h2 hne ⊢
  refine rs_set 3 nd (ev_cal C_l_lasso_text (hr.mono (by decide)) (ea_cons (ev_v 1) (ea_cons (ev_v 2) ea_nil)) ⟨stem, loop, rfl, h1, h2, rfl⟩) ?_
  refine rs_setN 4 nd (en_lst (ts := [.lst ((stem.map tupI).map .fz), .lst ((loop.map tupI).map .fz)]) (ena_cons (en_o (eo_listL T.list (er_d (ev_v 1)))) (ena_cons (en_o (eo_listL T.list (er_d (ev_v 2)))) ena_nil))) ?_
  refine rs_set 5 nd (ev_bor (frz_pass (stem.map tupI) (loop.map tupI)) (ev_cal Cwrite_lasso (hr.mono (by decide)) (ea_cons (ev_ix (er_d (ev_v 4)) ev_i (d := .lst (stem.map tupI)) rfl) (ea_cons (ev_ix (er_d (ev_v 4)) ev_i (d := .lst (loop.map tupI)) rfl) ea_nil)) ⟨stem, loop, rfl, h1, h2, rfl⟩)) ?_
  have okp : okD (.lst [.lst (stem.map tupI), .lst (loop.map tupI)]) 64 = true := by
    rw [okD, okA, okA, okA, ok_sts, ok_sts]
    rfl
  refine rs_if1 (et_w (ew_or (k := false) (et_c (ec_bor (frz_pass (stem.map tupI) (loop.map tupI)) (ec_neR (ev_v 4) (ev_o (eo_lst (ea_cons (ev_v 1) (ea_cons (ev_v 2) ea_nil)))) okp hr))) (fun _ => (ew_or (et_not (et_b (ev_isi (k := true) T.isinstance (ev_v 5) T.str boot_str rfl))) (fun _ => (ew_or1 (et_c (ec_neS (ev_v 5) (ev_v 3))))))))) (fun hc => ?_) (fun hc => ?_)
  · simp at hc
  refine rs_set 6 nd (ev_cal Cread_lasso (hr.mono (by decide)) (ea_cons (ev_v 3) ea_nil) ⟨stem, loop, rfl, h1, h2, hne, rfl⟩) ?_
  refine rs_if1 (et_w (ew_or (et_not (et_b (ev_isi (k := true) T.isinstance (ev_v 6) T.tuple boot_tuple rfl))) (fun _ => (ew_or1 (et_c (ec_neI (ev_lenT T.len (ev_v 6)) ev_i)))))) (fun hc => ?_) (fun hc => ?_)
  · simp at hc
  refine rs_if1 (et_w (ew_or (et_not (et_b (ev_cal C_l_same_states (hr.mono (by decide)) (ea_cons (ev_ixT (ev_v 6) ev_i (d := .lst (stem.map tupI)) rfl) (ea_cons (ev_v 1) ea_nil)) ⟨stem, rfl, h1, rfl⟩))) (fun _ => (ew_or1 (et_not (et_b (ev_cal C_l_same_states (hr.mono (by decide)) (ea_cons (ev_ixT (ev_v 6) ev_i (d := .lst (loop.map tupI)) rfl) (ea_cons (ev_v 2) ea_nil)) ⟨loop, rfl, h2, rfl⟩))))))) (fun hc => ?_) (fun hc => ?_)
  · simp at hc
  have lv : lvT (vdT C (stem.map tupI) (loop.map tupI)) = true := by
    have e : ∀ l : List (List Int), tupDA (l.map tupI) = true := fun l => by
      induction l with
      | nil => rw [List.map_nil, tupDA]
      | cons n ns ih => rw [List.map_cons, tupDA, ih, tupI, tupD, tupDA_ints]; rfl
    unfold vdT
    rw [lvT, lvS, lvS, lvS, lvS, lvS, lvT, lvT, lvT, lvT, lvA_fz (e _), lvA_fz (e _)]
    rfl
  refine rs_setN 7 nd (en_bor (frz_pass (stem.map tupI) (loop.map tupI)) (en_make M (hr.mono (by decide)) (ea_cons ev_b (ea_cons ev_n (ea_cons (ev_ix (er_d (ev_v 4)) ev_i (d := .lst (stem.map tupI)) rfl) (ea_cons (ev_ix (er_d (ev_v 4)) ev_i (d := .lst (loop.map tupI)) rfl) ea_nil)))) ⟨_, _, rfl, rfl, rfl, rfl⟩) lv) ?_
  obtain ⟨l0, lr, hl⟩ : ∃ a r, loop = a :: r := by
    cases loop with
    | nil => exact absurd rfl hne
    | cons a r => exact ⟨a, r, rfl⟩
  have hx : loop[0]? = some l0 := by rw [hl]; rfl
  refine rs_app1 4 0 (ts := [.lst ((stem.map tupI).map .fz), .lst ((loop.map tupI).map .fz)]) (d := tupI l0) (ev_ix (er_d (ev_v 2)) ev_i (at_map (i := 0) hx)) ?_ ?hz rfl
  case hz => rw [List.length_map]; exact sz6' (by have := h1.1; omega)
  refine rs_app1 4 1 (ts := [_, .lst ((loop.map tupI).map .fz)]) (d := tupI l0) (ev_ix (er_d (ev_v 2)) ev_i (at_map (i := 0) hx)) ?_ ?hz rfl
  case hz => rw [List.length_map]; exact sz6' (by have := h2.1; omega)
  refine rs_freezeT 7 rfl ?_
  rw [vd_fr]
  refine rs_if1 (et_w (ew_or (et_c (ec_notB (ev_fld (ev_v 7) V.cl V.h rfl) ev_b)) (fun _ => (ew_or1 (et_c (ec_notN (ev_fld (ev_v 7) V.cl V.c rfl) ev_n)))))) (fun hc => ?_) (fun hc => ?_)
  · cases hc
  exact rs_ret (ev_and (ev_cal C_l_same_states (hr.mono (by decide)) (ea_cons (ev_fld (ev_v 7) V.cl V.s rfl) (ea_cons (ev_v 1) ea_nil)) ⟨stem, rfl, h1, rfl⟩) (fun _ => (ev_one (ev_cal C_l_same_states (hr.mono (by decide)) (ea_cons (ev_fld (ev_v 7) V.cl V.l rfl) (ea_cons (ev_v 2) ea_nil)) ⟨loop, rfl, h2, rfl⟩)))) rfl
theorem all_ok (T : Txt mg) {C : Addr} (I : Ini K mg "Verdict" "Verdict.__init__" C s_Verdict ["self", "holds", "certificate", "stem", "loop"]) (n1 : NoAttr K C "holds") (n2 : NoAttr K C "certificate") (n3 : NoAttr K C "stem") (n4 : NoAttr K C "loop")
    (D_is_plain : Dfn K mg "is_plain" s_is_plain ["word"]) (D_is_signed : Dfn K mg "is_signed" s_is_signed ["word"]) (D_all_signed : Dfn K mg "all_signed" s_all_signed ["words"]) (D_numbers_of : Dfn K mg "numbers_of" s_numbers_of ["words"]) (D_state_line : Dfn K mg "state_line" s_state_line ["word", "state"]) (D_write_lasso : Dfn K mg "write_lasso" s_write_lasso ["stem", "loop"]) (D_read_lasso : Dfn K mg "read_lasso" s_read_lasso ["text"]) (D_law_draws : Dfn K mg "_law_draws" s_l_draws ["_law_script", "_law_at", "_law_sizes"]) (D_law_is_number : Dfn K mg "_law_is_number" s_l_is_number ["_law_actual"]) (D_law_wholes : Dfn K mg "_law_wholes" s_l_wholes ["_law_script", "_law_at", "_law_count"]) (D_law_drawn_states : Dfn K mg "_law_drawn_states" s_l_drawn_states ["_law_script", "_law_at", "_law_count", "_law_size", "_law_vary"]) (D_law_drawn_lasso : Dfn K mg "_law_drawn_lasso" s_l_drawn_lasso ["_law_script"]) (D_law_lasso_text : Dfn K mg "_law_lasso_text" s_l_lasso_text ["_law_stem", "_law_loop"]) (D_law_same_state : Dfn K mg "_law_same_state" s_l_same_state ["_law_actual", "_law_due"]) (D_law_same_states : Dfn K mg "_law_same_states" s_l_same_states ["_law_actual", "_law_due"]) (D_law : Dfn K mg "law" s_law ["_law_script"]) : Cal P w K mg base 5 "law" ["_law_script"] SsLaw := by
  have V : Vd K mg C := ⟨I.1, I.2.1, n1, n2, n3, n4⟩
  have c1 := oks_is_plain (P := P) (w := w) (base := base) D_is_plain T
  have c2 := oks_is_signed D_is_signed T c1
  have c3 := oks_all_signed D_all_signed T c2
  have c4 := oks_numbers_of (P := P) (w := w) (base := base) D_numbers_of T
  have c5 := oks_state_line (P := P) (w := w) (base := base) D_state_line T
  have c6 := oks_write_lasso D_write_lasso T c5
  have c7 := oks_read_lasso D_read_lasso T c3 c4
  have e1 := oks_l_draws (P := P) (w := w) (base := base) D_law_draws T
  have e2 := oks_l_is_number (P := P) (w := w) (base := base) D_law_is_number T
  have e3 := oks_l_wholes D_law_wholes T e1
  have e4 := oks_l_drawn_states D_law_drawn_states T e1 e3
  have e5 := oks_l_drawn_lasso D_law_drawn_lasso T e1 e4
  have e6 := oks_l_lasso_text (P := P) (w := w) (base := base) D_law_lasso_text T
  have e7 := oks_l_same_state D_law_same_state T e2
  have e8 := oks_l_same_states D_law_same_states T e7
  have M : Mak P w K mg base 1 "Verdict" C ["self", "holds", "certificate", "stem", "loop"] (Ss_Verdict C) := I.mak fun F => oks_Verdict F V T
  exact oks_law D_law T V M e5 e6 c6 c7 e8
end
end Lw

open PySem PySem.W PyProof.Rows
set_option maxRecDepth 100000 in
set_option maxHeartbeats 0 in
theorem PySem.Challenge.cw_lassoproof_k76_lassos_written_and_read_holds : PySem.Challenge.rw_lassoproof_k76_lassos_written_and_read.Holds := by
  w_on; o_law; k_head; (case hw => w_witness2)
  k_fill
  refine Dv.walk_end (l := PySem.Challenge.rw_lassoproof_k76_lassos_written_and_read) (st := Lw.s_law) (k := 5) (p := "_law_script") rfl rfl ⟨rfl, by decide, by decide⟩ (fun w h Y => PySem.W.kIn_of Y) (fun _ _ _ _ _ _ _ => rfl) ?F
  case F =>
    intro w mg h KX G
    refine' Dv.use (Dv.dfn_mk KX G (x := "is_plain") (st := Lw.s_is_plain) (ps := ["word"]) ?a ?l ?c ?k (fun _ _ _ _ _ _ us hl => match us, hl with | [_], _ => rfl)) (fun D_is_plain => ?_)
    (case a => k_is); (case l => k_is); (case c => k_is); (case k => k_is)
    refine' Dv.use (Dv.dfn_mk KX G (x := "is_signed") (st := Lw.s_is_signed) (ps := ["word"]) ?a ?l ?c ?k (fun _ _ _ _ _ _ us hl => match us, hl with | [_], _ => rfl)) (fun D_is_signed => ?_)
    (case a => k_is); (case l => k_is); (case c => k_is); (case k => k_is)
    refine' Dv.use (Dv.dfn_mk KX G (x := "all_signed") (st := Lw.s_all_signed) (ps := ["words"]) ?a ?l ?c ?k (fun _ _ _ _ _ _ us hl => match us, hl with | [_], _ => rfl)) (fun D_all_signed => ?_)
    (case a => k_is); (case l => k_is); (case c => k_is); (case k => k_is)
    refine' Dv.use (Dv.dfn_mk KX G (x := "numbers_of") (st := Lw.s_numbers_of) (ps := ["words"]) ?a ?l ?c ?k (fun _ _ _ _ _ _ us hl => match us, hl with | [_], _ => rfl)) (fun D_numbers_of => ?_)
    (case a => k_is); (case l => k_is); (case c => k_is); (case k => k_is)
    refine' Dv.use (Dv.dfn_mk KX G (x := "state_line") (st := Lw.s_state_line) (ps := ["word", "state"]) ?a ?l ?c ?k (fun _ _ _ _ _ _ us hl => match us, hl with | [_, _], _ => rfl)) (fun D_state_line => ?_)
    (case a => k_is); (case l => k_is); (case c => k_is); (case k => k_is)
    refine' Dv.use (Dv.dfn_mk KX G (x := "write_lasso") (st := Lw.s_write_lasso) (ps := ["stem", "loop"]) ?a ?l ?c ?k (fun _ _ _ _ _ _ us hl => match us, hl with | [_, _], _ => rfl)) (fun D_write_lasso => ?_)
    (case a => k_is); (case l => k_is); (case c => k_is); (case k => k_is)
    refine' Dv.use (Dv.dfn_mk KX G (x := "read_lasso") (st := Lw.s_read_lasso) (ps := ["text"]) ?a ?l ?c ?k (fun _ _ _ _ _ _ us hl => match us, hl with | [_], _ => rfl)) (fun D_read_lasso => ?_)
    (case a => k_is); (case l => k_is); (case c => k_is); (case k => k_is)
    refine' Dv.use (Dv.dfn_mk KX G (x := "_law_draws") (st := Lw.s_l_draws) (ps := ["_law_script", "_law_at", "_law_sizes"]) ?a ?l ?c ?k (fun _ _ _ _ _ _ us hl => match us, hl with | [_, _, _], _ => rfl)) (fun D__law_draws => ?_)
    (case a => k_is); (case l => k_is); (case c => k_is); (case k => k_is)
    refine' Dv.use (Dv.dfn_mk KX G (x := "_law_is_number") (st := Lw.s_l_is_number) (ps := ["_law_actual"]) ?a ?l ?c ?k (fun _ _ _ _ _ _ us hl => match us, hl with | [_], _ => rfl)) (fun D__law_is_number => ?_)
    (case a => k_is); (case l => k_is); (case c => k_is); (case k => k_is)
    refine' Dv.use (Dv.dfn_mk KX G (x := "_law_wholes") (st := Lw.s_l_wholes) (ps := ["_law_script", "_law_at", "_law_count"]) ?a ?l ?c ?k (fun _ _ _ _ _ _ us hl => match us, hl with | [_, _, _], _ => rfl)) (fun D__law_wholes => ?_)
    (case a => k_is); (case l => k_is); (case c => k_is); (case k => k_is)
    refine' Dv.use (Dv.dfn_mk KX G (x := "_law_drawn_states") (st := Lw.s_l_drawn_states) (ps := ["_law_script", "_law_at", "_law_count", "_law_size", "_law_vary"]) ?a ?l ?c ?k (fun _ _ _ _ _ _ us hl => match us, hl with | [_, _, _, _, _], _ => rfl)) (fun D__law_drawn_states => ?_)
    (case a => k_is); (case l => k_is); (case c => k_is); (case k => k_is)
    refine' Dv.use (Dv.dfn_mk KX G (x := "_law_drawn_lasso") (st := Lw.s_l_drawn_lasso) (ps := ["_law_script"]) ?a ?l ?c ?k (fun _ _ _ _ _ _ us hl => match us, hl with | [_], _ => rfl)) (fun D__law_drawn_lasso => ?_)
    (case a => k_is); (case l => k_is); (case c => k_is); (case k => k_is)
    refine' Dv.use (Dv.dfn_mk KX G (x := "_law_lasso_text") (st := Lw.s_l_lasso_text) (ps := ["_law_stem", "_law_loop"]) ?a ?l ?c ?k (fun _ _ _ _ _ _ us hl => match us, hl with | [_, _], _ => rfl)) (fun D__law_lasso_text => ?_)
    (case a => k_is); (case l => k_is); (case c => k_is); (case k => k_is)
    refine' Dv.use (Dv.dfn_mk KX G (x := "_law_same_state") (st := Lw.s_l_same_state) (ps := ["_law_actual", "_law_due"]) ?a ?l ?c ?k (fun _ _ _ _ _ _ us hl => match us, hl with | [_, _], _ => rfl)) (fun D__law_same_state => ?_)
    (case a => k_is); (case l => k_is); (case c => k_is); (case k => k_is)
    refine' Dv.use (Dv.dfn_mk KX G (x := "_law_same_states") (st := Lw.s_l_same_states) (ps := ["_law_actual", "_law_due"]) ?a ?l ?c ?k (fun _ _ _ _ _ _ us hl => match us, hl with | [_, _], _ => rfl)) (fun D__law_same_states => ?_)
    (case a => k_is); (case l => k_is); (case c => k_is); (case k => k_is)
    refine' Dv.use (Dv.dfn_mk KX G (x := "law") (st := Lw.s_law) (ps := ["_law_script"]) ?a ?l ?c ?k (fun _ _ _ _ _ _ us hl => match us, hl with | [_], _ => rfl)) (fun D_law => ?_)
    (case a => k_is); (case l => k_is); (case c => k_is); (case k => k_is)
    have N_len : mg "len" = none := by
      refine' PySem.W.mg_none_of KX G ?z
      (case z => k_is)
    have N_range : mg "range" = none := by
      refine' PySem.W.mg_none_of KX G ?z
      (case z => k_is)
    have N_int : mg "int" = none := by
      refine' PySem.W.mg_none_of KX G ?z
      (case z => k_is)
    have N_str : mg "str" = none := by
      refine' PySem.W.mg_none_of KX G ?z
      (case z => k_is)
    have N_list : mg "list" = none := by
      refine' PySem.W.mg_none_of KX G ?z
      (case z => k_is)
    have N_tuple : mg "tuple" = none := by
      refine' PySem.W.mg_none_of KX G ?z
      (case z => k_is)
    have N_bool : mg "bool" = none := by
      refine' PySem.W.mg_none_of KX G ?z
      (case z => k_is)
    have N_isinstance : mg "isinstance" = none := by
      refine' PySem.W.mg_none_of KX G ?z
      (case z => k_is)
    have N_all : mg "all" = none := by
      refine' PySem.W.mg_none_of KX G ?z
      (case z => k_is)
    refine' Dv.use (PySem.W.mg_of KX G (n := "DIGITS") ?z) (fun N_DIGITS => ?_)
    (case z => k_is)
    refine' Dv.use (PySem.W.mg_of KX G (n := "MOST_DIGITS") ?z) (fun N_MOST_DIGITS => ?_)
    (case z => k_is)
    have T : Lw.Txt mg := ⟨N_len, N_range, N_int, N_str, N_list, N_tuple, N_bool, N_isinstance, N_all, ⟨_, N_DIGITS⟩, ⟨_, N_MOST_DIGITS⟩⟩
    refine' Dv.use (Dv.ini_mk KX G (x := "Verdict") (qual := "Verdict.__init__") (st := Lw.s_Verdict) (ps := ["self", "holds", "certificate", "stem", "loop"]) ?aC ?a ?i ?l ?c ?k ?pg ?hd ?po ?sa ?mk ?kc (fun _ _ _ _ _ _ us hl => match us, hl with | [_, _, _, _, _], _ => rfl)) (fun I_Verdict => ?_)
    (case aC => k_is); (case a => k_is); (case i => k_is); (case l => k_is); (case c => k_is); (case k => k_is); (case pg => k_is); (case hd => k_is); (case po => k_is); (case sa => k_is); (case mk => k_is); (case kc => k_is)
    refine' ⟨D_law, fun base _ _ => Lw.all_ok T I_Verdict (Dv.noattr_mk ?n1) (Dv.noattr_mk ?n2) (Dv.noattr_mk ?n3) (Dv.noattr_mk ?n4) D_is_plain D_is_signed D_all_signed D_numbers_of D_state_line D_write_lasso D_read_lasso D__law_draws D__law_is_number D__law_wholes D__law_drawn_states D__law_drawn_lasso D__law_lasso_text D__law_same_state D__law_same_states D_law⟩
    (case n1 => k_is); (case n2 => k_is); (case n3 => k_is); (case n4 => k_is)
