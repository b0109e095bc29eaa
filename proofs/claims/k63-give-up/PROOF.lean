import PyProof.Rows.All
import Wide.All
import OpenK.AllK
import Wide.FinOn
import HandS.ForMost
import HandS.Deep
import HandS.TupAny
import HandS.TupLen
import HandS.Style
import HandS.IsInst
import HandS.SortInts
import HandS.Conv
import HandS.Star
import KE.KSortedM
import HandS.Property
import KE.GoesMore
import KE.GoesEnum
import HandS.Zip
import HandS.DictComp
import HandS.Iter
import PyProof.RulesMatch
import PyProof.RulesMatchSeq
import PyProof.Rows.MatchSeqLen
import HandS.Text
import HandS.GenList
import PyProof.GenComp
import HandS.Small
import KE.DataMinMax
import PySem.Challenge.RW_keywaits_k63_whole_bindings_to_give_up_b
import PyProof.StrLawsIn
import KE.SortData
import KE.DatumOrd
set_option Elab.async false
set_option linter.all false
set_option maxRecDepth 100000
set_option maxHeartbeats 4000000
/-! Values without a heap, and what they have to do with the layer's heap: data (D), owned values (OV), Live. -/
namespace Kv
open PySem L2

inductive D where
  | no | non | bl (b : Bool) | int (i : Int) | str (x : Str) | byt (b : Array UInt8) | ty (n : String)
  | tup (xs : List D) | lst (xs : List D) | frl (xs : List D) | dct (t : Bool) (ks vs : List D) | ins (c : Nat) (fs : List D)
  deriving Inhabited

inductive OV where
  | no | fz (d : D) | ol (xs : List D) | od (t : Bool) (ks vs : List D) | oi (c : Nat) (fs : List OV) | oh (ns : List Str) (fs : List OV) | lk (x : HO)
  deriving Inhabited

mutual
def OV.dat : OV → D
  | .no => .no
  | .fz d => d
  | .ol xs => .lst xs
  | .od t ks vs => .dct t ks vs
  | .oi c fs => .ins c (OV.dats fs)
  | .oh _ _ => .no
  | .lk _ => .no
def OV.dats : List OV → List D
  | [] => []
  | o :: r => o.dat :: OV.dats r
end

/-- the classes: where they stand, their attributes by number -/
structure CT where
  ca : Nat → Addr
  fn : Nat → List Str
  K : PySem.W.Frag

/-- a dict's key, by value -/
def keyD : Key → D
  | .inl i => .int i
  | .inr x => .str x
def isNo : D → Bool
  | .no => true
  | _ => false
def OV.isNo : OV → Bool
  | .no => true
  | _ => false

/-- an instance's attributes fvs hold fl (where there is something) -/
structure Flds (names : List Str) (fl : List V) (pres : Nat → Bool) (fvs : List (Str × V)) : Prop where
  len : fl.length = names.length
  has : ∀ j n v, names[j]? = some n → fl[j]? = some v → pres j = true → fvs.lookup n = some v
  out : ∀ p ∈ fvs, p.1 ∈ names
  nd : (fvs.map (·.1)).Nodup

def presD (fs : List D) (j : Nat) : Bool := match fs[j]? with
  | some d => !isNo d
  | none => false
def presO (fs : List OV) (j : Nat) : Bool := match fs[j]? with
  | some d => !d.isNo
  | none => false

mutual
inductive Rep (T : CT) (G : Hp) : V → D → Prop
  | no (v : V) : Rep T G v .no
  | non : Rep T G .non .non
  | bl (b : Bool) : Rep T G (.bl b) (.bl b)
  | int (i : Int) : Rep T G (.int i) (.int i)
  | str (x : Str) : Rep T G (.str x) (.str x)
  | byt (x : Array UInt8) : Rep T G (.byt x) (.byt x)
  | ty (n : String) : Rep T G (.ty n) (.ty n)
  | tup {a : Addr} {vs : List V} {ds : List D} : G a = some (.tup vs) → Reps T G vs ds → Rep T G (.ref a) (.tup ds)
  | lst {a : Addr} {vs : List V} {ds : List D} : G a = some (.lst vs) → Reps T G vs ds → Rep T G (.ref a) (.lst ds)
  | frl {a : Addr} {vs : List V} {ds : List D} : SqL T.K G a vs → Reps T G vs ds → Rep T G (.ref a) (.frl ds)
  | dk {a : Addr} {kvs : List (Key × V)} {es : List D} : G a = some (.dK kvs) → (kvs.map (·.1)).Nodup → Reps T G (kvs.map (·.2)) es → Rep T G (.ref a) (.dct false (kvs.map fun p => keyD p.1) es)
  | dt {a : Addr} {kvs : List (List Key × V)} {es : List D} : G a = some (.dT kvs) → (kvs.map (·.1)).Nodup → Reps T G (kvs.map (·.2)) es → Rep T G (.ref a) (.dct true (kvs.map fun p => .tup (p.1.map keyD)) es)
  | ins {a dx : Addr} {c : Nat} {fvs : List (Str × V)} {fl : List V} {fs : List D} : G a = some (.ins (T.ca c) dx fvs) → G dx = some (.own a) → Flds (T.fn c) fl (presD fs) fvs → Reps T G fl fs → Rep T G (.ref a) (.ins c fs)
inductive Reps (T : CT) (G : Hp) : List V → List D → Prop
  | nil : Reps T G [] []
  | cons {v : V} {vs : List V} {d : D} {ds : List D} : Rep T G v d → Reps T G vs ds → Reps T G (v :: vs) (d :: ds)
end

/-- a dict by names -/
def kvz (ns : List Str) (vs : List V) : List (Key × V) := (ns.zip vs).map fun p => (.inr p.1, p.2)
mutual
inductive OwnR (T : CT) (G : Hp) : V → OV → List (Addr × HO) → Prop
  | no (v : V) : OwnR T G v .no []
  | fz {v : V} {d : D} : Rep T G v d → OwnR T G v (.fz d) []
  | ol {a : Addr} {vs : List V} {ds : List D} : Reps T G vs ds → OwnR T G (.ref a) (.ol ds) [(a, .lst vs)]
  | dk {a : Addr} {kvs : List (Key × V)} {es : List D} : (kvs.map (·.1)).Nodup → Reps T G (kvs.map (·.2)) es → OwnR T G (.ref a) (.od false (kvs.map fun p => keyD p.1) es) [(a, .dK kvs)]
  | dt {a : Addr} {kvs : List (List Key × V)} {es : List D} : (kvs.map (·.1)).Nodup → Reps T G (kvs.map (·.2)) es → OwnR T G (.ref a) (.od true (kvs.map fun p => .tup (p.1.map keyD)) es) [(a, .dT kvs)]
  | lk {a : Addr} {x : HO} : OwnR T G (.ref a) (.lk x) [(a, x)]
  | oi {a dx : Addr} {c : Nat} {fvs : List (Str × V)} {fl : List V} {fs : List OV} {O : List (Addr × HO)} : Flds (T.fn c) fl (presO fs) fvs → OwnL T G fl fs O → OwnR T G (.ref a) (.oi c fs) ((a, .ins (T.ca c) dx fvs) :: (dx, .own a) :: O)
  | oh {a : Addr} {ns : List Str} {vs : List V} {fs : List OV} {O : List (Addr × HO)} : ns.Nodup → vs.length = ns.length → OwnL T G vs fs O → OwnR T G (.ref a) (.oh ns fs) ((a, .dK (kvz ns vs)) :: O)
inductive OwnL (T : CT) (G : Hp) : List V → List OV → List (Addr × HO) → Prop
  | nil : OwnL T G [] [] []
  | cons {v : V} {vs : List V} {o : OV} {os : List OV} {O O' : List (Addr × HO)} : OwnR T G v o O → OwnL T G vs os O' → OwnL T G (v :: vs) (o :: os) (O ++ O')
end

/-- the live values: what is frozen (G), what is owned (O), apart -/
structure LiveG (T : CT) (G H : Hp) (L : List (V × OV)) (O : List (Addr × HO)) : Prop where
  same : Same G H
  own : OwnL T G (L.map (·.1)) (L.map (·.2)) O
  at_ : ∀ p ∈ O, H p.1 = some p.2
  out : ∀ p ∈ O, G p.1 = none
  nd : (O.map (·.1)).Nodup
def Live (T : CT) (H : Hp) (L : List (V × OV)) : Prop := ∃ G O, LiveG T G H L O

section
variable {T : CT} {G G' H H' : Hp}
mutual
theorem Rep.mono (s : Same G G') : ∀ {v : V} {d : D}, Rep T G v d → Rep T G' v d
  | _, _, .no v => .no v
  | _, _, .non => .non
  | _, _, .bl b => .bl b
  | _, _, .int b => .int b
  | _, _, .str b => .str b
  | _, _, .byt b => .byt b
  | _, _, .ty b => .ty b
  | _, _, .tup h r => .tup (s _ _ h) (Reps.mono s r)
  | _, _, .lst h r => .lst (s _ _ h) (Reps.mono s r)
  | _, _, .frl h r => .frl (Same.seq s h) (Reps.mono s r)
  | _, _, .dk h n r => .dk (s _ _ h) n (Reps.mono s r)
  | _, _, .dt h n r => .dt (s _ _ h) n (Reps.mono s r)
  | _, _, .ins h h2 f r => .ins (s _ _ h) (s _ _ h2) f (Reps.mono s r)
theorem Reps.mono (s : Same G G') : ∀ {vs : List V} {ds : List D}, Reps T G vs ds → Reps T G' vs ds
  | _, _, .nil => .nil
  | _, _, .cons h r => .cons (Rep.mono s h) (Reps.mono s r)
end
theorem Reps.length {vs : List V} {ds : List D} (r : Reps T G vs ds) : vs.length = ds.length := by
  induction vs generalizing ds with
  | nil => cases r; rfl
  | cons v vs ih =>
    cases r with
    | cons h t => simp [ih t]
theorem Reps.get {vs : List V} {ds : List D} (r : Reps T G vs ds) {i : Nat} {d : D} (e : ds[i]? = some d) : ∃ v, vs[i]? = some v ∧ Rep T G v d := by
  induction vs generalizing ds i with
  | nil => cases r; simp at e
  | cons v vs ih =>
    cases r with
    | cons h t =>
      cases i with
      | zero => simp at e; subst e; exact ⟨v, rfl, h⟩
      | succ i => simpa using ih t (by simpa using e)
theorem Reps.getV {vs : List V} {ds : List D} (r : Reps T G vs ds) {i : Nat} {v : V} (e : vs[i]? = some v) : ∃ d, ds[i]? = some d ∧ Rep T G v d := by
  induction vs generalizing ds i with
  | nil => simp at e
  | cons w vs ih =>
    cases r with
    | cons h t =>
      cases i with
      | zero => simp at e; subst e; exact ⟨_, rfl, h⟩
      | succ i => simpa using ih t (by simpa using e)
theorem Reps.app {vs ws : List V} {ds es : List D} (r : Reps T G vs ds) (q : Reps T G ws es) : Reps T G (vs ++ ws) (ds ++ es) := by
  induction vs generalizing ds with
  | nil => cases r; exact q
  | cons v vs ih =>
    cases r with
    | cons h t => exact .cons h (ih t)
theorem Reps.split {vs : List V} {ds es : List D} (r : Reps T G vs (ds ++ es)) : ∃ v1 v2, vs = v1 ++ v2 ∧ Reps T G v1 ds ∧ Reps T G v2 es := by
  induction ds generalizing vs with
  | nil => exact ⟨[], vs, rfl, .nil, r⟩
  | cons d ds ih =>
    cases r with
    | cons h t =>
      obtain ⟨v1, v2, rfl, a, b⟩ := ih t
      exact ⟨_, _, rfl, .cons h a, b⟩
theorem Reps.ofGet {vs : List V} {ds : List D} (hl : vs.length = ds.length) (h : ∀ (i : Nat) (v : V) (d : D), vs[i]? = some v → ds[i]? = some d → Rep T G v d) : Reps T G vs ds := by
  induction vs generalizing ds with
  | nil => cases ds with
    | nil => exact .nil
    | cons => simp at hl
  | cons v vs ih => cases ds with
    | nil => simp at hl
    | cons d ds => exact .cons (h 0 v d rfl rfl) (ih (by simpa using hl) fun i v' d' e1 e2 => h (i + 1) v' d' (by simpa using e1) (by simpa using e2))
mutual
theorem OwnR.mono (s : Same G G') : ∀ {v : V} {o : OV} {O : List (Addr × HO)}, OwnR T G v o O → OwnR T G' v o O
  | _, _, _, .no v => .no v
  | _, _, _, .fz h => .fz (h.mono s)
  | _, _, _, .ol r => .ol (r.mono s)
  | _, _, _, .dk n r => .dk n (r.mono s)
  | _, _, _, .dt n r => .dt n (r.mono s)
  | _, _, _, .lk => .lk
  | _, _, _, .oi f r => .oi f (OwnL.mono s r)
  | _, _, _, .oh n l r => .oh n l (OwnL.mono s r)
theorem OwnL.mono (s : Same G G') : ∀ {vs : List V} {os : List OV} {O : List (Addr × HO)}, OwnL T G vs os O → OwnL T G' vs os O
  | _, _, _, .nil => .nil
  | _, _, _, .cons h r => .cons (OwnR.mono s h) (OwnL.mono s r)
end
theorem dats_get : ∀ {fs : List OV} {j : Nat}, (OV.dats fs)[j]? = (fs[j]?).map OV.dat
  | [], j => by simp [OV.dats]
  | o :: r, 0 => by simp [OV.dats]
  | o :: r, j + 1 => by simpa [OV.dats] using dats_get (fs := r) (j := j)
theorem dat_no (o : OV) : o.isNo = true → isNo o.dat = true := by cases o <;> simp [OV.isNo, OV.dat, isNo]
theorem pres_dat {fs : List OV} {j : Nat} (h : presD (OV.dats fs) j = true) : presO fs j = true := by
  unfold presD at h
  unfold presO
  rw [dats_get] at h
  cases e : fs[j]? with
  | none => rw [e] at h; simp at h
  | some o =>
    rw [e] at h
    simp only [Option.map_some] at h
    cases q : o.isNo with
    | false => simp [q]
    | true => rw [dat_no o q] at h; simp at h
theorem Flds.weak {names : List Str} {fl : List V} {p q : Nat → Bool} {fvs : List (Str × V)} (f : Flds names fl p fvs) (h : ∀ j, q j = true → p j = true) : Flds names fl q fvs :=
  ⟨f.len, fun j n v a b c => f.has j n v a b (h j c), f.out, f.nd⟩
mutual
/-- what is owned, read as data where all of it is to be seen -/
theorem OwnR.rep (s : Same G G') : ∀ {v : V} {o : OV} {O : List (Addr × HO)}, OwnR T G v o O → (∀ p ∈ O, G' p.1 = some p.2) → Rep T G' v o.dat
  | _, _, _, .no v, _ => .no v
  | _, _, _, .fz h, _ => h.mono s
  | _, _, _, .ol r, q => .lst (q _ (List.mem_singleton.mpr rfl)) (r.mono s)
  | _, _, _, .dk n r, q => .dk (q _ (List.mem_singleton.mpr rfl)) n (r.mono s)
  | _, _, _, .dt n r, q => .dt (q _ (List.mem_singleton.mpr rfl)) n (r.mono s)
  | _, _, _, .lk, _ => .no _
  | _, _, _, .oi f r, q => .ins (q _ List.mem_cons_self) (q _ (List.mem_cons_of_mem _ List.mem_cons_self)) (f.weak fun _ h => pres_dat h) (OwnL.rep s r fun p hp => q p (List.mem_cons_of_mem _ (List.mem_cons_of_mem _ hp)))
  | _, _, _, .oh _ _ _, _ => .no _
theorem OwnL.rep (s : Same G G') : ∀ {vs : List V} {os : List OV} {O : List (Addr × HO)}, OwnL T G vs os O → (∀ p ∈ O, G' p.1 = some p.2) → Reps T G' vs (OV.dats os)
  | _, _, _, .nil, _ => .nil
  | _, _, _, .cons h r, q => .cons (OwnR.rep s h fun p hp => q p (List.mem_append_left _ hp)) (OwnL.rep s r fun p hp => q p (List.mem_append_right _ hp))
end
theorem OwnL.length {vs : List V} {os : List OV} {O : List (Addr × HO)} (r : OwnL T G vs os O) : vs.length = os.length := by
  induction vs generalizing os O with
  | nil => cases r; rfl
  | cons v vs ih =>
    cases r with
    | cons h t => simp [ih t]
theorem OwnL.app {vs ws : List V} {os ps : List OV} {O O' : List (Addr × HO)} (r : OwnL T G vs os O) (q : OwnL T G ws ps O') : OwnL T G (vs ++ ws) (os ++ ps) (O ++ O') := by
  induction vs generalizing os O with
  | nil => cases r; exact q
  | cons v vs ih =>
    cases r with
    | cons h t => rw [List.append_assoc]; exact .cons h (ih t)
theorem OwnL.split {vs ws : List V} {os ps : List OV} {O : List (Addr × HO)} (hl : vs.length = os.length) (r : OwnL T G (vs ++ ws) (os ++ ps) O) : ∃ O1 O2, O = O1 ++ O2 ∧ OwnL T G vs os O1 ∧ OwnL T G ws ps O2 := by
  induction vs generalizing os O with
  | nil => cases os with
    | nil => exact ⟨[], O, rfl, .nil, r⟩
    | cons => simp at hl
  | cons v vs ih => cases os with
    | nil => simp at hl
    | cons o os =>
      cases r with
      | cons h t =>
        obtain ⟨O1, O2, rfl, a, b⟩ := ih (by simpa using hl) t
        exact ⟨_, O2, (List.append_assoc ..).symm, .cons h a, b⟩
/-- a permutation -/
theorem ownL_perm {L L' : List (V × OV)} (p : L.Perm L') : ∀ {O : List (Addr × HO)}, OwnL T G (L.map (·.1)) (L.map (·.2)) O → ∃ O', O.Perm O' ∧ OwnL T G (L'.map (·.1)) (L'.map (·.2)) O' := by
  induction p with
  | nil => intro O h; exact ⟨O, .refl _, h⟩
  | cons x _ ih =>
    intro O h
    cases h with
    | cons a t =>
      obtain ⟨O', q, r⟩ := ih t
      exact ⟨_, q.append_left _, .cons a r⟩
  | swap x y l =>
    intro O h
    cases h with
    | cons a t =>
      cases t with
      | cons b t =>
        refine ⟨_, ?_, .cons b (.cons a t)⟩
        rw [← List.append_assoc, ← List.append_assoc]
        exact (List.perm_append_comm).append_right _
  | trans _ _ ih1 ih2 =>
    intro O h
    obtain ⟨O1, q1, h1⟩ := ih1 h
    obtain ⟨O2, q2, h2⟩ := ih2 h1
    exact ⟨O2, q1.trans q2, h2⟩
theorem Live.perm {L L' : List (V × OV)} (l : Live T H L) (p : L.Perm L') : Live T H L' := by
  obtain ⟨G, O, s, o, a, u, n⟩ := l
  obtain ⟨O', q, o'⟩ := ownL_perm p o
  exact ⟨G, O', s, o', fun p hp => a p (q.mem_iff.mpr hp), fun p hp => u p (q.mem_iff.mpr hp), (q.map _).nodup_iff.mp n⟩
theorem Live.tail {x : V × OV} {L : List (V × OV)} (l : Live T H (x :: L)) : Live T H L := by
  obtain ⟨G, O, s, o, a, u, n⟩ := l
  cases o with
  | cons h t =>
    refine ⟨G, _, s, t, fun p hp => a p (List.mem_append_right _ hp), fun p hp => u p (List.mem_append_right _ hp), ?_⟩
    rw [List.map_append] at n
    exact (List.nodup_append.mp n).2.1
theorem Live.drop {M L : List (V × OV)} (l : Live T H (M ++ L)) : Live T H L := by
  induction M with
  | nil => exact l
  | cons x M ih => exact ih l.tail
theorem Live.dropR {M L : List (V × OV)} (l : Live T H (M ++ L)) : Live T H M := (l.perm List.perm_append_comm).drop
theorem Live.nil (H : Hp) : Live T H [] := ⟨fun _ => none, [], ⟨(fun _ _ h => by cases h), OwnL.nil, (fun _ h => by cases h), (fun _ h => by cases h), List.nodup_nil⟩⟩
theorem Live.no (v : V) {L : List (V × OV)} (l : Live T H L) : Live T H ((v, .no) :: L) := by
  obtain ⟨G, O, s, o, a, u, n⟩ := l
  exact ⟨G, O, s, .cons (.no v) o, a, u, n⟩
/-- what a live value says of the heap as it is -/
theorem Live.rep {v : V} {o : OV} {L : List (V × OV)} (l : Live T H ((v, o) :: L)) : Rep T H v o.dat := by
  obtain ⟨G, O, s, ow, a, u, n⟩ := l
  cases ow with
  | cons h t => exact h.rep s fun p hp => a p (List.mem_append_left _ hp)
theorem nodup_app {α : Type} {a b : List α} (h : (a ++ b).Nodup) : a.Nodup ∧ b.Nodup ∧ ∀ x ∈ a, x ∉ b := by
  obtain ⟨x, y, z⟩ := List.nodup_append.mp h
  exact ⟨x, y, fun c hc hb => z c hc c hb rfl⟩
theorem not_mem_fst {O : List (Addr × HO)} {b : Addr} (h : b ∉ O.map (·.1)) : ∀ p ∈ O, p.1 ≠ b := fun p hp e => h (List.mem_map.mpr ⟨p, hp, e⟩)
/-- owned becomes frozen -/
theorem Live.frz {v : V} {o : OV} {L : List (V × OV)} (l : Live T H ((v, o) :: L)) : Live T H ((v, .fz o.dat) :: L) := by
  classical
  obtain ⟨G, O, s, ow, a, u, n⟩ := l
  cases ow with
  | @cons _ _ _ _ O1 O2 h t =>
    rw [List.map_append] at n
    obtain ⟨n1, n2, n3⟩ := nodup_app n
    let G' : Hp := fun b => if b ∈ O1.map (·.1) then H b else G b
    have sG : Same G G' := fun b x e => by
      show (if b ∈ O1.map (·.1) then H b else G b) = some x
      split
      · exact s b x e
      · exact e
    have sH : Same G' H := fun b x e => by
      have e : (if b ∈ O1.map (·.1) then H b else G b) = some x := e
      split at e
      · exact e
      · exact s b x e
    refine ⟨G', O2, sH, .cons (.fz (h.rep sG fun p hp => ?_)) (t.mono sG), fun p hp => a p (List.mem_append_right _ hp), fun p hp => ?_, n2⟩
    · show (if p.1 ∈ O1.map (·.1) then H p.1 else G p.1) = some p.2
      rw [if_pos (List.mem_map.mpr ⟨p, hp, rfl⟩)]
      exact a p (List.mem_append_left _ hp)
    · show (if p.1 ∈ O1.map (·.1) then H p.1 else G p.1) = none
      rw [if_neg fun z => n3 _ z (List.mem_map.mpr ⟨p, hp, rfl⟩)]
      exact u p (List.mem_append_right _ hp)
theorem Live.dup {v : V} {d : D} {L : List (V × OV)} (l : Live T H ((v, .fz d) :: L)) : Live T H ((v, .fz d) :: (v, .fz d) :: L) := by
  obtain ⟨G, O, s, ow, a, u, n⟩ := l
  cases ow with
  | cons h t =>
    cases h with
    | fz r => exact ⟨G, _, s, .cons (.fz r) (.cons (.fz r) t), a, u, n⟩
/-- scalars are always live -/
theorem Live.put {v : V} {d : D} {L : List (V × OV)} (h : ∀ G, Rep T G v d) (l : Live T H L) : Live T H ((v, .fz d) :: L) := by
  obtain ⟨G, O, s, o, a, u, n⟩ := l
  exact ⟨G, O, s, .cons (.fz (h G)) o, a, u, n⟩

def zipF (vs : List V) (ds : List D) : List (V × OV) := (vs.zip ds).map fun p => (p.1, OV.fz p.2)
theorem zipF_nil : zipF [] [] = [] := rfl
theorem zipF_cons (v : V) (vs : List V) (d : D) (ds : List D) : zipF (v :: vs) (d :: ds) = (v, .fz d) :: zipF vs ds := rfl
theorem ownL_zipF : ∀ {vs : List V} {ds : List D}, Reps T G vs ds → OwnL T G ((zipF vs ds).map (·.1)) ((zipF vs ds).map (·.2)) []
  | _, _, .nil => .nil
  | _, _, .cons h r => OwnL.cons (O := []) (O' := []) (.fz h) (ownL_zipF r)
theorem zipF_ownL : ∀ {vs : List V} {ds : List D} {O : List (Addr × HO)}, vs.length = ds.length → OwnL T G ((zipF vs ds).map (·.1)) ((zipF vs ds).map (·.2)) O → O = [] ∧ Reps T G vs ds
  | [], [], _, _, h => by cases h; exact ⟨rfl, .nil⟩
  | v :: vs, d :: ds, _, hl, h => by
    cases h with
    | cons a t =>
      cases a with
      | fz r =>
        obtain ⟨rfl, q⟩ := zipF_ownL (by simpa using hl) t
        exact ⟨rfl, .cons r q⟩
/-- frozen data put among the live values: seen in G -/
theorem LiveG.add {L : List (V × OV)} {O : List (Addr × HO)} {vs : List V} {ds : List D} (l : LiveG T G H L O) (r : Reps T G vs ds) : LiveG T G H (zipF vs ds ++ L) O := by
  refine ⟨l.same, ?_, l.at_, l.out, l.nd⟩
  rw [List.map_append, List.map_append]
  exact (ownL_zipF r).app l.own
theorem LiveG.sub {L : List (V × OV)} {O : List (Addr × HO)} {vs : List V} {ds : List D} (hl : vs.length = ds.length) (l : LiveG T G H (zipF vs ds ++ L) O) : Reps T G vs ds ∧ LiveG T G H L O := by
  have h := l.own
  rw [List.map_append, List.map_append] at h
  obtain ⟨O1, O2, e, a, b⟩ := h.split (by simp)
  obtain ⟨rfl, r⟩ := zipF_ownL hl a
  rw [List.nil_append] at e
  subst e
  exact ⟨r, l.same, b, l.at_, l.out, l.nd⟩
/-- a new frozen object -/
theorem LiveG.newF {L : List (V × OV)} {O : List (Addr × HO)} {p : Addr} {x : HO} (l : LiveG T G H L O) (hp : H p = none) : Same G (upd G p x) ∧ LiveG T (upd G p x) (upd H p x) L O := by
  have hG : G p = none := l.same.free hp
  have sG : Same G (upd G p x) := fun b o e => by rw [upd_ne (ne_of_none e hG)]; exact e
  refine ⟨sG, fun b o e => ?_, l.own.mono sG, fun q hq => ?_, fun q hq => ?_, l.nd⟩
  · by_cases hb : b = p
    · subst hb; rw [upd_same] at e ⊢; exact e
    · rw [upd_ne hb] at e ⊢; exact l.same b o e
  · rw [upd_ne (ne_of_none (l.at_ q hq) hp)]; exact l.at_ q hq
  · rw [upd_ne (ne_of_none (l.at_ q hq) hp)]; exact l.out q hq
/-- a new owned object -/
theorem LiveG.newO {L : List (V × OV)} {O : List (Addr × HO)} {p : Addr} {x : HO} {v : V} {o : OV} (l : LiveG T G H L O) (hp : H p = none) (h : OwnR T G v o [(p, x)]) : LiveG T G (upd H p x) ((v, o) :: L) ((p, x) :: O) := by
  have hG : G p = none := l.same.free hp
  refine ⟨fun b o e => ?_, OwnL.cons (O := [(p, x)]) h l.own, fun q hq => ?_, fun q hq => ?_, ?_⟩
  · rw [upd_ne (ne_of_none e hG)]; exact l.same b o e
  · rcases List.mem_cons.mp hq with rfl | hq
    · exact upd_same
    · rw [upd_ne (ne_of_none (l.at_ q hq) hp)]; exact l.at_ q hq
  · rcases List.mem_cons.mp hq with rfl | hq
    · exact hG
    · exact l.out q hq
  · rw [List.map_cons, List.nodup_cons]
    refine ⟨fun z => ?_, l.nd⟩
    obtain ⟨q, hq, e⟩ := List.mem_map.mp z
    exact ne_of_none (l.at_ q hq) hp e
theorem Live.tup {L : List (V × OV)} {vs : List V} {ds : List D} {p : Addr} (hl : vs.length = ds.length) (l : Live T H (zipF vs ds ++ L)) (hp : H p = none) : Live T (upd H p (.tup vs)) ((.ref p, .fz (.tup ds)) :: L) := by
  obtain ⟨G, O, l⟩ := l
  obtain ⟨r, l⟩ := l.sub hl
  obtain ⟨s, l⟩ := l.newF (x := .tup vs) hp
  exact ⟨_, _, LiveG.add (vs := [.ref p]) (ds := [.tup ds]) l (.cons (.tup upd_same (r.mono s)) .nil)⟩
theorem Live.lst {L : List (V × OV)} {vs : List V} {ds : List D} {p : Addr} (hl : vs.length = ds.length) (l : Live T H (zipF vs ds ++ L)) (hp : H p = none) : Live T (upd H p (.lst vs)) ((.ref p, .ol ds) :: L) := by
  obtain ⟨G, O, l⟩ := l
  obtain ⟨r, l⟩ := l.sub hl
  exact ⟨_, _, l.newO hp (.ol r)⟩
theorem Live.dK {L : List (V × OV)} {kvs : List (Key × V)} {es : List D} {p : Addr} (hl : kvs.length = es.length) (hn : (kvs.map (·.1)).Nodup) (l : Live T H (zipF (kvs.map (·.2)) es ++ L)) (hp : H p = none) :
    Live T (upd H p (.dK kvs)) ((.ref p, .od false (kvs.map fun p => keyD p.1) es) :: L) := by
  obtain ⟨G, O, l⟩ := l
  obtain ⟨r, l⟩ := l.sub (by simpa using hl)
  exact ⟨_, _, l.newO hp (.dk hn r)⟩
theorem Live.dT {L : List (V × OV)} {p : Addr} (l : Live T H L) (hp : H p = none) : Live T (upd H p (.dT [])) ((.ref p, .od true [] []) :: L) := by
  obtain ⟨G, O, l⟩ := l
  exact ⟨_, _, l.newO hp (OwnR.dt (kvs := []) .nil .nil)⟩
/-- the parts of frozen data -/
theorem Live.ofTup {v : V} {ds : List D} {L : List (V × OV)} (l : Live T H ((v, .fz (.tup ds)) :: L)) : ∃ a vs, v = .ref a ∧ vs.length = ds.length ∧ H a = some (.tup vs) ∧ Live T H (zipF vs ds ++ (v, .fz (.tup ds)) :: L) := by
  obtain ⟨G, O, l⟩ := l
  obtain ⟨r, _⟩ := LiveG.sub (vs := [v]) (ds := [.tup ds]) rfl l
  cases r with
  | cons r _ => cases r with
    | @tup a vs _ h r => exact ⟨a, vs, rfl, r.length, l.same _ _ h, G, O, l.add r⟩
theorem Rd.mono {a : Addr} {u : HO} (s : Same G H) (h : Rd G a u) : Rd H a u := h.elim (fun h => .inl (s _ _ h)) fun ⟨o, h⟩ => .inr ⟨o, s _ _ h⟩
theorem Live.ofLst {v : V} {ds : List D} {L : List (V × OV)} (l : Live T H ((v, .fz (.lst ds)) :: L)) : ∃ a vs, v = .ref a ∧ vs.length = ds.length ∧ H a = some (.lst vs) ∧ Live T H (zipF vs ds ++ (v, .fz (.lst ds)) :: L) := by
  obtain ⟨G, O, l⟩ := l
  obtain ⟨r, _⟩ := LiveG.sub (vs := [v]) (ds := [.lst ds]) rfl l
  cases r with
  | cons r _ => cases r with
    | @lst a vs _ h r => exact ⟨a, vs, rfl, r.length, l.same _ _ h, G, O, l.add r⟩
theorem Live.ofFrl {v : V} {ds : List D} {L : List (V × OV)} (l : Live T H ((v, .fz (.frl ds)) :: L)) : ∃ a vs, v = .ref a ∧ vs.length = ds.length ∧ SqL T.K H a vs ∧ Live T H (zipF vs ds ++ (v, .fz (.frl ds)) :: L) := by
  obtain ⟨G, O, l⟩ := l
  obtain ⟨r, _⟩ := LiveG.sub (vs := [v]) (ds := [.frl ds]) rfl l
  cases r with
  | cons r _ => cases r with
    | @frl a vs _ h r => exact ⟨a, vs, rfl, r.length, Same.seq l.same h, G, O, l.add r⟩
theorem Live.ofOl {v : V} {ds : List D} {L : List (V × OV)} (l : Live T H ((v, .ol ds) :: L)) : ∃ a vs, v = .ref a ∧ vs.length = ds.length ∧ H a = some (.lst vs) ∧ Live T H (zipF vs ds ++ (v, .ol ds) :: L) := by
  obtain ⟨G, O, l⟩ := l
  have h := l.own
  cases h with
  | cons h t =>
    cases h with
    | @ol a vs _ r => exact ⟨a, vs, rfl, r.length, l.at_ _ (List.mem_append_left _ (List.mem_singleton.mpr rfl)), G, _, l.add r⟩
/-- an owned object's store -/
theorem LiveG.write {L : List (V × OV)} {O : List (Addr × HO)} {a : Addr} {x y : HO} {v : V} {o o' : OV} (l : LiveG T G H ((v, o) :: L) ((a, x) :: O)) (h : OwnL T G (L.map (·.1)) (L.map (·.2)) O) (h' : OwnR T G v o' [(a, y)]) : LiveG T G (upd H a y) ((v, o') :: L) ((a, y) :: O) := by
  have hG : G a = none := l.out _ List.mem_cons_self
  have nd := l.nd
  rw [List.map_cons, List.nodup_cons] at nd
  have ne : ∀ q ∈ O, q.1 ≠ a := not_mem_fst nd.1
  refine ⟨fun b o e => ?_, OwnL.cons (O := [(a, y)]) h' h, fun q hq => ?_, fun q hq => ?_, by rw [List.map_cons, List.nodup_cons]; exact nd⟩
  · rw [upd_ne (ne_of_none e hG)]; exact l.same b o e
  · rcases List.mem_cons.mp hq with rfl | hq
    · exact upd_same
    · rw [upd_ne (ne q hq)]; exact l.at_ q (List.mem_cons_of_mem _ hq)
  · rcases List.mem_cons.mp hq with rfl | hq
    · exact hG
    · exact l.out q (List.mem_cons_of_mem _ hq)
theorem Live.setOl {a : Addr} {ds ds' : List D} {vs' : List V} {L : List (V × OV)} (hl : vs'.length = ds'.length) (l : Live T H (zipF vs' ds' ++ (.ref a, .ol ds) :: L)) : Live T (upd H a (.lst vs')) ((.ref a, .ol ds') :: L) := by
  obtain ⟨G, O, l⟩ := l
  obtain ⟨r, l⟩ := l.sub hl
  have h := l.own
  generalize e : ((V.ref a, OV.ol ds) :: L).map (·.1) = A at h
  generalize e2 : ((V.ref a, OV.ol ds) :: L).map (·.2) = B at h
  cases h with
  | nil => simp at e
  | @cons v vs o os O1 O2 h t =>
    simp only [List.map_cons, List.cons.injEq] at e e2
    obtain ⟨e, e'⟩ := e
    obtain ⟨e2, e2'⟩ := e2
    subst e e2 e' e2'
    cases h with
    | @ol _ vs _ r' => exact ⟨G, _, LiveG.write l t (.ol r)⟩
end
end Kv
/-! The computations on values (M) and what they promise of expressions: T, TO, TB; operands. -/
namespace Kv
open PySem L2

abbrev Env := List OV
inductive Ex where
  | mk (c : Nat) (fs : List D)
abbrev M (α : Type) := Env → Option (Except Ex α × Env)
def ret {α : Type} (a : α) : M α := fun ρ => some (.ok a, ρ)
def bnd {α β : Type} (m : M α) (f : α → M β) : M β := fun ρ => match m ρ with
  | none => none
  | some (.ok a, ρ') => f a ρ'
  | some (.error x, ρ') => some (.error x, ρ')
def bad {α : Type} : M α := fun _ => none
def ofO {α : Type} (o : Option α) : M α := fun ρ => match o with
  | none => none
  | some a => some (.ok a, ρ)
def wp {α : Type} (m : M α) (ρ : Env) (Q : α → Env → Prop) (E : Ex → Env → Prop) : Prop := match m ρ with
  | none => False
  | some (.ok a, ρ') => Q a ρ'
  | some (.error x, ρ') => E x ρ'
section
variable {α β : Type} {m : M α} {f : α → M β} {ρ : Env} {Q Q' : α → Env → Prop} {R : β → Env → Prop} {E : Ex → Env → Prop}
theorem wp_ret {a : α} : wp (ret a) ρ Q E = Q a ρ := rfl
theorem wp_bnd : wp (bnd m f) ρ R E = wp m ρ (fun a ρ' => wp (f a) ρ' R E) E := by
  unfold wp bnd
  cases m ρ with
  | none => rfl
  | some p =>
    obtain ⟨r, ρ'⟩ := p
    cases r <;> rfl
theorem wp_bad : wp (bad : M α) ρ Q E = False := rfl
theorem wp_ofO {o : Option α} (h : wp (ofO o) ρ Q E) : ∃ a, o = some a ∧ Q a ρ := by
  cases o with
  | none => exact h.elim
  | some a => exact ⟨a, rfl, h⟩
theorem wp_mono (h : wp m ρ Q E) (k : ∀ a ρ', Q a ρ' → Q' a ρ') : wp m ρ Q' E := by
  unfold wp at h ⊢
  split at h
  · exact h
  · exact k _ _ h
  · exact h
theorem wp_mono2 {E' : Ex → Env → Prop} (h : wp m ρ Q E) (k : ∀ a ρ', Q a ρ' → Q' a ρ') (k2 : ∀ x ρ', E x ρ' → E' x ρ') : wp m ρ Q' E' := by
  unfold wp at h ⊢
  split at h
  · exact h
  · exact k _ _ h
  · exact k2 _ _ h
end

/-! ### slots -/
def prs (σ : St) (ρ : Env) : List (V × OV) := (σ.map fun v => v.getD .non).zip ρ
structure WS (σ : St) (ρ : Env) : Prop where
  len : σ.length = ρ.length
  has : ∀ (i : Nat) (o : OV), ρ[i]? = some o → o.isNo = false → ∃ v, σ[i]? = some (some v)
theorem perm_ix {α : Type} : ∀ {l : List α} {i : Nat} {x : α}, l[i]? = some x → l.Perm (x :: l.eraseIdx i)
  | [], _, _, h => by simp at h
  | a :: r, 0, x, h => by
    simp at h; subst h; exact .refl _
  | a :: r, i + 1, x, h => by
    have h : r[i]? = some x := by simpa using h
    exact ((perm_ix h).cons a).trans (.swap x a _)
theorem perm_set {α : Type} : ∀ {l : List α} {i : Nat} {x y : α}, l[i]? = some x → (l.set i y).Perm (y :: l.eraseIdx i)
  | [], _, _, _, h => by simp at h
  | a :: r, 0, x, y, h => .refl _
  | a :: r, i + 1, x, y, h => by
    have h : r[i]? = some x := by simpa using h
    exact ((perm_set (y := y) h).cons a).trans (.swap y a _)
section
variable {σ : St} {ρ : Env} {i : Nat} {o o' : OV} {v : V}
theorem prs_get (hs : σ[i]? = some (some v)) (h : ρ[i]? = some o) : (prs σ ρ)[i]? = some (v, o) := by
  unfold prs
  rw [List.getElem?_zip_eq_some]
  simp [hs, h]
theorem prs_perm (hs : σ[i]? = some (some v)) (h : ρ[i]? = some o) : (prs σ ρ).Perm ((v, o) :: (prs σ ρ).eraseIdx i) := perm_ix (prs_get hs h)
theorem prs_set_eq (hs : σ[i]? = some (some v)) (h : ρ[i]? = some o) : prs σ (ρ.set i o') = (prs σ ρ).set i (v, o') := by
  apply List.ext_getElem?
  intro j
  unfold prs
  by_cases hj : i = j
  · subst hj
    have h1 : i < ρ.length := (List.getElem?_eq_some_iff.mp h).1
    have h2 : i < σ.length := (List.getElem?_eq_some_iff.mp hs).1
    rw [List.getElem?_set_self (by simp; omega)]
    rw [List.getElem?_zip_eq_some]
    simp [hs, h1]
  · rw [List.getElem?_set_ne hj]
    simp only [List.zip, List.getElem?_zipWith, List.getElem?_set_ne hj]
theorem prs_set_perm (hs : σ[i]? = some (some v)) (h : ρ[i]? = some o) : (prs σ (ρ.set i o')).Perm ((v, o') :: (prs σ ρ).eraseIdx i) := by
  rw [prs_set_eq hs h]
  exact perm_set (prs_get hs h)
theorem WS.set (w : WS σ ρ) (hs : σ[i]? = some (some v)) : WS σ (ρ.set i o') := ⟨by rw [List.length_set]; exact w.len, fun j p e n => by
  by_cases hj : i = j
  · subst hj; exact ⟨v, hs⟩
  · rw [List.getElem?_set_ne hj] at e
    exact w.has j p e n⟩
end

/-! ### contexts and readings -/
structure Kx where
  T : CT
  xc : Ex → List (V × OV) → Prop
  xcl : ∀ x L L', (∀ H, Live T H L' → Live T H L) → xc x L → xc x L'
def Kx.nx (κ : Kx) : Kx := { T := κ.T, xc := fun _ _ => False, xcl := fun _ _ _ _ h => h }
def Kx.xw (κ : Kx) (x : Ex) (σ : St) (ρ : Env) (fr : List (V × OV)) : Prop := κ.xc x (prs σ ρ ++ fr)
theorem Kx.xm (κ : Kx) (x : Ex) (σ : St) (ρ : Env) (fr : List (V × OV)) (p : V × OV) (h : κ.xw x σ ρ fr) : κ.xw x σ ρ (p :: fr) := κ.xcl _ _ _ (fun _ l => (l.perm List.perm_middle).tail) h

/-- what a computation of a value promises of an expression; pu: what stood in the heap is kept as it was -/
def T (κ : Kx) (pu : Bool) (m : M OV) : TE := fun σ H Q => ∃ ρ fr, WS σ ρ ∧ Live κ.T H (prs σ ρ ++ fr) ∧
  wp m ρ (fun o ρ' => ∀ v H', WS σ ρ' → (pu = true → Same H H') → Live κ.T H' ((v, o) :: (prs σ ρ' ++ fr)) → Q v H') fun x ρ' => κ.xw x σ ρ' fr
def TB (κ : Kx) (pu : Bool) (m : M Bool) : TT := fun σ H Q => ∃ ρ fr, WS σ ρ ∧ Live κ.T H (prs σ ρ ++ fr) ∧
  wp m ρ (fun b ρ' => ∀ H', WS σ ρ' → (pu = true → Same H H') → Live κ.T H' (prs σ ρ' ++ fr) → Q b H') fun x ρ' => κ.xw x σ ρ' fr

/-- an operand: a name's slot, a slot's attribute, or a value on the way -/
inductive Opd where
  | pl (i : Nat) | pf (i c f : Nat) | tv (o : OV)
def Opd.ov : Opd → OV
  | .tv o => o
  | _ => .no
def Opd.isF : Opd → Bool
  | .pf _ _ _ => true
  | _ => false
def OdR (t : CT) (σ : St) (H : Hp) : Opd → V → Prop
  | .pl i, v => σ[i]? = some (some v)
  | .pf i c f, v => ∃ a dx fvs n, σ[i]? = some (some (.ref a)) ∧ H a = some (.ins (t.ca c) dx fvs) ∧ (t.fn c)[f]? = some n ∧ fvs.lookup n = some v
  | .tv _, _ => True
theorem OdR.same {t : CT} {σ : St} {H H' : Hp} {od : Opd} {v : V} (h : OdR t σ H od v) (s : Same H H') : OdR t σ H' od v := by
  cases od with
  | pl i => exact h
  | tv o => trivial
  | pf i c f => obtain ⟨a, dx, fvs, n, h1, h2, h3, h4⟩ := h; exact ⟨a, dx, fvs, n, h1, s _ _ h2, h3, h4⟩
theorem OdR.plain {t : CT} {σ : St} {H H' : Hp} {od : Opd} {v : V} (h : OdR t σ H od v) (s : od.isF = false) : OdR t σ H' od v := by
  cases od with
  | pl i => exact h
  | tv o => trivial
  | pf i c f => cases s
/-- what an operand holds now -/
def odat (o : OV) : Option D := if o.isNo then none else some o.dat
def ddat (d : D) : Option D := if isNo d then none else some d
def fldO (c f : Nat) : OV → Option D
  | .oi c' fs => if c' = c then (fs[f]?).bind odat else none
  | .fz (.ins c' fs) => if c' = c then (fs[f]?).bind ddat else none
  | _ => none
def peek (ρ : Env) : Opd → Option D
  | .pl i => (ρ[i]?).bind odat
  | .pf i c f => (ρ[i]?).bind (fldO c f)
  | .tv o => odat o
theorem odat_some {o : OV} {d : D} (h : odat o = some d) : o.isNo = false ∧ d = o.dat := by
  unfold odat at h
  split at h
  · cases h
  · cases h; rename_i q; exact ⟨by simpa using q, rfl⟩
theorem ddat_some {o d : D} (h : ddat o = some d) : isNo o = false ∧ d = o := by
  unfold ddat at h
  split at h
  · cases h
  · cases h; rename_i q; exact ⟨by simpa using q, rfl⟩
def pk (od : Opd) : M D := fun ρ => ofO (peek ρ od) ρ
def TO (κ : Kx) (pu fl : Bool) (m : M Opd) : TE := fun σ H Q => ∃ ρ fr, WS σ ρ ∧ Live κ.T H (prs σ ρ ++ fr) ∧
  wp m ρ (fun od ρ' => ∀ v H', WS σ ρ' → (pu = true → Same H H') → (fl = false → od.isF = false) → Live κ.T H' ((v, od.ov) :: (prs σ ρ' ++ fr)) → OdR κ.T σ H' od v → Q v H') fun x ρ' => κ.xw x σ ρ' fr
structure SE (X : Cx) (κ : Kx) (pu : Bool) (e : Expr) (m : M OV) : Prop where
  pe : PE X e (T κ pu m)
structure SB (X : Cx) (κ : Kx) (pu : Bool) (e : Expr) (m : M Bool) : Prop where
  pt : PT X e (TB κ pu m)
structure SO (X : Cx) (κ : Kx) (pu fl : Bool) (e : Expr) (m : M Opd) : Prop where
  pe : PE X e (TO κ pu fl m)
theorem _root_.L2.PE.imp {X : Cx} {e : Expr} {t t' : TE} (p : PE X e t) (h : ∀ σ H Q, t' σ H Q → t σ H Q) : PE X e t' := ⟨fun pins s σ H Q I q => p.run pins s σ H Q I (h _ _ _ q)⟩
theorem _root_.L2.PT.imp {X : Cx} {e : Expr} {t t' : TT} (p : PT X e t) (h : ∀ σ H Q, t' σ H Q → t σ H Q) : PT X e t' := ⟨fun pins s σ H Q I q => p.run pins s σ H Q I (h _ _ _ q)⟩
theorem _root_.L2.PE.at {X : Cx} {e : Expr} {t : TE} (h : ∀ σ H Q, t σ H Q → ∃ t', PE X e t' ∧ t' σ H Q) : PE X e t := ⟨fun pins s σ H Q I q => let ⟨_, p, q'⟩ := h σ H Q q; p.run pins s σ H Q I q'⟩

/-! ### what an operand's value says of the heap -/
def Cmp (t : CT) (G H : Hp) (v : V) : D → Prop
  | .lst ds => ∃ a vs, v = .ref a ∧ H a = some (.lst vs) ∧ Reps t G vs ds
  | .frl ds => ∃ a vs, v = .ref a ∧ SqL t.K H a vs ∧ Reps t G vs ds
  | .tup ds => Rep t G v (.tup ds) ∧ ∃ a vs, v = .ref a ∧ H a = some (.tup vs) ∧ Reps t G vs ds
  | .dct false ks es => ∃ a, ∃ kvs : List (Key × V), v = .ref a ∧ H a = some (.dK kvs) ∧ ks = kvs.map (fun p => keyD p.1) ∧ (kvs.map (·.1)).Nodup ∧ Reps t G (kvs.map (·.2)) es
  | .dct true ks es => ∃ a, ∃ kvs : List (List Key × V), v = .ref a ∧ H a = some (.dT kvs) ∧ ks = kvs.map (fun p => .tup (p.1.map keyD)) ∧ (kvs.map (·.1)).Nodup ∧ Reps t G (kvs.map (·.2)) es
  | _ => True
structure Bor (t : CT) (H : Hp) (L : List (V × OV)) (v : V) (d : D) : Prop where
  rep : Rep t H v d
  cmp : ∀ G O, LiveG t G H L O → Cmp t G H v d
theorem cmp_rep {t : CT} {G H : Hp} {v : V} {d : D} (s : Same G H) (r : Rep t G v d) : Cmp t G H v d := by
  cases r with
  | tup h r => exact ⟨.tup h r, _, _, rfl, s _ _ h, r⟩
  | lst h r => exact ⟨_, _, rfl, s _ _ h, r⟩
  | frl h r => exact ⟨_, _, rfl, Same.seq s h, r⟩
  | dk h n r => exact ⟨_, _, rfl, s _ _ h, rfl, n, r⟩
  | dt h n r => exact ⟨_, _, rfl, s _ _ h, rfl, n, r⟩
  | _ => trivial
theorem cmp_own {t : CT} {G H : Hp} {v : V} {o : OV} {O : List (Addr × HO)} (s : Same G H) (h : OwnR t G v o O) (a : ∀ p ∈ O, H p.1 = some p.2) : Cmp t G H v o.dat := by
  cases h with
  | no v => trivial
  | lk => trivial
  | fz r => exact cmp_rep s r
  | ol r => exact ⟨_, _, rfl, a _ (List.mem_singleton.mpr rfl), r⟩
  | dk n r => exact ⟨_, _, rfl, a _ (List.mem_singleton.mpr rfl), rfl, n, r⟩
  | dt n r => exact ⟨_, _, rfl, a _ (List.mem_singleton.mpr rfl), rfl, n, r⟩
  | oi f r => trivial
  | oh _ _ _ => trivial
theorem ownL_mem {t : CT} {G : Hp} {L : List (V × OV)} {O : List (Addr × HO)} (h : OwnL t G (L.map (·.1)) (L.map (·.2)) O) {v : V} {o : OV} (m : (v, o) ∈ L) : ∃ O1, OwnR t G v o O1 ∧ ∀ p ∈ O1, p ∈ O := by
  induction L generalizing O with
  | nil => cases m
  | cons x L ih =>
    cases h with
    | cons a b =>
      rcases List.mem_cons.mp m with e | m
      · cases e
        exact ⟨_, a, fun p hp => List.mem_append_left _ hp⟩
      · obtain ⟨O1, q, s⟩ := ih b m
        exact ⟨O1, q, fun p hp => List.mem_append_right _ (s p hp)⟩
theorem bor_mem {t : CT} {H : Hp} {L : List (V × OV)} (l : Live t H L) {v : V} {o : OV} (m : (v, o) ∈ L) : Bor t H L v o.dat := by
  refine ⟨?_, fun G O l => ?_⟩
  · obtain ⟨G, O, l⟩ := l
    obtain ⟨O1, q, s⟩ := ownL_mem l.own m
    exact q.rep l.same fun p hp => l.at_ p (s p hp)
  · obtain ⟨O1, q, s⟩ := ownL_mem l.own m
    exact cmp_own l.same q fun p hp => l.at_ p (s p hp)
theorem lookup_mem {names : List Str} {fvs : List (Str × V)} {fl : List V} {pres : Nat → Bool} (f : Flds names fl pres fvs) {j : Nat} {n : Str} {v : V} (h1 : names[j]? = some n) (h2 : fvs.lookup n = some v) (hp : pres j = true) : fl[j]? = some v := by
  have hj : j < names.length := (List.getElem?_eq_some_iff.mp h1).1
  have hl := f.len
  cases e : fl[j]? with
  | none => rw [List.getElem?_eq_none_iff] at e; omega
  | some w =>
    have := f.has j n w h1 e hp
    rw [h2] at this
    cases this
    rfl
theorem ownL_at {t : CT} {G : Hp} {vs : List V} {os : List OV} {O : List (Addr × HO)} (h : OwnL t G vs os O) {i : Nat} {v : V} {o : OV} (e1 : vs[i]? = some v) (e2 : os[i]? = some o) : ∃ O1, OwnR t G v o O1 ∧ ∀ p ∈ O1, p ∈ O := by
  induction vs generalizing os O i with
  | nil => simp at e1
  | cons w vs ih =>
    cases h with
    | cons a b =>
      cases i with
      | zero =>
        simp at e1 e2
        subst e1 e2
        exact ⟨_, a, fun p hp => List.mem_append_left _ hp⟩
      | succ i =>
        obtain ⟨O1, q, s⟩ := ih b (by simpa using e1) (by simpa using e2)
        exact ⟨O1, q, fun p hp => List.mem_append_right _ (s p hp)⟩
theorem bor_od {t : CT} {H : Hp} {L : List (V × OV)} {σ : St} {ρ : Env} {od : Opd} {v : V} {d : D} (l : Live t H L) (w : WS σ ρ) (hs : ∀ x ∈ prs σ ρ, x ∈ L) (ho : (v, od.ov) ∈ L) (r : OdR t σ H od v) (p : peek ρ od = some d) : Bor t H L v d := by
  cases od with
  | tv o =>
    obtain ⟨_, rfl⟩ := odat_some (show odat o = some d from p)
    exact bor_mem l ho
  | pl i =>
    have r : σ[i]? = some (some v) := r
    obtain ⟨o, e, p⟩ := Option.bind_eq_some_iff.mp (show (ρ[i]?).bind odat = some d from p)
    obtain ⟨_, rfl⟩ := odat_some p
    exact bor_mem l (hs _ (List.mem_of_getElem? (prs_get r e)))
  | pf i c f =>
    obtain ⟨a, dx, fvs, n, h1, h2, h3, h4⟩ := r
    obtain ⟨o, e, pz⟩ := Option.bind_eq_some_iff.mp (show (ρ[i]?).bind (fldO c f) = some d from p)
    clear p
    have hm : (V.ref a, o) ∈ L := hs _ (List.mem_of_getElem? (prs_get h1 e))
    have main : ∀ G O, LiveG t G H L O → Rep t H v d ∧ Cmp t G H v d := fun G O l => by
      obtain ⟨O1, q, s⟩ := ownL_mem l.own hm
      cases q with
      | no _ => simp [fldO] at pz
      | ol _ => simp [fldO] at pz
      | lk => simp [fldO] at pz
      | oh _ _ _ => simp [fldO] at pz
      | dk _ _ => simp [fldO] at pz
      | dt _ _ => simp [fldO] at pz
      | @fz _ d0 q =>
        cases q with
        | @ins _ dx' c' fvs' fl fs g1 g2 g3 g4 =>
          simp only [fldO] at pz
          split at pz
          · rename_i hc
            subst hc
            have := l.same _ _ g1
            rw [h2] at this
            cases this
            obtain ⟨d1, e2, py⟩ := Option.bind_eq_some_iff.mp pz
            obtain ⟨hn, rfl⟩ := ddat_some py
            have hp : presD fs f = true := by unfold presD; rw [e2]; simp [hn]
            have hv := lookup_mem g3 h3 h4 hp
            obtain ⟨d2, e3, q3⟩ := g4.getV hv
            rw [e2] at e3
            cases e3
            exact ⟨q3.mono l.same, cmp_rep l.same q3⟩
          · cases pz
        | _ => simp [fldO] at pz
      | @oi _ dx' c' fvs' fl fs O2 g1 g2 =>
        simp only [fldO] at pz
        split at pz
        · rename_i hc
          subst hc
          have := l.at_ _ (s _ List.mem_cons_self)
          simp only at this
          rw [h2] at this
          cases this
          obtain ⟨d1, e2, py⟩ := Option.bind_eq_some_iff.mp pz
          obtain ⟨hn, rfl⟩ := odat_some py
          have hp : presO fs f = true := by unfold presO; rw [e2]; simp [hn]
          have hv := lookup_mem g1 h3 h4 hp
          obtain ⟨O3, q3, s3⟩ := ownL_at g2 hv e2
          have at3 : ∀ p ∈ O3, H p.1 = some p.2 := fun p hp => l.at_ p (s p (List.mem_cons_of_mem _ (List.mem_cons_of_mem _ (s3 p hp))))
          exact ⟨q3.rep l.same at3, cmp_own l.same q3 at3⟩
        · cases pz
    obtain ⟨G, O, l⟩ := l
    exact ⟨(main G O l).1, fun G O l => (main G O l).2⟩
theorem Bor.live {t : CT} {H : Hp} {L L' : List (V × OV)} {v : V} {d : D} (b : Bor t H L v d) (h : ∀ G O, LiveG t G H L' O → ∃ O', LiveG t G H L O') : Bor t H L' v d :=
  ⟨b.rep, fun G O l => let ⟨O', l'⟩ := h G O l; b.cmp G O' l'⟩
end Kv
/-! Operators on values. -/
namespace Kv
open PySem L2

/-! ### data as the library's own data -/
mutual
def py : D → Option PyData
  | .non => some .none
  | .bl b => some (.bool b)
  | .int i => some (.int i)
  | .str x => some (.str x)
  | .tup xs => (pys xs).map .tuple
  | .lst xs => (pys xs).map .list
  | _ => none
def pys : List D → Option (List PyData)
  | [] => some []
  | d :: r => (py d).bind fun a => (pys r).map fun b => a :: b
end
section
variable {t : CT} {K : PySem.W.Frag} {H : Hp}
mutual
theorem dp_of : ∀ {v : V} {d : D} {p : PyData}, Rep t H v d → py d = some p → Dp K H v p
  | _, .non, _, r, e => by cases r; simp [py] at e; subst e; exact .non
  | _, .bl b, _, r, e => by cases r; simp [py] at e; subst e; exact .bl _
  | _, .int b, _, r, e => by cases r; simp [py] at e; subst e; exact .int _
  | _, .str b, _, r, e => by cases r; simp [py] at e; subst e; exact .str _
  | _, .tup xs, _, r, e => by
    simp only [py] at e
    obtain ⟨ps, h, rfl⟩ := Option.map_eq_some_iff.mp e
    cases r with
    | tup h1 h2 => exact .tup (SqT.of h1) (dps_of h2 h)
  | _, .lst xs, _, r, e => by
    simp only [py] at e
    obtain ⟨ps, h, rfl⟩ := Option.map_eq_some_iff.mp e
    cases r with
    | lst h1 h2 => exact .lst (SqL.of h1) (dps_of h2 h)
  | _, .frl xs, _, r, e => by simp [py] at e
  | _, .no, _, r, e => by simp [py] at e
  | _, .byt _, _, r, e => by simp [py] at e
  | _, .ty _, _, r, e => by simp [py] at e
  | _, .dct _ _ _, _, r, e => by simp [py] at e
  | _, .ins _ _, _, r, e => by simp [py] at e
theorem dps_of : ∀ {vs : List V} {ds : List D} {ps : List PyData}, Reps t H vs ds → pys ds = some ps → DpAll K H vs ps
  | _, [], _, r, e => by cases r; simp [pys] at e; subst e; exact .nil
  | _, d :: ds, _, r, e => by
    simp only [pys] at e
    obtain ⟨a, h1, e⟩ := Option.bind_eq_some_iff.mp e
    obtain ⟨b, h2, rfl⟩ := Option.map_eq_some_iff.mp e
    cases r with
    | cons r1 r2 => exact .cons (dp_of r1 h1) (dps_of r2 h2)
end
end

/-! ### operators by two values -/
def P2 (t : CT) (r : R2) (f : D → D → Option OV) : Prop := ∀ (H : Hp) (L : List (V × OV)) (x y : V) (dx dy : D) (o : OV) (Q : VK), Live t H L → Bor t H L x dx → Bor t H L y dy → f dx dy = some o →
  (∀ v H', Same H H' → Live t H' ((v, o) :: L) → Q v H') → r x y H Q
def P1 (t : CT) (r : V → Hp → VK → Prop) (f : D → Option OV) : Prop := ∀ (H : Hp) (L : List (V × OV)) (x : V) (dx : D) (o : OV) (Q : VK), Live t H L → Bor t H L x dx → f dx = some o →
  (∀ v H', Same H H' → Live t H' ((v, o) :: L) → Q v H') → r x H Q
def PN (t : CT) (r : List V → Hp → VK → Prop) (f : List D → Option OV) : Prop := ∀ (H : Hp) (L : List (V × OV)) (xs : List V) (ds : List D) (o : OV) (Q : VK), Live t H L → (xs.length = ds.length) → (∀ (i : Nat) x d, xs[i]? = some x → ds[i]? = some d → Bor t H L x d) → f ds = some o →
  (∀ v H', Same H H' → Live t H' ((v, o) :: L) → Q v H') → r xs H Q
/-- the first that has an answer -/
def oe {α β : Type} (f g : α → β → Option OV) : α → β → Option OV := fun x y => (f x y).or (g x y)
section
variable {t : CT} {r r' : R2} {f g : D → D → Option OV}
theorem P2.or (h : P2 t r f) (h' : P2 t r' g) : P2 t (fun x y H Q => r x y H Q ∨ r' x y H Q) (oe f g) := fun H L x y dx dy o Q l bx b_y e k => by
  unfold oe at e
  cases q : f dx dy with
  | some o' => rw [q] at e; cases e; exact .inl (h H L x y dx dy _ Q l bx b_y q k)
  | none => rw [q] at e; exact .inr (h' H L x y dx dy _ Q l bx b_y (by simpa using e) k)
theorem int_of {H : Hp} {v : V} {i : Int} (r : Rep t H v (.int i)) : v = .int i := by cases r; rfl
theorem str_of {H : Hp} {v : V} {i : Str} (r : Rep t H v (.str i)) : v = .str i := by cases r; rfl
theorem bl_of {H : Hp} {v : V} {i : Bool} (r : Rep t H v (.bl i)) : v = .bl i := by cases r; rfl
theorem non_of {H : Hp} {v : V} (r : Rep t H v .non) : v = .non := by cases r; rfl
theorem byt_of {H : Hp} {v : V} {i : Array UInt8} (r : Rep t H v (.byt i)) : v = .byt i := by cases r; rfl
theorem live_int {H : Hp} {L : List (V × OV)} (l : Live t H L) (i : Int) : Live t H ((.int i, .fz (.int i)) :: L) := l.put fun _ => .int i
theorem live_bl {H : Hp} {L : List (V × OV)} (l : Live t H L) (i : Bool) : Live t H ((.bl i, .fz (.bl i)) :: L) := l.put fun _ => .bl i
theorem live_str {H : Hp} {L : List (V × OV)} (l : Live t H L) (i : Str) : Live t H ((.str i, .fz (.str i)) :: L) := l.put fun _ => .str i
theorem live_non {H : Hp} {L : List (V × OV)} (l : Live t H L) : Live t H ((.non, .fz .non) :: L) := l.put fun _ => .non
/-- two ints -/
def iiF (C : Int → Int → Bool) (g : Int → Int → D) : D → D → Option OV
  | .int i, .int j => if C i j then some (.fz (g i j)) else none
  | _, _ => none
theorem p2_ii {C : Int → Int → Prop} {Cb : Int → Int → Bool} {g : Int → Int → Int} (hC : ∀ i j, Cb i j = true → C i j) : P2 t (rI C fun i j => .int (g i j)) (iiF Cb fun i j => .int (g i j)) := fun H L x y dx dy o Q l bx b_y e k => by
  unfold iiF at e
  split at e
  · rename_i i j
    split at e
    · cases e
      rename_i hc
      exact ⟨i, j, int_of bx.rep, int_of b_y.rep, hC i j hc, k _ _ (Same.refl H) (live_int l _)⟩
    · cases e
  · cases e
theorem p2_ii0 {g : Int → Int → Int} : P2 t (rI0 fun i j => .int (g i j)) (iiF (fun _ _ => true) fun i j => .int (g i j)) := fun H L x y dx dy o Q l bx b_y e k => by
  unfold iiF at e
  split at e
  · rename_i i j
    cases e
    exact ⟨i, j, int_of bx.rep, int_of b_y.rep, k _ _ (Same.refl H) (live_int l _)⟩
  · cases e
theorem p2_ib0 {g : Int → Int → Bool} : P2 t (rI0 fun i j => .bl (g i j)) (iiF (fun _ _ => true) fun i j => .bl (g i j)) := fun H L x y dx dy o Q l bx b_y e k => by
  unfold iiF at e
  split at e
  · rename_i i j
    cases e
    exact ⟨i, j, int_of bx.rep, int_of b_y.rep, k _ _ (Same.refl H) (live_bl l _)⟩
  · cases e
def mulB (i j : Int) : Bool := (decide (-(2 ^ 64) < i) && decide (i < 2 ^ 64)) || (decide (-(2 ^ 64) < j) && decide (j < 2 ^ 64))
theorem mulB_ok (i j : Int) (h : mulB i j = true) : CMul i j := by
  unfold mulB at h
  simp only [Bool.or_eq_true, Bool.and_eq_true, decide_eq_true_eq] at h
  exact h
def divB (_ j : Int) : Bool := decide (j ≠ 0) && decide (j.natAbs < 1073741824)
theorem divB_ok (i j : Int) (h : divB i j = true) : CDivN i j := by
  unfold divB at h
  simp only [Bool.and_eq_true, decide_eq_true_eq] at h
  exact h
def modB (_ j : Int) : Bool := decide (j ≠ 0)
def powB (i j : Int) : Bool := decide (0 ≤ j) && decide (j ≤ 1000000) && decide (i.natAbs < 2 ^ 64)
theorem powB_ok (i j : Int) (h : powB i j = true) : CPow i j := by
  unfold powB at h
  simp only [Bool.and_eq_true, decide_eq_true_eq] at h
  exact ⟨h.1.1, h.1.2, h.2⟩
/-- + -/
def catS : D → D → Option OV
  | .str a, .str b => if a.length + b.length ≤ 100000 then some (.fz (.str (a ++ b))) else none
  | _, _ => none
theorem big {n : Nat} (h : n ≤ 100000) : n ≤ sizeLine := Nat.le_trans h (by decide)
theorem bigL {n : Nat} (h : n < 100000) : n < sizeLine := Nat.lt_of_lt_of_le h (by decide)
theorem p2_catS : P2 t (fun x y H Q => ∃ i j, x = .str i ∧ y = .str j ∧ i.length + j.length ≤ sizeLine ∧ Q (.str (i ++ j)) H) catS := fun H L x y dx dy o Q l bx b_y e k => by
  unfold catS at e
  split at e
  · rename_i i j
    split at e
    · cases e
      rename_i hc
      exact ⟨i, j, str_of bx.rep, str_of b_y.rep, big hc, k _ _ (Same.refl H) (live_str l _)⟩
    · cases e
  · cases e
def catL : D → D → Option OV
  | .lst a, .lst b => if a.length + b.length ≤ 100000 then some (.ol (a ++ b)) else none
  | _, _ => none
theorem p2_catL : P2 t rCat catL := fun H L x y dx dy o Q l bx b_y e k => by
  unfold catL at e
  split at e
  · rename_i xs ys
    split at e
    · cases e
      rename_i hc
      obtain ⟨G, O, lg⟩ := l
      obtain ⟨a, vs, rfl, ha, ra⟩ := bx.cmp G O lg
      obtain ⟨b, ws, rfl, hb, rb⟩ := b_y.cmp G O lg
      refine ⟨a, b, vs, ws, rfl, rfl, ha, hb, big (by rw [ra.length, rb.length]; exact hc), fun p hp => k _ _ (fun c o e => by rw [upd_ne (ne_of_none e hp)]; exact e) ?_⟩
      have r := ra.app rb
      exact Live.lst r.length ⟨G, O, lg.add r⟩ hp
    · cases e
  · cases e
def catT : D → D → Option OV
  | .tup a, .tup b => if a.length + b.length ≤ 100000 then some (.fz (.tup (a ++ b))) else none
  | _, _ => none
theorem same_new {H : Hp} {p : Addr} {o : HO} (hp : H p = none) : Same H (upd H p o) := fun c u e => by rw [upd_ne (ne_of_none e hp)]; exact e
theorem p2_catT {K : PySem.W.Frag} : P2 t (rCatA K) catT := fun H L x y dx dy o Q l bx b_y e k => by
  unfold catT at e
  split at e
  · rename_i xs ys
    split at e
    · cases e
      rename_i hc
      obtain ⟨G, O, lg⟩ := l
      obtain ⟨fa, a, vs, rfl, ha, ra⟩ := bx.cmp G O lg
      obtain ⟨fb, b, ws, rfl, hb, rb⟩ := b_y.cmp G O lg
      have r := ra.app rb
      refine ⟨a, b, vs, ws, rfl, rfl, SqT.of ha, SqT.of hb, big (by rw [ra.length, rb.length]; exact hc), fun e => ?_, fun _ e => ?_, fun _ _ p hp => k _ _ (same_new hp) (Live.tup r.length ⟨G, O, lg.add r⟩ hp)⟩
      · subst e
        cases ra
        exact k _ _ (Same.refl H) ⟨G, O, lg.add (vs := [.ref b]) (ds := [.tup ys]) (.cons fb .nil)⟩
      · subst e
        cases rb
        rw [List.append_nil] at *
        exact k _ _ (Same.refl H) ⟨G, O, lg.add (vs := [.ref a]) (ds := [.tup xs]) (.cons fa .nil)⟩
    · cases e
  · cases e
/-- list * int -/
def repL : D → D → Option OV
  | .lst a, .int k => if 0 ≤ k ∧ k ≤ 100000 ∧ a.length * k.toNat ≤ 100000 then some (.ol (List.replicate k.toNat a).flatten) else none
  | _, _ => none
theorem reps_flat {G : Hp} {vs : List V} {ds : List D} (r : Reps t G vs ds) : ∀ n : Nat, Reps t G (List.replicate n vs).flatten (List.replicate n ds).flatten
  | 0 => .nil
  | n + 1 => by
    rw [List.replicate_succ, List.replicate_succ, List.flatten_cons, List.flatten_cons]
    exact r.app (reps_flat r n)
theorem p2_repL : P2 t rRep repL := fun H L x y dx dy o Q l bx b_y e k => by
  unfold repL at e
  split at e
  · rename_i xs j
    split at e
    · cases e
      rename_i hc
      obtain ⟨G, O, lg⟩ := l
      obtain ⟨a, vs, rfl, ha, ra⟩ := bx.cmp G O lg
      have r := reps_flat ra j.toNat
      exact ⟨a, j, vs, rfl, int_of b_y.rep, ha, by omega, by omega, big (by rw [ra.length]; exact hc.2.2), fun p hp => k _ _ (same_new hp) (Live.lst r.length ⟨G, O, lg.add r⟩ hp)⟩
    · cases e
  · cases e

/-! ### equality -/
def dV : D → Option V
  | .non => some .non
  | .bl b => some (.bl b)
  | .int i => some (.int i)
  | .str x => some (.str x)
  | .byt x => some (.byt x)
  | _ => none
theorem dV_of {H : Hp} {v w : V} {d : D} (r : Rep t H v d) (e : dV d = some w) : v = w := by
  cases r <;> simp [dV] at e <;> exact e
def eqS (d e : D) : Option Bool := (dV d).bind fun x => (dV e).bind fun y => if scal x y then some (decide (x = y)) else none
def eqP (d e : D) : Option Bool := (py d).bind fun p => (py e).bind fun q => if SeqAt.shaped p && SeqAt.shaped q then some (PyData.eqv p q) else none
def blO (o : Option Bool) : Option OV := o.map fun b => .fz (.bl b)
theorem blO_some {o : Option Bool} {x : OV} (h : blO o = some x) : ∃ b, o = some b ∧ x = .fz (.bl b) := by
  cases o with
  | none => cases h
  | some b => cases h; exact ⟨b, rfl, rfl⟩
theorem eqS_some {d e : D} {b : Bool} (h : eqS d e = some b) : ∃ x y, dV d = some x ∧ dV e = some y ∧ scal x y = true ∧ b = decide (x = y) := by
  obtain ⟨v, e1, h1⟩ := Option.bind_eq_some_iff.mp h
  obtain ⟨w, e2, h2⟩ := Option.bind_eq_some_iff.mp h1
  split at h2
  · rename_i hs
    cases h2
    exact ⟨v, w, e1, e2, hs, rfl⟩
  · cases h2
theorem eqP_some {d e : D} {b : Bool} (h : eqP d e = some b) : ∃ x y, py d = some x ∧ py e = some y ∧ SeqAt.shaped x = true ∧ SeqAt.shaped y = true ∧ b = PyData.eqv x y := by
  obtain ⟨v, e1, h1⟩ := Option.bind_eq_some_iff.mp h
  obtain ⟨w, e2, h2⟩ := Option.bind_eq_some_iff.mp h1
  split at h2
  · rename_i hs
    rw [Bool.and_eq_true] at hs
    cases h2
    exact ⟨v, w, e1, e2, hs.1, hs.2, rfl⟩
  · cases h2
theorem p2_eqS : P2 t rEq (fun d e => blO (eqS d e)) := fun H L x y dx dy o Q l bx b_y e k => by
  obtain ⟨b, eb, rfl⟩ := blO_some e
  obtain ⟨v, w, e1, e2, hs, rfl⟩ := eqS_some eb
  cases dV_of bx.rep e1
  cases dV_of b_y.rep e2
  exact ⟨hs, k _ _ (Same.refl H) (live_bl l _)⟩
theorem p2_neS : P2 t rNe (fun d e => blO ((eqS d e).map not)) := fun H L x y dx dy o Q l bx b_y e k => by
  obtain ⟨b, eb, rfl⟩ := blO_some e
  obtain ⟨c, ec, rfl⟩ := Option.map_eq_some_iff.mp eb
  obtain ⟨v, w, e1, e2, hs, rfl⟩ := eqS_some ec
  cases dV_of bx.rep e1
  cases dV_of b_y.rep e2
  exact ⟨hs, k _ _ (Same.refl H) (live_bl l _)⟩
theorem p2_eqP {K : PySem.W.Frag} : P2 t (rEqD K) (fun d e => blO (eqP d e)) := fun H L x y dx dy o Q l bx b_y e k => by
  obtain ⟨b, eb, rfl⟩ := blO_some e
  obtain ⟨v, w, e1, e2, h1, h2, rfl⟩ := eqP_some eb
  exact ⟨v, w, dp_of bx.rep e1, dp_of b_y.rep e2, h1, h2, k _ _ (Same.refl H) (live_bl l _)⟩
theorem p2_neP {K : PySem.W.Frag} : P2 t (rNeD K) (fun d e => blO ((eqP d e).map not)) := fun H L x y dx dy o Q l bx b_y e k => by
  obtain ⟨b, eb, rfl⟩ := blO_some e
  obtain ⟨c, ec, rfl⟩ := Option.map_eq_some_iff.mp eb
  obtain ⟨v, w, e1, e2, h1, h2, rfl⟩ := eqP_some ec
  exact ⟨v, w, dp_of bx.rep e1, dp_of b_y.rep e2, h1, h2, k _ _ (Same.refl H) (live_bl l _)⟩
def isN (neg : Bool) : D → D → Option OV
  | .no, _ => none
  | .non, .non => some (.fz (.bl (!neg)))
  | _, .non => some (.fz (.bl neg))
  | _, _ => none
theorem p2_isN : P2 t (fun x y H Q => y = .non ∧ Q (.bl (decide (x = .non))) H) (isN false) := fun H L x y dx dy o Q l bx b_y e k => by
  have r := bx.rep
  unfold isN at e
  split at e
  · cases e
  · cases e
    cases r
    exact ⟨non_of b_y.rep, k _ _ (Same.refl H) (live_bl l _)⟩
  · cases e
    rename_i h1 h2
    refine ⟨non_of b_y.rep, ?_⟩
    have : decide (x = V.non) = false := by
      cases r <;> first | rfl | exact (h1 rfl).elim | exact (h2 rfl).elim
    rw [this]
    exact k _ _ (Same.refl H) (live_bl l _)
  · cases e
theorem p2_notN : P2 t (fun x y H Q => y = .non ∧ Q (.bl (!decide (x = .non))) H) (isN true) := fun H L x y dx dy o Q l bx b_y e k => by
  have r := bx.rep
  unfold isN at e
  split at e
  · cases e
  · cases e
    cases r
    exact ⟨non_of b_y.rep, k _ _ (Same.refl H) (live_bl l _)⟩
  · cases e
    rename_i h1 h2
    refine ⟨non_of b_y.rep, ?_⟩
    have : decide (x = V.non) = false := by
      cases r <;> first | rfl | exact (h1 rfl).elim | exact (h2 rfl).elim
    rw [this]
    exact k _ _ (Same.refl H) (live_bl l _)
  · cases e

/-! ### in -/
def inStr (neg : Bool) : D → D → Option OV
  | .str i, .str j => some (.fz (.bl (if neg then !(!(Builtin.Str.occurrences j i 0 j.length 1).isEmpty) else !(Builtin.Str.occurrences j i 0 j.length 1).isEmpty)))
  | _, _ => none
theorem p2_inStr : P2 t (fun x y H Q => ∃ i j, x = .str i ∧ y = .str j ∧ Q (.bl (!(Builtin.Str.occurrences j i 0 j.length 1).isEmpty)) H) (inStr false) := fun H L x y dx dy o Q l bx b_y e k => by
  unfold inStr at e
  split at e
  · cases e
    exact ⟨_, _, str_of bx.rep, str_of b_y.rep, k _ _ (Same.refl H) (live_bl l _)⟩
  · cases e
theorem p2_notinStr : P2 t (fun x y H Q => ∃ i j, x = .str i ∧ y = .str j ∧ Q (.bl (!(!(Builtin.Str.occurrences j i 0 j.length 1).isEmpty))) H) (inStr true) := fun H L x y dx dy o Q l bx b_y e k => by
  unfold inStr at e
  split at e
  · cases e
    exact ⟨_, _, str_of bx.rep, str_of b_y.rep, k _ _ (Same.refl H) (live_bl l _)⟩
  · cases e
def dVs : List D → Option (List V)
  | [] => some []
  | d :: r => (dV d).bind fun a => (dVs r).map fun b => a :: b
theorem dVs_of {H : Hp} : ∀ {vs ws : List V} {ds : List D}, Reps t H vs ds → dVs ds = some ws → vs = ws
  | _, _, _, .nil, e => by simp [dVs] at e; exact e.symm
  | _, _, _, .cons h r, e => by
    simp only [dVs] at e
    obtain ⟨a, h1, e⟩ := Option.bind_eq_some_iff.mp e
    obtain ⟨b, h2, rfl⟩ := Option.map_eq_some_iff.mp e
    rw [dV_of h h1, dVs_of r h2]
def seqD : D → Option (List D)
  | .lst xs => some xs
  | .tup xs => some xs
  | _ => none
/-- flat things in a list or tuple of such -/
def inFlat (neg : Bool) (d e : D) : Option OV := (dV d).bind fun x => (seqD e).bind fun ds => (dVs ds).bind fun xs => if flatV x && xs.all flatV then some (.fz (.bl (if neg then !inV x xs else inV x xs))) else none
theorem seq_of {K : PySem.W.Frag} {H : Hp} {v : V} {d : D} {ds : List D} (r : Rep t H v d) (e : seqD d = some ds) : ∃ p vs, v = .ref p ∧ (SqL K H p vs ∨ SqT K H p vs) ∧ Reps t H vs ds := by
  cases r with
  | lst h r => cases e; exact ⟨_, _, rfl, .inl (SqL.of h), r⟩
  | tup h r => cases e; exact ⟨_, _, rfl, .inr (SqT.of h), r⟩
  | _ => cases e
theorem p2_inFlat {K : PySem.W.Frag} {neg : Bool} : P2 t (rIn K neg) (inFlat neg) := fun H L x y dx dy o Q l bx b_y e k => by
  obtain ⟨v, e1, e⟩ := Option.bind_eq_some_iff.mp e
  obtain ⟨ds, e2, e⟩ := Option.bind_eq_some_iff.mp e
  obtain ⟨xs, e3, e⟩ := Option.bind_eq_some_iff.mp e
  split at e
  · rename_i hf
    rw [Bool.and_eq_true] at hf
    cases e
    cases dV_of bx.rep e1
    obtain ⟨p, vs, rfl, q, r⟩ := seq_of (K := K) b_y.rep e2
    cases dVs_of r e3
    exact ⟨p, xs, rfl, q, hf.1, hf.2, k _ _ (Same.refl H) (live_bl l _)⟩
  · cases e
/-- data in a list of data -/
def inDeep (neg : Bool) (d e : D) : Option OV := (py d).bind fun p => match e with
  | .lst ds => (pys ds).bind fun ps => if SeqAt.shaped p && SeqAt.shaped (.list ps) then some (.fz (.bl (if neg then !ps.any fun z => PyData.eqv z p else ps.any fun z => PyData.eqv z p))) else none
  | _ => none
theorem p2_inDeep {K : PySem.W.Frag} : P2 t (rInD K) (inDeep false) := fun H L x y dx dy o Q l bx b_y e k => by
  obtain ⟨p, e1, e⟩ := Option.bind_eq_some_iff.mp e
  split at e
  · obtain ⟨ps, e2, e⟩ := Option.bind_eq_some_iff.mp e
    split at e
    · rename_i hf
      rw [Bool.and_eq_true] at hf
      cases e
      exact ⟨p, ps, dp_of bx.rep e1, dp_of b_y.rep (by simp [py, e2]), hf.1, hf.2, k _ _ (Same.refl H) (live_bl l _)⟩
    · cases e
  · cases e
theorem p2_notinDeep {K : PySem.W.Frag} : P2 t (rNotInD K) (inDeep true) := fun H L x y dx dy o Q l bx b_y e k => by
  obtain ⟨p, e1, e⟩ := Option.bind_eq_some_iff.mp e
  split at e
  · obtain ⟨ps, e2, e⟩ := Option.bind_eq_some_iff.mp e
    split at e
    · rename_i hf
      rw [Bool.and_eq_true] at hf
      cases e
      exact ⟨p, ps, dp_of bx.rep e1, dp_of b_y.rep (by simp [py, e2]), hf.1, hf.2, k _ _ (Same.refl H) (live_bl l _)⟩
    · cases e
  · cases e
end
end Kv
/-! Expressions. -/
namespace Kv
open PySem L2
section
variable {X : Cx} {κ : Kx} {pu p q fl fl' : Bool} {e a b c : Expr} {pos : Pos}

/-- the judgements for an argument list -/
def odp (vs : List V) (ods : List Opd) : List (V × OV) := vs.zip (ods.map Opd.ov)
def OdRs (t : CT) (σ : St) (H : Hp) : List Opd → List V → Prop
  | [], [] => True
  | od :: ods, v :: vs => OdR t σ H od v ∧ OdRs t σ H ods vs
  | _, _ => False
def TAo (κ : Kx) (pu : Bool) (m : M (List Opd)) : TA := fun σ H Q => ∃ ρ fr, WS σ ρ ∧ Live κ.T H (prs σ ρ ++ fr) ∧
  wp m ρ (fun ods ρ' => ∀ vs H', WS σ ρ' → (pu = true → Same H H') → Live κ.T H' (odp vs ods ++ (prs σ ρ' ++ fr)) → OdRs κ.T σ H' ods vs → Q vs H') fun x ρ' => κ.xw x σ ρ' fr
structure SA (X : Cx) (κ : Kx) (pu : Bool) (es : List Expr) (m : M (List Opd)) : Prop where
  pa : PA X es (TAo κ pu m)

/-! ### names, constants -/
def opl (i : Nat) : M Opd := fun ρ => match ρ[i]? with
  | some o => if o.isNo then none else some (.ok (.pl i), ρ)
  | none => none
theorem wp_opl {i : Nat} {ρ : Env} {Q : Opd → Env → Prop} {E : Ex → Env → Prop} (h : wp (opl i) ρ Q E) : ∃ o, ρ[i]? = some o ∧ o.isNo = false ∧ Q (.pl i) ρ := by
  unfold wp opl at h
  cases e : ρ[i]? with
  | none => rw [e] at h; exact h.elim
  | some o =>
    rw [e] at h
    cases q : o.isNo with
    | true => simp [q] at h
    | false => simp [q] at h; exact ⟨o, rfl, q, h⟩
theorem so_sl {i : Nat} (h : PE X e (tVar i)) : SO X κ true false e (opl i) := ⟨h.imp fun σ H Q ⟨ρ, fr, w, l, hp⟩ => by
  obtain ⟨o, e, n, hp⟩ := wp_opl hp
  obtain ⟨v, hv⟩ := w.has i o e n
  exact ⟨v, hv, hp v H w (fun _ => Same.refl H) (fun _ => rfl) (l.no v) hv⟩⟩
/-- a name's value: what is owned is frozen -/
def sl (i : Nat) : M OV := fun ρ => match ρ[i]? with
  | some o => if o.isNo then none else some (.ok (.fz o.dat), match o with | .fz _ => ρ | o => ρ.set i (.fz o.dat))
  | none => none
theorem live_slot {t : CT} {H : Hp} {σ : St} {ρ : Env} {fr : List (V × OV)} {i : Nat} {v : V} {o : OV} (l : Live t H (prs σ ρ ++ fr)) (hv : σ[i]? = some (some v)) (e : ρ[i]? = some o) : Live t H ((v, o) :: ((prs σ ρ).eraseIdx i ++ fr)) :=
  l.perm ((prs_perm hv e).append_right fr)
theorem live_put {t : CT} {H : Hp} {σ : St} {ρ : Env} {fr : List (V × OV)} {i : Nat} {v : V} {o o' : OV} (hv : σ[i]? = some (some v)) (e : ρ[i]? = some o) (l : Live t H ((v, o') :: ((prs σ ρ).eraseIdx i ++ fr))) : Live t H (prs σ (ρ.set i o') ++ fr) :=
  l.perm ((prs_set_perm hv e).symm.append_right fr)
theorem perm_front {α : Type} (x : α) (a b : List α) : (a ++ x :: b).Perm (x :: (a ++ b)) := List.perm_middle
theorem se_sl {i : Nat} (h : PE X e (tVar i)) : SE X κ true e (sl i) := ⟨h.imp fun σ H Q ⟨ρ, fr, w, l, hp⟩ => by
  unfold wp sl at hp
  cases e : ρ[i]? with
  | none => rw [e] at hp; exact hp.elim
  | some o =>
    rw [e] at hp
    cases n : o.isNo with
    | true => simp [n] at hp
    | false =>
      simp only [n, Bool.false_eq_true, if_false] at hp
      obtain ⟨v, hv⟩ := w.has i o e n
      refine ⟨v, hv, ?_⟩
      have l1 := (live_slot l hv e).frz.dup
      cases o with
      | fz d =>
        refine hp v H w (fun _ => Same.refl H) ?_
        exact (l1.perm (.cons _ ((prs_perm hv e).symm.append_right fr)))
      | _ =>
        refine hp v H (w.set hv) (fun _ => Same.refl H) ?_
        exact (l1.perm (.cons _ ((prs_set_perm hv e).symm.append_right fr)))⟩
def co (d : D) : M OV := ret (.fz d)
theorem se_co {v : V} {d : D} (h : PE X e (tC v)) (r : ∀ G, Rep κ.T G v d) : SE X κ true e (co d) := ⟨h.imp fun σ H Q ⟨ρ, fr, w, l, hp⟩ => hp v H w (fun _ => Same.refl H) (l.put r)⟩

/-! ### operands -/
def tmp (m : M OV) : M Opd := bnd m fun o => ret (.tv o)
theorem so_tmp {m : M OV} (h : SE X κ p e m) : SO X κ p false e (tmp m) := ⟨h.pe.imp fun σ H Q ⟨ρ, fr, w, l, hp⟩ => by
  unfold tmp at hp
  rw [wp_bnd] at hp
  exact ⟨ρ, fr, w, l, wp_mono hp fun o ρ' k v H' w' s l' => k v H' w' s (fun _ => rfl) l' trivial⟩⟩
def bin2 (f : D → D → Option OV) (ma mb : M Opd) : M OV := bnd ma fun x => bnd mb fun y => bnd (pk x) fun dx => bnd (pk y) fun dy => ofO (f dx dy)
theorem wp_pk {od : Opd} {ρ : Env} {Q : D → Env → Prop} {E : Ex → Env → Prop} (h : wp (pk od) ρ Q E) : ∃ d, peek ρ od = some d ∧ Q d ρ := wp_ofO (o := peek ρ od) h
theorem live_mid {t : CT} {H : Hp} {x : V × OV} {a b : List (V × OV)} (l : Live t H (a ++ x :: b)) : Live t H (a ++ b) := (l.perm List.perm_middle).tail
theorem op2_core {r : R2} {f : D → D → Option OV} {ma mb : M Opd} {ta tb : TE} (P : P2 κ.T r f) (hfl : (!fl || q) = true) {σ : St} {H : Hp} {Q : VK} (h : T κ (p && q) (bin2 f ma mb) σ H Q) : tOp r (TO κ p fl ma) (TO κ q fl' mb) σ H Q := by
  obtain ⟨ρ, fr, w, l, hp⟩ := h
  unfold bin2 at hp
  rw [wp_bnd] at hp
  refine ⟨ρ, fr, w, l, wp_mono hp fun x ρ1 hp v1 H1 w1 s1 f1 l1 r1 => ?_⟩
  rw [wp_bnd] at hp
  have l1' := l1.perm (List.perm_middle (l₁ := prs σ ρ1) (l₂ := fr) (a := (v1, x.ov))).symm
  refine ⟨ρ1, (v1, x.ov) :: fr, w1, l1', wp_mono2 hp (fun y ρ2 hp v2 H2 w2 s2 f2 l2 r2 => ?_) fun _ _ h => κ.xm _ _ _ _ _ h⟩
  rw [wp_bnd] at hp
  obtain ⟨dx, e1, hp⟩ := wp_pk hp
  rw [wp_bnd] at hp
  obtain ⟨dy, e2, hp⟩ := wp_pk hp
  obtain ⟨o, e3, hp⟩ := wp_ofO hp
  have r1' : OdR κ.T σ H2 x v1 := by
    cases hx : fl with
    | true =>
      rw [hx] at hfl
      exact r1.same (s2 (by simpa using hfl))
    | false => exact r1.plain (f1 hx)
  have bx := bor_od l2 w2 (fun z hz => List.mem_cons_of_mem _ (List.mem_append_left _ hz)) (List.mem_cons_of_mem _ (List.mem_append_right _ List.mem_cons_self)) r1' e1
  have b_y := bor_od l2 w2 (fun z hz => List.mem_cons_of_mem _ (List.mem_append_left _ hz)) List.mem_cons_self r2 e2
  refine P H2 _ v1 v2 dx dy o Q l2 bx b_y e3 fun v H' s3 l3 => hp v H' w2 (fun hpq => ?_) ?_
  · rw [Bool.and_eq_true] at hpq
    exact (s1 hpq.1).trans ((s2 hpq.2).trans s3)
  · have l4 := live_mid (a := [(v, o)]) l3
    exact live_mid (a := (v, o) :: prs σ ρ2) l4
theorem se_bin {op : Operator} {r : R2} {f : D → D → Option OV} {ma mb : M Opd} (ho : OpR X (binaryOp op) r) (P : P2 κ.T r f) (ha : SO X κ p fl a ma) (hb : SO X κ q fl' b mb) (hfl : (!fl || q) = true := by rfl) : SE X κ (p && q) (.BinOp a op b pos) (bin2 f ma mb) :=
  ⟨(pe_op ho ha.pe hb.pe).imp fun _ _ _ h => op2_core (ta := TO κ p fl ma) (tb := TO κ q fl' mb) P hfl h⟩
theorem se_cmp {op : CmpOp} {r : R2} {f : D → D → Option OV} {ma mb : M Opd} (ho : OpR X (compareOp op) r) (P : P2 κ.T r f) (ha : SO X κ p fl a ma) (hb : SO X κ q fl' b mb) (hm : behindInMarks op b = false) (hfl : (!fl || q) = true := by rfl) : SE X κ (p && q) (.Compare a [op] [b] pos) (bin2 f ma mb) :=
  ⟨(pe_cmpR ho ha.pe hb.pe hm).imp fun _ _ _ h => op2_core (ta := TO κ p fl ma) (tb := TO κ q fl' mb) P hfl h⟩
/-- a value that is to be a bool -/
def tob (m : M OV) : M Bool := bnd m fun o => match o with
  | .fz (.bl b) => ret b
  | _ => bad
theorem tob_core {m : M OV} {t : TE} (h : ∀ σ H Q, T κ p m σ H Q → t σ H Q) {σ : St} {H : Hp} {Q : Bool → Hp → Prop} (hq : TB κ p (tob m) σ H Q) : t σ H fun x H' => ∃ k, x = .bl k ∧ Q k H' := by
  obtain ⟨ρ, fr, w, l, hp⟩ := hq
  unfold tob at hp
  rw [wp_bnd] at hp
  refine h σ H _ ⟨ρ, fr, w, l, wp_mono hp fun o ρ' hp v H' w' s l' => ?_⟩
  split at hp
  · rename_i b
    cases bl_of (bor_mem l' List.mem_cons_self).rep
    exact ⟨b, rfl, hp H' w' s l'.tail⟩
  · exact hp.elim
theorem sb_cmp {op : CmpOp} {r : R2} {f : D → D → Option OV} {ma mb : M Opd} (ho : OpR X (compareOp op) r) (P : P2 κ.T r f) (ha : SO X κ p fl a ma) (hb : SO X κ q fl' b mb) (hm : behindInMarks op b = false) (hfl : (!fl || q) = true := by rfl) : SB X κ (p && q) (.Compare a [op] [b] pos) (tob (bin2 f ma mb)) :=
  ⟨(pt_cmpR ho ha.pe hb.pe hm).imp fun _ _ _ h => tob_core (fun _ _ _ h => op2_core (ta := TO κ p fl ma) (tb := TO κ q fl' mb) P hfl h) h⟩
theorem sb_val {m : M OV} (h : SE X κ p e m) (he : ∀ whole, isTrue e X.env whole = (do let v ← whole; standAt e.pos; holding [v] (truthy v)) := by intro _; rfl) : SB X κ p e (tob m) :=
  ⟨(pt_val h.pe he).imp fun _ _ _ h => tob_core (fun _ _ _ h => h) h⟩
theorem se_not {m : M OV} (h : SE X κ p a m) : SE X κ p (.UnaryOp .Not a pos) (bnd (tob m) fun b => ret (.fz (.bl (!b)))) := ⟨(pe_not h.pe).imp fun σ H Q h => by
  obtain ⟨ρ, fr, w, l, hp⟩ := h
  rw [wp_bnd] at hp
  exact tob_core (κ := κ) (p := p) (m := m) (fun _ _ _ h => h) ⟨ρ, fr, w, l, wp_mono hp fun b ρ' k H' w' s l' => k _ _ w' s (live_bl l' _)⟩⟩
theorem sb_not {m : M Bool} (h : SB X κ p a m) : SB X κ p (.UnaryOp .Not a pos) (bnd m fun b => ret (!b)) := ⟨(pt_not h.pt).imp fun σ H Q h => by
  obtain ⟨ρ, fr, w, l, hp⟩ := h
  rw [wp_bnd] at hp
  exact ⟨ρ, fr, w, l, hp⟩⟩
end
end Kv
/-! Expressions: and, or, if, chains, subscripts, slices. -/
namespace Kv
open PySem L2
section
variable {X : Cx} {κ : Kx} {pu p q r fl fl' fl2 : Bool} {e a b c : Expr} {pos : Pos} {rest : List Expr}

/-! ### and, or, if -/
structure SW (X : Cx) (κ : Kx) (pu : Bool) (e : Expr) (m : M Bool) : Prop where
  pw : PW X e (TB κ pu m)
def andM (m n : M Bool) : M Bool := bnd m fun b => match b with
  | true => n
  | false => ret false
def orM (m n : M Bool) : M Bool := bnd m fun b => match b with
  | true => ret true
  | false => n
def andV (m n : M OV) : M OV := bnd (tob m) fun b => match b with
  | true => n
  | false => ret (.fz (.bl false))
def orV (m n : M OV) : M OV := bnd (tob m) fun b => match b with
  | true => ret (.fz (.bl true))
  | false => n
def ifM {α : Type} (m : M Bool) (n k : M α) : M α := bnd m fun b => match b with
  | true => n
  | false => k
theorem _root_.L2.PW.imp {X : Cx} {e : Expr} {t t' : TT} (p : PW X e t) (h : ∀ σ H Q, t' σ H Q → t σ H Q) : PW X e t' := ⟨fun wh pins s σ H Q I q => p.run wh pins s σ H Q I (h _ _ _ q)⟩
theorem tb_seq {m : M Bool} {n : Bool → M Bool} {σ : St} {H : Hp} {Q : Bool → Hp → Prop} {R : Bool → Hp → Prop} (h : TB κ (p && q) (bnd m n) σ H Q) (k : ∀ b H', TB κ q (n b) σ H' Q → R b H') : TB κ p m σ H R := by
  obtain ⟨ρ, fr, w, l, hp⟩ := h
  rw [wp_bnd] at hp
  refine ⟨ρ, fr, w, l, wp_mono hp fun b ρ' hp H' w' s l' => k b H' ⟨ρ', fr, w', l', wp_mono hp fun b' ρ2 k2 H2 w2 s2 l2 => k2 H2 w2 (fun hpq => ?_) l2⟩⟩
  rw [Bool.and_eq_true] at hpq
  exact (s hpq.1).trans (s2 hpq.2)
theorem tb_ret {b : Bool} {σ : St} {H : Hp} {Q : Bool → Hp → Prop} (h : TB κ q (ret b) σ H Q) : Q b H := by
  obtain ⟨ρ, fr, w, l, hp⟩ := h
  exact hp H w (fun _ => Same.refl H) l
theorem sw_and1 {m : M Bool} (h : SB X κ p a m) : SW X κ p (.BoolOp .And [a] pos) m := ⟨pw_and1 h.pt⟩
theorem sw_or1 {m : M Bool} (h : SB X κ p a m) : SW X κ p (.BoolOp .Or [a] pos) m := ⟨pw_or1 h.pt⟩
theorem sw_and {m n : M Bool} (h : SB X κ p a m) (k : SW X κ q (.BoolOp .And (b :: rest) pos) n) : SW X κ (p && q) (.BoolOp .And (a :: b :: rest) pos) (andM m n) := ⟨(pw_and h.pt k.pw).imp fun σ H Q h => tb_seq (q := q) h (fun b H' h => by
  cases b with
  | true => exact h
  | false => exact tb_ret h)⟩
theorem sw_or {m n : M Bool} (h : SB X κ p a m) (k : SW X κ q (.BoolOp .Or (b :: rest) pos) n) : SW X κ (p && q) (.BoolOp .Or (a :: b :: rest) pos) (orM m n) := ⟨(pw_or h.pt k.pw).imp fun σ H Q h => tb_seq (q := q) h (fun b H' h => by
  cases b with
  | true => exact tb_ret h
  | false => exact h)⟩
theorem sb_w {m : M Bool} (h : SW X κ p e m) : SB X κ p e m := ⟨h.pw.pt⟩
/-- a value that is tested, then another -/
theorem te_tob {m : M OV} {n : Bool → M OV} {σ : St} {H : Hp} {Q : VK} {R : V → Hp → Prop} (h : T κ (p && q) (bnd (tob m) n) σ H Q) (k : ∀ b H', T κ q (n b) σ H' Q → R (.bl b) H') : T κ p m σ H R := by
  obtain ⟨ρ, fr, w, l, hp⟩ := h
  unfold tob at hp
  rw [wp_bnd, wp_bnd] at hp
  refine ⟨ρ, fr, w, l, wp_mono hp fun o ρ' hp v H' w' s l' => ?_⟩
  split at hp
  · rename_i b
    cases bl_of (bor_mem l' List.mem_cons_self).rep
    refine k b H' ⟨ρ', fr, w', l'.tail, wp_mono hp fun b' ρ2 k2 v2 H2 w2 s2 l2 => k2 v2 H2 w2 (fun hpq => ?_) l2⟩
    rw [Bool.and_eq_true] at hpq
    exact (s hpq.1).trans (s2 hpq.2)
  · exact hp.elim
theorem t_ret {o : OV} {v : V} {σ : St} {H : Hp} {Q : VK} (h : T κ q (ret o) σ H Q) (r : ∀ L, Live κ.T H L → Live κ.T H ((v, o) :: L)) : Q v H := by
  obtain ⟨ρ, fr, w, l, hp⟩ := h
  exact hp v H w (fun _ => Same.refl H) (r _ l)
theorem se_one {op : BoolOp} {m : M OV} (h : SE X κ p a m) : SE X κ p (.BoolOp op [a] pos) m := ⟨pe_one h.pe⟩
theorem se_and {m n : M OV} (h : SE X κ p a m) (k : SE X κ q (.BoolOp .And (b :: rest) pos) n) : SE X κ (p && q) (.BoolOp .And (a :: b :: rest) pos) (andV m n) := ⟨(pe_and h.pe k.pe).imp fun σ H Q h => te_tob (q := q) h fun b H' h => ⟨b, rfl, by
  cases b with
  | true => exact h
  | false => exact t_ret h fun L l => live_bl l _⟩⟩
theorem se_or {m n : M OV} (h : SE X κ p a m) (k : SE X κ q (.BoolOp .Or (b :: rest) pos) n) : SE X κ (p && q) (.BoolOp .Or (a :: b :: rest) pos) (orV m n) := ⟨(pe_or h.pe k.pe).imp fun σ H Q h => te_tob (q := q) h fun b H' h => ⟨b, rfl, by
  cases b with
  | true => exact t_ret h fun L l => live_bl l _
  | false => exact h⟩⟩
theorem te_seq {m : M Bool} {n : Bool → M OV} {σ : St} {H : Hp} {Q : VK} {R : Bool → Hp → Prop} (h : T κ (p && q) (bnd m n) σ H Q) (k : ∀ b H', T κ q (n b) σ H' Q → R b H') : TB κ p m σ H R := by
  obtain ⟨ρ, fr, w, l, hp⟩ := h
  rw [wp_bnd] at hp
  refine ⟨ρ, fr, w, l, wp_mono hp fun b ρ' hp H' w' s l' => k b H' ⟨ρ', fr, w', l', wp_mono hp fun b' ρ2 k2 v2 H2 w2 s2 l2 => k2 v2 H2 w2 (fun hpq => ?_) l2⟩⟩
  rw [Bool.and_eq_true] at hpq
  exact (s hpq.1).trans (s2 hpq.2)
theorem t_weak {m : M OV} {σ : St} {H : Hp} {Q : VK} (hpq : p = true → q = true) (h : T κ p m σ H Q) : T κ q m σ H Q := by
  obtain ⟨ρ, fr, w, l, hp⟩ := h
  exact ⟨ρ, fr, w, l, wp_mono hp fun o ρ' k v H' w' s l' => k v H' w' (fun h => s (hpq h)) l'⟩
theorem se_ife {m : M Bool} {n k : M OV} (h : SB X κ p c m) (ha : SE X κ q a n) (hb : SE X κ r b k) : SE X κ (p && (q && r)) (.IfExp c a b pos) (ifM m n k) := ⟨(pe_ifExp h.pt ha.pe hb.pe).imp fun σ H Q h => te_seq (q := q && r) h fun b H' h => by
  cases b with
  | true => exact t_weak (fun h => (Bool.and_eq_true_iff.mp h).1) h
  | false => exact t_weak (fun h => (Bool.and_eq_true_iff.mp h).2) h⟩

/-! ### a chain of two comparisons -/
def chM (f g : D → D → Option OV) (ma mb mc : M Opd) : M OV := bnd ma fun x => bnd mb fun y => bnd (pk x) fun dx => bnd (pk y) fun dy => bnd (ofO (f dx dy)) fun o => match o with
  | .fz (.bl true) => bnd mc fun z => bnd (pk y) fun dy' => bnd (pk z) fun dz => ofO (g dy' dz)
  | .fz (.bl false) => ret (.fz (.bl false))
  | _ => bad
theorem chain_core {r1 r2 : R2} {f g : D → D → Option OV} {ma mb mc : M Opd} (P : P2 κ.T r1 f) (P' : P2 κ.T r2 g) (h1 : (!fl || (q && r)) = true) (h2 : (!fl' || r) = true) {σ : St} {H : Hp} {Q : VK} (h : T κ (p && (q && r)) (chM f g ma mb mc) σ H Q) :
    tChain r1 r2 (TO κ p fl ma) (TO κ q fl' mb) (TO κ r fl2 mc) σ H Q := by
  obtain ⟨ρ, fr, w, l, hp⟩ := h
  unfold chM at hp
  rw [wp_bnd] at hp
  refine ⟨ρ, fr, w, l, wp_mono hp fun x ρ1 hp v1 H1 w1 s1 f1 l1 od1 => ?_⟩
  rw [wp_bnd] at hp
  have l1' := l1.perm (List.perm_middle (l₁ := prs σ ρ1) (l₂ := fr) (a := (v1, x.ov))).symm
  refine ⟨ρ1, (v1, x.ov) :: fr, w1, l1', wp_mono2 hp (fun y ρ2 hp v2 H2 w2 s2 f2 l2 od2 => ?_) fun _ _ h => κ.xm _ _ _ _ _ h⟩
  rw [wp_bnd] at hp
  obtain ⟨dx, e1, hp⟩ := wp_pk hp
  rw [wp_bnd] at hp
  obtain ⟨dy, e2, hp⟩ := wp_pk hp
  rw [wp_bnd] at hp
  obtain ⟨o, e3, hp⟩ := wp_ofO hp
  have od1' : OdR κ.T σ H2 x v1 := by
    cases hx : fl with
    | true =>
      rw [hx] at h1
      exact od1.same (s2 (by simp at h1; exact h1.1))
    | false => exact od1.plain (f1 hx)
  have bx := bor_od l2 w2 (fun z hz => List.mem_cons_of_mem _ (List.mem_append_left _ hz)) (List.mem_cons_of_mem _ (List.mem_append_right _ List.mem_cons_self)) od1' e1
  have b_y := bor_od l2 w2 (fun z hz => List.mem_cons_of_mem _ (List.mem_append_left _ hz)) List.mem_cons_self od2 e2
  refine P H2 _ v1 v2 dx dy o _ l2 bx b_y e3 fun v H' s3 l3 => ?_
  split at hp
  · cases bl_of (bor_mem l3 List.mem_cons_self).rep
    refine ⟨true, rfl, ?_⟩
    rw [if_pos rfl]
    rw [wp_bnd] at hp
    have l4 : Live κ.T H' (prs σ ρ2 ++ ((v2, y.ov) :: (v1, x.ov) :: fr)) := l3.tail.perm List.perm_middle.symm
    refine ⟨ρ2, _, w2, l4, wp_mono2 hp (fun z ρ3 hp v3 H3 w3 s4 f3 l5 od3 => ?_) fun _ _ h => κ.xm _ _ _ _ _ (κ.xm _ _ _ _ _ h)⟩
    rw [wp_bnd] at hp
    obtain ⟨dy', e4, hp⟩ := wp_pk hp
    rw [wp_bnd] at hp
    obtain ⟨dz, e5, hp⟩ := wp_pk hp
    obtain ⟨o', e6, hp⟩ := wp_ofO hp
    have od2' : OdR κ.T σ H3 y v2 := by
      cases hy : fl' with
      | true =>
        rw [hy] at h2
        exact (od2.same s3).same (s4 (by simpa using h2))
      | false => exact od2.plain (f2 hy)
    have by2 := bor_od l5 w3 (fun z hz => List.mem_cons_of_mem _ (List.mem_append_left _ hz)) (List.mem_cons_of_mem _ (List.mem_append_right _ List.mem_cons_self)) od2' e4
    have bz := bor_od l5 w3 (fun z hz => List.mem_cons_of_mem _ (List.mem_append_left _ hz)) List.mem_cons_self od3 e5
    refine P' H3 _ v2 v3 dy' dz o' Q l5 by2 bz e6 fun v H4 s5 l6 => hp v H4 w3 (fun hpq => ?_) ?_
    · rw [Bool.and_eq_true, Bool.and_eq_true] at hpq
      exact (s1 hpq.1).trans ((s2 hpq.2.1).trans (s3.trans ((s4 hpq.2.2).trans s5)))
    · have l7 := live_mid (a := [(v, o')]) l6
      have l8 := live_mid (a := (v, o') :: prs σ ρ3) l7
      exact live_mid (a := (v, o') :: prs σ ρ3) l8
  · cases bl_of (bor_mem l3 List.mem_cons_self).rep
    refine ⟨false, rfl, ?_⟩
    rw [if_neg Bool.false_ne_true]
    refine hp _ _ w2 (fun hpq => ?_) ?_
    · rw [Bool.and_eq_true, Bool.and_eq_true] at hpq
      exact (s1 hpq.1).trans ((s2 hpq.2.1).trans s3)
    · have l7 := live_mid (a := [(V.bl false, OV.fz (.bl false))]) l3
      exact live_mid (a := (V.bl false, OV.fz (.bl false)) :: prs σ ρ2) l7
  · exact hp.elim
theorem se_chain {op op' : CmpOp} {r1 r2 : R2} {f g : D → D → Option OV} {ma mb mc : M Opd} (ho : OpR X (compareOp op) r1) (ho' : OpR X (compareOp op') r2) (P : P2 κ.T r1 f) (P' : P2 κ.T r2 g) (ha : SO X κ p fl a ma) (hb : SO X κ q fl' b mb) (hc : SO X κ r fl2 c mc)
    (hm : lastMarks [op, op'] [b, c] = false := by with_unfolding_all rfl) (h1 : (!fl || (q && r)) = true := by rfl) (h2 : (!fl' || r) = true := by rfl) : SE X κ (p && (q && r)) (.Compare a [op, op'] [b, c] pos) (chM f g ma mb mc) :=
  ⟨(pe_chain ho ho' ha.pe hb.pe hc.pe hm).imp fun _ _ _ h => chain_core P P' h1 h2 h⟩
theorem sb_chain {op op' : CmpOp} {r1 r2 : R2} {f g : D → D → Option OV} {ma mb mc : M Opd} (ho : OpR X (compareOp op) r1) (ho' : OpR X (compareOp op') r2) (P : P2 κ.T r1 f) (P' : P2 κ.T r2 g) (ha : SO X κ p fl a ma) (hb : SO X κ q fl' b mb) (hc : SO X κ r fl2 c mc)
    (hm : lastMarks [op, op'] [b, c] = false := by with_unfolding_all rfl) (h1 : (!fl || (q && r)) = true := by rfl) (h2 : (!fl' || r) = true := by rfl) : SB X κ (p && (q && r)) (.Compare a [op, op'] [b, c] pos) (tob (chM f g ma mb mc)) :=
  ⟨(pt_chain ho ho' ha.pe hb.pe hc.pe hm).imp fun _ _ _ h => tob_core (fun _ _ _ h => chain_core P P' h1 h2 h) h⟩

/-! ### subscripts -/
def ixF : D → D → Option OV
  | .lst xs, .int i => (atI xs i).map .fz
  | .frl xs, .int i => (atI xs i).map .fz
  | .tup xs, .int i => (atI xs i).map .fz
  | .str z, .int i => if z.length ≤ 100000 then (atI z.cps.toList i).map fun c => .fz (.str ⟨#[c]⟩) else none
  | _, _ => none
def rIx (K : PySem.W.Frag) : R2 := fun x y H Q => (rIxL K x y H Q ∨ rIxT K x y H Q) ∨ rIxS x y H Q
theorem ix_all : IxR X (rIx X.K) := IxR.or (IxR.or ix_list ix_tup) ix_str
theorem atI_reps {t : CT} {G : Hp} {vs : List V} {ds : List D} (h : Reps t G vs ds) {i : Int} {d : D} (e : atI ds i = some d) : ∃ v, atI vs i = some v ∧ Rep t G v d := by
  unfold atI at e ⊢
  rw [h.length]
  cases q : ixN ds.length i with
  | none => rw [q] at e; cases e
  | some j => rw [q] at e; exact h.get e
theorem p2_ix {t : CT} : P2 t (rIx t.K) ixF := fun H L x y dx dy o Q l bx b_y e k => by
  unfold ixF at e
  obtain ⟨G, O, lg⟩ := l
  split at e
  · obtain ⟨d, ed, rfl⟩ := Option.map_eq_some_iff.mp e
    obtain ⟨a, vs, rfl, ha, ra⟩ := bx.cmp G O lg
    obtain ⟨v, ev, rv⟩ := atI_reps ra ed
    exact .inl (.inl ⟨a, vs, _, v, rfl, int_of b_y.rep, SqL.of ha, ev, k _ _ (Same.refl H) ⟨G, O, lg.add (vs := [v]) (ds := [d]) (.cons rv .nil)⟩⟩)
  · obtain ⟨d, ed, rfl⟩ := Option.map_eq_some_iff.mp e
    obtain ⟨a, vs, rfl, ha, ra⟩ := bx.cmp G O lg
    obtain ⟨v, ev, rv⟩ := atI_reps ra ed
    exact .inl (.inl ⟨a, vs, _, v, rfl, int_of b_y.rep, ha, ev, k _ _ (Same.refl H) ⟨G, O, lg.add (vs := [v]) (ds := [d]) (.cons rv .nil)⟩⟩)
  · obtain ⟨d, ed, rfl⟩ := Option.map_eq_some_iff.mp e
    obtain ⟨_, a, vs, rfl, ha, ra⟩ := bx.cmp G O lg
    obtain ⟨v, ev, rv⟩ := atI_reps ra ed
    exact .inl (.inr ⟨a, vs, _, v, rfl, int_of b_y.rep, SqT.of ha, ev, k _ _ (Same.refl H) ⟨G, O, lg.add (vs := [v]) (ds := [d]) (.cons rv .nil)⟩⟩)
  · split at e
    · rename_i hz
      obtain ⟨c, ec, rfl⟩ := Option.map_eq_some_iff.mp e
      exact .inr ⟨_, _, c, str_of bx.rep, int_of b_y.rep, big hz, ec, k _ _ (Same.refl H) (live_str ⟨G, O, lg⟩ _)⟩
    · cases e
  · cases e
theorem se_ix {f : D → D → Option OV} {r1 : R2} {ma mb : M Opd} (hr : IxR X r1) (P : P2 κ.T r1 f) (ha : SO X κ p fl a ma) (hb : SO X κ q fl' b mb) (hs : PlainIx b := by intro _ _; rfl) (hfl : (!fl || q) = true := by rfl) : SE X κ (p && q) (.Subscript a b pos) (bin2 f ma mb) :=
  ⟨(pe_ix hr ha.pe hb.pe hs).imp fun _ _ _ h => op2_core (ta := TO κ p fl ma) (tb := TO κ q fl' mb) P hfl h⟩

/-! ### slices -/
def TPt (κ : Kx) (pu : Bool) (m : M (Option Int)) : L2.TO := fun σ H Q => ∃ ρ fr, WS σ ρ ∧ Live κ.T H (prs σ ρ ++ fr) ∧
  wp m ρ (fun o ρ' => ∀ H', WS σ ρ' → (pu = true → Same H H') → Live κ.T H' (prs σ ρ' ++ fr) → Q o H') fun x ρ' => κ.xw x σ ρ' fr
structure SPt (X : Cx) (κ : Kx) (pu : Bool) (e : Option Expr) (m : M (Option Int)) : Prop where
  po : PO X e (TPt κ pu m)
theorem _root_.L2.PO.imp {X : Cx} {e : Option Expr} {t t' : L2.TO} (p : PO X e t) (h : ∀ σ H Q, t' σ H Q → t σ H Q) : PO X e t' := ⟨fun pins s σ H Q I q => p.run pins s σ H Q I (h _ _ _ q)⟩
def noP : M (Option Int) := ret none
def intP (m : M OV) : M (Option Int) := bnd m fun o => match o with
  | .fz (.int i) => ret (some i)
  | _ => bad
theorem sp_none : SPt X κ true none noP := ⟨po_none.imp fun σ H Q ⟨ρ, fr, w, l, hp⟩ => hp H w (fun _ => Same.refl H) l⟩
theorem sp_some {m : M OV} (h : SE X κ p e m) : SPt X κ p (some e) (intP m) := ⟨(po_some h.pe).imp fun σ H Q ⟨ρ, fr, w, l, hp⟩ => by
  unfold intP at hp
  rw [wp_bnd] at hp
  refine ⟨ρ, fr, w, l, wp_mono hp fun o ρ' hp v H' w' s l' => ?_⟩
  split at hp
  · exact ⟨_, int_of (bor_mem l' List.mem_cons_self).rep, hp H' w' s l'.tail⟩
  · exact hp.elim⟩
def slM (f : D → Option Int → Option Int → Option OV) (ma : M Opd) (ml mh : M (Option Int)) : M OV := bnd ma fun x => bnd ml fun lo => bnd mh fun hi => bnd (pk x) fun dx => ofO (f dx lo hi)
def P3 (t : CT) (r : V → Option Int → Option Int → Hp → VK → Prop) (f : D → Option Int → Option Int → Option OV) : Prop := ∀ (H : Hp) (L : List (V × OV)) (x : V) (dx : D) (lo hi : Option Int) (o : OV) (Q : VK), Live t H L → Bor t H L x dx → f dx lo hi = some o →
  (∀ v H', Same H H' → Live t H' ((v, o) :: L) → Q v H') → r x lo hi H Q
theorem se_slice {f : D → Option Int → Option Int → Option OV} {r1 : V → Option Int → Option Int → Hp → VK → Prop} {ma : M Opd} {ml mh : M (Option Int)} {lo hi : Option Expr} {p2 : Pos} (hr : SlR X r1) (P : P3 κ.T r1 f) (ha : SO X κ p fl a ma) (hl : SPt X κ q lo ml) (hh : SPt X κ r hi mh) (hfl : (!fl || (q && r)) = true := by rfl) :
    SE X κ (p && (q && r)) (.Subscript a (.Slice lo hi none p2) pos) (slM f ma ml mh) := ⟨(pe_slice hr ha.pe hl.po hh.po).imp fun σ H Q ⟨ρ, fr, w, l, hp⟩ => by
  unfold slM at hp
  rw [wp_bnd] at hp
  refine ⟨ρ, fr, w, l, wp_mono hp fun x ρ1 hp v1 H1 w1 s1 f1 l1 od1 => ?_⟩
  rw [wp_bnd] at hp
  have l1' := l1.perm (List.perm_middle (l₁ := prs σ ρ1) (l₂ := fr) (a := (v1, x.ov))).symm
  refine ⟨ρ1, (v1, x.ov) :: fr, w1, l1', wp_mono2 hp (fun lo ρ2 hp H2 w2 s2 l2 => ?_) fun _ _ h => κ.xm _ _ _ _ _ h⟩
  rw [wp_bnd] at hp
  refine ⟨ρ2, (v1, x.ov) :: fr, w2, l2, wp_mono2 hp (fun hi ρ3 hp H3 w3 s3 l3 => ?_) fun _ _ h => κ.xm _ _ _ _ _ h⟩
  rw [wp_bnd] at hp
  obtain ⟨dx, e1, hp⟩ := wp_pk hp
  obtain ⟨o, e3, hp⟩ := wp_ofO hp
  have od1' : OdR κ.T σ H3 x v1 := by
    cases hx : fl with
    | true =>
      rw [hx] at hfl
      have hfl : q = true ∧ r = true := by simpa using hfl
      exact (od1.same (s2 hfl.1)).same (s3 hfl.2)
    | false => exact od1.plain (f1 hx)
  have bx := bor_od l3 w3 (fun z hz => List.mem_append_left _ hz) (List.mem_append_right _ List.mem_cons_self) od1' e1
  refine P H3 _ v1 dx lo hi o Q l3 bx e3 fun v H' s4 l4 => hp v H' w3 (fun hpq => ?_) (live_mid (a := (v, o) :: prs σ ρ3) l4)
  rw [Bool.and_eq_true, Bool.and_eq_true] at hpq
  exact (s1 hpq.1).trans ((s2 hpq.2.1).trans ((s3 hpq.2.2).trans s4))⟩
def cutA {α : Type} (xs : List α) (lo hi : Option Int) : List α := (xs.drop (HT.sIx xs.length 0 lo)).take (HT.sIx xs.length xs.length hi - HT.sIx xs.length 0 lo)
theorem Reps.drop {t : CT} {G : Hp} : ∀ {vs : List V} {ds : List D} (n : Nat), Reps t G vs ds → Reps t G (vs.drop n) (ds.drop n)
  | _, _, 0, r => r
  | _, _, _ + 1, .nil => .nil
  | _, _, n + 1, .cons _ r => Reps.drop n r
theorem Reps.take {t : CT} {G : Hp} : ∀ {vs : List V} {ds : List D} (n : Nat), Reps t G vs ds → Reps t G (vs.take n) (ds.take n)
  | _, _, 0, _ => .nil
  | _, _, _ + 1, .nil => .nil
  | _, _, n + 1, .cons h r => .cons h (Reps.take n r)
theorem reps_cut {t : CT} {G : Hp} {vs : List V} {ds : List D} (h : Reps t G vs ds) (lo hi : Option Int) : Reps t G (cutV vs lo hi) (cutA ds lo hi) := by
  unfold cutV cutA
  rw [h.length]
  exact (h.drop _).take _
def slF : D → Option Int → Option Int → Option OV
  | .lst xs, lo, hi => some (.ol (cutA xs lo hi))
  | .tup xs, lo, hi => some (.fz (.tup (cutA xs lo hi)))
  | .str z, lo, hi => if z.length ≤ 100000 then some (.fz (.str (cutS z lo hi))) else none
  | _, _, _ => none
def rSl (K : PySem.W.Frag) : V → Option Int → Option Int → Hp → VK → Prop := fun x lo hi H Q => (rSlL K x lo hi H Q ∨ rSlA K x lo hi H Q) ∨ rSlS x lo hi H Q
theorem sl_all : SlR X (rSl X.K) := SlR.or (SlR.or sl_list sl_tupA) sl_str
theorem cutA_whole {α : Type} {xs : List α} {lo hi : Option Int} (h : HT.sIx xs.length 0 lo = 0 ∧ HT.sIx xs.length xs.length hi = xs.length) : cutA xs lo hi = xs := by
  unfold cutA
  rw [h.1, h.2]
  simp
theorem p3_sl {t : CT} {K : PySem.W.Frag} : P3 t (rSl K) slF := fun H L x dx lo hi o Q l bx e k => by
  obtain ⟨G, O, lg⟩ := l
  unfold slF at e
  split at e
  · cases e
    obtain ⟨a, vs, rfl, ha, ra⟩ := bx.cmp G O lg
    have r := reps_cut ra lo hi
    exact .inl (.inl ⟨a, vs, rfl, SqL.of ha, fun p hp => k _ _ (same_new hp) (Live.lst r.length ⟨G, O, lg.add r⟩ hp)⟩)
  · cases e
    obtain ⟨fa, a, vs, rfl, ha, ra⟩ := bx.cmp G O lg
    have r := reps_cut ra lo hi
    refine .inl (.inr ⟨a, vs, rfl, SqT.of ha, fun hw => ?_, fun _ p hp => k _ _ (same_new hp) (Live.tup r.length ⟨G, O, lg.add r⟩ hp)⟩)
    rw [ra.length] at hw
    rw [cutA_whole hw] at k
    exact k _ _ (Same.refl H) ⟨G, O, lg.add (vs := [.ref a]) (.cons fa .nil)⟩
  · split at e
    · rename_i hz
      cases e
      exact .inr ⟨_, str_of bx.rep, big hz, k _ _ (Same.refl H) (live_str ⟨G, O, lg⟩ _)⟩
    · cases e
  · cases e
end
end Kv
/-! Dicts by keys; argument lists; calls of built-ins; displays. -/
namespace Kv
open PySem L2

/-! ### keys -/
def eqKs : List D → List D → Bool
  | [], [] => true
  | .int i :: r, .int j :: s => decide (i = j) && eqKs r s
  | .str i :: r, .str j :: s => decide (i = j) && eqKs r s
  | _, _ => false
def eqK : D → D → Bool
  | .int i, .int j => decide (i = j)
  | .str i, .str j => decide (i = j)
  | .tup a, .tup b => eqKs a b
  | _, _ => false
theorem eqK_key (a b : Key) : eqK (keyD a) (keyD b) = decide (a = b) := by
  cases a <;> cases b <;> simp [keyD, eqK]
theorem eqKs_key : ∀ a b : List Key, eqKs (a.map keyD) (b.map keyD) = decide (a = b)
  | [], [] => by simp [eqKs]
  | [], b :: _ => by cases b <;> simp [eqKs, keyD]
  | a :: _, [] => by cases a <;> simp [eqKs, keyD]
  | a :: r, b :: s => by
    have ih := eqKs_key r s
    cases a <;> cases b <;> simp [eqKs, keyD, ih]
theorem eqK_tup (a b : List Key) : eqK (.tup (a.map keyD)) (.tup (b.map keyD)) = decide (a = b) := eqKs_key a b
def toKey : D → Option Key
  | .int i => some (.inl i)
  | .str x => some (.inr x)
  | _ => none
def toKeys : List D → Option (List Key)
  | [] => some []
  | d :: r => (toKey d).bind fun a => (toKeys r).map fun b => a :: b
def toTK : D → Option (List Key)
  | .tup xs => toKeys xs
  | _ => none
theorem toKey_some {d : D} {k : Key} (h : toKey d = some k) : d = keyD k := by
  cases d <;> simp [toKey] at h <;> subst h <;> rfl
theorem toKeys_some : ∀ {ds : List D} {ks : List Key}, toKeys ds = some ks → ds = ks.map keyD
  | [], ks, h => by simp [toKeys] at h; subst h; rfl
  | d :: r, ks, h => by
    simp only [toKeys] at h
    obtain ⟨a, h1, h2⟩ := Option.bind_eq_some_iff.mp h
    obtain ⟨b, h3, rfl⟩ := Option.map_eq_some_iff.mp h2
    rw [toKey_some h1, toKeys_some h3]; rfl
theorem toTK_some {d : D} {ks : List Key} (h : toTK d = some ks) : d = .tup (ks.map keyD) := by
  cases d with
  | tup xs => rw [toKeys_some (show toKeys xs = some ks from h)]
  | _ => cases h
def getK : List D → List D → D → Option D
  | k :: ks, v :: vs, x => if eqK k x then some v else getK ks vs x
  | _, _, _ => none
def setK : List D → List D → D → D → List D
  | k :: ks, v :: vs, x, y => if eqK k x then y :: vs else v :: setK ks vs x y
  | _, vs, _, _ => vs
def hasK (ks : List D) (x : D) : Bool := ks.any fun k => eqK k x
def putKs (ks : List D) (x : D) : List D := if hasK ks x then ks else ks ++ [x]
def putVs (ks vs : List D) (x y : D) : List D := if hasK ks x then setK ks vs x y else vs ++ [y]
section
variable {t : CT} {G H : Hp} {γ : Type} [DecidableEq γ] {enc : γ → D}
theorem getK_val (he : ∀ a b, eqK (enc a) (enc b) = decide (a = b)) (k : γ) : ∀ {kvs : List (γ × V)} {es : List D}, Reps t G (kvs.map (·.2)) es →
    match getK (kvs.map fun p => enc p.1) es (enc k) with
    | some d => ∃ v, valV kvs k = some v ∧ Rep t G v d
    | none => valV kvs k = none
  | [], _, r => by cases r; rfl
  | p :: kvs, _, .cons (d := d) (ds := ds) h r => by
    show match (if eqK (enc p.1) (enc k) then some d else getK (kvs.map fun p => enc p.1) ds (enc k)) with
      | some d => ∃ v, valV (p :: kvs) k = some v ∧ Rep t G v d
      | none => valV (p :: kvs) k = none
    rw [he]
    by_cases q : p.1 = k
    · rw [decide_eq_true q, if_pos rfl]
      exact ⟨p.2, valV_pos q, h⟩
    · rw [decide_eq_false q, if_neg Bool.false_ne_true]
      have ih := getK_val he k r
      split at ih
      · obtain ⟨v, e1, e2⟩ := ih
        exact ⟨v, by rw [valV_neg q]; exact e1, e2⟩
      · show valV (p :: kvs) k = none
        rw [valV_neg q]; exact ih
theorem hasK_any (he : ∀ a b, eqK (enc a) (enc b) = decide (a = b)) (k : γ) (kvs : List (γ × V)) : hasK (kvs.map fun p => enc p.1) (enc k) = kvs.any fun kv => decide (kv.1 = k) := by
  unfold hasK
  rw [List.any_map]
  congr 1
  funext p
  exact he _ _
theorem any_key (k : γ) (kvs : List (γ × V)) : (kvs.any fun kv => decide (kv.1 = k)) = true ↔ k ∈ kvs.map (·.1) := by
  rw [List.any_eq_true]
  constructor
  · rintro ⟨p, hp, e⟩
    exact List.mem_map.mpr ⟨p, hp, of_decide_eq_true e⟩
  · intro h
    obtain ⟨p, hp, e⟩ := List.mem_map.mp h
    exact ⟨p, hp, decide_eq_true e⟩
theorem setK_val (he : ∀ a b, eqK (enc a) (enc b) = decide (a = b)) (k : γ) {v : V} {d : D} (hv : Rep t G v d) : ∀ {kvs : List (γ × V)} {es : List D}, (kvs.map (·.1)).Nodup → Reps t G (kvs.map (·.2)) es →
    Reps t G ((kvs.map fun kv => if kv.1 = k then (kv.1, v) else kv).map (·.2)) (setK (kvs.map fun p => enc p.1) es (enc k) d)
  | [], _, _, r => by cases r; exact .nil
  | p :: kvs, _, n, .cons (d := d0) (ds := ds) h r => by
    rw [List.map_cons, List.nodup_cons] at n
    show Reps t G ((if p.1 = k then (p.1, v) else p).2 :: (kvs.map fun kv => if kv.1 = k then (kv.1, v) else kv).map (·.2)) (if eqK (enc p.1) (enc k) then d :: ds else d0 :: setK (kvs.map fun p => enc p.1) ds (enc k) d)
    rw [he]
    by_cases q : p.1 = k
    · rw [decide_eq_true q, if_pos rfl, if_pos q]
      refine .cons hv ?_
      have : (kvs.map fun kv => if kv.1 = k then (kv.1, v) else kv) = kvs := by
        conv => rhs; rw [← List.map_id kvs]
        apply List.map_congr_left
        intro a ha
        have : ¬ a.1 = k := fun e => n.1 (List.mem_map.mpr ⟨a, ha, by rw [e, q]⟩)
        rw [if_neg this]; rfl
      rw [this]
      exact r
    · rw [decide_eq_false q, if_neg Bool.false_ne_true, if_neg q]
      exact .cons h (setK_val he k hv n.2 r)
theorem put_ok (he : ∀ a b, eqK (enc a) (enc b) = decide (a = b)) (k : γ) {v : V} {d : D} (hv : Rep t G v d) {kvs : List (γ × V)} {es : List D} (n : (kvs.map (·.1)).Nodup) (r : Reps t G (kvs.map (·.2)) es) :
    ((putK kvs k v).map fun p => enc p.1) = putKs (kvs.map fun p => enc p.1) (enc k) ∧ ((putK kvs k v).map (·.1)).Nodup ∧ Reps t G ((putK kvs k v).map (·.2)) (putVs (kvs.map fun p => enc p.1) es (enc k) d) := by
  unfold putK putKs putVs
  rw [hasK_any he]
  cases q : kvs.any fun kv => decide (kv.1 = k) with
  | true =>
    rw [if_pos rfl, if_pos rfl, if_pos rfl]
    have e1 : ∀ {δ : Type} (f : γ → δ), (kvs.map fun kv => if kv.1 = k then (kv.1, v) else kv).map (fun p => f p.1) = kvs.map fun p => f p.1 := fun f => by
      rw [List.map_map]
      apply List.map_congr_left
      intro a _
      by_cases h : a.1 = k <;> simp [h]
    exact ⟨e1 enc, by rw [e1 (fun x => x)]; exact n, setK_val he k hv n r⟩
  | false =>
    have hk : k ∉ kvs.map (·.1) := fun z => by rw [(any_key k kvs).mpr z] at q; cases q
    simp only [Bool.false_eq_true, if_false, List.map_append, List.map_cons, List.map_nil]
    refine ⟨trivial, ?_, r.app (.cons hv .nil)⟩
    rw [List.nodup_append]
    exact ⟨n, by simp, fun a ha b hb => by simp at hb; subst hb; exact fun e => hk (e ▸ ha)⟩
end
/-- a dict's entry: none where it is no key at all -/
def dgF : D → D → Option (Option D)
  | .dct false ks es, y => (toKey y).map fun _ => getK ks es y
  | .dct true ks es, y => (toTK y).map fun _ => getK ks es y
  | _, _ => none
section
variable {t : CT} {H : Hp} {L : List (V × OV)}
theorem key_v {k : Key} {y : V} (r : Rep t H y (keyD k)) : y = kV k := by
  cases k with
  | inl i => exact int_of r
  | inr x => exact str_of r
theorem keys_v : ∀ {ks : List Key} {ys : List V}, Reps t H ys (ks.map keyD) → ys = ks.map kV
  | [], _, r => by cases r; rfl
  | k :: ks, _, r => by
    cases r with
    | cons h r => rw [key_v h, keys_v r]; rfl
def DgR (t : CT) (H : Hp) (L : List (V × OV)) : Option D → Option V → Prop
  | some d, r => ∃ v, r = some v ∧ Live t H ((v, .fz d) :: L)
  | none, r => r = none
theorem dgR_of {γ : Type} [DecidableEq γ] {enc : γ → D} {G : Hp} {O : List (Addr × HO)} (lg : LiveG t G H L O) (he : ∀ a b, eqK (enc a) (enc b) = decide (a = b)) (k : γ) {kvs : List (γ × V)} {es : List D} (r : Reps t G (kvs.map (·.2)) es) :
    DgR t H L (getK (kvs.map fun p => enc p.1) es (enc k)) (valV kvs k) := by
  have h := getK_val he k r
  split at h <;> rename_i e1 <;> rw [e1]
  · obtain ⟨v, e2, e3⟩ := h
    exact ⟨v, e2, G, O, lg.add (vs := [v]) (.cons e3 .nil)⟩
  · exact h
theorem dget_ok {x y : V} {dx dy : D} {o : Option D} (l : Live t H L) (bx : Bor t H L x dx) (b_y : Bor t H L y dy) (e : dgF dx dy = some o) :
    ∃ a r, x = .ref a ∧ DGet H a y r ∧ DgR t H L o r := by
  obtain ⟨G, O, lg⟩ := l
  cases dx with
  | dct tt ks es =>
    cases tt with
    | false =>
      obtain ⟨k, ek, rfl⟩ := Option.map_eq_some_iff.mp (show (toKey dy).map (fun _ => getK ks es dy) = some o from e)
      obtain ⟨a, kvs, rfl, ha, rfl, n, r⟩ := bx.cmp G O lg
      cases toKey_some ek
      refine ⟨a, _, rfl, ?_, dgR_of lg eqK_key k r⟩
      rw [key_v b_y.rep]; exact DGet.k (k := k) ha
    | true =>
      obtain ⟨k, ek, rfl⟩ := Option.map_eq_some_iff.mp (show (toTK dy).map (fun _ => getK ks es dy) = some o from e)
      obtain ⟨a, kvs, rfl, ha, rfl, n, r⟩ := bx.cmp G O lg
      cases toTK_some ek
      obtain ⟨_, b, ws, rfl, hb, rb⟩ := b_y.cmp G O lg
      rw [keys_v rb] at hb
      exact ⟨a, _, rfl, DGet.t (k := k) ha hb, dgR_of (enc := fun k : List Key => D.tup (k.map keyD)) lg eqK_tup k r⟩
  | _ => cases e
def rDIn (neg : Bool) : R2 := fun y x H Q => ∃ a o, x = .ref a ∧ DGet H a y o ∧ Q (.bl (if neg then !o.isSome else o.isSome)) H
theorem op_din {X : Cx} (hu : X.A.units + 1 < cLine) : OpR X (compareOp .In) (rDIn false) := by
  intro pins s σ H y x iv u Q I ry rx h
  obtain ⟨a, o, rfl, g, q⟩ := h
  cases rx
  exact d_in hu I g ry fun s3 I3 => ⟨.bl o.isSome, H, I3, rfl, q⟩
theorem op_dnotin {X : Cx} (hu : X.A.units + 1 < cLine) : OpR X (compareOp .NotIn) (rDIn true) := by
  intro pins s σ H y x iv u Q I ry rx h
  obtain ⟨a, o, rfl, g, q⟩ := h
  cases rx
  exact d_notIn hu I g ry fun s3 I3 => ⟨.bl (!o.isSome), H, I3, rfl, q⟩
def inDict (neg : Bool) (y x : D) : Option OV := (dgF x y).map fun o => .fz (.bl (if neg then !o.isSome else o.isSome))
theorem p2_inDict {neg : Bool} : P2 t (rDIn neg) (inDict neg) := fun H L y x dy dx o Q l b_y bx e k => by
  obtain ⟨r, er, rfl⟩ := Option.map_eq_some_iff.mp e
  obtain ⟨a, r', rfl, g, h⟩ := dget_ok l bx b_y er
  refine ⟨a, r', rfl, g, ?_⟩
  have : r'.isSome = r.isSome := by
    cases r with
    | none => rw [show r' = none from h]; rfl
    | some d => obtain ⟨v, e, _⟩ := h; rw [e]; rfl
  rw [this]
  exact k _ _ (Same.refl H) (live_bl l _)
/-- d[k] -/
def rDG : R2 := fun x y H Q => ∃ a v, x = .ref a ∧ DGet H a y (some v) ∧ Q v H
def itemD (x y : D) : Option OV := (dgF x y).bind fun o => o.map .fz
theorem p2_itemD : P2 t rDG itemD := fun H L x y dx dy o Q l bx b_y e k => by
  obtain ⟨r, er, e2⟩ := Option.bind_eq_some_iff.mp e
  obtain ⟨d, rfl, rfl⟩ := Option.map_eq_some_iff.mp e2
  obtain ⟨a, r', rfl, g, v, rfl, l'⟩ := dget_ok l bx b_y er
  exact ⟨a, v, rfl, g, k _ _ (Same.refl H) l'⟩
end
section
variable {X : Cx} {κ : Kx} {pu p q r fl fl' fl2 : Bool} {e a b c : Expr} {pos ps : Pos} {es rest : List Expr}
theorem se_dget {ma mb : M Opd} (hu : X.A.units + 1 < cLine) (ha : SO X κ p fl a ma) (hb : SO X κ q fl' b mb) (hs : PlainIx b := by intro _ _; rfl) (hfl : (!fl || q) = true := by rfl) : SE X κ (p && q) (.Subscript a b pos) (bin2 itemD ma mb) :=
  ⟨(pe_dget hu ha.pe hb.pe hs).imp fun _ _ _ h => op2_core (ta := TO κ p fl ma) (tb := TO κ q fl' mb) p2_itemD hfl h⟩
theorem bin2_oe {f g : D → D → Option OV} {ma mb : M Opd} {ρ : Env} : bin2 (oe f g) ma mb ρ = bin2 f ma mb ρ ∨ bin2 (oe f g) ma mb ρ = bin2 g ma mb ρ := by
  unfold bin2 bnd pk ofO oe
  cases ma ρ with
  | none => exact .inl rfl
  | some x =>
    obtain ⟨x, ρ1⟩ := x
    cases x with
    | error x => exact .inl rfl
    | ok x =>
      simp only
      cases mb ρ1 with
      | none => exact .inl rfl
      | some y =>
        obtain ⟨y, ρ2⟩ := y
        cases y with
        | error y => exact .inl rfl
        | ok y =>
          simp only
          cases peek ρ2 x with
          | none => exact .inl rfl
          | some dx =>
            simp only
            cases peek ρ2 y with
            | none => exact .inl rfl
            | some dy =>
              simp only
              cases f dx dy with
              | none => exact .inr rfl
              | some o => exact .inl rfl
/-- any subscript: sequences, texts, dicts -/
theorem se_sub {ma mb : M Opd} (hu : X.A.units + 1 < cLine) (ha : SO X κ p fl a ma) (hb : SO X κ q fl' b mb) (hs : PlainIx b := by intro _ _; rfl) (hfl : (!fl || q) = true := by rfl) (hK : κ.T.K = X.K := by rfl) : SE X κ (p && q) (.Subscript a b pos) (bin2 (oe ixF itemD) ma mb) := ⟨PE.at fun σ H Q h => by
  obtain ⟨ρ, fr, w, l, hp⟩ := h
  rcases bin2_oe (f := ixF) (g := itemD) (ma := ma) (mb := mb) (ρ := ρ) with e | e
  · exact ⟨_, (se_ix (pos := pos) ix_all (hK ▸ p2_ix) ha hb hs hfl).pe, ρ, fr, w, l, by unfold wp at hp ⊢; rw [← e]; exact hp⟩
  · exact ⟨_, (se_dget (pos := pos) hu ha hb hs hfl).pe, ρ, fr, w, l, by unfold wp at hp ⊢; rw [← e]; exact hp⟩⟩

/-! ### argument lists -/
def consO (m : M Opd) (ms : M (List Opd)) : M (List Opd) := bnd m fun x => bnd ms fun xs => ret (x :: xs)
theorem _root_.L2.PA.imp {X : Cx} {es : List Expr} {t t' : TA} (p : PA X es t) (h : ∀ σ H Q, t' σ H Q → t σ H Q) : PA X es t' := ⟨fun pos pins s σ H Q I q => p.run pos pins s σ H Q I (h _ _ _ q)⟩
theorem sa_nil : SA X κ true [] (ret []) := ⟨pa_nil.imp fun σ H Q ⟨ρ, fr, w, l, hp⟩ => hp [] H w (fun _ => Same.refl H) l trivial⟩
theorem xm_list (κ : Kx) {x : Ex} {σ : St} {ρ : Env} {fr : List (V × OV)} (h : κ.xw x σ ρ fr) : ∀ L : List (V × OV), κ.xw x σ ρ (L ++ fr)
  | [] => h
  | p :: L => κ.xm _ _ _ _ _ (xm_list κ h L)
theorem sa_cons {m : M Opd} {ms : M (List Opd)} (ha : SO X κ p fl e m) (hr : SA X κ q es ms) (hs : starEach (e :: es) X.env = (false, eval e X.env) :: starEach es X.env := by rfl) (hfl : (!fl || q) = true := by rfl) : SA X κ (p && q) (e :: es) (consO m ms) := ⟨(pa_cons ha.pe hr.pa hs).imp fun σ H Q ⟨ρ, fr, w, l, hp⟩ => by
  unfold consO at hp
  rw [wp_bnd] at hp
  refine ⟨ρ, fr, w, l, wp_mono hp fun x ρ1 hp v1 H1 w1 s1 f1 l1 od1 => ?_⟩
  rw [wp_bnd] at hp
  have l1' := l1.perm (List.perm_middle (l₁ := prs σ ρ1) (l₂ := fr) (a := (v1, x.ov))).symm
  refine ⟨ρ1, (v1, x.ov) :: fr, w1, l1', wp_mono2 hp (fun xs ρ2 hp vs H2 w2 s2 l2 od2 => ?_) fun _ _ h => κ.xm _ _ _ _ _ h⟩
  refine hp (v1 :: vs) H2 w2 (fun hpq => ?_) ?_ ⟨?_, od2⟩
  · rw [Bool.and_eq_true] at hpq
    exact (s1 hpq.1).trans (s2 hpq.2)
  · refine l2.perm ?_
    show (odp vs xs ++ (prs σ ρ2 ++ (v1, x.ov) :: fr)).Perm ((v1, x.ov) :: (odp vs xs ++ (prs σ ρ2 ++ fr)))
    rw [← List.append_assoc, ← List.append_assoc]
    exact List.perm_middle
  · cases hx : fl with
    | true =>
      rw [hx] at hfl
      exact od1.same (s2 (by simpa using hfl))
    | false => exact od1.plain (f1 hx)⟩
def peeks (ρ : Env) : List Opd → Option (List D)
  | [] => some []
  | x :: xs => (peek ρ x).bind fun d => (peeks ρ xs).map fun ds => d :: ds
def pks (ods : List Opd) : M (List D) := fun ρ => ofO (peeks ρ ods) ρ
def callP (f : List D → Option OV) (ms : M (List Opd)) : M OV := bnd ms fun ods => bnd (pks ods) fun ds => ofO (f ds)
theorem bor_ods {t : CT} {H : Hp} {L : List (V × OV)} {σ : St} {ρ : Env} (l : Live t H L) (w : WS σ ρ) (hs : ∀ x ∈ prs σ ρ, x ∈ L) : ∀ {ods : List Opd} {vs : List V} {ds : List D}, (∀ x ∈ odp vs ods, x ∈ L) → OdRs t σ H ods vs → peeks ρ ods = some ds →
    vs.length = ds.length ∧ ∀ (i : Nat) x d, vs[i]? = some x → ds[i]? = some d → Bor t H L x d
  | [], [], ds, _, _, e => by
    simp [peeks] at e; subst e
    exact ⟨rfl, fun i x d h => by simp at h⟩
  | od :: ods, v :: vs, ds, hm, r, e => by
    simp only [peeks] at e
    obtain ⟨d, e1, e2⟩ := Option.bind_eq_some_iff.mp e
    obtain ⟨ds', e3, rfl⟩ := Option.map_eq_some_iff.mp e2
    obtain ⟨h1, h2⟩ := bor_ods l w hs (ods := ods) (vs := vs) (fun x hx => hm x (List.mem_cons_of_mem _ hx)) r.2 e3
    refine ⟨by simp [h1], fun i x d' a b => ?_⟩
    cases i with
    | zero =>
      simp at a b
      subst a b
      exact bor_od l w hs (hm _ List.mem_cons_self) r.1 e1
    | succ i => exact h2 i x d' (by simpa using a) (by simpa using b)
  | [], _ :: _, _, _, r, _ => r.elim
  | _ :: _, [], _, _, r, _ => r.elim
theorem call_core {f : List D → Option OV} {r1 : List V → Hp → VK → Prop} {ms : M (List Opd)} (P : PN κ.T r1 f) {σ : St} {H : Hp} {Q : VK} (h : T κ p (callP f ms) σ H Q) : tCB r1 (TAo κ p ms) σ H Q := by
  obtain ⟨ρ, fr, w, l, hp⟩ := h
  unfold callP at hp
  rw [wp_bnd] at hp
  refine ⟨ρ, fr, w, l, wp_mono hp fun ods ρ1 hp vs H1 w1 s1 l1 od1 => ?_⟩
  rw [wp_bnd] at hp
  obtain ⟨ds, e1, hp⟩ := wp_ofO (o := peeks ρ1 ods) hp
  obtain ⟨o, e2, hp⟩ := wp_ofO hp
  obtain ⟨h1, h2⟩ := bor_ods l1 w1 (fun z hz => List.mem_append_right _ (List.mem_append_left _ hz)) (fun z hz => List.mem_append_left _ hz) od1 e1
  refine P H1 _ vs ds o Q l1 h1 h2 e2 fun v H' s2 l2 => hp v H' w1 (fun hq => (s1 hq).trans s2) ?_
  exact (l2.perm (show ((v, o) :: (odp vs ods ++ (prs σ ρ1 ++ fr))).Perm (odp vs ods ++ ((v, o) :: (prs σ ρ1 ++ fr))) from List.perm_middle.symm)).drop
theorem se_callB {f : List D → Option OV} {r1 : List V → Hp → VK → Prop} {ms : M (List Opd)} {id : String} {x : Str} (hc : CallR X (.builtin id) r1) (P : PN κ.T r1 f) (hg : Gl X x) (hm : X.mg x = none) (hv : bootBuiltins x = some (.builtin id)) (ha : SA X κ p (e :: es) ms) (hn : x ≠ "__name__" := by decide) (hdb : (x == ("__debug__" : Str)) = false := by decide)
    (he : starEach (e :: es) X.env = (false, eval e X.env) :: starEach es X.env := by rfl) (hpl : (backTo pos (starEach es X.env)).any (·.1) = false := by rfl) : SE X κ p (.Call (.Name x ps) (e :: es) [] pos) (callP f ms) :=
  ⟨(pe_callB hc hg hm hv ha.pa hn hdb he hpl).imp fun _ _ _ h => call_core P h⟩
theorem se_callTy {f : List D → Option OV} {r1 : List V → Hp → VK → Prop} {ms : M (List Opd)} {T0 : String} {x : Str} (hc : CallR X (.type T0) r1) (P : PN κ.T r1 f) (hg : Gl X x) (hm : X.mg x = none) (hv : bootBuiltins x = some (.type T0)) (ha : SA X κ p (e :: es) ms) (hn : x ≠ "__name__" := by decide) (hdb : (x == ("__debug__" : Str)) = false := by decide)
    (he : starEach (e :: es) X.env = (false, eval e X.env) :: starEach es X.env := by rfl) (hpl : (backTo pos (starEach es X.env)).any (·.1) = false := by rfl) : SE X κ p (.Call (.Name x ps) (e :: es) [] pos) (callP f ms) :=
  ⟨(pe_callTy hc hg hm hv ha.pa hn hdb he hpl).imp fun _ _ _ h => call_core P h⟩
end
end Kv
/-! Built-ins, displays. -/
namespace Kv
open PySem L2

section
variable {t : CT} {K : PySem.W.Frag}
def oeN (f g : List D → Option OV) : List D → Option OV := fun x => (f x).or (g x)
theorem PN.or {r r' : List V → Hp → VK → Prop} {f g : List D → Option OV} (h : PN t r f) (h' : PN t r' g) : PN t (fun xs H Q => r xs H Q ∨ r' xs H Q) (oeN f g) := fun H L xs ds o Q l hl b e k => by
  unfold oeN at e
  cases q : f ds with
  | some o' => rw [q] at e; cases e; exact .inl (h H L xs ds _ Q l hl b q k)
  | none => rw [q] at e; exact .inr (h' H L xs ds _ Q l hl b (by simpa using e) k)
theorem len1 {α : Type} {xs : List α} (h : xs.length = 1) : ∃ x, xs = [x] := match xs, h with | [x], _ => ⟨x, rfl⟩
theorem len2 {α : Type} {xs : List α} (h : xs.length = 2) : ∃ x y, xs = [x, y] := match xs, h with | [x, y], _ => ⟨x, y, rfl⟩
/-- one argument -/
theorem pn1 {r : List V → Hp → VK → Prop} {f : D → Option OV} (h : P1 t (fun x H Q => r [x] H Q) f) : PN t r (fun ds => match ds with | [d] => f d | _ => none) := fun H L xs ds o Q l hl b e k => by
  dsimp only at e
  split at e
  · rename_i d
    obtain ⟨x, rfl⟩ := len1 hl
    exact h H L x d o Q l (b 0 x d rfl rfl) e k
  · cases e
theorem pn2 {r : List V → Hp → VK → Prop} {f : D → D → Option OV} (h : P2 t (fun x y H Q => r [x, y] H Q) f) : PN t r (fun ds => match ds with | [d, e] => f d e | _ => none) := fun H L xs ds o Q l hl b e k => by
  dsimp only at e
  split at e
  · rename_i d d'
    obtain ⟨x, y, rfl⟩ := len2 hl
    exact h H L x y d d' o Q l (b 0 x d rfl rfl) (b 1 y d' rfl rfl) e k
  · cases e
/-! ### len -/
def lenF : D → Option OV
  | .lst xs => some (.fz (.int xs.length))
  | .frl xs => some (.fz (.int xs.length))
  | .tup xs => some (.fz (.int xs.length))
  | .str z => if z.length ≤ 100000 then some (.fz (.int z.length)) else none
  | .byt z => if z.size ≤ 100000 then some (.fz (.int z.size)) else none
  | _ => none
theorem p1_len : P1 t (fun x H Q => (fun xs H Q => ∃ x n, xs = [x] ∧ LenV t.K x H n ∧ Q (.int n) H) [x] H Q) lenF := fun H L x dx o Q l bx e k => by
  have r := bx.rep
  cases r with
  | lst h r => cases e; exact ⟨_, _, rfl, .inl ⟨_, SqL.of h, r.length.symm⟩, k _ _ (Same.refl H) (live_int l _)⟩
  | frl h r => cases e; exact ⟨_, _, rfl, .inl ⟨_, h, r.length.symm⟩, k _ _ (Same.refl H) (live_int l _)⟩
  | tup h r => cases e; exact ⟨_, _, rfl, .inr ⟨_, SqT.of h, r.length.symm⟩, k _ _ (Same.refl H) (live_int l _)⟩
  | str z =>
    have e : (if z.length ≤ 100000 then some (OV.fz (D.int z.length)) else none) = some o := e
    split at e
    · rename_i hz
      cases e
      exact ⟨_, _, rfl, ⟨big hz, rfl⟩, k _ _ (Same.refl H) (live_int l _)⟩
    · cases e
  | byt z =>
    have e : (if z.size ≤ 100000 then some (OV.fz (D.int z.size)) else none) = some o := e
    split at e
    · rename_i hz
      cases e
      exact ⟨_, _, rfl, ⟨big hz, rfl⟩, k _ _ (Same.refl H) (live_int l _)⟩
    · cases e
  | _ => cases e
def lenD : D → Option OV
  | .dct _ ks _ => some (.fz (.int ks.length))
  | _ => none
theorem p1_lenD : P1 t (fun x H Q => (fun xs H Q => (fun xs H Q => ∃ a kvs, xs = [V.ref a] ∧ H a = some (.dK kvs) ∧ Q (.int kvs.length) H) xs H Q ∨ rLenT xs H Q) [x] H Q) lenD := fun H L x dx o Q l bx e k => by
  have r := bx.rep
  cases r with
  | dk h n r => cases e; exact .inl ⟨_, _, rfl, h, by have := k _ _ (Same.refl H) (live_int l _); simpa using this⟩
  | dt h n r => cases e; exact .inr ⟨_, _, rfl, h, by have := k _ _ (Same.refl H) (live_int l _); simpa using this⟩
  | _ => cases e
/-! ### int, isinstance -/
def intF : D → Option OV
  | .int i => some (.fz (.int i))
  | .bl b => some (.fz (.int (if b then 1 else 0)))
  | _ => none
theorem p1_int : P1 t (fun x H Q => (fun xs H Q => (∃ i, xs = [V.int i] ∧ Q (.int i) H) ∨ ∃ k, xs = [V.bl k] ∧ Q (.int (if k then 1 else 0)) H) [x] H Q) intF := fun H L x dx o Q l bx e k => by
  have r := bx.rep
  cases r with
  | int i => cases e; exact .inl ⟨i, rfl, k _ _ (Same.refl H) (live_int l _)⟩
  | bl i => cases e; exact .inr ⟨i, rfl, k _ _ (Same.refl H) (live_int l _)⟩
  | _ => cases e
def tyN : D → Option String
  | .non => some "NoneType"
  | .bl _ => some "bool"
  | .int _ => some "int"
  | .str _ => some "str"
  | .tup _ => some "tuple"
  | .lst _ => some "list"
  | .dct _ _ _ => some "dict"
  | _ => none
def subTy (a n : String) : Bool := a == n || (a == "bool" && n == "int")
def tyNs : List String := ["NoneType", "bool", "int", "str", "tuple", "list", "dict"]
theorem subTy_all : (tyNs.all fun a => tyNs.all fun n => decide (kitB a n = some (subTy a n))) = true := by decide +kernel
def isiF (d e : D) : Option OV := match e with
  | .ty n => if n ∈ tyNs then (tyN d).map fun a => .fz (.bl (subTy a n)) else none
  | _ => none
theorem p2_isi : P2 t (fun x y H Q => rIsi K [x, y] H Q) isiF := fun H L x y dx dy o Q l bx b_y e k => by
  unfold isiF at e
  split at e
  · rename_i n
    split at e
    · rename_i hn
      obtain ⟨a, ea, rfl⟩ := Option.map_eq_some_iff.mp e
      have ry := b_y.rep
      cases ry
      have ha : a ∈ tyNs := by
        cases dx <;> simp [tyN] at ea <;> subst ea <;> simp [tyNs]
      have hk : kitB a n = some (subTy a n) := by
        have := subTy_all
        rw [List.all_eq_true] at this
        have := this a ha
        rw [List.all_eq_true] at this
        exact of_decide_eq_true (this n hn)
      have ty : TyX K H x (.type a) := by
        have r := bx.rep
        cases r with
        | non => cases ea; exact .base .non
        | bl _ => cases ea; exact .base (.bl _)
        | int _ => cases ea; exact .base (.int _)
        | str _ => cases ea; exact .base (.str _)
        | tup h _ => cases ea; exact .base (.tup h)
        | lst h _ => cases ea; exact .base (.lst h)
        | dk h _ _ => cases ea; exact .base (.dK h)
        | dt h _ _ => cases ea; exact .base (.dT h)
        | _ => cases ea
      exact ⟨x, .ty n, .type a, .type n, _, rfl, .ty n, ty, kit_ty hk, k _ _ (Same.refl H) (live_bl l _)⟩
    · cases e
  · cases e
/-! ### list, tuple -/
def listF : D → Option OV
  | .lst xs => some (.ol xs)
  | .tup xs => some (.ol xs)
  | _ => none
theorem p1_list : P1 t (fun x H Q => (fun xs H Q => ∃ p ys, xs = [V.ref p] ∧ (SqL K H p ys ∨ SqT K H p ys) ∧ ∀ l, H l = none → Q (.ref l) (upd H l (.lst ys))) [x] H Q) listF := fun H L x dx o Q l bx e k => by
  obtain ⟨G, O, lg⟩ := l
  cases dx with
  | lst xs =>
    cases e
    obtain ⟨a, vs, rfl, ha, ra⟩ := bx.cmp G O lg
    exact ⟨a, vs, rfl, .inl (SqL.of ha), fun p hp => k _ _ (same_new hp) (Live.lst ra.length ⟨G, O, lg.add ra⟩ hp)⟩
  | tup xs =>
    cases e
    obtain ⟨_, a, vs, rfl, ha, ra⟩ := bx.cmp G O lg
    exact ⟨a, vs, rfl, .inr (SqT.of ha), fun p hp => k _ _ (same_new hp) (Live.lst ra.length ⟨G, O, lg.add ra⟩ hp)⟩
  | _ => cases e
def tupF : D → Option OV
  | .lst xs => some (.fz (.tup xs))
  | .tup xs => some (.fz (.tup xs))
  | _ => none
theorem p1_tup : P1 t (fun x H Q => (fun xs H Q => ∃ p ys, xs = [V.ref p] ∧ ((SqL K H p ys ∧ ∀ l, H l = none → Q (.ref l) (upd H l (.tup ys))) ∨ (SqT K H p ys ∧ Q (.ref p) H))) [x] H Q) tupF := fun H L x dx o Q l bx e k => by
  obtain ⟨G, O, lg⟩ := l
  cases dx with
  | lst xs =>
    cases e
    obtain ⟨a, vs, rfl, ha, ra⟩ := bx.cmp G O lg
    exact ⟨a, vs, rfl, .inl ⟨SqL.of ha, fun p hp => k _ _ (same_new hp) (Live.tup ra.length ⟨G, O, lg.add ra⟩ hp)⟩⟩
  | tup xs =>
    cases e
    obtain ⟨fa, a, vs, rfl, ha, ra⟩ := bx.cmp G O lg
    exact ⟨a, vs, rfl, .inr ⟨SqT.of ha, k _ _ (Same.refl H) ⟨G, O, lg.add (vs := [.ref a]) (.cons fa .nil)⟩⟩⟩
  | _ => cases e
/-! ### lists of ints, of bools, of texts -/
def intsD : List D → Option (List Int)
  | [] => some []
  | .int i :: r => (intsD r).map fun l => i :: l
  | _ => none
def blsD : List D → Option (List Bool)
  | [] => some []
  | .bl i :: r => (blsD r).map fun l => i :: l
  | _ => none
def strsD : List D → Option (List Str)
  | [] => some []
  | .str i :: r => (strsD r).map fun l => i :: l
  | _ => none
theorem intsD_of {H : Hp} : ∀ {ds : List D} {vs : List V} {ns : List Int}, Reps t H vs ds → intsD ds = some ns → vs = ns.map V.int
  | [], _, ns, r, e => by cases r; simp [intsD] at e; subst e; rfl
  | d :: ds, _, ns, r, e => by
    cases r with
    | cons h r =>
      cases d with
      | int i =>
        obtain ⟨l, e1, rfl⟩ := Option.map_eq_some_iff.mp (show (intsD ds).map (fun l => i :: l) = some ns from e)
        rw [int_of h, intsD_of r e1]; rfl
      | _ => cases e
theorem blsD_of {H : Hp} : ∀ {ds : List D} {vs : List V} {ns : List Bool}, Reps t H vs ds → blsD ds = some ns → vs = ns.map V.bl
  | [], _, ns, r, e => by cases r; simp [blsD] at e; subst e; rfl
  | d :: ds, _, ns, r, e => by
    cases r with
    | cons h r =>
      cases d with
      | bl i =>
        obtain ⟨l, e1, rfl⟩ := Option.map_eq_some_iff.mp (show (blsD ds).map (fun l => i :: l) = some ns from e)
        rw [bl_of h, blsD_of r e1]; rfl
      | _ => cases e
theorem strsD_of {H : Hp} : ∀ {ds : List D} {vs : List V} {ns : List Str}, Reps t H vs ds → strsD ds = some ns → vs = ns.map V.str
  | [], _, ns, r, e => by cases r; simp [strsD] at e; subst e; rfl
  | d :: ds, _, ns, r, e => by
    cases r with
    | cons h r =>
      cases d with
      | str i =>
        obtain ⟨l, e1, rfl⟩ := Option.map_eq_some_iff.mp (show (strsD ds).map (fun l => i :: l) = some ns from e)
        rw [str_of h, strsD_of r e1]; rfl
      | _ => cases e
theorem reps_ints {G : Hp} : ∀ ns : List Int, Reps t G (ns.map V.int) (ns.map D.int)
  | [] => .nil
  | n :: r => .cons (.int n) (reps_ints r)
/-- sorted, of ints -/
def sortI (ns : List Int) : List Int := ns.mergeSort fun a b => decide (a ≤ b)
theorem sortI_perm (ns : List Int) : (sortI ns).Perm ns := List.mergeSort_perm _ _
theorem sortI_rise (ns : List Int) : (sortI ns).Pairwise (· ≤ ·) := by
  have h := List.pairwise_mergeSort (le := fun a b : Int => decide (a ≤ b)) (fun a b c h1 h2 => by simp at *; omega) (fun a b => by simp; omega) ns
  exact h.imp fun h => of_decide_eq_true h
def sortedF : D → Option OV
  | .lst xs => (intsD xs).map fun ns => .ol ((sortI ns).map .int)
  | _ => none
theorem p1_sorted : P1 t (fun x H Q => rSortedI K [x] H Q) sortedF := fun H L x dx o Q l bx e k => by
  cases dx with
  | lst xs =>
    obtain ⟨ns, en, rfl⟩ := Option.map_eq_some_iff.mp (show (intsD xs).map (fun ns => OV.ol ((sortI ns).map .int)) = some o from e)
    obtain ⟨G, O, lg⟩ := l
    obtain ⟨a, vs, rfl, ha, ra⟩ := bx.cmp G O lg
    cases intsD_of ra en
    refine ⟨a, ns, rfl, SqL.of ha, fun ns' p hp hs hn => ?_⟩
    have : ns' = sortI ns := PySem.W.ksm_same (hp.trans (sortI_perm ns).symm) hs (sortI_rise ns)
    subst this
    have r : Reps t G ((sortI ns).map V.int) ((sortI ns).map D.int) := reps_ints _
    exact k _ _ (same_new hn) (Live.lst r.length ⟨G, O, lg.add r⟩ hn)
  | _ => cases e
def allF : D → Option OV
  | .lst xs => (blsD xs).map fun bs => .fz (.bl (bs.all id))
  | _ => none
theorem p1_all : P1 t (fun x H Q => rAll K [x] H Q) allF := fun H L x dx o Q l bx e k => by
  cases dx with
  | lst xs =>
    obtain ⟨ns, en, rfl⟩ := Option.map_eq_some_iff.mp (show (blsD xs).map (fun bs => OV.fz (.bl (bs.all id))) = some o from e)
    have r := bx.rep
    cases r with
    | lst h r =>
      cases blsD_of r en
      exact ⟨_, ns, rfl, SqL.of h, k _ _ (Same.refl H) (live_bl l _)⟩
  | _ => cases e
def sumF : D → Option OV
  | .lst xs => (intsD xs).map fun bs => .fz (.int bs.sum)
  | _ => none
theorem p1_sum : P1 t (fun x H Q => rSum K [x] H Q) sumF := fun H L x dx o Q l bx e k => by
  cases dx with
  | lst xs =>
    obtain ⟨ns, en, rfl⟩ := Option.map_eq_some_iff.mp (show (intsD xs).map (fun bs => OV.fz (.int bs.sum)) = some o from e)
    have r := bx.rep
    cases r with
    | lst h r =>
      cases intsD_of r en
      exact ⟨_, ns, rfl, SqL.of h, k _ _ (Same.refl H) (live_int l _)⟩
  | _ => cases e
def joinF : D → D → Option OV
  | .str a, .lst xs => (strsD xs).bind fun ys => if (ys.map (·.length)).sum + ys.length * a.length ≤ 16777216 then some (.fz (.str (Txt.join a ys))) else none
  | _, _ => none
def rJoin (K : PySem.W.Frag) : V → List V → Hp → VK → Prop := fun x xs H Q => ∃ a p, ∃ ys : List Str, x = .str a ∧ xs = [.ref p] ∧ (SqL K H p (ys.map V.str) ∨ SqT K H p (ys.map V.str)) ∧ (ys.map (·.length)).sum + ys.length * a.length ≤ 16777216 ∧ Q (.str (Txt.join a ys)) H
theorem p2_join : P2 t (fun x y H Q => rJoin K x [y] H Q) joinF := fun H L x y dx dy o Q l bx b_y e k => by
  unfold joinF at e
  split at e
  · obtain ⟨ys, ey, e2⟩ := Option.bind_eq_some_iff.mp e
    split at e2
    · rename_i hz
      cases e2
      have r := b_y.rep
      cases r with
      | lst h r =>
        cases strsD_of r ey
        exact ⟨_, _, ys, str_of bx.rep, rfl, .inl (SqL.of h), hz, k _ _ (Same.refl H) (live_str l _)⟩
    · cases e2
  · cases e
end
section
variable {X : Cx} {κ : Kx} {pu p q r fl fl' fl2 : Bool} {e a b c : Expr} {pos ps apos : Pos} {es rest : List Expr}
/-- a text's method with one argument -/
def pkS (od : Opd) : M Str := fun ρ => match peek ρ od with
  | some (.str z) => some (.ok z, ρ)
  | _ => none
def m1M (f : D → D → Option OV) (ma mb : M Opd) : M OV := bnd ma fun x => bnd (pkS x) fun z => bnd mb fun y => bnd (pk y) fun dy => ofO (f (.str z) dy)
theorem wp_pkS {od : Opd} {ρ : Env} {Q : Str → Env → Prop} {E : Ex → Env → Prop} (h : wp (pkS od) ρ Q E) : ∃ d, peek ρ od = some (.str d) ∧ Q d ρ := by
  unfold wp pkS at h
  split at h
  · exact h.elim
  · rename_i e
    split at e
    · cases e; rename_i e; exact ⟨_, e, h⟩
    · cases e
  · rename_i e
    split at e <;> cases e
theorem se_m1 {id : String} {name : Str} {f : D → D → Option OV} {r1 : V → List V → Hp → VK → Prop} {ma mb : M Opd} (slot : Slot "str" name id) (ty : typeOf (.builtin id) = pure (.type "method_descriptor")) (rule : MtR X id r1) (P : P2 κ.T (fun x y H Q => r1 x [y] H Q) f)
    (ha : SO X κ p fl a ma) (hb : SO X κ q fl' b mb) (hs : starEach [b] X.env = [(false, eval b X.env)] := by rfl) (hbase : attributeBase a name X.env (eval a X.env) = eval a X.env := by rfl) (hline : (apos.endLine == pos.line) = true := by rfl) :
    SE X κ (p && q) (.Call (.Attribute a name apos) [b] [] pos) (m1M f ma mb) := by
  refine ⟨(pe_m1 (pos := pos) slot ty rule ha.pe hb.pe hs hbase hline).imp fun σ H Q ⟨ρ, fr, w, l, hp⟩ => ?_⟩
  unfold m1M at hp
  rw [wp_bnd] at hp
  refine ⟨ρ, fr, w, l, wp_mono hp fun x ρ1 hp v1 H1 w1 s1 f1 l1 od1 => ?_⟩
  rw [wp_bnd] at hp
  obtain ⟨z, e1, hp⟩ := wp_pkS hp
  rw [wp_bnd] at hp
  have bx := bor_od l1 w1 (fun z hz => List.mem_cons_of_mem _ (List.mem_append_left _ hz)) List.mem_cons_self od1 e1
  cases str_of bx.rep
  refine ⟨⟨z, rfl⟩, ρ1, fr, w1, l1.tail, wp_mono hp fun y ρ2 hp v2 H2 w2 s2 f2 l2 od2 => ?_⟩
  rw [wp_bnd] at hp
  obtain ⟨dy, e2, hp⟩ := wp_pk hp
  obtain ⟨o, e3, hp⟩ := wp_ofO hp
  have b_y := bor_od l2 w2 (fun z hz => List.mem_cons_of_mem _ (List.mem_append_left _ hz)) List.mem_cons_self od2 e2
  refine P H2 _ (.str z) v2 (.str z) dy o Q l2 ⟨.str z, fun _ _ _ => trivial⟩ b_y e3 fun v H' s3 l3 => hp v H' w2 (fun hpq => ?_) (live_mid (a := [(v, o)]) l3)
  rw [Bool.and_eq_true] at hpq
  exact (s1 hpq.1).trans ((s2 hpq.2).trans s3)
/-- list(range(..)) -/
def rngO (lo hi : Int) : Option OV := if -(2 ^ 62) ≤ lo ∧ lo < 2 ^ 62 ∧ -(2 ^ 62) ≤ hi ∧ hi < 2 ^ 62 ∧ (hi - lo).toNat ≤ 100000 then some (.ol ((List.range (hi - lo).toNat).map fun i => .int (lo + (i : Nat)))) else none
def lrgM (m : M OV) : M OV := bnd m fun o => match o with
  | .fz (.int n) => ofO (rngO 0 n)
  | _ => bad
theorem reps_rg {t : CT} {G : Hp} (a b : Int) : Reps t G (rgV a b) ((List.range (b - a).toNat).map fun i => .int (a + (i : Nat))) := by
  refine Reps.ofGet (by rw [rgV_length, List.length_map, List.length_range]) fun i v d e1 e2 => ?_
  unfold rgV at e1
  rw [List.getElem?_map] at e1 e2
  obtain ⟨j, h1, rfl⟩ := Option.map_eq_some_iff.mp e1
  obtain ⟨j', h2, rfl⟩ := Option.map_eq_some_iff.mp e2
  rw [h1] at h2
  cases h2
  exact .int _
theorem se_lrg {m : M OV} {p1 : Pos} (hc : X.calm = true) (hg : Gl X "list") (hm : X.mg "list" = none) (hg2 : Gl X "range") (hm2 : X.mg "range" = none) (h : SE X κ p a m) (na : starEach [a] X.env = (false, eval a X.env) :: starEach [] X.env := by rfl)
    (nb : starEach [Expr.Call (.Name "range" ps) [a] [] apos] X.env = (false, eval (Expr.Call (.Name "range" ps) [a] [] apos) X.env) :: starEach [] X.env := by rfl) : SE X κ p (.Call (.Name "list" p1) [.Call (.Name "range" ps) [a] [] apos] [] pos) (lrgM m) := by
  refine ⟨(pe_listRg hc hg hm (prg_1 hg2 hm2 h.pe na) nb).imp fun σ H Q ⟨ρ, fr, w, l, hp⟩ => ?_⟩
  unfold lrgM at hp
  rw [wp_bnd] at hp
  refine ⟨ρ, fr, w, l, wp_mono hp fun o ρ1 hp v1 H1 w1 s1 l1 => ?_⟩
  split at hp
  · rename_i n
    obtain ⟨o, e, hp⟩ := wp_ofO hp
    unfold rngO at e
    split at e
    · rename_i hr
      cases e
      obtain ⟨a1, a2, a3, a4, a5⟩ := hr
      refine ⟨n, int_of (bor_mem l1 List.mem_cons_self).rep, ⟨a1, a2, a3, a4, Nat.le_trans a5 (by decide)⟩, fun q hq => ?_⟩
      refine hp _ _ w1 (fun hpq => (s1 hpq).trans (same_new hq)) ?_
      obtain ⟨G, O, lg⟩ := l1.tail
      have r : Reps κ.T G (rgV 0 n) _ := reps_rg 0 n
      exact Live.lst r.length ⟨G, O, lg.add r⟩ hq
    · cases e
  · exact hp.elim
/-! ### displays -/
def froz (o : OV) : Option D := if o.isNo then none else some o.dat
def tupM (ms : M (List D)) : M OV := bnd ms fun ds => if ds.length ≤ 100000 then ret (.fz (.tup ds)) else bad
def lstM (ms : M (List D)) : M OV := bnd ms fun ds => if ds.length ≤ 100000 then ret (.ol ds) else bad
/-- the items of a display, all frozen -/
def TD (κ : Kx) (pu : Bool) (m : M (List D)) : TA := fun σ H Q => ∃ ρ fr, WS σ ρ ∧ Live κ.T H (prs σ ρ ++ fr) ∧
  wp m ρ (fun ds ρ' => ∀ vs H', WS σ ρ' → (pu = true → Same H H') → vs.length = ds.length → Live κ.T H' (zipF vs ds ++ (prs σ ρ' ++ fr)) → Q vs H') fun x ρ' => κ.xw x σ ρ' fr
structure SD (X : Cx) (κ : Kx) (pu : Bool) (es : List Expr) (m : M (List D)) : Prop where
  pa : PA X es (TD κ pu m)
theorem sd_nil : SD X κ true [] (ret []) := ⟨pa_nil.imp fun σ H Q ⟨ρ, fr, w, l, hp⟩ => hp [] H w (fun _ => Same.refl H) rfl l⟩
def consD (m : M OV) (ms : M (List D)) : M (List D) := bnd m fun x => bnd (ofO (froz x)) fun d => bnd ms fun ds => ret (d :: ds)
theorem sd_cons {m : M OV} {ms : M (List D)} (ha : SE X κ p e m) (hr : SD X κ q es ms) (hs : starEach (e :: es) X.env = (false, eval e X.env) :: starEach es X.env := by rfl) : SD X κ (p && q) (e :: es) (consD m ms) := ⟨(pa_cons ha.pe hr.pa hs).imp fun σ H Q ⟨ρ, fr, w, l, hp⟩ => by
  unfold consD at hp
  rw [wp_bnd] at hp
  refine ⟨ρ, fr, w, l, wp_mono hp fun x ρ1 hp v1 H1 w1 s1 l1 => ?_⟩
  rw [wp_bnd] at hp
  obtain ⟨d, e, hp⟩ := wp_ofO hp
  rw [wp_bnd] at hp
  have hd : d = x.dat := by
    unfold froz at e
    split at e
    · cases e
    · cases e; rfl
  subst hd
  have l2 := l1.frz
  have l1' := l2.perm (List.perm_middle (l₁ := prs σ ρ1) (l₂ := fr) (a := (v1, OV.fz x.dat))).symm
  refine ⟨ρ1, _, w1, l1', wp_mono2 hp (fun ds ρ2 hp vs H2 w2 s2 hl l2 => ?_) fun _ _ h => κ.xm _ _ _ _ _ h⟩
  refine hp (v1 :: vs) H2 w2 (fun hpq => ?_) (by simp [hl]) ?_
  · rw [Bool.and_eq_true] at hpq
    exact (s1 hpq.1).trans (s2 hpq.2)
  · refine l2.perm ?_
    rw [zipF_cons]
    show (zipF vs ds ++ (prs σ ρ2 ++ (v1, OV.fz x.dat) :: fr)).Perm ((v1, OV.fz x.dat) :: (zipF vs ds ++ (prs σ ρ2 ++ fr)))
    rw [← List.append_assoc, ← List.append_assoc]
    exact List.perm_middle⟩
/-- *e, e a list or a tuple -/
def starD (m : M Opd) (ms : M (List D)) : M (List D) := bnd m fun x => bnd (pk x) fun dx => bnd (ofO (seqD dx)) fun ds => bnd ms fun es => ret (ds ++ es)
theorem bor_seq {t : CT} {K : PySem.W.Frag} {H : Hp} {L : List (V × OV)} {v : V} {d : D} {ds : List D} (l : Live t H L) (b : Bor t H L v d) (e : seqD d = some ds) : ∃ a vs, v = .ref a ∧ (SqT K H a vs ∨ SqL K H a vs) ∧ vs.length = ds.length ∧ Live t H (zipF vs ds ++ L) := by
  obtain ⟨G, O, lg⟩ := l
  cases d with
  | lst xs => cases e; obtain ⟨a, vs, rfl, ha, ra⟩ := b.cmp G O lg; exact ⟨a, vs, rfl, .inr (SqL.of ha), ra.length, G, O, lg.add ra⟩
  | tup xs => cases e; obtain ⟨_, a, vs, rfl, ha, ra⟩ := b.cmp G O lg; exact ⟨a, vs, rfl, .inl (SqT.of ha), ra.length, G, O, lg.add ra⟩
  | _ => cases e
theorem zipF_app {vs ws : List V} {ds es : List D} (h : vs.length = ds.length) : zipF (vs ++ ws) (ds ++ es) = zipF vs ds ++ zipF ws es := by
  unfold zipF
  rw [List.zip_append h, List.map_append]
theorem sd_star {m : M Opd} {ms : M (List D)} {sp : Pos} (ha : SO X κ p fl e m) (hr : SD X κ q es ms) : SD X κ (p && q) (.Starred e sp :: es) (starD m ms) := ⟨(StX.pa_star ha.pe hr.pa).imp fun σ H Q ⟨ρ, fr, w, l, hp⟩ => by
  unfold starD at hp
  rw [wp_bnd] at hp
  refine ⟨ρ, fr, w, l, wp_mono hp fun x ρ1 hp v1 H1 w1 s1 f1 l1 od1 => ?_⟩
  rw [wp_bnd] at hp
  obtain ⟨d, e, hp⟩ := wp_pk hp
  rw [wp_bnd] at hp
  obtain ⟨ds, e2, hp⟩ := wp_ofO hp
  rw [wp_bnd] at hp
  have bx := bor_od l1 w1 (fun z hz => List.mem_cons_of_mem _ (List.mem_append_left _ hz)) List.mem_cons_self od1 e
  obtain ⟨a, vs, rfl, hq, hl, l2⟩ := bor_seq (K := X.K) l1 bx e2
  have l3 : Live κ.T H1 (zipF vs ds ++ (prs σ ρ1 ++ fr)) := live_mid l2
  refine ⟨a, vs, rfl, hq, ρ1, zipF vs ds ++ fr, w1, l3.perm ?_, wp_mono2 hp (fun es' ρ2 hp ws H2 w2 s2 hl2 l4 => ?_) fun _ _ h => xm_list κ h _⟩
  · rw [← List.append_assoc, ← List.append_assoc]
    exact List.perm_append_comm.append_right _
  · refine hp (vs ++ ws) H2 w2 (fun hpq => ?_) (by simp [hl, hl2]) ?_
    · rw [Bool.and_eq_true] at hpq
      exact (s1 hpq.1).trans (s2 hpq.2)
    · refine l4.perm ?_
      rw [zipF_app hl]
      have h1 : (zipF ws es' ++ (prs σ ρ2 ++ (zipF vs ds ++ fr))).Perm (zipF vs ds ++ (zipF ws es' ++ (prs σ ρ2 ++ fr))) := by
        have : (zipF ws es' ++ (prs σ ρ2 ++ (zipF vs ds ++ fr))) = (zipF ws es' ++ prs σ ρ2) ++ (zipF vs ds ++ fr) := by simp
        rw [this]
        have : zipF vs ds ++ (zipF ws es' ++ (prs σ ρ2 ++ fr)) = zipF vs ds ++ ((zipF ws es' ++ prs σ ρ2) ++ fr) := by simp
        rw [this, ← List.append_assoc, ← List.append_assoc (zipF vs ds)]
        exact List.perm_append_comm.append_right _
      rw [List.append_assoc]
      exact h1⟩
theorem se_tup {ms : M (List D)} {x1 : Nat} (h : SD X κ p es ms) : SE X κ p (.Tuple es x1 pos) (tupM ms) := ⟨(pe_tup h.pa).imp fun σ H Q ⟨ρ, fr, w, l, hp⟩ => by
  unfold tupM at hp
  rw [wp_bnd] at hp
  refine ⟨ρ, fr, w, l, wp_mono hp fun ds ρ1 hp vs H1 w1 s1 hl l1 => ?_⟩
  split at hp
  · rename_i hz
    exact ⟨big (by rw [hl]; exact hz), fun q hq => hp _ _ w1 (fun h => (s1 h).trans (same_new hq)) (Live.tup hl l1 hq)⟩
  · exact hp.elim⟩
theorem se_lst {ms : M (List D)} (h : SD X κ p es ms) : SE X κ p (.List es pos) (lstM ms) := ⟨(pe_lst h.pa).imp fun σ H Q ⟨ρ, fr, w, l, hp⟩ => by
  unfold lstM at hp
  rw [wp_bnd] at hp
  refine ⟨ρ, fr, w, l, wp_mono hp fun ds ρ1 hp vs H1 w1 s1 hl l1 => ?_⟩
  split at hp
  · rename_i hz
    exact ⟨big (by rw [hl]; exact hz), fun q hq => hp _ _ w1 (fun h => (s1 h).trans (same_new hq)) (Live.lst hl l1 hq)⟩
  · exact hp.elim⟩
theorem se_dnewK : SE X κ true (.Dict [] [] pos) (ret (.od false [] [])) := ⟨pe_dnewK.imp fun σ H Q ⟨ρ, fr, w, l, hp⟩ => fun q hq => hp _ _ w (fun _ => same_new hq) (Live.dK (kvs := []) (es := []) rfl .nil l hq)⟩
theorem se_dnewT : SE X κ true (.Dict [] [] pos) (ret (.od true [] [])) := ⟨pe_dnewT.imp fun σ H Q ⟨ρ, fr, w, l, hp⟩ => fun q hq => hp _ _ w (fun _ => same_new hq) (Live.dT l hq)⟩
end
end Kv
/-! Attributes; calls of defs, methods, classes. -/
namespace Kv
open PySem L2

section
variable {t : CT} {G G' H H' : Hp}
/-- one of several owned values -/
theorem ownL_focus {vs : List V} {os : List OV} {O : List (Addr × HO)} (h : OwnL t G vs os O) {j : Nat} {v : V} {o : OV} (e1 : vs[j]? = some v) (e2 : os[j]? = some o) :
    ∃ O1 O3, O.Perm (O1 ++ O3) ∧ OwnR t G v o O1 ∧ ∀ G' v' o' O', Same G G' → OwnR t G' v' o' O' → ∃ O'', O''.Perm (O' ++ O3) ∧ OwnL t G' (vs.set j v') (os.set j o') O'' := by
  induction vs generalizing os O j with
  | nil => simp at e1
  | cons w vs ih =>
    cases h with
    | @cons _ _ p os Oa Ob a b =>
      cases j with
      | zero =>
        simp at e1 e2
        subst e1 e2
        exact ⟨Oa, Ob, .refl _, a, fun G' v' o' O' s r => ⟨O' ++ Ob, .refl _, .cons r (b.mono s)⟩⟩
      | succ j =>
        obtain ⟨O1, O3, p1, q, k⟩ := ih b (by simpa using e1) (by simpa using e2)
        refine ⟨O1, Oa ++ O3, ?_, q, fun G' v' o' O' s r => ?_⟩
        · refine (p1.append_left Oa).trans ?_
          rw [← List.append_assoc, ← List.append_assoc]
          exact List.perm_append_comm.append_right _
        · obtain ⟨O'', p2, r2⟩ := k G' v' o' O' s r
          refine ⟨Oa ++ O'', ?_, .cons (a.mono s) r2⟩
          refine (p2.append_left Oa).trans ?_
          rw [← List.append_assoc, ← List.append_assoc]
          exact List.perm_append_comm.append_right _
theorem liveG_perm {L : List (V × OV)} {O O' : List (Addr × HO)} (s : Same G H) (o : OwnL t G (L.map (·.1)) (L.map (·.2)) O') (p : O'.Perm O) (a : ∀ x ∈ O, H x.1 = some x.2) (u : ∀ x ∈ O, G x.1 = none) (n : (O.map (·.1)).Nodup) : LiveG t G H L O' :=
  ⟨s, o, fun x hx => a x (p.mem_iff.mp hx), fun x hx => u x (p.mem_iff.mp hx), (p.map _).nodup_iff.mpr n⟩
theorem presO_set {fs : List OV} {f j : Nat} {o : OV} (h : presO (fs.set f o) j = true) : (j = f ∧ o.isNo = false) ∨ (j ≠ f ∧ presO fs j = true) := by
  unfold presO at h ⊢
  by_cases e : f = j
  · subst e
    left
    by_cases hl : f < fs.length
    · rw [List.getElem?_set_self hl] at h
      exact ⟨rfl, by simpa using h⟩
    · rw [List.getElem?_eq_none (by simpa using hl)] at h
      cases h
  · rw [List.getElem?_set_ne e] at h
    exact .inr ⟨fun q => e q.symm, h⟩
/-- an owned instance's attribute is frozen -/
theorem Live.frzF {v : V} {c f : Nat} {fs : List OV} {o : OV} {L : List (V × OV)} (l : Live t H ((v, .oi c fs) :: L)) (ho : fs[f]? = some o) (hn : o.isNo = false) :
    ∃ a dx fvs n y, v = .ref a ∧ H a = some (.ins (t.ca c) dx fvs) ∧ (t.fn c)[f]? = some n ∧ fvs.lookup n = some y ∧ Live t H ((y, .fz o.dat) :: (v, .oi c (fs.set f (.fz o.dat))) :: L) := by
  classical
  obtain ⟨G, O, s, ow, a, u, n⟩ := l
  cases ow with
  | @cons _ _ _ _ Oa Ob h tl =>
    cases h with
    | @oi ad dx _ fvs fl _ O2 g1 g2 =>
      have hf : f < fl.length := by rw [g2.length]; exact (List.getElem?_eq_some_iff.mp ho).1
      obtain ⟨y, hy⟩ : ∃ y, fl[f]? = some y := ⟨fl[f], List.getElem?_eq_getElem hf⟩
      have hfn : f < (t.fn c).length := by rw [← g1.len]; exact hf
      obtain ⟨nm, hnm⟩ : ∃ y, (t.fn c)[f]? = some y := ⟨(t.fn c)[f], List.getElem?_eq_getElem hfn⟩
      have hp : presO fs f = true := by unfold presO; rw [ho]; simp [hn]
      obtain ⟨O1, O3, p1, q1, k⟩ := ownL_focus g2 hy ho
      have aAll : ∀ x ∈ O1, H x.1 = some x.2 := fun x hx => a x (List.mem_append_left _ (List.mem_cons_of_mem _ (List.mem_cons_of_mem _ (p1.mem_iff.mpr (List.mem_append_left _ hx)))))
      let G' : Hp := fun b => if b ∈ O1.map (·.1) then H b else G b
      have sG : Same G G' := fun b x e => by
        show (if b ∈ O1.map (·.1) then H b else G b) = some x
        split
        · exact s b x e
        · exact e
      have sH : Same G' H := fun b x e => by
        have e : (if b ∈ O1.map (·.1) then H b else G b) = some x := e
        split at e
        · exact e
        · exact s b x e
      have r1 : Rep t G' y o.dat := q1.rep sG fun p hp => by
        show (if p.1 ∈ O1.map (·.1) then H p.1 else G p.1) = some p.2
        rw [if_pos (List.mem_map.mpr ⟨p, hp, rfl⟩)]
        exact aAll p hp
      obtain ⟨O'', p2, r2⟩ := k G' y (.fz o.dat) [] sG (.fz r1)
      rw [List.nil_append] at p2
      have key : fl.set f y = fl := by
        apply List.ext_getElem?
        intro j
        by_cases e : f = j
        · subst e; rw [List.getElem?_set_self hf, hy]
        · rw [List.getElem?_set_ne e]
      rw [key] at r2
      have P : ((ad, HO.ins (t.ca c) dx fvs) :: (dx, HO.own ad) :: O2 ++ Ob).Perm (O1 ++ ((ad, HO.ins (t.ca c) dx fvs) :: (dx, HO.own ad) :: O3 ++ Ob)) := by
        have : ((ad, HO.ins (t.ca c) dx fvs) :: (dx, HO.own ad) :: O2).Perm (O1 ++ ((ad, HO.ins (t.ca c) dx fvs) :: (dx, HO.own ad) :: O3)) :=
          (((p1.cons _).cons _).trans ((List.perm_middle.symm.cons _).trans List.perm_middle.symm))
        rw [← List.append_assoc]
        exact this.append_right Ob
      have nd := (P.map (·.1)).nodup_iff.mp n
      rw [List.map_append] at nd
      obtain ⟨_, n2, n3⟩ := nodup_app nd
      refine ⟨ad, dx, fvs, nm, y, rfl, a _ (List.mem_append_left _ List.mem_cons_self), hnm, g1.has f nm y hnm hy hp, G', [] ++ (((ad, HO.ins (t.ca c) dx fvs) :: (dx, HO.own ad) :: O'') ++ Ob), ?_⟩
      refine liveG_perm (O := (ad, HO.ins (t.ca c) dx fvs) :: (dx, HO.own ad) :: O3 ++ Ob) sH (OwnL.cons (O := []) (.fz r1) (.cons (.oi (g1.weak fun j hj => ?_) r2) (tl.mono sG))) ?_ (fun x hx => a x (P.mem_iff.mpr (List.mem_append_right _ hx))) (fun x hx => ?_) n2
      · rcases presO_set hj with ⟨rfl, _⟩ | ⟨_, h⟩
        · exact hp
        · exact h
      · rw [List.nil_append]
        exact ((p2.cons _).cons _).append_right Ob
      · show (if x.1 ∈ O1.map (·.1) then H x.1 else G x.1) = none
        rw [if_neg fun z => n3 _ z (List.mem_map.mpr ⟨x, hx, rfl⟩)]
        exact u x (P.mem_iff.mpr (List.mem_append_right _ hx))
/-- a frozen instance's attribute -/
theorem Live.fldF {v : V} {c f : Nat} {fs : List D} {d : D} {L : List (V × OV)} (l : Live t H ((v, .fz (.ins c fs)) :: L)) (ho : fs[f]? = some d) (hn : isNo d = false) :
    ∃ a dx fvs n y, v = .ref a ∧ H a = some (.ins (t.ca c) dx fvs) ∧ (t.fn c)[f]? = some n ∧ fvs.lookup n = some y ∧ Live t H ((y, .fz d) :: (v, .fz (.ins c fs)) :: L) := by
  obtain ⟨G, O, lg⟩ := l
  obtain ⟨r, _⟩ := LiveG.sub (vs := [v]) (ds := [.ins c fs]) rfl lg
  cases r with
  | cons r _ => cases r with
    | @ins a dx _ fvs fl _ h1 h2 g1 g2 =>
      obtain ⟨y, hy, ry⟩ := g2.get ho
      have hf : f < fl.length := (List.getElem?_eq_some_iff.mp hy).1
      have hfn : f < (t.fn c).length := by rw [← g1.len]; exact hf
      have hnm : (t.fn c)[f]? = some (t.fn c)[f] := List.getElem?_eq_getElem hfn
      have hp : presD fs f = true := by unfold presD; rw [ho]; simp [hn]
      exact ⟨a, dx, fvs, _, y, rfl, lg.same _ _ h1, hnm, g1.has f _ y hnm hy hp, G, O, lg.add (vs := [y]) (ds := [d]) (.cons ry .nil)⟩
/-! ### an attribute stored -/
theorem lookup_none_of {n : Str} : ∀ {fvs : List (Str × V)}, (∀ p ∈ fvs, p.1 ≠ n) → fvs.lookup n = none
  | [], _ => rfl
  | p :: r, h => by
    have h1 : (n == p.1) = false := beq_eq_false_iff_ne.mpr fun e => h p List.mem_cons_self e.symm
    rw [List.lookup_cons, h1]
    exact lookup_none_of fun q hq => h q (List.mem_cons_of_mem _ hq)
theorem putF_keys {n : Str} {y : V} : ∀ {fvs : List (Str × V)}, (fvs.map (·.1)).Nodup → ((putF n y fvs).map (·.1)).Nodup ∧ ∀ p ∈ putF n y fvs, p.1 = n ∨ p ∈ fvs := by
  intro fvs
  induction fvs with
  | nil =>
    intro _
    refine ⟨by simp [putF], fun p hp => ?_⟩
    simp [putF] at hp
    exact .inl (by rw [hp])
  | cons q r ih =>
    intro h
    rw [List.map_cons, List.nodup_cons] at h
    obtain ⟨i1, i2⟩ := ih h.2
    by_cases e : q.1 = n
    · have : putF n y (q :: r) = (n, y) :: r := by
        unfold putF
        rw [if_pos e, e]
      rw [this]
      refine ⟨?_, fun p hp => ?_⟩
      · rw [List.map_cons, List.nodup_cons, ← e]; exact h
      · rcases List.mem_cons.mp hp with rfl | hp
        · exact .inl rfl
        · exact .inr (List.mem_cons_of_mem _ hp)
    · have : putF n y (q :: r) = q :: putF n y r := by
        conv => lhs; unfold putF
        rw [if_neg e]
      rw [this]
      refine ⟨?_, fun p hp => ?_⟩
      · rw [List.map_cons, List.nodup_cons]
        refine ⟨fun z => ?_, i1⟩
        obtain ⟨p, hp, ep⟩ := List.mem_map.mp z
        rcases i2 p hp with k | k
        · exact e (ep ▸ k)
        · exact h.1 (List.mem_map.mpr ⟨p, k, ep⟩)
      · rcases List.mem_cons.mp hp with rfl | hp
        · exact .inr List.mem_cons_self
        · rcases i2 p hp with k | k
          · exact .inl k
          · exact .inr (List.mem_cons_of_mem _ k)
theorem nodup_sub_len {α : Type} [DecidableEq α] : ∀ {l m : List α}, l.Nodup → (∀ x ∈ l, x ∈ m) → l.length ≤ m.length
  | [], _, _, _ => Nat.zero_le _
  | a :: r, m, n, h => by
    rw [List.nodup_cons] at n
    have hm : a ∈ m := h a List.mem_cons_self
    have := nodup_sub_len (l := r) (m := m.erase a) n.2 fun x hx => (List.mem_erase_of_ne fun e => n.1 (by rw [← e]; exact hx)).mpr (h x (List.mem_cons_of_mem _ hx))
    rw [List.length_erase_of_mem hm] at this
    have : 0 < m.length := List.length_pos_of_mem hm
    simp only [List.length_cons]
    omega
theorem Flds.len_le {names : List Str} {fl : List V} {pres : Nat → Bool} {fvs : List (Str × V)} (f : Flds names fl pres fvs) : fvs.length ≤ names.length := by
  have := nodup_sub_len f.nd (m := names) fun x hx => by
    obtain ⟨p, hp, e⟩ := List.mem_map.mp hx
    rw [← e]
    exact f.out p hp
  simpa using this
theorem Live.fldSet {a : Addr} {c f : Nat} {fs : List OV} {y : V} {o : OV} {nm : Str} {L : List (V × OV)} (l : Live t H ((y, o) :: (.ref a, .oi c fs) :: L)) (hnm : (t.fn c)[f]? = some nm) (hnd : (t.fn c).Nodup) :
    ∃ dx fvs, H a = some (.ins (t.ca c) dx fvs) ∧ fvs.length ≤ (t.fn c).length ∧ Live t (upd H a (.ins (t.ca c) dx (putF nm y fvs))) ((.ref a, .oi c (fs.set f o)) :: L) := by
  obtain ⟨G, O, s, ow, at_, u, n⟩ := l
  generalize e1 : ((y, o) :: (V.ref a, OV.oi c fs) :: L).map (·.1) = A at ow
  generalize e2 : ((y, o) :: (V.ref a, OV.oi c fs) :: L).map (·.2) = B at ow
  cases ow with
  | nil => simp at e1
  | @cons v1 vs1 o1 os1 Oy Or hy tl =>
    simp only [List.map_cons, List.cons.injEq] at e1 e2
    obtain ⟨rfl, e1⟩ := e1
    obtain ⟨rfl, e2⟩ := e2
    generalize e3 : (V.ref a :: L.map (·.1)) = A2 at e1
    generalize e4 : (OV.oi c fs :: L.map (·.2)) = B2 at e2
    subst e1 e2
    cases tl with
    | nil => cases e3
    | @cons v2 vs2 o2 os2 Oi Ob hi tl =>
      simp only [List.cons.injEq] at e3 e4
      obtain ⟨rfl, rfl⟩ := e3
      obtain ⟨rfl, rfl⟩ := e4
      cases hi with
      | @oi _ dx _ fvs fl _ O2 g1 g2 =>
        have hfn : f < (t.fn c).length := (List.getElem?_eq_some_iff.mp hnm).1
        have hf : f < fl.length := by rw [g1.len]; exact hfn
        have hf2 : f < fs.length := by rw [← g2.length]; exact hf
        obtain ⟨O1, O3, p1, q1, k⟩ := ownL_focus g2 (List.getElem?_eq_getElem hf) (List.getElem?_eq_getElem hf2)
        obtain ⟨O'', p2, r2⟩ := k G y o Oy (Same.refl G) hy
        refine ⟨dx, fvs, at_ _ (List.mem_append_right _ (List.mem_append_left _ List.mem_cons_self)), g1.len_le, G, ?_⟩
        -- the old list of what is owned, rearranged
        have P : (Oy ++ (((a, HO.ins (t.ca c) dx fvs) :: (dx, HO.own a) :: O2) ++ Ob)).Perm ((a, HO.ins (t.ca c) dx fvs) :: (dx, HO.own a) :: (O1 ++ ((Oy ++ O3) ++ Ob))) := by
          refine List.perm_middle.trans (.cons _ (List.perm_middle.trans (.cons _ ?_)))
          refine ((p1.append_right Ob).append_left Oy).trans ?_
          rw [List.append_assoc O1, ← List.append_assoc Oy, List.append_assoc Oy O3 Ob, ← List.append_assoc O1]
          exact List.perm_append_comm.append_right _
        have nd := (P.map (·.1)).nodup_iff.mp n
        have out' : ∀ x ∈ (a, HO.ins (t.ca c) dx fvs) :: (dx, HO.own a) :: (O1 ++ ((Oy ++ O3) ++ Ob)), G x.1 = none := fun x hx => u x (P.mem_iff.mpr hx)
        have at' : ∀ x ∈ (a, HO.ins (t.ca c) dx fvs) :: (dx, HO.own a) :: (O1 ++ ((Oy ++ O3) ++ Ob)), H x.1 = some x.2 := fun x hx => at_ x (P.mem_iff.mpr hx)
        rw [List.map_cons, List.nodup_cons, List.map_cons, List.nodup_cons, List.map_append] at nd
        obtain ⟨na, ndx, nd⟩ := nd
        obtain ⟨_, nd2, _⟩ := nodup_app nd
        rw [List.mem_cons, not_or] at na
        have neA : ∀ x ∈ (dx, HO.own a) :: ((Oy ++ O3) ++ Ob), x.1 ≠ a := fun x hx e => by
          rcases List.mem_cons.mp hx with rfl | hx
          · exact na.1 e.symm
          · exact na.2 (List.mem_append_right _ (List.mem_map.mpr ⟨x, hx, e⟩))
        refine ⟨((a, HO.ins (t.ca c) dx (putF nm y fvs)) :: (dx, HO.own a) :: O'') ++ Ob, liveG_perm (O := (a, HO.ins (t.ca c) dx (putF nm y fvs)) :: (dx, HO.own a) :: ((Oy ++ O3) ++ Ob)) ?_ (OwnL.cons (.oi (fl := fl.set f y) (fvs := putF nm y fvs) ?_ r2) tl) ?_ ?_ ?_ ?_⟩
        · intro b x e
          have : b ≠ a := fun z => by rw [z, out' _ List.mem_cons_self] at e; cases e
          rw [upd_ne this]
          exact s b x e
        · obtain ⟨k1, k2⟩ := putF_keys (n := nm) (y := y) g1.nd
          refine ⟨by rw [List.length_set]; exact g1.len, fun j m v h1 h2 h3 => ?_, fun p hp => ?_, k1⟩
          · rw [lookup_putF]
            by_cases e : f = j
            · subst e
              rw [List.getElem?_set_self hf] at h2
              rw [hnm] at h1
              cases h1
              cases h2
              rw [if_pos rfl]
            · rw [List.getElem?_set_ne e] at h2
              have : m ≠ nm := fun z => by
                subst z
                obtain ⟨i1, i2⟩ := List.getElem?_eq_some_iff.mp h1
                obtain ⟨i3, i4⟩ := List.getElem?_eq_some_iff.mp hnm
                exact e ((List.getElem_inj hnd).mp (i4.trans i2.symm))
              rw [if_neg this]
              rcases presO_set h3 with ⟨z, _⟩ | ⟨_, z⟩
              · exact absurd z.symm e
              · exact g1.has j m v h1 h2 z
          · rcases k2 p hp with z | z
            · rw [z]; exact List.mem_of_getElem? hnm
            · exact g1.out p z
        · exact ((p2.append_right Ob).cons _).cons _
        · intro x hx
          rcases List.mem_cons.mp hx with rfl | hx
          · exact upd_same
          · rw [upd_ne (neA x hx)]
            rcases List.mem_cons.mp hx with rfl | hx
            · exact at' _ (List.mem_cons_of_mem _ List.mem_cons_self)
            · exact at' x (List.mem_cons_of_mem _ (List.mem_cons_of_mem _ (List.mem_append_right _ hx)))
        · intro x hx
          rcases List.mem_cons.mp hx with rfl | hx
          · exact out' (a, HO.ins (t.ca c) dx fvs) List.mem_cons_self
          · rcases List.mem_cons.mp hx with rfl | hx
            · exact out' _ (List.mem_cons_of_mem _ List.mem_cons_self)
            · exact out' x (List.mem_cons_of_mem _ (List.mem_cons_of_mem _ (List.mem_append_right _ hx)))
        · rw [List.map_cons, List.nodup_cons, List.map_cons, List.nodup_cons]
          refine ⟨fun z => ?_, fun z => ?_, nd2⟩
          · rcases List.mem_cons.mp z with z | z
            · exact na.1 z
            · exact na.2 (List.mem_append_right _ z)
          · exact ndx (List.mem_append_right _ z)
/-- a new instance -/
theorem Live.made {x dx : Addr} {c : Nat} {L : List (V × OV)} (l : Live t H L) (hx : H x = none) (hd : H dx = none) (ne : dx ≠ x) : Live t (upd (upd H dx (.own x)) x (.ins (t.ca c) dx [])) ((.ref x, .oi c (List.replicate (t.fn c).length .no)) :: L) := by
  obtain ⟨G, O, s, ow, at_, u, n⟩ := l
  have gx : G x = none := s.free hx
  have gd : G dx = none := s.free hd
  have nos : ∀ k : Nat, OwnL t G (List.replicate k V.non) (List.replicate k OV.no) [] := fun k => by
    induction k with
    | zero => exact .nil
    | succ k ih => exact OwnL.cons (O := []) (O' := []) (.no _) ih
  have no1 : ∀ (k j : Nat), presO (List.replicate k OV.no) j = false := fun k j => by
    unfold presO
    rw [List.getElem?_replicate]
    split <;> rename_i e
    · split at e <;> cases e; rfl
    · rfl
  refine ⟨G, ((x, .ins (t.ca c) dx []) :: (dx, .own x) :: []) ++ O, ?_, OwnL.cons (.oi (fl := List.replicate (t.fn c).length V.non) ⟨by simp, fun j n v _ _ h => ?_, fun p hp => (by cases hp), by simp⟩ (nos _)) ow, ?_, ?_, ?_⟩
  · intro b o e
    rw [upd_ne (ne_of_none e gx), upd_ne (ne_of_none e gd)]
    exact s b o e
  · rw [no1] at h; cases h
  · intro p hp
    rcases List.mem_append.mp hp with hp | hp
    · rcases List.mem_cons.mp hp with rfl | hp
      · exact upd_same
      · rcases List.mem_cons.mp hp with rfl | hp
        · show upd (upd H dx (.own x)) x _ dx = _
          rw [upd_ne ne, upd_same]
        · cases hp
    · rw [upd_ne (ne_of_none (at_ p hp) hx), upd_ne (ne_of_none (at_ p hp) hd)]
      exact at_ p hp
  · intro p hp
    rcases List.mem_append.mp hp with hp | hp
    · rcases List.mem_cons.mp hp with rfl | hp
      · exact gx
      · rcases List.mem_cons.mp hp with rfl | hp
        · exact gd
        · cases hp
    · exact u p hp
  · rw [List.map_append, List.nodup_append]
    refine ⟨by simp [ne.symm], n, fun b hb d hd' e => ?_⟩
    subst e
    obtain ⟨p, hp, e⟩ := List.mem_map.mp hd'
    have : H b ≠ none := by rw [← e, at_ p hp]; simp
    simp at hb
    rcases hb with rfl | rfl
    · exact this hx
    · exact this hd
end
end Kv
/-! Attributes read; calls. -/
namespace Kv
open PySem L2

/-! ### what a def is worth: from the arguments to the result and the arguments behind -/
abbrev Res := Option (Except Ex OV × List OV)
def spF (t : CT) (xg : Ex → List (V × OV) → XK → Prop) (F : List OV → Res) : Sp := fun vs H Q E => ∃ os fr, vs.length = os.length ∧ Live t H (vs.zip os ++ fr) ∧
  match F os with
  | none => False
  | some (.ok o, outs) => ∀ v H', Live t H' ((v, o) :: (vs.zip outs ++ fr)) → Q v H'
  | some (.error x, outs) => xg x (vs.zip outs ++ fr) E
structure FnF (P : Program) (w : World) (K : PySem.W.Frag) (mg : Str → Option Value) (base : Heap) (CX : CXT) (k : Nat) (t : CT) (xg : Ex → List (V × OV) → XK → Prop) (f : Addr) (F : List OV → Res) : Prop where
  ex : ∃ fd ps, FnOk P w K mg base CX k f fd ps (spF t xg F) ∧ PySem.W.keepIn K (.ref f) = true ∧ Binds K fd ps []

/-! ### arguments handed over, and back -/
def takes : Env → List Opd → Option (List OV × Env)
  | ρ, [] => some ([], ρ)
  | ρ, .tv o :: r => (takes ρ r).map fun p => (o :: p.1, p.2)
  | ρ, .pl i :: r => match ρ[i]? with
    | none => none
    | some .no => none
    | some (.fz d) => (takes ρ r).map fun p => (.fz d :: p.1, p.2)
    | some o => (takes (ρ.set i .no) r).map fun p => (o :: p.1, p.2)
  | _, .pf _ _ _ :: _ => none
def puts : List Opd → List OV → List OV → Env → Env
  | .pl i :: r, o :: os, u :: us, ρ => puts r os us (match o with | .fz _ => ρ | _ => ρ.set i u)
  | _ :: r, _ :: os, _ :: us, ρ => puts r os us ρ
  | _, _, _, ρ => ρ
section
variable {t : CT} {H : Hp} {σ : St}
theorem live_over {ρ : Env} {i : Nat} {v : V} {old u : OV} {fr : List (V × OV)} (hv : σ[i]? = some (some v)) (e : ρ[i]? = some old) (l : Live t H ((v, u) :: (prs σ ρ ++ fr))) : Live t H (prs σ (ρ.set i u) ++ fr) := by
  refine live_put hv e ?_
  have l1 : Live t H ((v, old) :: (v, u) :: ((prs σ ρ).eraseIdx i ++ fr)) := l.perm (((prs_perm hv e).append_right fr).cons _ |>.trans (.swap _ _ _))
  exact l1.tail
theorem takes_ok : ∀ {ods : List Opd} {vs : List V} {ρ ρ1 : Env} {os : List OV} {fr : List (V × OV)}, WS σ ρ → Live t H (odp vs ods ++ (prs σ ρ ++ fr)) → OdRs t σ H ods vs → takes ρ ods = some (os, ρ1) →
    vs.length = os.length ∧ WS σ ρ1 ∧ Live t H (vs.zip os ++ (prs σ ρ1 ++ fr))
  | [], [], ρ, ρ1, os, fr, w, l, r, e => by
    cases e
    exact ⟨rfl, w, l⟩
  | [], _ :: _, _, _, _, _, _, _, r, _ => r.elim
  | _ :: _, [], _, _, _, _, _, _, r, _ => r.elim
  | .pf _ _ _ :: _, _ :: _, _, _, _, _, _, _, _, e => by cases e
  | .tv o :: ods, v :: vs, ρ, ρ1, os, fr, w, l, r, e => by
    obtain ⟨⟨os', ρ'⟩, e1, e2⟩ := Option.map_eq_some_iff.mp (show (takes ρ ods).map (fun p => (o :: p.1, p.2)) = some (os, ρ1) from e)
    cases e2
    have l1 : Live t H (odp vs ods ++ (prs σ ρ ++ (v, o) :: fr)) := by
      refine l.perm ?_
      show ((v, o) :: (odp vs ods ++ (prs σ ρ ++ fr))).Perm _
      rw [← List.append_assoc, ← List.append_assoc]
      exact List.perm_middle.symm
    obtain ⟨h1, h2, h3⟩ := takes_ok w l1 r.2 e1
    refine ⟨by simp [h1], h2, h3.perm ?_⟩
    rw [← List.append_assoc]
    refine List.perm_middle.trans ?_
    rw [List.append_assoc]
    exact .refl _
  | .pl i :: ods, v :: vs, ρ, ρ1, os, fr, w, l, r, e => by
    have hv : σ[i]? = some (some v) := r.1
    have l : Live t H (odp vs ods ++ (prs σ ρ ++ fr)) := l.tail
    have fin : ∀ {o : OV} {ρ0 : Env} {os' : List OV}, WS σ ρ0 → Live t H (odp vs ods ++ (prs σ ρ0 ++ (v, o) :: fr)) → takes ρ0 ods = some (os', ρ1) → (v :: vs).length = (o :: os').length ∧ WS σ ρ1 ∧ Live t H ((v :: vs).zip (o :: os') ++ (prs σ ρ1 ++ fr)) := fun {o ρ0 os'} w0 l0 e0 => by
      obtain ⟨h1, h2, h3⟩ := takes_ok w0 l0 r.2 e0
      refine ⟨by simp [h1], h2, h3.perm ?_⟩
      show (vs.zip os' ++ (prs σ ρ1 ++ (v, o) :: fr)).Perm ((v, o) :: (vs.zip os' ++ (prs σ ρ1 ++ fr)))
      rw [← List.append_assoc, ← List.append_assoc]
      exact List.perm_middle
    unfold takes at e
    cases hi : ρ[i]? with
    | none => rw [hi] at e; cases e
    | some o =>
      rw [hi] at e
      have front : (odp vs ods ++ (prs σ ρ ++ fr)).Perm ((v, o) :: (odp vs ods ++ ((prs σ ρ).eraseIdx i ++ fr))) := by
        refine (((prs_perm hv hi).append_right fr).append_left _).trans ?_
        exact List.perm_middle
      have l1 := l.perm front
      have moved : Live t H (odp vs ods ++ (prs σ (ρ.set i .no) ++ (v, o) :: fr)) := by
        refine (l1.no v).perm ?_
        have p1 : ((v, OV.no) :: (v, o) :: (odp vs ods ++ ((prs σ ρ).eraseIdx i ++ fr))).Perm ((v, o) :: (odp vs ods ++ ((v, OV.no) :: ((prs σ ρ).eraseIdx i ++ fr)))) :=
          (List.Perm.swap _ _ _).trans (List.perm_middle.symm.cons _)
        refine p1.trans ?_
        refine (((prs_set_perm (o' := OV.no) hv hi).symm.append_right fr).append_left (odp vs ods) |>.cons _).trans ?_
        rw [← List.append_assoc, ← List.append_assoc]
        exact List.perm_middle.symm
      cases o with
      | no => cases e
      | fz d =>
        obtain ⟨⟨os', ρ'⟩, e1, e2⟩ := Option.map_eq_some_iff.mp e
        cases e2
        refine fin w ?_ e1
        refine l1.dup.perm ?_
        refine ((front.symm).cons _).trans ?_
        rw [← List.append_assoc, ← List.append_assoc]
        exact List.perm_middle.symm
      | _ =>
        obtain ⟨⟨os', ρ'⟩, e1, e2⟩ := Option.map_eq_some_iff.mp e
        cases e2
        exact fin (w.set hv) moved e1
theorem puts_ok : ∀ {ods : List Opd} {vs : List V} {ρ : Env} {os outs : List OV} {fr : List (V × OV)}, WS σ ρ → OdRs t σ H ods vs → Live t H (vs.zip outs ++ (prs σ ρ ++ fr)) → (∀ i, Opd.pl i ∈ ods → i < ρ.length) →
    WS σ (puts ods os outs ρ) ∧ Live t H (prs σ (puts ods os outs ρ) ++ fr)
  | [], vs, ρ, os, outs, fr, w, r, l, _ => by
    have : puts [] os outs ρ = ρ := by simp [puts]
    rw [this]
    exact ⟨w, l.drop⟩
  | od :: ods, [], ρ, os, outs, fr, w, r, l, _ => r.elim
  | od :: ods, v :: vs, ρ, [], outs, fr, w, r, l, _ => by
    have : puts (od :: ods) [] outs ρ = ρ := by cases od <;> simp [puts]
    rw [this]
    exact ⟨w, l.drop⟩
  | od :: ods, v :: vs, ρ, o :: os, [], fr, w, r, l, _ => by
    have : puts (od :: ods) (o :: os) [] ρ = ρ := by cases od <;> simp [puts]
    rw [this]
    exact ⟨w, l.drop⟩
  | od :: ods, v :: vs, ρ, o :: os, u :: us, fr, w, r, l, hb => by
    have l : Live t H ((v, u) :: (vs.zip us ++ (prs σ ρ ++ fr))) := l
    have hb' : ∀ i, Opd.pl i ∈ ods → i < ρ.length := fun i hi => hb i (List.mem_cons_of_mem _ hi)
    cases od with
    | pl i =>
      have hv : σ[i]? = some (some v) := r.1
      have hi : i < ρ.length := hb i List.mem_cons_self
      have set : WS σ (puts ods os us (ρ.set i u)) ∧ Live t H (prs σ (puts ods os us (ρ.set i u)) ++ fr) := by
        refine puts_ok (w.set hv) r.2 ?_ (fun j hj => by rw [List.length_set]; exact hb' j hj)
        have l1 : Live t H ((v, u) :: (prs σ ρ ++ (fr ++ vs.zip us))) := l.perm (.cons _ (by rw [← List.append_assoc (prs σ ρ)]; exact List.perm_append_comm))
        have l2 := live_over hv (List.getElem?_eq_getElem hi) l1
        exact l2.perm (by rw [← List.append_assoc]; exact List.perm_append_comm)
      cases o with
      | fz d => exact puts_ok (os := os) w r.2 l.tail hb'
      | _ => exact set
    | _ => exact puts_ok (os := os) w r.2 l.tail hb'
end

section
variable {X : Cx} {κ : Kx} {pu p q r fl fl' fl2 : Bool} {e a b c : Expr} {pos ps apos : Pos} {es rest : List Expr} {CX : CXT} {k : Nat} {f : Addr} {F : List OV → Res} {E : XK} {xg : Ex → List (V × OV) → XK → Prop}
def callO (F : List OV → Res) (ods : List Opd) : M OV := fun ρ => match takes ρ ods with
  | none => none
  | some (os, ρ1) => match F os with
    | none => none
    | some (r, outs) => some (r, puts ods os outs ρ1)
def callM (F : List OV → Res) (ms : M (List Opd)) : M OV := bnd ms (callO F)
theorem takes_len {ρ ρ1 : Env} {ods : List Opd} {os : List OV} (h : takes ρ ods = some (os, ρ1)) : ρ1.length = ρ.length := by
  induction ods generalizing ρ ρ1 os with
  | nil => cases h; rfl
  | cons od ods ih =>
    cases od with
    | tv o =>
      obtain ⟨p, e1, e2⟩ := Option.map_eq_some_iff.mp (show (takes ρ ods).map (fun p => (o :: p.1, p.2)) = some (os, ρ1) from h)
      cases e2
      exact ih e1
    | pf => cases h
    | pl i =>
      unfold takes at h
      cases hi : ρ[i]? with
      | none => rw [hi] at h; cases h
      | some o =>
        rw [hi] at h
        cases o with
        | no => cases h
        | fz d =>
          obtain ⟨p, e1, e2⟩ := Option.map_eq_some_iff.mp h
          cases e2
          exact ih e1
        | _ =>
          obtain ⟨p, e1, e2⟩ := Option.map_eq_some_iff.mp h
          cases e2
          rw [ih e1, List.length_set]
theorem odrs_lt {t : CT} {H : Hp} {σ : St} : ∀ {ods : List Opd} {vs : List V}, OdRs t σ H ods vs → ∀ i, Opd.pl i ∈ ods → i < σ.length
  | od :: ods, v :: vs, r, i, h => by
    rcases List.mem_cons.mp h with rfl | h
    · exact (List.getElem?_eq_some_iff.mp (show σ[i]? = some (some v) from r.1)).1
    · exact odrs_lt r.2 i h
  | [], _, _, _, h => by cases h
  | _ :: _, [], r, _, _ => r.elim
theorem takes_odrs {t : CT} {H H' : Hp} {σ : St} : ∀ {ods : List Opd} {vs : List V} {ρ : Env} {p : List OV × Env}, takes ρ ods = some p → OdRs t σ H ods vs → OdRs t σ H' ods vs
  | [], [], _, _, _, _ => trivial
  | [], _ :: _, _, _, _, r => r.elim
  | _ :: _, [], _, _, _, r => r.elim
  | .pf _ _ _ :: _, _ :: _, _, _, h, _ => by cases h
  | .tv o :: ods, v :: vs, ρ, p, h, r => by
    obtain ⟨p, e1, e2⟩ := Option.map_eq_some_iff.mp (show (takes ρ ods).map (fun p => (o :: p.1, p.2)) = some p from h)
    exact ⟨trivial, takes_odrs e1 r.2⟩
  | .pl i :: ods, v :: vs, ρ, p, h, r => by
    refine ⟨r.1, ?_⟩
    unfold takes at h
    cases hi : ρ[i]? with
    | none => rw [hi] at h; cases h
    | some o =>
      rw [hi] at h
      cases o with
      | no => cases h
      | fz d =>
        obtain ⟨p, e1, e2⟩ := Option.map_eq_some_iff.mp h
        exact takes_odrs e1 r.2
      | _ =>
        obtain ⟨p, e1, e2⟩ := Option.map_eq_some_iff.mp h
        exact takes_odrs e1 r.2
/-- a call, the operands being there: what the promise asks -/
theorem callO_core {ods : List Opd} {vs : List V} {σ : St} {ρ : Env} {H : Hp} {fr : List (V × OV)} {Q : VK} (hX : ∀ x L, κ.xc x L → xg x L E) (w : WS σ ρ) (l : Live κ.T H (odp vs ods ++ (prs σ ρ ++ fr))) (r : OdRs κ.T σ H ods vs)
    (hp : wp (callO F ods) ρ (fun o ρ' => ∀ v H', WS σ ρ' → Live κ.T H' ((v, o) :: (prs σ ρ' ++ fr)) → Q v H') fun x ρ' => κ.xw x σ ρ' fr) : spF κ.T xg F vs H Q E := by
  unfold wp callO at hp
  cases e : takes ρ ods with
  | none => rw [e] at hp; exact hp.elim
  | some p =>
    obtain ⟨os, ρ1⟩ := p
    rw [e] at hp
    obtain ⟨h1, w1, l1⟩ := takes_ok w l r e
    have hb : ∀ i, Opd.pl i ∈ ods → i < ρ1.length := fun i hi => by rw [takes_len e, ← w.len]; exact odrs_lt r i hi
    refine ⟨os, prs σ ρ1 ++ fr, h1, l1, ?_⟩
    simp only at hp
    cases e2 : F os with
    | none => rw [e2] at hp; exact hp.elim
    | some q =>
      obtain ⟨res, outs⟩ := q
      rw [e2] at hp
      cases res with
      | ok o =>
        intro v H' l2
        have l3 : Live κ.T H' (vs.zip outs ++ (prs σ ρ1 ++ (v, o) :: fr)) := l2.perm (by rw [← List.append_assoc, ← List.append_assoc]; exact List.perm_middle.symm)
        have r' : OdRs κ.T σ H' ods vs := takes_odrs e r
        obtain ⟨w2, l4⟩ := puts_ok (os := os) w1 r' l3 hb
        exact hp v H' w2 (l4.perm List.perm_middle)
      | error x =>
        exact hX _ _ (κ.xcl _ _ _ (fun H' l2 => (puts_ok (os := os) w1 (takes_odrs e r) l2 hb).2) hp)
end
end Kv
/-! Calls of defs, methods, classes, properties; attributes. -/
namespace Kv
open PySem L2
section
variable {X : Cx} {κ : Kx} {pu p q r fl fl' fl2 : Bool} {e a b c : Expr} {pos ps apos : Pos} {es rest : List Expr} {CX : CXT} {k : Nat} {f : Addr} {F : List OV → Res} {E : XK} {xg : Ex → List (V × OV) → XK → Prop}
/-- what a call wants of its context -/
structure CalS (X : Cx) (κ : Kx) (F : List OV → Res) (f : Addr) (k : Nat) : Prop where
  ex : ∃ CX xg E, FnF X.prog X.w X.K X.mg X.base CX k κ.T xg f F ∧ Passes CX X E ∧ ∀ x L, κ.xc x L → xg x L E
theorem se_call {x : Str} {ms : M (List Opd)} (h : CalS X κ F f k) (hr : Room k X.A) (hg : Gl X x) (hm : X.mg x = some (.ref f)) (ha : SA X κ p (e :: es) ms) (hdb : (x == ("__debug__" : Str)) = false := by decide) (he : starEach (e :: es) X.env = (false, eval e X.env) :: starEach es X.env := by rfl) (hpl : (backTo pos (starEach es X.env)).any (·.1) = false := by rfl) :
    SE X κ false (.Call (.Name x ps) (e :: es) [] pos) (callM F ms) := by
  obtain ⟨CX, xg, E, ⟨fd, pn, hF, hk, hb⟩, hx, hX⟩ := h.ex
  refine ⟨(pe_call hF hr hg hm hk hb .nil hx ha.pa hdb he hpl).imp fun σ H Q ⟨ρ, fr, w, l, hp⟩ => ?_⟩
  unfold callM at hp
  rw [wp_bnd] at hp
  refine ⟨ρ, fr, w, l, wp_mono hp fun ods ρ1 hp vs H1 w1 s1 l1 r1 => ?_⟩
  show spF κ.T xg F (vs ++ []) H1 Q E
  rw [List.append_nil]
  exact callO_core hX w1 l1 r1 (wp_mono hp fun o ρ' k v H' w' l' => k v H' w' (fun h => nomatch h) l')
theorem se_call0 {x : Str} (h : CalS X κ F f k) (hr : Room k X.A) (hg : Gl X x) (hm : X.mg x = some (.ref f)) (hdb : (x == ("__debug__" : Str)) = false := by decide) :
    SE X κ false (.Call (.Name x ps) [] [] pos) (callM F (ret [])) := by
  obtain ⟨CX, xg, E, ⟨fd, pn, hF, hk, hb⟩, hx, hX⟩ := h.ex
  refine ⟨(pe_call0 hF hr hg hm hk hb .nil hx hdb).imp fun σ H Q ⟨ρ, fr, w, l, hp⟩ => ?_⟩
  exact callO_core hX w (ods := []) (vs := []) l trivial (wp_mono hp fun o ρ' k v H' w' l' => k v H' w' (fun h => nomatch h) l')

/-! ### methods -/
def pkC (c : Nat) (od : Opd) : M Unit := fun ρ => match peek ρ od with
  | some (.ins c' _) => if c' = c then some (.ok (), ρ) else none
  | _ => none
theorem wp_pkC {c : Nat} {od : Opd} {ρ : Env} {Q : Unit → Env → Prop} {E : Ex → Env → Prop} (h : wp (pkC c od) ρ Q E) : ∃ fs, peek ρ od = some (.ins c fs) ∧ Q () ρ := by
  unfold wp pkC at h
  cases e : peek ρ od with
  | none => rw [e] at h; exact h.elim
  | some d =>
    rw [e] at h
    cases d with
    | ins c' fs =>
      by_cases hc : c' = c
      · subst hc
        simp at h
        exact ⟨fs, rfl, h⟩
      · simp [hc] at h
    | _ => exact h.elim
def methM (c : Nat) (F : List OV → Res) (ma : M Opd) (ms : M (List Opd)) : M OV := bnd ma fun x => bnd (pkC c x) fun _ => bnd ms fun xs => callO F (x :: xs)
theorem ins_of {t : CT} {H : Hp} {v : V} {c : Nat} {fs : List D} (r : Rep t H v (.ins c fs)) : ∃ a dx fvs, v = .ref a ∧ H a = some (.ins (t.ca c) dx fvs) ∧ ∀ m, m ∉ t.fn c → fvs.lookup m = none := by
  cases r with
  | @ins a dx _ fvs fl _ h1 h2 g r => exact ⟨a, dx, fvs, rfl, h1, fun m hm => lookup_none_of fun p hp e => hm (e ▸ g.out p hp)⟩
theorem se_meth {cl : Nat} {m : Str} {ma : M Opd} {ms : M (List Opd)} {pl : Sem Bool} (h : CalS X κ F f k) (hr : Room k X.A) (c : Cls X.K (κ.T.ca cl)) (hm : Meth X.K (κ.T.ca cl) m f) (hnm : m ∉ κ.T.fn cl) (ho : SO X κ q false a ma) (ha : SA X κ p (e :: es) ms)
    (hst : starEach (e :: es) X.env = (false, eval e X.env) :: starEach es X.env := by rfl) (hpl : (backTo pos (starEach es X.env)).any (·.1) = false := by rfl)
    (ht : eval (.Call (.Attribute a m apos) (e :: es) [] pos) X.env = (do
      let ov ← eval a X.env
      standAt apos.atName
      let (f, first) ← holding [ov] (getMethod ov m pl)
      callWith pos f first (backTo pos (starEach (e :: es) X.env)) (backToKw pos (keywordEach [] X.env))) := by rfl) :
    SE X κ false (.Call (.Attribute a m apos) (e :: es) [] pos) (methM cl F ma ms) := by
  obtain ⟨CX, xg, E, ⟨fd, pn, hF, hk, hb⟩, hx, hX⟩ := h.ex
  refine ⟨(pe_meth (pl := pl) ho.pe c hm hF hr hb .nil hx ha.pa hst hpl ht).imp fun σ H Q ⟨ρ, fr, w, l, hp⟩ => ?_⟩
  unfold methM at hp
  rw [wp_bnd] at hp
  refine ⟨ρ, fr, w, l, wp_mono hp fun x ρ1 hp v1 H1 w1 s1 f1 l1 od1 => ?_⟩
  rw [wp_bnd] at hp
  obtain ⟨fs, e1, hp⟩ := wp_pkC hp
  rw [wp_bnd] at hp
  have bx := bor_od l1 w1 (fun z hz => List.mem_cons_of_mem _ (List.mem_append_left _ hz)) List.mem_cons_self od1 e1
  obtain ⟨ad, dx, fvs, rfl, h1, h2⟩ := ins_of bx.rep
  have l1' := l1.perm (List.perm_middle (l₁ := prs σ ρ1) (l₂ := fr) (a := (V.ref ad, x.ov))).symm
  refine ⟨ad, dx, fvs, rfl, h1, h2 m hnm, ρ1, (V.ref ad, x.ov) :: fr, w1, l1', wp_mono2 hp (fun ods ρ2 hp vs H2 w2 s2 l2 r2 => ?_) fun _ _ h => κ.xm _ _ _ _ _ h⟩
  show spF κ.T xg F (V.ref ad :: (vs ++ [])) H2 Q E
  rw [List.append_nil]
  refine callO_core (ods := x :: ods) (vs := V.ref ad :: vs) hX w2 ?_ ⟨od1.plain (f1 rfl), r2⟩ (wp_mono hp fun o ρ' k v H' w' l' => k v H' w' (fun h => nomatch h) l')
  refine l2.perm ?_
  show (odp vs ods ++ (prs σ ρ2 ++ (V.ref ad, x.ov) :: fr)).Perm ((V.ref ad, x.ov) :: (odp vs ods ++ (prs σ ρ2 ++ fr)))
  rw [← List.append_assoc, ← List.append_assoc]
  exact List.perm_middle
def meth0M (c : Nat) (F : List OV → Res) (ma : M Opd) : M OV := bnd ma fun x => bnd (pkC c x) fun _ => callO F [x]
theorem se_meth0 {cl : Nat} {m : Str} {ma : M Opd} {pl : Sem Bool} (h : CalS X κ F f k) (hr : Room k X.A) (c : Cls X.K (κ.T.ca cl)) (hm : Meth X.K (κ.T.ca cl) m f) (hnm : m ∉ κ.T.fn cl) (ho : SO X κ q false a ma)
    (ht : eval (.Call (.Attribute a m apos) [] [] pos) X.env = (do
      let ov ← eval a X.env
      standAt apos.atName
      let (f, first) ← holding [ov] (getMethod ov m pl)
      callWith pos f first (backTo pos (starEach [] X.env)) (backToKw pos (keywordEach [] X.env))) := by rfl) :
    SE X κ false (.Call (.Attribute a m apos) [] [] pos) (meth0M cl F ma) := by
  obtain ⟨CX, xg, E, ⟨fd, pn, hF, hk, hb⟩, hx, hX⟩ := h.ex
  refine ⟨(pe_meth0 (pl := pl) ho.pe c hm hF hr hb .nil hx ht).imp fun σ H Q ⟨ρ, fr, w, l, hp⟩ => ?_⟩
  unfold meth0M at hp
  rw [wp_bnd] at hp
  refine ⟨ρ, fr, w, l, wp_mono hp fun x ρ1 hp v1 H1 w1 s1 f1 l1 od1 => ?_⟩
  rw [wp_bnd] at hp
  obtain ⟨fs, e1, hp⟩ := wp_pkC hp
  have bx := bor_od l1 w1 (fun z hz => List.mem_cons_of_mem _ (List.mem_append_left _ hz)) List.mem_cons_self od1 e1
  obtain ⟨ad, dx, fvs, rfl, h1, h2⟩ := ins_of bx.rep
  refine ⟨ad, dx, fvs, rfl, h1, h2 m hnm, ?_⟩
  exact callO_core (ods := [x]) (vs := [V.ref ad]) hX w1 l1 ⟨od1.plain (f1 rfl), trivial⟩ (wp_mono hp fun o ρ' k v H' w' l' => k v H' w' (fun h => nomatch h) l')
/-! ### a property -/
def noex {α : Type} (m : M α) : M α := fun ρ => match m ρ with
  | some (.error _, _) => none
  | r => r
theorem wp_noex {α : Type} {m : M α} {ρ : Env} {Q : α → Env → Prop} {E : Ex → Env → Prop} (h : wp (noex m) ρ Q E) : wp m ρ Q fun _ _ => False := by
  unfold wp noex at h
  unfold wp
  cases e : m ρ with
  | none => rw [e] at h; exact h
  | some p =>
    obtain ⟨x, ρ'⟩ := p
    rw [e] at h
    cases x with
    | error x => exact h
    | ok a => exact h
def propM (c : Nat) (F : List OV → Res) (ma : M Opd) : M OV := bnd ma fun x => bnd (pkC c x) fun _ => noex (callO F [x])
theorem se_prop {cl : Nat} {m : Str} {pa : Addr} {ma : M Opd} (h : CalS X.nox κ.nx F f k) (hr : Room (k + 1) X.A) (c : Cls X.K (κ.T.ca cl)) (hm : PropOf X.K (κ.T.ca cl) m pa f) (ho : SO X κ q false a ma) (hbase : attributeBase a m X.env (eval a X.env) = eval a X.env := by rfl) :
    SE X κ false (.Attribute a m pos) (propM cl F ma) := by
  obtain ⟨CX, xg, E, ⟨fd, pn, hF, hk, hb⟩, hx, hX⟩ := h.ex
  refine ⟨(pe_prop ho.pe c hm hF hr hb .nil hx hbase).imp fun σ H Q ⟨ρ, fr, w, l, hp⟩ => ?_⟩
  unfold propM at hp
  rw [wp_bnd] at hp
  refine ⟨ρ, fr, w, l, wp_mono hp fun x ρ1 hp v1 H1 w1 s1 f1 l1 od1 => ?_⟩
  rw [wp_bnd] at hp
  obtain ⟨fs, e1, hp⟩ := wp_pkC hp
  have bx := bor_od l1 w1 (fun z hz => List.mem_cons_of_mem _ (List.mem_append_left _ hz)) List.mem_cons_self od1 e1
  obtain ⟨ad, dx, fvs, rfl, h1, h2⟩ := ins_of bx.rep
  refine ⟨ad, dx, fvs, rfl, h1, ?_⟩
  exact callO_core (κ := κ.nx) (ods := [x]) (vs := [V.ref ad]) hX w1 l1 ⟨od1.plain (f1 rfl), trivial⟩ (wp_mono (wp_noex hp) fun o ρ' k v H' w' l' => k v H' w' (fun h => nomatch h) l')
/-! ### a class called -/
def newO (c n : Nat) (F : List OV → Res) (ods : List Opd) : M OV := fun ρ => match takes ρ ods with
  | none => none
  | some (os, ρ1) => match F (.oi c (List.replicate n .no) :: os) with
    | some (.ok (.fz .non), u :: us) => some (.ok u, puts ods os us ρ1)
    | some (.error x, _ :: us) => some (.error x, puts ods os us ρ1)
    | _ => none
def newM (c n : Nat) (F : List OV → Res) (ms : M (List Opd)) : M OV := bnd ms (newO c n F)
theorem new_core {cl : Nat} {ods : List Opd} {vs : List V} {σ : St} {ρ : Env} {H : Hp} {fr : List (V × OV)} {Q : VK} {x dx : Addr} (hX : ∀ x L, κ.xc x L → xg x L E) (w : WS σ ρ) (l : Live κ.T H (odp vs ods ++ (prs σ ρ ++ fr))) (r : OdRs κ.T σ H ods vs) (hx : H x = none) (hd : H dx = none) (ne : dx ≠ x)
    (hp : wp (newO cl (κ.T.fn cl).length F ods) ρ (fun o ρ' => ∀ v H', WS σ ρ' → Live κ.T H' ((v, o) :: (prs σ ρ' ++ fr)) → Q v H') fun x ρ' => κ.xw x σ ρ' fr) :
    spF κ.T xg F (.ref x :: vs) (upd (upd H dx (.own x)) x (.ins (κ.T.ca cl) dx [])) (fun v H2 => v = .non ∧ Q (.ref x) H2) E := by
  unfold wp newO at hp
  cases e : takes ρ ods with
  | none => rw [e] at hp; exact hp.elim
  | some p =>
    obtain ⟨os, ρ1⟩ := p
    rw [e] at hp
    obtain ⟨h1, w1, l1⟩ := takes_ok w l r e
    have hb : ∀ i, Opd.pl i ∈ ods → i < ρ1.length := fun i hi => by rw [takes_len e, ← w.len]; exact odrs_lt r i hi
    refine ⟨.oi cl (List.replicate (κ.T.fn cl).length .no) :: os, prs σ ρ1 ++ fr, by simp [h1], l1.made hx hd ne, ?_⟩
    simp only at hp
    generalize F (.oi cl (List.replicate (κ.T.fn cl).length .no) :: os) = res at hp
    match res, hp with
    | some (.ok (.fz .non), u :: us), hp =>
      intro v H' l2
      have hv := non_of (bor_mem l2 List.mem_cons_self).rep
      have l2 : Live κ.T H' ((v, .fz .non) :: (V.ref x, u) :: (vs.zip us ++ (prs σ ρ1 ++ fr))) := l2
      have l3 : Live κ.T H' (vs.zip us ++ (prs σ ρ1 ++ (V.ref x, u) :: fr)) := l2.tail.perm (by rw [← List.append_assoc, ← List.append_assoc]; exact List.perm_middle.symm)
      obtain ⟨w2, l4⟩ := puts_ok (os := os) w1 (takes_odrs e r) l3 hb
      exact ⟨hv, hp (.ref x) H' w2 (l4.perm List.perm_middle)⟩
    | some (.error x', u :: us), hp =>
      exact hX _ _ (κ.xcl _ _ _ (fun H' l2 => (puts_ok (os := os) w1 (takes_odrs e r) l2.tail hb).2) hp)
theorem se_new {x : Str} {cl : Nat} {ms : M (List Opd)} (h : CalS X κ F f k) (hr : Room (k + 1) X.A) (M0 : Mk X.K (κ.T.ca cl) f) (hg : Gl X x) (hm : X.mg x = some (.ref (κ.T.ca cl))) (ha : SA X κ p (e :: es) ms) (hdb : (x == ("__debug__" : Str)) = false := by decide) (he : starEach (e :: es) X.env = (false, eval e X.env) :: starEach es X.env := by rfl) (hpl : (backTo pos (starEach es X.env)).any (·.1) = false := by rfl) :
    SE X κ false (.Call (.Name x ps) (e :: es) [] pos) (newM cl (κ.T.fn cl).length F ms) := by
  obtain ⟨CX, xg, E, ⟨fd, pn, hF, hk, hb⟩, hx, hX⟩ := h.ex
  refine ⟨(pe_make M0 hF hr hg hm hb .nil hx ha.pa hdb he hpl).imp fun σ H Q ⟨ρ, fr, w, l, hp⟩ => ?_⟩
  unfold newM at hp
  rw [wp_bnd] at hp
  refine ⟨ρ, fr, w, l, wp_mono hp fun ods ρ1 hp vs H1 w1 s1 l1 r1 => fun xa dx nx nd ne => ?_⟩
  rw [List.append_nil]
  exact new_core hX w1 l1 r1 nx nd ne (wp_mono hp fun o ρ' k v H' w' l' => k v H' w' (fun h => nomatch h) l')
end
end Kv
/-! enumerate of a tuple. -/
namespace PySem
section
variable {prog : Program} {w : World} {A : Around} {E : Value → Shared → Prop} {s : Shared}
set_option maxHeartbeats 1000000 in
theorem kv_enum_newB {v : Value} {o : Obj} {H : Heap → Prop} (B : Begins v o H) :
    Meets (Builtin.«enumerate.__new__» ⟨[.type "enumerate", v], []⟩) (fun _ R s => H s.heap ∧
      R (.ok (.ret (.ref (s.heap.push o).objs.size))) { s with heap := (s.heap.push o).push { cls := .type "enumerate", data := .fields #[.none, .bool false, .ref s.heap.objs.size, rawInt 0, .none, .none] } }) :=
  .of_wp fun prog w A R s h => by
    obtain ⟨hp, g, d, tk, os⟩ := s; obtain ⟨h1, h⟩ := h
    have hsub := sub_enumerate
    have q1 : ∀ {A' : Around} {E : Value → Shared → Prop} {Q : Value → Shared → Prop}, Q (.ref hp.objs.size) ⟨hp.push o, g, d, tk, os⟩ → wpAny (model prog w) A' (pyIter v) Q E ⟨hp, g, d, tk, os⟩ :=
      fun q => B.iter prog w _ _ ⟨hp, g, d, tk, os⟩ _ h1 q
    wp_walk using q1
    refine wpAny_stack_any fun st => wpAny_pure ?_
    split
    · rename_i c _ _ _ _ _
      cases (c == Value.type "enumerate")
      · wp_walk using q1
        exact ⟨_, rfl, h⟩
      · wp_walk using q1
        exact ⟨_, rfl, h⟩
    · wp_walk using q1
      exact ⟨_, rfl, h⟩
theorem kv_enum_begins {v : Value} {o : Obj} {H : Heap → Prop} {Q : Value → Shared → Prop} (B : Begins v o H) (h1 : H s.heap)
    (h : ∀ h', IsEnum h' (s.heap.objs.size + 1) s.heap.objs.size 0 .none → h'.get? s.heap.objs.size = some o → h'.objs.size = s.heap.objs.size + 2 →
      (∀ b o, s.heap.get? b = some o → h'.get? b = some o) → Q (.ref (s.heap.objs.size + 1)) { s with heap := h' }) :
    wpAny (model prog w) A (call (.type "enumerate") [v]) Q E s := by
  refine callType_new F.called_enumerate (by decide) (F.typeCall_enumerate_1 _) (F.newCall_enumerate_1 _) (fun obj => F.args_object_init_2 obj _) F.entry_enumerate_new
    (kv_enum_newB B) ⟨h1, ?_⟩
  have hz : (s.heap.push o).objs.size = s.heap.objs.size + 1 := Heap.size_push ..
  show _ ∧ _
  rw [hz]
  have he : IsEnum ((s.heap.push o).push { cls := .type "enumerate", data := .fields #[.none, .bool false, .ref s.heap.objs.size, rawInt 0, .none, .none] }) (s.heap.objs.size + 1) s.heap.objs.size 0 .none := by
    have := Heap.get?_push_size (s.heap.push o) (o := { cls := .type "enumerate", data := .fields #[.none, .bool false, .ref s.heap.objs.size, rawInt 0, .none, .none] }) rfl
    rw [hz] at this; exact this
  refine ⟨⟨_, he, rfl⟩, h _ he (Heap.get?_push_of_some _ (Heap.get?_push_size _ B.free)) (by rw [Heap.size_push, hz]) fun b o x => Heap.get?_push_of_some _ (Heap.get?_push_of_some _ x)⟩
end
end PySem
namespace L2
open PySem PySem.Spec PyProof.Rows
def IteT (K : PySem.W.Frag) (a : Addr) : It :=
  ⟨fun i H => ∃ (xs : List V) (x : V), SqT K H a xs ∧ xs[i]? = some x, fun i H v H' => ∃ T x, v = .ref T ∧ H T = none ∧ H' = upd H T (.tup [.int (i : Nat), x]) ∧ ∀ xs, SqT K H a xs → xs[i]? = some x, fun i H => ∃ xs : List V, SqT K H a xs ∧ xs.length ≤ i⟩
theorem turn_enumT {P : Program} {w : World} {K : PySem.W.Frag} {elts : List Expr} {kk : Nat} {tpos : Pos} (a e it : Addr) :
    Turn P w K (.Tuple elts kk tpos) (IteT K a) [e, it] e (fun i h => (∃ old, IsEnum h e it ((i : Nat) : Int) old) ∧ h.IsTupleIter it a i ∧ e ≠ it ∧ a ≠ it ∧ a ≠ e) where
  mem := by simp
  obj := fun i h st b hb => by
    obtain ⟨⟨old, he⟩, ⟨o, ho, hc, hd⟩, _⟩ := st
    have e' : b = e ∨ b = it := by simpa using hb
    rcases e' with z | z
    · rw [z]; exact ⟨_, he, fun v q => nomatch q⟩
    · rw [z]; exact ⟨o, ho, fun v q => by rw [hd] at q; cases q⟩
  keep := fun i h h' st k => let ⟨⟨old, he⟩, hi, hne⟩ := st; ⟨⟨old, k e (by simp) _ he⟩, hi.at fun o q => k it (by simp) o q, hne⟩
  item := by
    intro X hP hw hK hc i pins s σ H E I hf st hg
    subst hP hw hK
    obtain ⟨⟨old, he⟩, hit, hne, ha1, ha2⟩ := st
    obtain ⟨xs, x, hq, hx⟩ := hg
    obtain ⟨its, rv, p, hz⟩ := I.tuple hq
    obtain ⟨u, hu, ru⟩ := rv.get hx
    have hel : e < s.heap.objs.size := Heap.lt_size he
    have hil : it < s.heap.objs.size := by obtain ⟨_, q, _⟩ := hit; exact Heap.lt_size q
    have hh : X.A.in1.handled = none := I.ok.hd hc
    have hlt : i < its.toArray.size := by
      have := (List.getElem?_eq_some_iff.mp hu).1
      simpa using this
    refine wpAny_pyNext_enum_itemD (Draws.tuple hh it a ha1 its.toArray) he ⟨hit, p⟩ hlt hne (by simp [hne, ha2.symm]) fun x' h' tk hx' ho hst' hT hsz hk => ?_
    have hx' : its.toArray[i]? = some x' := hx'
    have ex : x' = u := by
      have : its[i]? = some x' := by simpa using hx'
      rw [hu] at this
      exact (Option.some.inj this).symm
    subst ex
    obtain ⟨hit', p'⟩ := hst'
    refine ⟨_, rfl, wpAny_letOwnedTupleGo_enum (s := { s with heap := h', toks := tk + 1 }) ho fun h'' he' sb => ?_⟩
    have hT2 : h''.get? s.heap.objs.size = some { cls := .type "tuple", data := .seq #[.int i tk, x'] } := (sb.2 _ (Nat.ne_of_gt hel)).trans hT
    have new : ObjOk X.prog X.w (upd H s.heap.objs.size (.tup [.int (i : Nat), x])) h'' s.heap.objs.size (.tup [.int (i : Nat), x]) :=
      ⟨by show 2 ≤ sizeLine; decide, [.int i tk, x'], .cons ⟨_, rfl⟩ (.cons ru .nil), ⟨_, hT2, rfl, _, rfl⟩⟩
    have I1 : Inv X pins σ (upd H s.heap.objs.size (.tup [.int (i : Nat), x])) { s with heap := h'', toks := tk + 1 } :=
      I.turnedNew (ch := [e, it]) (fun b ob hb q => (sb.2 b (fun z => hb (by simp [z]))).trans (hk b ob (fun z => hb (by simp [z])) (fun z => hb (by simp [z])) q)) hf (Nat.le_refl _) new
    refine ⟨.ref s.heap.objs.size, _, I1, rfl, ⟨_, x, rfl, I.hok.fresh (Nat.le_refl _), rfl, fun ys hy => by rw [I.tuple_inj hy hq]; exact hx⟩, ⟨⟨x', ?_⟩, hit'.at fun o q => (sb.2 it (Ne.symm hne)).trans q, hne, ha1, ha2⟩, fun b hb => ?_⟩
    · have e1 : ((i + 1 : Nat) : Int) = (i : Int) + 1 := by omega
      rw [e1]; exact he'
    · have hb' : b < s.heap.objs.size := by
        have e' : b = e ∨ b = it := by simpa using hb
        rcases e' with z | z
        · rw [z]; exact hel
        · rw [z]; exact hil
      rw [upd_ne (Nat.ne_of_lt hb')]
      exact (hf b hb).1
  done := by
    intro X hP hw hK hc i pins s σ H E I hf st hg
    subst hP hw hK
    obtain ⟨⟨old, he⟩, hit, hne, ha1, ha2⟩ := st
    obtain ⟨xs, hq, hx⟩ := hg
    obtain ⟨its, rv, p, hz⟩ := I.tuple hq
    obtain ⟨f0, f1, f2, f3, f4, f5⟩ := hf it (by simp)
    have hl := rv.length
    have hh : X.A.in1.handled = none := I.ok.hd hc
    have D : Draws X.prog X.w X.A.in1 it [it, a] i (fun i v => its.toArray[i]? = some v ∧ False) (fun j h => h.IsTupleIter it a j ∧ h.IsTuple a its.toArray ∧ j = i) := {
      live := fun _ _ st => let ⟨o, ho, _⟩ := st.1; ⟨o, ho⟩
      frame := fun _ _ _ st hk => ⟨st.1.at fun o e => hk it (by simp) o e, st.2.1.at fun o e => hk a (by simp) o e, st.2.2⟩
      item := fun j s Q E hi st hQ => absurd (st.2.2 ▸ hi) (Nat.lt_irrefl _)
      done := fun s Q E st hE => wpAny_nextOf_tuple_end hh st.1 st.2.1 (by simp; omega) hE }
    exact wpAny_pyNext_enum_endD D he ⟨hit, p, rfl⟩ fun h' eb => ⟨rfl, I.turned (t' := s.toks) (fun b o hb q => eb b o hb q) f0 f1 f3 f4 f5⟩
  self := fun A i s Q E st h => let ⟨⟨_, he⟩, _⟩ := st; wpAny_pyIter_enum he h
def iEnumT (K : PySem.W.Frag) (ta : TA) : TI := fun σ H R => ta σ H fun vs H1 => ∃ a xs, vs = [.ref a] ∧ SqT K H1 a xs ∧ R (IteT K a) H1
theorem pi_enumT {X : Cx} {e : Expr} {ta : TA} {p pos tpos : Pos} {elts : List Expr} {kk : Nat} (hg : Gl X "enumerate") (hm : X.mg "enumerate" = none) (ha : PA X [e] ta) (hs : starEach [e] X.env = [(false, eval e X.env)] := by rfl) :
    PI X (.Tuple elts kk tpos) (.Call (.Name "enumerate" p) [e] [] pos) (iEnumT X.K ta) := by
  refine ⟨fun pins s σ H R I h => ?_⟩
  refine Call_ (ld_blt I hg hm boot_enumerate (PyProof.Rows.callWith_type1 (thn (ha.run pos pins s σ H _ I h) fun us s1 ⟨vs, H1, I1, r1, q1⟩ => ?_) hs rfl))
  obtain ⟨a, xs, ex, hq, q⟩ := q1
  subst ex
  cases r1 with
  | cons r rr =>
    cases rr
    cases r
    obtain ⟨its, rv, p', hz⟩ := I1.tuple hq
    have hal : a < s1.heap.objs.size := p'.lt
    refine kv_enum_begins (begins_tuple a its.toArray) p' fun h' he hit hsz hk => wpAny_pyIter_enum he ?_
    have I2 : Inv X pins σ H1 { s1 with heap := h' } := I1.kept (t' := s1.toks) hk
    refine ⟨s1.heap.objs.size + 1, [s1.heap.objs.size + 1, s1.heap.objs.size], _, _, H1, rfl, I2, turn_enumT a (s1.heap.objs.size + 1) s1.heap.objs.size, ⟨⟨.none, he⟩, ⟨_, hit, rfl, rfl⟩, Nat.succ_ne_self _, Nat.ne_of_lt hal, Nat.ne_of_lt (Nat.lt_succ_of_lt hal)⟩, fun b hb => ?_, q⟩
    have e' : b = s1.heap.objs.size + 1 ∨ b = s1.heap.objs.size := by simpa using hb
    have hle : s1.heap.objs.size ≤ b := by
      rcases e' with z | z
      · rw [z]; exact Nat.le_add_right _ _
      · rw [z]; exact Nat.le_refl _
    exact I1.fpOk hle (I1.hok.fresh hle)
end L2
/-! Targets; what is walked. -/
namespace Kv
open PySem L2

/-! ### names set -/
def setsS : St → List Nat → List V → St
  | σ, i :: is, v :: vs => setsS (σ.set i (some v)) is vs
  | σ, _, _ => σ
def setsE : Env → List Nat → List D → Env
  | ρ, i :: is, d :: ds => setsE (ρ.set i (.fz d)) is ds
  | ρ, _, _ => ρ
section
variable {t : CT} {H : Hp} {σ : St} {ρ : Env} {fr : List (V × OV)}
theorem prs_len (w : WS σ ρ) : (prs σ ρ).length = ρ.length := by
  unfold prs
  rw [List.length_zip, List.length_map, w.len, Nat.min_self]
theorem prs_set2 {i : Nat} {v : V} {o : OV} (w : WS σ ρ) : prs (σ.set i (some v)) (ρ.set i o) = (prs σ ρ).set i (v, o) := by
  apply List.ext_getElem?
  intro j
  unfold prs
  simp only [List.zip, List.getElem?_zipWith, List.map_set, Option.getD_some]
  by_cases hj : i = j
  · subst hj
    by_cases hi : i < ρ.length
    · have h2 : i < σ.length := by rw [w.len]; exact hi
      rw [List.getElem?_set_self (by simpa using h2), List.getElem?_set_self hi, List.getElem?_set_self (by simp; omega)]
    · have h2 : ¬ i < σ.length := by rw [w.len]; exact hi
      rw [List.getElem?_eq_none (by simp; omega), List.getElem?_eq_none (by simp; omega), List.getElem?_eq_none (by simp; omega)]
  · rw [List.getElem?_set_ne hj, List.getElem?_set_ne hj, List.getElem?_set_ne hj]
    simp only [List.getElem?_zipWith]
theorem WS.set2 {i : Nat} {v : V} {o : OV} (w : WS σ ρ) : WS (σ.set i (some v)) (ρ.set i o) := ⟨by simp [w.len], fun j p e n => by
  by_cases hj : i = j
  · subst hj
    have : i < ρ.length := by
      have := (List.getElem?_eq_some_iff.mp e).1
      simpa using this
    exact ⟨v, List.getElem?_set_self (by rw [w.len]; exact this)⟩
  · rw [List.getElem?_set_ne hj] at e ⊢
    exact w.has j p e n⟩
theorem live_set2 {i : Nat} {v : V} {o : OV} (w : WS σ ρ) (hi : i < ρ.length) (l : Live t H ((v, o) :: (prs σ ρ ++ fr))) : Live t H (prs (σ.set i (some v)) (ρ.set i o) ++ fr) := by
  rw [prs_set2 w]
  have hx : (prs σ ρ)[i]? = some ((prs σ ρ)[i]'(by rw [prs_len w]; exact hi)) := List.getElem?_eq_getElem _
  have l1 := l.perm (((perm_ix hx).append_right fr).cons _ |>.trans (.swap _ _ _))
  exact l1.tail.perm ((perm_set hx).symm.append_right fr)
theorem sets_ok : ∀ {is : List Nat} {vs : List V} {ds : List D} {σ : St} {ρ : Env}, WS σ ρ → (∀ i ∈ is, i < ρ.length) → vs.length = ds.length → vs.length = is.length → Live t H (zipF vs ds ++ (prs σ ρ ++ fr)) →
    WS (setsS σ is vs) (setsE ρ is ds) ∧ Live t H (prs (setsS σ is vs) (setsE ρ is ds) ++ fr) ∧ ∀ j, j ∉ is → (setsS σ is vs)[j]? = σ[j]?
  | [], vs, ds, σ, ρ, w, _, h1, h2, l => by
    have : vs = [] := List.eq_nil_of_length_eq_zero h2
    subst this
    have : ds = [] := List.eq_nil_of_length_eq_zero h1.symm
    subst this
    exact ⟨w, l, fun _ _ => rfl⟩
  | i :: is, [], _, _, _, _, _, _, h2, _ => by simp at h2
  | i :: is, v :: vs, [], _, _, _, _, h1, _, _ => by simp at h1
  | i :: is, v :: vs, d :: ds, σ, ρ, w, hb, h1, h2, l => by
    have l1 : Live t H ((v, .fz d) :: (prs σ ρ ++ (zipF vs ds ++ fr))) := by
      refine l.perm ?_
      rw [zipF_cons]
      refine .cons _ (show (zipF vs ds ++ (prs σ ρ ++ fr)).Perm (prs σ ρ ++ (zipF vs ds ++ fr)) from ?_)
      rw [← List.append_assoc, ← List.append_assoc]
      exact List.perm_append_comm.append_right _
    have l2 := live_set2 w (hb i List.mem_cons_self) l1
    have l3 : Live t H (zipF vs ds ++ (prs (σ.set i (some v)) (ρ.set i (.fz d)) ++ fr)) := by
      refine l2.perm ?_
      rw [← List.append_assoc, ← List.append_assoc]
      exact List.perm_append_comm.append_right _
    obtain ⟨a, b, c⟩ := sets_ok (is := is) (vs := vs) (ds := ds) (w.set2 (i := i) (v := v) (o := .fz d)) (fun j hj => by rw [List.length_set]; exact hb j (List.mem_cons_of_mem _ hj)) (by simpa using h1) (by simpa using h2) l3
    refine ⟨a, b, fun j hj => ?_⟩
    have := c j fun z => hj (List.mem_cons_of_mem _ z)
    rw [show setsS σ (i :: is) (v :: vs) = setsS (σ.set i (some v)) is vs from rfl, this]
    exact List.getElem?_set_ne fun e => hj (by rw [e]; exact List.mem_cons_self)
end

/-! ### targets -/
def TGt (κ : Kx) (is : List Nat) (g : D → Env → Option Env) : TG := fun v σ H Q => ∃ ρ fr d ρ', WS σ ρ ∧ Live κ.T H ((v, .fz d) :: (prs σ ρ ++ fr)) ∧ g d ρ = some ρ' ∧
  ∀ σ' H', WS σ' ρ' → (∀ j, j ∉ is → σ'[j]? = σ[j]?) → Live κ.T H' (prs σ' ρ' ++ fr) → Q σ' H'
structure SG (X : Cx) (κ : Kx) (tg : Expr) (is : List Nat) (g : D → Env → Option Env) : Prop where
  pg : PG X tg (TGt κ is g)
theorem _root_.L2.PG.imp {X : Cx} {e : Expr} {t t' : TG} (p : PG X e t) (h : ∀ v σ H Q, t' v σ H Q → t v σ H Q) : PG X e t' := ⟨fun pins s σ H v u Q I r q => p.run pins s σ H v u Q I r (h _ _ _ _ q)⟩
def tnm (i : Nat) : D → Env → Option Env := fun d ρ => if i < ρ.length then some (ρ.set i (.fz d)) else none
def ttp (is : List Nat) : D → Env → Option Env := fun d ρ => match d with
  | .tup ds => if ds.length = is.length ∧ (∀ i ∈ is, i < ρ.length) then some (setsE ρ is ds) else none
  | _ => none
section
variable {X : Cx} {κ : Kx} {pu p q r fl fl' fl2 : Bool} {e a b c tg : Expr} {pos ps apos : Pos} {es rest : List Expr}
theorem sg_name {i : Nat} (h : PG X tg (gName i)) : SG X κ tg [i] (tnm i) := ⟨h.imp fun v σ H Q ⟨ρ, fr, d, ρ', w, l, e, k⟩ => by
  unfold tnm at e
  split at e
  · rename_i hi
    cases e
    exact k _ _ w.set2 (fun j hj => by rw [List.getElem?_set_ne fun e => hj (by simp [e])]) (live_set2 w hi l)
  · cases e⟩
def gNames : List Nat → TGs
  | [] => gNil
  | i :: is => gCons (gName i) (gNames is)
theorem gNames_ok {σ' : St → Hp → Prop} : ∀ {is : List Nat} {vs : List V} {σ : St} {H : Hp}, vs.length = is.length → σ' (setsS σ is vs) H → gNames is vs σ H σ'
  | [], vs, σ, H, h, k => by
    have : vs = [] := List.eq_nil_of_length_eq_zero h
    subst this
    exact ⟨rfl, k⟩
  | i :: is, [], _, _, h, _ => by simp at h
  | i :: is, v :: vs, σ, H, h, k => ⟨v, vs, rfl, gNames_ok (by simpa using h) k⟩
theorem sg_tup {is : List Nat} {k : Nat} (h : PG X (.Tuple es k pos) (gTup X.K is.length (gNames is))) : SG X κ (.Tuple es k pos) is (ttp is) := ⟨h.imp fun v σ H Q ⟨ρ, fr, d, ρ', w, l, e, k⟩ => by
  unfold ttp at e
  split at e
  · split at e
    · rename_i ds hc
      cases e
      obtain ⟨a, vs, rfl, hl, hH, l2⟩ := l.ofTup
      have l3 : Live κ.T H (zipF vs ds ++ (prs σ ρ ++ fr)) := live_mid l2
      obtain ⟨s1, s2, s3⟩ := sets_ok (is := is) w hc.2 hl (hl.trans hc.1) l3
      exact ⟨a, vs, rfl, SqT.of hH, hl.trans hc.1, gNames_ok (hl.trans hc.1) (k _ _ s1 s3 s2)⟩
    · cases e
  · cases e⟩

/-! ### what is walked -/
structure ItOk (t : CT) (J : It) (L0 : List (V × OV)) (ds : List D) : Prop where
  go : ∀ (i : Nat) d H M, ds[i]? = some d → Live t H (L0 ++ M) → J.go i H ∧ ∀ x H', J.yld i H x H' → Live t H' ((x, .fz d) :: (L0 ++ M))
  stop : ∀ i H M, ds.length ≤ i → Live t H (L0 ++ M) → J.stop i H
def TIt (κ : Kx) (m : M (List D)) : TI := fun σ H R => ∃ ρ fr, WS σ ρ ∧ Live κ.T H (prs σ ρ ++ fr) ∧
  wp m ρ (fun ds ρ' => ∀ J L0 H', WS σ ρ' → ItOk κ.T J L0 ds → Live κ.T H' (L0 ++ (prs σ ρ' ++ fr)) → R J H') fun x ρ' => κ.xw x σ ρ' fr
structure SI (X : Cx) (κ : Kx) (tg it : Expr) (m : M (List D)) : Prop where
  pi : PI X tg it (TIt κ m)
theorem _root_.L2.PI.imp {X : Cx} {tg e : Expr} {t t' : TI} (p : PI X tg e t) (h : ∀ σ H Q, t' σ H Q → t σ H Q) : PI X tg e t' := ⟨fun pins s σ H Q I q => p.run pins s σ H Q I (h _ _ _ q)⟩
theorem _root_.L2.PI.at {X : Cx} {tg e : Expr} {t : TI} (h : ∀ σ H Q, t σ H Q → ∃ t', PI X tg e t' ∧ t' σ H Q) : PI X tg e t := ⟨fun pins s σ H Q I q => let ⟨_, p, q'⟩ := h σ H Q q; p.run pins s σ H Q I q'⟩
theorem sq_len {K : PySem.W.Frag} {H : Hp} {a : Addr} {vs : List V} (h : Rd H a (.lst vs)) : SqL K H a vs := Or.inl h
theorem zip_get {vs : List V} {ds : List D} {i : Nat} {v : V} {d : D} (h1 : vs[i]? = some v) (h2 : ds[i]? = some d) : (v, OV.fz d) ∈ zipF vs ds := by
  unfold zipF
  refine List.mem_map.mpr ⟨(v, d), List.mem_of_getElem? (i := i) ?_, rfl⟩
  rw [List.getElem?_zip_eq_some]
  exact ⟨h1, h2⟩
theorem live_pick {t : CT} {H : Hp} {vs : List V} {ds : List D} {L : List (V × OV)} {i : Nat} {v : V} {d : D} (h1 : vs[i]? = some v) (h2 : ds[i]? = some d) (l : Live t H (zipF vs ds ++ L)) : Live t H ((v, .fz d) :: L) := by
  have hm := zip_get h1 h2
  obtain ⟨A, B, e⟩ := List.append_of_mem hm
  rw [e] at l
  have l1 : Live t H ((v, .fz d) :: (A ++ B ++ L)) := l.perm (by have := List.perm_middle (a := (v, OV.fz d)) (l₁ := A) (l₂ := B ++ L); simpa using this)
  have l2 : Live t H (A ++ B ++ ((v, .fz d) :: L)) := l1.perm List.perm_middle.symm
  exact l2.drop
theorem it_lst {t : CT} {K : PySem.W.Frag} {a : Addr} {ds : List D} : ItOk t (Itl K a) [(.ref a, .fz (.lst ds))] ds where
  go := fun i d H M hd l => by
    obtain ⟨a', vs, e, hl, hH, l2⟩ := Live.ofLst l
    cases e
    obtain ⟨v, hv⟩ : ∃ v, vs[i]? = some v := ⟨vs[i]'(by rw [hl]; exact (List.getElem?_eq_some_iff.mp hd).1), List.getElem?_eq_getElem _⟩
    refine ⟨⟨vs, v, SqL.of hH, hv⟩, fun x H' y => ?_⟩
    obtain ⟨rfl, y⟩ := y
    have := y vs (SqL.of hH)
    exact live_pick this hd l2
  stop := fun i H M hi l => by
    obtain ⟨a', vs, e, hl, hH, l2⟩ := Live.ofLst l
    cases e
    exact ⟨vs, SqL.of hH, by omega⟩
theorem it_frl {t : CT} {a : Addr} {ds : List D} : ItOk t (Itl t.K a) [(.ref a, .fz (.frl ds))] ds where
  go := fun i d H M hd l => by
    obtain ⟨a', vs, e, hl, hH, l2⟩ := Live.ofFrl l
    cases e
    obtain ⟨v, hv⟩ : ∃ v, vs[i]? = some v := ⟨vs[i]'(by rw [hl]; exact (List.getElem?_eq_some_iff.mp hd).1), List.getElem?_eq_getElem _⟩
    refine ⟨⟨vs, v, hH, hv⟩, fun x H' y => ?_⟩
    obtain ⟨rfl, y⟩ := y
    have := y vs hH
    exact live_pick this hd l2
  stop := fun i H M hi l => by
    obtain ⟨a', vs, e, hl, hH, l2⟩ := Live.ofFrl l
    cases e
    exact ⟨vs, hH, by omega⟩
theorem it_tup {t : CT} {K : PySem.W.Frag} {a : Addr} {ds : List D} : ItOk t (Itt K a) [(.ref a, .fz (.tup ds))] ds where
  go := fun i d H M hd l => by
    obtain ⟨a', vs, e, hl, hH, l2⟩ := Live.ofTup l
    cases e
    obtain ⟨v, hv⟩ : ∃ v, vs[i]? = some v := ⟨vs[i]'(by rw [hl]; exact (List.getElem?_eq_some_iff.mp hd).1), List.getElem?_eq_getElem _⟩
    refine ⟨⟨vs, v, SqT.of hH, hv⟩, fun x H' y => ?_⟩
    obtain ⟨rfl, y⟩ := y
    have := y vs (SqT.of hH)
    exact live_pick this hd l2
  stop := fun i H M hi l => by
    obtain ⟨a', vs, e, hl, hH, l2⟩ := Live.ofTup l
    cases e
    exact ⟨vs, SqT.of hH, by omega⟩
def chars (z : Str) : List D := z.cps.toList.map fun c => .str ⟨#[c]⟩
theorem it_str {t : CT} {z : Str} : ItOk t (Its z) [] (chars z) where
  go := fun i d H M hd l => by
    unfold chars at hd
    rw [List.getElem?_map] at hd
    obtain ⟨c, hc, rfl⟩ := Option.map_eq_some_iff.mp hd
    have hi : i < z.cps.size := by
      have := (List.getElem?_eq_some_iff.mp hc).1
      simpa using this
    refine ⟨hi, fun x H' y => ?_⟩
    obtain ⟨rfl, c', hc', rfl⟩ := y
    have : c = c' := by
      rw [← Array.getElem?_toList, hc] at hc'
      exact Option.some.inj hc'
    subst this
    exact live_str l _
  stop := fun i H M hi l => by
    unfold chars at hi
    have : z.cps.size ≤ i := by simpa using hi
    exact this
theorem it_rng {t : CT} {lo : Int} {n : Nat} : ItOk t (Itr lo n) [] ((List.range n).map fun i => .int (lo + (i : Nat))) where
  go := fun i d H M hd l => by
    rw [List.getElem?_map] at hd
    obtain ⟨j, hj, rfl⟩ := Option.map_eq_some_iff.mp hd
    obtain ⟨hi, e⟩ := List.getElem?_eq_some_iff.mp hj
    have hi : i < n := by simpa using hi
    simp at e
    subst e
    refine ⟨hi, fun x H' y => ?_⟩
    obtain ⟨rfl, rfl⟩ := y
    exact live_int l _
  stop := fun i H M hi l => show n ≤ i by simpa using hi
/-- iter(e) of a list, a tuple, a text -/
def seqI : OV → Option (List D)
  | .fz (.str z) => some (chars z)
  | .fz (.frl xs) => some xs
  | o => seqD o.dat
def itM (m : M OV) : M (List D) := bnd m fun o => ofO (seqI o)
theorem T_det {m : M OV} {ρ : Env} {Q : List D → Env → Prop} {E : Ex → Env → Prop} (h : wp (itM m) ρ Q E) : (∃ o ρ' ds, m ρ = some (.ok o, ρ') ∧ seqI o = some ds ∧ Q ds ρ') ∨ ∃ x ρ', m ρ = some (.error x, ρ') ∧ E x ρ' := by
  unfold itM at h
  rw [wp_bnd] at h
  unfold wp at h
  cases e : m ρ with
  | none => rw [e] at h; exact h.elim
  | some p =>
    obtain ⟨r, ρ'⟩ := p
    rw [e] at h
    cases r with
    | error x => exact .inr ⟨x, ρ', rfl, h⟩
    | ok o =>
      simp only at h
      cases e2 : seqI o with
      | none => rw [e2] at h; exact h.elim
      | some ds => rw [e2] at h; exact .inl ⟨o, ρ', ds, rfl, e2, h⟩
theorem si_seq {m : M OV} (h : SE X κ p e m) (hK : κ.T.K = X.K := by rfl) : SI X κ tg e (itM m) := ⟨PI.at fun σ H R ⟨ρ, fr, w, l, hp⟩ => by
  rcases T_det hp with ⟨o, ρ', ds, e1, e2, k⟩ | ⟨x, ρ', e1, k⟩
  · have ev : ∀ Q : VK, (∀ v H', WS σ ρ' → Live κ.T H' ((v, .fz o.dat) :: (prs σ ρ' ++ fr)) → Q v H') → T κ p m σ H Q := fun Q hQ => ⟨ρ, fr, w, l, by
      unfold wp
      rw [e1]
      exact fun v H' w' s l' => hQ v H' w' l'.frz⟩
    have hseq : (∃ z, o.dat = .str z ∧ ds = chars z) ∨ o.dat = .frl ds ∨ seqD o.dat = some ds := by
      cases o with
      | fz d => cases d with
        | str z => cases e2; exact .inl ⟨z, rfl, rfl⟩
        | frl z => cases e2; exact .inr (.inl rfl)
        | _ => exact .inr (.inr e2)
      | _ => exact .inr (.inr e2)
    rcases hseq with ⟨z, hd, rfl⟩ | hd | hs
    · refine ⟨_, pi_str h.pe, ev _ fun v H' w' l' => ?_⟩
      rw [hd] at l'
      exact ⟨z, str_of (bor_mem l' List.mem_cons_self).rep, k _ [] H' w' it_str l'.tail⟩
    · refine ⟨_, pi_list h.pe, ev _ fun v H' w' l' => ?_⟩
      rw [hd] at l'
      obtain ⟨a, vs, rfl, hl, hH, _⟩ := l'.ofFrl
      rw [hK] at hH
      exact ⟨a, rfl, ⟨vs, hH⟩, k _ _ H' w' (hK ▸ it_frl) l'⟩
    · cases hd : o.dat with
      | lst xs =>
        rw [hd] at hs; cases hs
        refine ⟨_, pi_list h.pe, ev _ fun v H' w' l' => ?_⟩
        rw [hd] at l'
        obtain ⟨a, vs, rfl, hl, hH, _⟩ := l'.ofLst
        exact ⟨a, rfl, ⟨vs, SqL.of hH⟩, k _ _ H' w' it_lst l'⟩
      | tup xs =>
        rw [hd] at hs; cases hs
        refine ⟨_, pi_tup h.pe, ev _ fun v H' w' l' => ?_⟩
        rw [hd] at l'
        obtain ⟨a, vs, rfl, hl, hH, _⟩ := l'.ofTup
        exact ⟨a, rfl, ⟨vs, SqT.of hH⟩, k _ _ H' w' it_tup l'⟩
      | _ => rw [hd] at hs; cases hs
  · exact ⟨_, pi_list h.pe, ρ, fr, w, l, by unfold wp; rw [e1]; exact k⟩⟩
/-- range -/
def rngI (lo hi : Int) : Option (List D) := if -(2 ^ 62) ≤ lo ∧ lo < 2 ^ 62 ∧ -(2 ^ 62) ≤ hi ∧ hi < 2 ^ 62 then some ((List.range (hi - lo).toNat).map fun i => .int (lo + (i : Nat))) else none
def rng1M (m : M (List Opd)) : M (List D) := bnd m fun ods => bnd (pks ods) fun ds => match ds with
  | [.int n] => ofO (rngI 0 n)
  | _ => bad
def rng2M (m : M (List Opd)) : M (List D) := bnd m fun ods => bnd (pks ods) fun ds => match ds with
  | [.int a, .int b] => ofO (rngI a b)
  | _ => bad
theorem ints_ods {t : CT} {H : Hp} {L : List (V × OV)} {vs : List V} {ds : List D} (h1 : vs.length = ds.length) (h2 : ∀ (i : Nat) x d, vs[i]? = some x → ds[i]? = some d → Bor t H L x d) : Reps t H vs ds :=
  Reps.ofGet h1 fun i v d a b => (h2 i v d a b).rep
theorem live_ods {t : CT} {H : Hp} {vs : List V} {ods : List Opd} {L : List (V × OV)} (l : Live t H (odp vs ods ++ L)) : Live t H L := l.drop
theorem si_range1 {ms : M (List Opd)} (hg : Gl X "range") (hm : X.mg "range" = none) (ha : SA X κ p [a] ms) (hs : starEach [a] X.env = [(false, eval a X.env)] := by rfl) : SI X κ tg (.Call (.Name "range" ps) [a] [] pos) (rng1M ms) := ⟨(pi_range1 hg hm ha.pa hs).imp fun σ H R ⟨ρ, fr, w, l, hp⟩ => by
  unfold rng1M at hp
  rw [wp_bnd] at hp
  refine ⟨ρ, fr, w, l, wp_mono hp fun ods ρ1 hp vs H1 w1 s1 l1 od1 => ?_⟩
  rw [wp_bnd] at hp
  obtain ⟨ds, e1, hp⟩ := wp_ofO (o := peeks ρ1 ods) hp
  obtain ⟨h1, h2⟩ := bor_ods l1 w1 (fun z hz => List.mem_append_right _ (List.mem_append_left _ hz)) (fun z hz => List.mem_append_left _ hz) od1 e1
  split at hp
  · rename_i n
    obtain ⟨xs, e2, k⟩ := wp_ofO hp
    have rr := ints_ods h1 h2
    cases rr with
    | cons r1 rr =>
      cases rr
      cases int_of r1
      unfold rngI at e2
      split at e2
      · rename_i hc
        cases e2
        have e0 : (n - 0).toNat = n.toNat := by rw [Int.sub_zero]
        refine ⟨n, rfl, hc.2.2.1, hc.2.2.2, ?_⟩
        rw [e0] at k
        exact k (Itr 0 n.toNat) [] H1 w1 it_rng l1.drop
      · cases e2
  · exact hp.elim⟩
theorem si_range2 {ms : M (List Opd)} (hg : Gl X "range") (hm : X.mg "range" = none) (ha : SA X κ p [a, b] ms) (hs : starEach [a, b] X.env = [(false, eval a X.env), (false, eval b X.env)] := by rfl) (hs2 : starEach [b] X.env = [(false, eval b X.env)] := by rfl) : SI X κ tg (.Call (.Name "range" ps) [a, b] [] pos) (rng2M ms) := ⟨(pi_range2 hg hm ha.pa hs hs2).imp fun σ H R ⟨ρ, fr, w, l, hp⟩ => by
  unfold rng2M at hp
  rw [wp_bnd] at hp
  refine ⟨ρ, fr, w, l, wp_mono hp fun ods ρ1 hp vs H1 w1 s1 l1 od1 => ?_⟩
  rw [wp_bnd] at hp
  obtain ⟨ds, e1, hp⟩ := wp_ofO (o := peeks ρ1 ods) hp
  obtain ⟨h1, h2⟩ := bor_ods l1 w1 (fun z hz => List.mem_append_right _ (List.mem_append_left _ hz)) (fun z hz => List.mem_append_left _ hz) od1 e1
  split at hp
  · rename_i n m
    obtain ⟨xs, e2, k⟩ := wp_ofO hp
    have rr := ints_ods h1 h2
    cases rr with
    | cons r1 rr =>
      cases rr with
      | cons r2 rr =>
        cases rr
        cases int_of r1
        cases int_of r2
        unfold rngI at e2
        split at e2
        · rename_i hc
          cases e2
          exact ⟨n, m, rfl, hc, k (Itr n (m - n).toNat) [] H1 w1 it_rng l1.drop⟩
        · cases e2
  · exact hp.elim⟩
end
end Kv
/-! enumerate, zip, items; comprehensions. -/
namespace Kv
open PySem L2
section
variable {X : Cx} {κ : Kx} {pu p q r fl fl' fl2 : Bool} {e a b c tg : Expr} {pos ps apos : Pos} {es rest : List Expr}

/-! ### enumerate, zip: of frozen things -/
def enumL (ds : List D) : List D := (List.range ds.length).zipWith (fun i d => .tup [.int (i : Nat), d]) ds
theorem enumL_get {ds : List D} {i : Nat} {x : D} (h : (enumL ds)[i]? = some x) : ∃ d, ds[i]? = some d ∧ x = .tup [.int (i : Nat), d] := by
  unfold enumL at h
  rw [List.getElem?_zipWith] at h
  cases e1 : (List.range ds.length)[i]? with
  | none => rw [e1] at h; cases h
  | some j =>
    rw [e1] at h
    cases e2 : ds[i]? with
    | none => rw [e2] at h; cases h
    | some d =>
      rw [e2] at h
      cases h
      obtain ⟨_, ej⟩ := List.getElem?_eq_some_iff.mp e1
      simp at ej
      subst ej
      exact ⟨d, rfl, rfl⟩
theorem enumL_len (ds : List D) : (enumL ds).length = ds.length := by unfold enumL; simp
theorem live_pair {t : CT} {H : Hp} {L : List (V × OV)} {v w : V} {d d' : D} {T : Addr} (hT : H T = none) (l : Live t H ((v, .fz d) :: (w, .fz d') :: L)) : Live t (upd H T (.tup [v, w])) ((.ref T, .fz (.tup [d, d'])) :: L) :=
  Live.tup (vs := [v, w]) (ds := [d, d']) rfl l hT
theorem it_enum {t : CT} {K : PySem.W.Frag} {a : Addr} {ds : List D} : ItOk t (Ite K a) [(.ref a, .fz (.lst ds))] (enumL ds) where
  go := fun i x H M hd l => by
    obtain ⟨d, hd2, rfl⟩ := enumL_get hd
    obtain ⟨a', vs, e, hl, hH, l2⟩ := Live.ofLst l
    cases e
    obtain ⟨v, hv⟩ : ∃ v, vs[i]? = some v := ⟨vs[i]'(by rw [hl]; exact (List.getElem?_eq_some_iff.mp hd2).1), List.getElem?_eq_getElem _⟩
    refine ⟨⟨vs, v, SqL.of hH, hv⟩, fun x H' y => ?_⟩
    obtain ⟨T, u, rfl, hT, rfl, y⟩ := y
    have := y vs (SqL.of hH)
    exact live_pair hT (live_int (live_pick this hd2 l2) _)
  stop := fun i H M hi l => by
    rw [enumL_len] at hi
    obtain ⟨a', vs, e, hl, hH, l2⟩ := Live.ofLst l
    cases e
    exact ⟨vs, SqL.of hH, by omega⟩
theorem it_enumT {t : CT} {K : PySem.W.Frag} {a : Addr} {ds : List D} : ItOk t (IteT K a) [(.ref a, .fz (.tup ds))] (enumL ds) where
  go := fun i x H M hd l => by
    obtain ⟨d, hd2, rfl⟩ := enumL_get hd
    obtain ⟨a', vs, e, hl, hH, l2⟩ := Live.ofTup l
    cases e
    obtain ⟨v, hv⟩ : ∃ v, vs[i]? = some v := ⟨vs[i]'(by rw [hl]; exact (List.getElem?_eq_some_iff.mp hd2).1), List.getElem?_eq_getElem _⟩
    refine ⟨⟨vs, v, SqT.of hH, hv⟩, fun x H' y => ?_⟩
    obtain ⟨T, u, rfl, hT, rfl, y⟩ := y
    have := y vs (SqT.of hH)
    exact live_pair hT (live_int (live_pick this hd2 l2) _)
  stop := fun i H M hi l => by
    rw [enumL_len] at hi
    obtain ⟨a', vs, e, hl, hH, l2⟩ := Live.ofTup l
    cases e
    exact ⟨vs, SqT.of hH, by omega⟩
/-- the arguments of enumerate, zip: frozen values -/
def enumM (m : M (List D)) : M (List D) := bnd m fun ds => match ds with
  | [.lst xs] => ret (enumL xs)
  | [.tup xs] => ret (enumL xs)
  | _ => bad
theorem wp_det {α : Type} {m : M α} {ρ : Env} {Q : α → Env → Prop} {E : Ex → Env → Prop} (h : wp m ρ Q E) : (∃ o ρ', m ρ = some (.ok o, ρ') ∧ Q o ρ') ∨ ∃ x ρ', m ρ = some (.error x, ρ') ∧ E x ρ' := by
  unfold wp at h
  split at h
  · exact h.elim
  · rename_i e; exact .inl ⟨_, _, e, h⟩
  · rename_i e; exact .inr ⟨_, _, e, h⟩
theorem wp_at {α : Type} {m : M α} {ρ ρ' : Env} {o : α} (e : m ρ = some (.ok o, ρ')) {Q : α → Env → Prop} {E : Ex → Env → Prop} (h : Q o ρ') : wp m ρ Q E := by
  unfold wp; rw [e]; exact h
theorem wp_atE {α : Type} {m : M α} {ρ ρ' : Env} {x : Ex} (e : m ρ = some (.error x, ρ')) {Q : α → Env → Prop} {E : Ex → Env → Prop} (h : E x ρ') : wp m ρ Q E := by
  unfold wp; rw [e]; exact h
theorem si_enum {elts : List Expr} {kk : Nat} {tpos : Pos} {ms : M (List D)} (hg : Gl X "enumerate") (hm : X.mg "enumerate" = none) (ha : SD X κ p [a] ms) (hs : starEach [a] X.env = [(false, eval a X.env)] := by rfl) : SI X κ (.Tuple elts kk tpos) (.Call (.Name "enumerate" ps) [a] [] pos) (enumM ms) := ⟨PI.at fun σ H R ⟨ρ, fr, w, l, hp⟩ => by
  unfold enumM at hp
  rw [wp_bnd] at hp
  rcases wp_det hp with ⟨ds, ρ', e1, k⟩ | ⟨x, ρ', e1, k⟩
  · split at k
    · rename_i xs
      refine ⟨_, pi_enum hg hm ha.pa hs, ρ, fr, w, l, wp_at e1 fun vs H' w' s' hl l' => ?_⟩
      obtain ⟨v, rfl⟩ := len1 hl
      have l' : Live κ.T H' ((v, .fz (.lst xs)) :: (prs σ ρ' ++ fr)) := l'
      obtain ⟨ad, us, rfl, hl2, hH, _⟩ := l'.ofLst
      exact ⟨ad, us, rfl, SqL.of hH, k _ _ H' w' it_enum l'⟩
    · rename_i xs
      refine ⟨_, pi_enumT hg hm ha.pa hs, ρ, fr, w, l, wp_at e1 fun vs H' w' s' hl l' => ?_⟩
      obtain ⟨v, rfl⟩ := len1 hl
      have l' : Live κ.T H' ((v, .fz (.tup xs)) :: (prs σ ρ' ++ fr)) := l'
      obtain ⟨ad, us, rfl, hl2, hH, _⟩ := l'.ofTup
      exact ⟨ad, us, rfl, SqT.of hH, k _ _ H' w' it_enumT l'⟩
    · exact k.elim
  · exact ⟨_, pi_enum hg hm ha.pa hs, ρ, fr, w, l, wp_atE e1 k⟩⟩
def zipL (xs ys : List D) : List D := List.zipWith (fun d e => .tup [d, e]) xs ys
theorem zipL_get {xs ys : List D} {i : Nat} {x : D} (h : (zipL xs ys)[i]? = some x) : ∃ d e, xs[i]? = some d ∧ ys[i]? = some e ∧ x = .tup [d, e] := by
  unfold zipL at h
  rw [List.getElem?_zipWith] at h
  cases e1 : xs[i]? with
  | none => rw [e1] at h; cases h
  | some d => cases e2 : ys[i]? with
    | none => rw [e1, e2] at h; cases h
    | some e => rw [e1, e2] at h; cases h; exact ⟨d, e, rfl, rfl, rfl⟩
theorem zipL_len (xs ys : List D) : (zipL xs ys).length = min xs.length ys.length := by unfold zipL; simp
theorem live_pick2 {t : CT} {H : Hp} {vs : List V} {ds : List D} {L : List (V × OV)} {i : Nat} {v : V} {d : D} (h1 : vs[i]? = some v) (h2 : ds[i]? = some d) (l : Live t H (zipF vs ds ++ L)) : Live t H ((v, .fz d) :: L) := live_pick h1 h2 l
theorem it_zip {t : CT} {K : PySem.W.Frag} {a b : Addr} {xs ys : List D} : ItOk t (Itz K a b) [(.ref a, .fz (.lst xs)), (.ref b, .fz (.lst ys))] (zipL xs ys) where
  go := fun i x H M hd l => by
    obtain ⟨d, e, hd2, he, rfl⟩ := zipL_get hd
    obtain ⟨a', vs, ea, hl, hH, l2⟩ := Live.ofLst l
    cases ea
    obtain ⟨b', ws, eb, hl', hH', l3⟩ := Live.ofLst (l.perm (.swap _ _ _))
    cases eb
    obtain ⟨v, hv⟩ : ∃ v, vs[i]? = some v := ⟨vs[i]'(by rw [hl]; exact (List.getElem?_eq_some_iff.mp hd2).1), List.getElem?_eq_getElem _⟩
    obtain ⟨u, hu⟩ : ∃ v, ws[i]? = some v := ⟨ws[i]'(by rw [hl']; exact (List.getElem?_eq_some_iff.mp he).1), List.getElem?_eq_getElem _⟩
    refine ⟨⟨vs, ws, v, u, SqL.of hH, SqL.of hH', hv, hu⟩, fun x H' y => ?_⟩
    obtain ⟨T, v', u', rfl, hT, rfl, y1, y2⟩ := y
    have e1 := y1 vs (SqL.of hH)
    have e2 := y2 ws (SqL.of hH')
    have p1 := live_pick e1 hd2 l2
    -- the second one: again, behind the first
    have p2 : Live t H ((V.ref b, .fz (.lst ys)) :: (v', .fz d) :: (V.ref a, .fz (.lst xs)) :: M) := p1.perm (by
      refine (List.Perm.cons _ (List.Perm.swap _ _ _)).trans (.swap _ _ _))
    obtain ⟨b2, ws2, eb2, hl2, hH2, l4⟩ := Live.ofLst p2
    cases eb2
    rw [hH'] at hH2
    cases hH2
    have p3 := live_pick e2 he l4
    refine live_pair hT (p3.perm ?_)
    exact ((List.Perm.swap _ _ _).cons _).trans ((List.Perm.swap _ _ _).trans (.cons _ (.cons _ (.swap _ _ _))))
  stop := fun i H M hi l => by
    rw [zipL_len] at hi
    obtain ⟨a', vs, ea, hl, hH, l2⟩ := Live.ofLst l
    cases ea
    obtain ⟨b', ws, eb, hl', hH', l3⟩ := Live.ofLst (l.perm (.swap _ _ _))
    cases eb
    exact ⟨vs, ws, SqL.of hH, SqL.of hH', by omega⟩
def zipM (m : M (List D)) : M (List D) := bnd m fun ds => match ds with
  | [.lst xs, .lst ys] => ret (zipL xs ys)
  | _ => bad
theorem si_zip {elts : List Expr} {kk : Nat} {tpos : Pos} {ms : M (List D)} (hg : Gl X "zip") (hm : X.mg "zip" = none) (ha : SD X κ p [a, b] ms) (hs : starEach [a, b] X.env = (false, eval a X.env) :: starEach [b] X.env := by rfl) (hpl : (backTo pos (starEach [b] X.env)).any (·.1) = false := by rfl) : SI X κ (.Tuple elts kk tpos) (.Call (.Name "zip" ps) [a, b] [] pos) (zipM ms) := ⟨(pi_zip hg hm ha.pa hs hpl).imp fun σ H R ⟨ρ, fr, w, l, hp⟩ => by
  unfold zipM at hp
  rw [wp_bnd] at hp
  refine ⟨ρ, fr, w, l, wp_mono hp fun ds ρ' k vs H' w' s' hl l' => ?_⟩
  split at k
  · rename_i xs ys
    obtain ⟨v, u, rfl⟩ := len2 hl
    have l' : Live κ.T H' ((v, .fz (.lst xs)) :: (u, .fz (.lst ys)) :: (prs σ ρ' ++ fr)) := l'
    obtain ⟨a1, us, rfl, hl2, hH, _⟩ := l'.ofLst
    obtain ⟨a2, us2, rfl, hl3, hH2, _⟩ := (l'.perm (.swap _ _ _)).ofLst
    exact ⟨a1, a2, us, us2, rfl, SqL.of hH, SqL.of hH2, k _ _ H' w' it_zip l'⟩
  · exact k.elim⟩

/-! ### list comprehensions -/
def wipeE (ρ : Env) : List Nat → Env
  | [] => ρ
  | v :: vs => (wipeE ρ vs).set v .no
theorem wipe_ws {t : CT} {H : Hp} {σ : St} {ρ : Env} {fr : List (V × OV)} (w : WS σ ρ) (l : Live t H (prs σ ρ ++ fr)) : ∀ vs : List Nat, WS (wipe σ vs) (wipeE ρ vs) ∧ Live t H (prs (wipe σ vs) (wipeE ρ vs) ++ fr)
  | [] => ⟨w, l⟩
  | v :: vs => by
    obtain ⟨w1, l1⟩ := wipe_ws w l vs
    have hl : (prs ((wipe σ vs).set v none) ((wipeE ρ vs).set v .no)) = (prs (wipe σ vs) (wipeE ρ vs)).set v (V.non, OV.no) := by
      apply List.ext_getElem?
      intro j
      unfold prs
      simp only [List.zip, List.getElem?_zipWith, List.map_set, Option.getD_none]
      by_cases hj : v = j
      · subst hj
        by_cases hi : v < (wipeE ρ vs).length
        · have h2 : v < (wipe σ vs).length := by rw [w1.len]; exact hi
          rw [List.getElem?_set_self (by simpa using h2), List.getElem?_set_self hi, List.getElem?_set_self (by simp; omega)]
        · have h2 : ¬ v < (wipe σ vs).length := by rw [w1.len]; exact hi
          rw [List.getElem?_eq_none (by simp; omega), List.getElem?_eq_none (by simp; omega), List.getElem?_eq_none (by simp; omega)]
      · rw [List.getElem?_set_ne hj, List.getElem?_set_ne hj, List.getElem?_set_ne hj]
        simp only [List.getElem?_zipWith]
    refine ⟨⟨?_, fun j o e n => ?_⟩, ?_⟩
    · show ((wipe σ vs).set v none).length = ((wipeE ρ vs).set v .no).length
      rw [List.length_set, List.length_set]; exact w1.len
    · have e : ((wipeE ρ vs).set v .no)[j]? = some o := e
      show ∃ u, ((wipe σ vs).set v none)[j]? = some (some u)
      by_cases hj : v = j
      · subst hj
        have hlt : v < (wipeE ρ vs).length := by have := (List.getElem?_eq_some_iff.mp e).1; simpa using this
        rw [List.getElem?_set_self hlt] at e
        cases e
        cases n
      · rw [List.getElem?_set_ne hj] at e ⊢
        exact w1.has j o e n
    · show Live t H (prs ((wipe σ vs).set v none) ((wipeE ρ vs).set v .no) ++ fr)
      rw [hl]
      by_cases hi : v < (wipeE ρ vs).length
      · have hx : (prs (wipe σ vs) (wipeE ρ vs))[v]? = some ((prs (wipe σ vs) (wipeE ρ vs))[v]'(by rw [prs_len w1]; exact hi)) := List.getElem?_eq_getElem _
        have l2 := (l1.perm ((perm_ix hx).append_right fr)).tail.no V.non
        exact l2.perm ((perm_set hx).symm.append_right fr)
      · rw [List.set_eq_of_length_le (by rw [prs_len w1]; omega)]
        exact l1
/-- the loop of a comprehension: the items, what is made so far -/
def cloop (vs : List Nat) (g : D → Env → Option Env) (c : M Bool) (e : M OV) : List D → List D → M (List D)
  | [], acc => ret acc
  | d :: ds, acc => fun ρ => match g d (wipeE ρ vs) with
    | none => none
    | some ρ1 => (bnd c fun k => match k with
      | true => bnd e fun o => bnd (ofO (froz o)) fun x => cloop vs g c e ds (acc ++ [x])
      | false => cloop vs g c e ds acc) ρ1
def unwipe (vs : List Nat) {α : Type} (m : M α) : M α := fun ρ => match m ρ with
  | some (r, ρ') => some (r, wipeE ρ' vs)
  | none => none
def compM (vs : List Nat) (it : M (List D)) (g : D → Env → Option Env) (c : M Bool) (e : M OV) : M OV := bnd it fun ds => if ds.length ≤ 100000 then bnd (unwipe vs (noex (cloop vs g c e ds []))) fun xs => ret (.ol xs) else bad
structure STs (X : Cx) (κ : Kx) (ifs : List Expr) (m : M Bool) : Prop where
  pt : PTs X ifs (TB κ false m)
theorem _root_.L2.PTs.imp {X : Cx} {es : List Expr} {t t' : TT} (p : PTs X es t) (h : ∀ σ H Q, t' σ H Q → t σ H Q) : PTs X es t' := ⟨fun pins s σ H Q I q => p.run pins s σ H Q I (h _ _ _ q)⟩
theorem st_nil : STs X κ [] (ret true) := ⟨pts_nil.imp fun σ H Q ⟨ρ, fr, w, l, hp⟩ => hp H w (fun h => nomatch h) l⟩
theorem st_one {m : M Bool} (h : SB X κ p c m) : STs X κ [c] m := ⟨pts_one (h.pt.imp fun σ H Q ⟨ρ, fr, w, l, hp⟩ => ⟨ρ, fr, w, l, wp_mono hp fun b ρ' k H' a b c => k H' a (fun h => nomatch h) c⟩)⟩
theorem wipe_eq {σ σ2 : St} {vs : List Nat} (hl : σ2.length = σ.length) (h : ∀ j, j ∉ vs → σ2[j]? = (wipe σ vs)[j]?) : wipe σ2 vs = wipe σ vs := by
  have wi : ∀ (σ : St) (vs : List Nat) (i : Nat), i ∈ vs → i < σ.length → (wipe σ vs)[i]? = some none := fun σ vs i hi hlt => by
    induction vs with
    | nil => cases hi
    | cons v vs ih =>
      show ((wipe σ vs).set v none)[i]? = some none
      by_cases e : v = i
      · subst e
        rw [List.getElem?_set_self (by rw [wipe_length]; exact hlt)]
      · rw [List.getElem?_set_ne e]
        exact ih ((List.mem_cons.mp hi).resolve_left fun z => e z.symm)
  apply List.ext_getElem?
  intro i
  by_cases hi : i ∈ vs
  · by_cases hlt : i < σ.length
    · rw [wi σ2 vs i hi (by rw [hl]; exact hlt), wi σ vs i hi hlt]
    · rw [List.getElem?_eq_none (by rw [wipe_length]; omega), List.getElem?_eq_none (by rw [wipe_length]; omega)]
  · rw [wipe_out hi, h i hi]
theorem prs_no {t : CT} {H : Hp} : ∀ {σ1 σ2 : St} {ρ : Env} {fr : List (V × OV)}, σ1.length = σ2.length → (∀ j : Nat, σ1[j]? = σ2[j]? ∨ ρ[j]? = some OV.no) → Live t H (prs σ1 ρ ++ fr) → Live t H (prs σ2 ρ ++ fr)
  | [], [], ρ, fr, _, _, l => l
  | [], _ :: _, _, _, h, _, _ => by simp at h
  | _ :: _, [], _, _, h, _, _ => by simp at h
  | a :: σ1, b :: σ2, [], fr, _, _, l => by simpa [prs] using l
  | a :: σ1, b :: σ2, o :: ρ, fr, hl, h, l => by
    have l1 : Live t H ((a.getD .non, o) :: (prs σ1 ρ ++ fr)) := l
    have l2 : Live t H ((b.getD .non, o) :: (prs σ1 ρ ++ fr)) := by
      rcases h 0 with e | e
      · have : a = b := by simpa using e
        rw [← this]; exact l1
      · have : o = .no := by simpa using e
        subst this
        exact l1.tail.no _
    have l3 : Live t H (prs σ1 ρ ++ ((b.getD .non, o) :: fr)) := l2.perm List.perm_middle.symm
    have l4 := prs_no (by simpa using hl) (fun j => by have := h (j + 1); simpa using this) l3
    exact l4.perm List.perm_middle
theorem wipeE_len (ρ : Env) : ∀ vs : List Nat, (wipeE ρ vs).length = ρ.length
  | [] => rfl
  | v :: vs => by show ((wipeE ρ vs).set v .no).length = _; rw [List.length_set]; exact wipeE_len ρ vs
theorem wipeE_in {ρ : Env} {j : Nat} (hlt : j < ρ.length) : ∀ {vs : List Nat}, j ∈ vs → (wipeE ρ vs)[j]? = some .no
  | v :: vs, hj => by
    show ((wipeE ρ vs).set v .no)[j]? = _
    by_cases e : v = j
    · subst e; rw [List.getElem?_set_self (by rw [wipeE_len]; exact hlt)]
    · rw [List.getElem?_set_ne e]
      exact wipeE_in hlt ((List.mem_cons.mp hj).resolve_left fun z => e z.symm)
theorem unwipe_ws {t : CT} {H : Hp} {σ : St} {ρ : Env} {vs : List Nat} {fr : List (V × OV)} (w : WS (wipe σ vs) (wipeE ρ vs)) (l : Live t H (prs (wipe σ vs) (wipeE ρ vs) ++ fr)) : WS σ (wipeE ρ vs) ∧ Live t H (prs σ (wipeE ρ vs) ++ fr) := by
  have hl : σ.length = ρ.length := by
    have := w.len
    rwa [wipe_length, wipeE_len] at this
  refine ⟨⟨by rw [wipeE_len]; exact hl, fun j o e n => ?_⟩, prs_no (wipe_length _ _) (fun j => ?_) l⟩
  · by_cases hj : j ∈ vs
    · have hlt : j < ρ.length := by
        have := (List.getElem?_eq_some_iff.mp e).1
        rwa [wipeE_len] at this
      rw [wipeE_in hlt hj] at e
      cases e
      cases n
    · obtain ⟨v, hv⟩ := w.has j o e n
      rw [wipe_out hj] at hv
      exact ⟨v, hv⟩
  · by_cases hj : j ∈ vs
    · by_cases hlt : j < ρ.length
      · exact .inr (wipeE_in hlt hj)
      · refine .inl ?_
        rw [List.getElem?_eq_none (by rw [wipe_length]; omega), List.getElem?_eq_none (by omega)]
    · exact .inl (wipe_out hj)
theorem froz_some {o : OV} {d : D} (h : froz o = some d) : d = o.dat := by
  unfold froz at h
  split at h
  · cases h
  · exact (Option.some.inj h).symm
theorem Live.app {t : CT} {H : Hp} {a : Addr} {y : V} {d : D} {acc : List D} {L : List (V × OV)} (l : Live t H ((y, .fz d) :: (.ref a, .ol acc) :: L)) : ∃ vs, H a = some (.lst vs) ∧ vs.length = acc.length ∧ Live t (upd H a (.lst (vs ++ [y]))) ((.ref a, .ol (acc ++ [d])) :: L) := by
  obtain ⟨a', vs, e, hl, hH, l2⟩ := (l.perm (.swap _ _ _)).ofOl
  cases e
  refine ⟨vs, hH, hl, Live.setOl (ds := acc) (by simp [hl]) ?_⟩
  have e : zipF (vs ++ [y]) (acc ++ [d]) = zipF vs acc ++ [(y, .fz d)] := by unfold zipF; rw [List.zip_append hl, List.map_append]; rfl
  rw [e, List.append_assoc]
  exact l2.perm ((List.Perm.swap _ _ _).append_left _)
/-- where a comprehension's loop stands before its turn i -/
def clW (κ : Kx) (σ : St) (vs : List Nat) (g : D → Env → Option Env) (c : M Bool) (e : M OV) (Da : Addr) (L0 fr : List (V × OV)) (ds : List D) (B : Nat) (Kf : List D → Env → Prop) (i m : Nat) (H : Hp) : Prop :=
  i + m = ds.length ∧ ∃ ρ acc, WS (wipe σ vs) (wipeE ρ vs) ∧ acc.length ≤ B + i ∧ Live κ.T H (prs (wipe σ vs) (wipeE ρ vs) ++ ((.ref Da, .ol acc) :: (L0 ++ fr))) ∧ wp (cloop vs g c e (ds.drop i) acc) ρ Kf (fun _ _ => False)
theorem swapA {α : Type} (A B C : List α) : (A ++ (B ++ C)).Perm (B ++ (A ++ C)) := by
  rw [← List.append_assoc, ← List.append_assoc]
  exact List.perm_append_comm.append_right _
theorem swapB {α : Type} {x : α} (A B C : List α) : (A ++ (x :: (B ++ C))).Perm (B ++ (A ++ (x :: C))) :=
  (List.Perm.append_left _ List.perm_middle.symm).trans (swapA _ _ _)
theorem cl_turn {κ : Kx} {pc pe : Bool} {vs is : List Nat} {g : D → Env → Option Env} {c : M Bool} {e : M OV} {Da : Addr} {L0 fr : List (V × OV)} {ds : List D} {B : Nat} {Kf : List D → Env → Prop} {σ : St} {J : It} (g_len : ∀ {d ρ ρ'}, g d ρ = some ρ' → ρ.length = ρ'.length) (his : ∀ i ∈ is, i ∈ vs)
    (ok : ItOk κ.T J L0 ds) (hB : B + ds.length < sizeLine) (i m : Nat) (H1 : Hp) (hW : clW κ σ vs g c e Da L0 fr ds B Kf i m H1) :
    (J.stop i H1 ∧ ∃ ρ acc, WS (wipe σ vs) (wipeE ρ vs) ∧ acc.length ≤ B + ds.length ∧ Live κ.T H1 (prs (wipe σ vs) (wipeE ρ vs) ++ ((.ref Da, .ol acc) :: (L0 ++ fr))) ∧ Kf acc ρ) ∨
    (J.go i H1 ∧ ∃ Nx : Hp → Prop, (∀ H', Nx H' → ∃ m', m' < m ∧ clW κ σ vs g c e Da L0 fr ds B Kf (i + 1) m' H') ∧ ∀ x H', J.yld i H1 x H' → TGt κ.nx is g x (wipe σ vs) H' fun σ2 H2 => wipe σ2 vs = wipe σ vs ∧ TB κ.nx pc c σ2 H2 fun b H3 =>
      if b = true then T κ.nx pe e σ2 H3 fun y H4 => ∃ acc, H4 Da = some (.lst acc) ∧ acc.length < sizeLine ∧ Nx (upd H4 Da (.lst (acc ++ [y]))) else Nx H3) := by
  obtain ⟨em, ρ1, acc, w1, ha, l1, hp1⟩ := hW
  by_cases hi : ds.length ≤ i
  · left
    rw [List.drop_eq_nil_of_le hi] at hp1
    have l2 : Live κ.T H1 (L0 ++ (prs (wipe σ vs) (wipeE ρ1 vs) ++ ((.ref Da, .ol acc) :: fr))) := l1.perm (swapB _ _ _)
    exact ⟨ok.stop i H1 _ hi l2, ρ1, acc, w1, by omega, l1, hp1⟩
  · right
    have hi : i < ds.length := Nat.lt_of_not_le hi
    have hd : ds[i]? = some ds[i] := List.getElem?_eq_getElem hi
    rw [List.drop_eq_getElem_cons hi] at hp1
    have l2 : Live κ.T H1 (L0 ++ (prs (wipe σ vs) (wipeE ρ1 vs) ++ ((.ref Da, .ol acc) :: fr))) := l1.perm (swapB _ _ _)
    obtain ⟨go, yld⟩ := ok.go i _ H1 _ hd l2
    refine ⟨go, fun H' => ∃ m', m' < m ∧ clW κ σ vs g c e Da L0 fr ds B Kf (i + 1) m' H', fun H' h => h, fun x H2 y => ?_⟩
    have l3 := yld x H2 y
    unfold wp cloop at hp1
    cases eg : g ds[i] (wipeE ρ1 vs) with
    | none => rw [eg] at hp1; exact hp1.elim
    | some ρ2 =>
      rw [eg] at hp1
      have hp2 : wp (bnd c fun k => match k with
        | true => bnd e fun o => bnd (ofO (froz o)) fun x => cloop vs g c e (ds.drop (i + 1)) (acc ++ [x])
        | false => cloop vs g c e (ds.drop (i + 1)) acc) ρ2 Kf (fun _ _ => False) := hp1
      clear hp1
      refine ⟨wipeE ρ1 vs, (.ref Da, .ol acc) :: (L0 ++ fr), ds[i], ρ2, w1, l3.perm ?_, eg, fun σ2 H3 w2 fr2 l4 => ?_⟩
      · refine List.Perm.cons _ ?_
        exact (swapA _ _ _).trans (List.Perm.append_left _ List.perm_middle)
      · have hsl : σ2.length = σ.length := by rw [w2.len, ← g_len eg, ← w1.len, wipe_length]
        have ew : wipe σ2 vs = wipe σ vs := wipe_eq hsl fun j hj => fr2 j fun z => hj (his j z)
        refine ⟨ew, ρ2, _, w2, l4, ?_⟩
        rw [wp_bnd] at hp2
        refine wp_mono hp2 fun b ρ3 hp3 H4 w3 _ l5 => ?_
        have next : ∀ {ρ4 : Env} {acc' : List D} {H5 : Hp}, WS σ2 ρ4 → acc'.length ≤ B + (i + 1) → Live κ.T H5 (prs σ2 ρ4 ++ ((.ref Da, .ol acc') :: (L0 ++ fr))) →
            wp (cloop vs g c e (ds.drop (i + 1)) acc') ρ4 Kf (fun _ _ => False) → ∃ m', m' < m ∧ clW κ σ vs g c e Da L0 fr ds B Kf (i + 1) m' H5 := fun {ρ4} {acc'} {H5} w4 h4 l6 h6 => by
          obtain ⟨w5, l7⟩ := wipe_ws w4 l6 vs
          rw [ew] at w5 l7
          exact ⟨m - 1, by omega, by omega, ρ4, acc', w5, h4, l7, h6⟩
        cases b with
        | false => exact next w3 (by omega) l5 hp3
        | true =>
          have hp3 : wp (bnd e fun o => bnd (ofO (froz o)) fun x => cloop vs g c e (ds.drop (i + 1)) (acc ++ [x])) ρ3 _ _ := hp3
          rw [wp_bnd] at hp3
          refine ⟨ρ3, _, w3, l5, wp_mono hp3 fun o ρ4 hp4 v H5 w4 _ l6 => ?_⟩
          rw [wp_bnd] at hp4
          obtain ⟨d, ed, hp4⟩ := wp_ofO hp4
          cases froz_some ed
          have l7 : Live κ.T H5 ((v, .fz o.dat) :: (.ref Da, .ol acc) :: (prs σ2 ρ4 ++ (L0 ++ fr))) := l6.frz.perm (.cons _ List.perm_middle)
          obtain ⟨us, hu, hul, l8⟩ := Live.app l7
          exact ⟨us, hu, by omega, next w4 (by simp; omega) (l8.perm List.perm_middle.symm) hp4⟩
theorem wp_unw {vs : List Nat} {α : Type} {m : M α} {ρ : Env} {Q : α → Env → Prop} {E : Ex → Env → Prop} (hp : wp (unwipe vs (noex m)) ρ Q E) : wp m ρ (fun xs ρ' => Q xs (wipeE ρ' vs)) (fun _ _ => False) := by
  unfold wp unwipe noex at hp
  unfold wp
  cases e1 : m ρ with
  | none => rw [e1] at hp; exact hp
  | some x =>
    obtain ⟨r, ρ'⟩ := x
    rw [e1] at hp
    cases r with
    | error x => exact hp
    | ok xs => exact hp
theorem wp_unw2 {vs : List Nat} {α : Type} {m : M α} {ρ : Env} {Q : α → Env → Prop} (hp : wp (unwipe vs m) ρ Q (fun _ _ => False)) : wp m ρ (fun xs ρ' => Q xs (wipeE ρ' vs)) (fun _ _ => False) := by
  unfold wp unwipe at hp
  unfold wp
  cases e1 : m ρ with
  | none => rw [e1] at hp; exact hp
  | some x =>
    obtain ⟨r, ρ'⟩ := x
    rw [e1] at hp
    cases r <;> exact hp
theorem lc_sound {vs is : List Nat} {it : M (List D)} {g : D → Env → Option Env} {c : M Bool} {e : M OV} {pc pe : Bool} (g_len : ∀ {d ρ ρ'}, g d ρ = some ρ' → ρ.length = ρ'.length) (his : ∀ i ∈ is, i ∈ vs) {σ : St} {H : Hp} {Q : VK} (hq : T κ false (compM vs it g c e) σ H Q) :
    tLc (TIt κ it) (TGt κ.nx is g) (TB κ.nx pc c) (T κ.nx pe e) vs σ H Q := by
  obtain ⟨ρ, fr, w, l, hp⟩ := hq
  unfold compM at hp
  rw [wp_bnd] at hp
  refine ⟨ρ, fr, w, l, wp_mono hp fun ds ρ0 hp J L0 H0 w0 ok l0 => fun Da hD => ?_⟩
  split at hp
  · rename_i hz
    rw [wp_bnd] at hp
    have hp := wp_unw hp
    have len_ok : 0 + ds.length < sizeLine := by rw [Nat.zero_add]; exact Nat.lt_of_le_of_lt hz (by decide)
    obtain ⟨w0', l0'⟩ := wipe_ws w0 (l0.perm (swapA _ _ _)) vs
    refine ⟨clW κ σ vs g c e Da L0 fr ds 0 _, ⟨ds.length, by omega, ρ0, [], w0', Nat.zero_le _, ?_, hp⟩, fun i m H1 hW => ?_⟩
    · exact (Live.lst (vs := []) (ds := []) rfl l0' hD).perm List.perm_middle.symm
    · rcases cl_turn (pc := pc) (pe := pe) g_len his ok len_ok i m H1 hW with ⟨h1, ρ', acc, w1, _, l1, k⟩ | ⟨h1, Nx, h2, h3⟩
      · have l2 : Live κ.T H1 (L0 ++ (prs (wipe σ vs) (wipeE ρ' vs) ++ ((.ref Da, .ol acc) :: fr))) := l1.perm (swapB _ _ _)
        obtain ⟨w2, l3⟩ := unwipe_ws w1 l2.drop
        exact .inl ⟨h1, k _ _ w2 (fun h => nomatch h) (l3.perm List.perm_middle)⟩
      · exact .inr ⟨h1, Nx, h2, h3⟩
  · exact hp.elim

/-! two clauses -/
def cloop2 (vs vs1 : List Nat) (g : D → Env → Option Env) (c : M Bool) (it1 : M (List D)) (g1 : D → Env → Option Env) (c1 : M Bool) (e : M OV) : List D → List D → M (List D)
  | [], acc => ret acc
  | d :: ds, acc => fun ρ => match g d (wipeE ρ vs) with
    | none => none
    | some ρ1 => (bnd c fun k => match k with
      | true => bnd it1 fun ds1 => if ds1.length ≤ 1000 then bnd (unwipe vs1 (cloop vs1 g1 c1 e ds1 acc)) fun acc' => cloop2 vs vs1 g c it1 g1 c1 e ds acc' else bad
      | false => cloop2 vs vs1 g c it1 g1 c1 e ds acc) ρ1
def comp2M (vs vs1 : List Nat) (it : M (List D)) (g : D → Env → Option Env) (c : M Bool) (it1 : M (List D)) (g1 : D → Env → Option Env) (c1 : M Bool) (e : M OV) : M OV :=
  bnd it fun ds => if ds.length ≤ 10000 then bnd (unwipe vs (noex (cloop2 vs vs1 g c it1 g1 c1 e ds []))) fun xs => ret (.ol xs) else bad
theorem wipe_wipe {σ σ' : St} {vs vs1 : List Nat} (hv : ∀ i ∈ vs1, i ∈ vs) (h : wipe σ' vs = wipe σ vs) : wipe (wipe σ' vs1) vs = wipe σ vs := by
  rw [← h]
  refine wipe_eq (wipe_length _ _) fun j hj => ?_
  rw [wipe_out fun z => hj (hv j z), wipe_out hj]
theorem lc2_sound {vs vs1 is is1 : List Nat} {it it1 : M (List D)} {g g1 : D → Env → Option Env} {c c1 : M Bool} {e : M OV} {pc pc1 pe : Bool} (g_len : ∀ {d ρ ρ'}, g d ρ = some ρ' → ρ.length = ρ'.length) (g_len1 : ∀ {d ρ ρ'}, g1 d ρ = some ρ' → ρ.length = ρ'.length)
    (his : ∀ i ∈ is, i ∈ vs) (his1 : ∀ i ∈ is1, i ∈ vs1) (hv : ∀ i ∈ vs1, i ∈ vs) {σ : St} {H : Hp} {Q : VK} (hq : T κ false (comp2M vs vs1 it g c it1 g1 c1 e) σ H Q) :
    tLc2 (TIt κ it) (TGt κ.nx is g) (TB κ.nx pc c) (TIt κ.nx it1) (TGt κ.nx is1 g1) (TB κ.nx pc1 c1) (T κ.nx pe e) vs vs1 σ H Q := by
  obtain ⟨ρ, fr, w, l, hp⟩ := hq
  unfold comp2M at hp
  rw [wp_bnd] at hp
  refine ⟨ρ, fr, w, l, wp_mono hp fun ds ρ0 hp J L0 H0 w0 ok l0 => fun Da hD => ?_⟩
  split at hp
  · rename_i hz
    rw [wp_bnd] at hp
    obtain ⟨Kf, hK, hp⟩ : ∃ Kf : List D → Env → Prop, (∀ xs ρ', Kf xs ρ' → ∀ v H', WS σ (wipeE ρ' vs) → Live κ.T H' ((v, .ol xs) :: (prs σ (wipeE ρ' vs) ++ fr)) → Q v H') ∧ wp (cloop2 vs vs1 g c it1 g1 c1 e ds []) ρ0 Kf (fun _ _ => False) :=
      ⟨_, fun xs ρ' h v H' a b => h v H' a (fun h => nomatch h) b, wp_unw hp⟩
    obtain ⟨w0', l0'⟩ := wipe_ws w0 (l0.perm (swapA _ _ _)) vs
    let W : Nat → Nat → Hp → Prop := fun i m H => i + m = ds.length ∧ ∃ ρ acc, WS (wipe σ vs) (wipeE ρ vs) ∧ acc.length ≤ 1000 * i ∧ Live κ.T H (prs (wipe σ vs) (wipeE ρ vs) ++ ((.ref Da, .ol acc) :: (L0 ++ fr))) ∧
      wp (cloop2 vs vs1 g c it1 g1 c1 e (ds.drop i) acc) ρ Kf (fun _ _ => False)
    refine ⟨W, ⟨ds.length, by omega, ρ0, [], w0', Nat.zero_le _, ?_, hp⟩, fun i m H1 hW => ?_⟩
    · exact (Live.lst (vs := []) (ds := []) rfl l0' hD).perm List.perm_middle.symm
    · obtain ⟨em, ρ1, acc, w1, ha, l1, hp1⟩ := hW
      have l2 : Live κ.T H1 (L0 ++ (prs (wipe σ vs) (wipeE ρ1 vs) ++ ((.ref Da, .ol acc) :: fr))) := l1.perm (swapB _ _ _)
      by_cases hi : ds.length ≤ i
      · left
        rw [List.drop_eq_nil_of_le hi] at hp1
        refine ⟨ok.stop i H1 _ hi l2, ?_⟩
        obtain ⟨w2, l3⟩ := unwipe_ws w1 l2.drop
        exact hK _ _ hp1 _ _ w2 (l3.perm List.perm_middle)
      · right
        have hi : i < ds.length := Nat.lt_of_not_le hi
        have hd : ds[i]? = some ds[i] := List.getElem?_eq_getElem hi
        rw [List.drop_eq_getElem_cons hi] at hp1
        obtain ⟨go, yld⟩ := ok.go i _ H1 _ hd l2
        refine ⟨go, fun H' => ∃ m', m' < m ∧ W (i + 1) m' H', fun H' h => h, fun x H2 y => ?_⟩
        have l3 := yld x H2 y
        unfold wp cloop2 at hp1
        cases eg : g ds[i] (wipeE ρ1 vs) with
        | none => rw [eg] at hp1; exact hp1.elim
        | some ρ2 =>
          rw [eg] at hp1
          have hp2 : wp (bnd c fun k => match k with
            | true => bnd it1 fun ds1 => if ds1.length ≤ 1000 then bnd (unwipe vs1 (cloop vs1 g1 c1 e ds1 acc)) fun acc' => cloop2 vs vs1 g c it1 g1 c1 e (ds.drop (i + 1)) acc' else bad
            | false => cloop2 vs vs1 g c it1 g1 c1 e (ds.drop (i + 1)) acc) ρ2 Kf (fun _ _ => False) := hp1
          clear hp1
          refine ⟨wipeE ρ1 vs, (.ref Da, .ol acc) :: (L0 ++ fr), ds[i], ρ2, w1, l3.perm ?_, eg, fun σ2 H3 w2 fr2 l4 => ?_⟩
          · refine List.Perm.cons _ ?_
            exact (swapA _ _ _).trans (List.Perm.append_left _ List.perm_middle)
          · have hsl : σ2.length = σ.length := by rw [w2.len, ← g_len eg, ← w1.len, wipe_length]
            have ew : wipe σ2 vs = wipe σ vs := wipe_eq hsl fun j hj => fr2 j fun z => hj (his j z)
            refine ⟨ew, ρ2, _, w2, l4, ?_⟩
            rw [wp_bnd] at hp2
            refine wp_mono hp2 fun b ρ3 hp3 H4 w3 _ l5 => ?_
            have next : ∀ {σ3 : St} {ρ4 : Env} {acc' : List D} {H5 : Hp}, wipe σ3 vs = wipe σ vs → WS σ3 ρ4 → acc'.length ≤ 1000 * (i + 1) → Live κ.T H5 (prs σ3 ρ4 ++ ((.ref Da, .ol acc') :: (L0 ++ fr))) →
                wp (cloop2 vs vs1 g c it1 g1 c1 e (ds.drop (i + 1)) acc') ρ4 Kf (fun _ _ => False) → ∃ m', m' < m ∧ W (i + 1) m' H5 := fun {σ3} {ρ4} {acc'} {H5} ew w4 h4 l6 h6 => by
              obtain ⟨w5, l7⟩ := wipe_ws w4 l6 vs
              rw [ew] at w5 l7
              exact ⟨m - 1, by omega, by omega, ρ4, acc', w5, h4, l7, h6⟩
            cases b with
            | false => exact next ew w3 (by omega) l5 hp3
            | true =>
              have hp3 : wp (bnd it1 fun ds1 => if ds1.length ≤ 1000 then bnd (unwipe vs1 (cloop vs1 g1 c1 e ds1 acc)) fun acc' => cloop2 vs vs1 g c it1 g1 c1 e (ds.drop (i + 1)) acc' else bad) ρ3 _ _ := hp3
              rw [wp_bnd] at hp3
              refine ⟨ρ3, _, w3, l5, wp_mono hp3 fun ds1 ρ4 hp4 J1 L1 H5 w4 ok1 l6 => ?_⟩
              split at hp4
              · rename_i hz1
                rw [wp_bnd] at hp4
                obtain ⟨w4', l6'⟩ := wipe_ws w4 (l6.perm (swapA _ _ _)) vs1
                refine ⟨clW κ σ2 vs1 g1 c1 e Da L1 (L0 ++ fr) ds1 (1000 * i) _, ⟨ds1.length, by omega, ρ4, acc, w4', by omega, l6'.perm (List.Perm.append_left _ List.perm_middle), wp_unw2 hp4⟩, fun j k H6 hW1 => ?_⟩
                rcases cl_turn (pc := pc1) (pe := pe) g_len1 his1 ok1 (Nat.lt_of_le_of_lt (m := 11000000) (by omega) (by decide)) j k H6 hW1 with ⟨h1, ρ', acc', w5, ha5, l7, k7⟩ | ⟨h1, Nx, h2, h3⟩
                · left
                  refine ⟨h1, next (acc' := acc') (σ3 := wipe σ2 vs1) (wipe_wipe hv ew) w5 (by omega) ?_ k7⟩
                  have l8 : Live κ.T H6 (L1 ++ (prs (wipe σ2 vs1) (wipeE ρ' vs1) ++ ((.ref Da, .ol acc') :: (L0 ++ fr)))) := l7.perm (swapB _ _ _)
                  exact l8.drop
                · exact .inr ⟨h1, Nx, h2, h3⟩
              · exact hp4.elim
  · exact hp.elim
theorem se_lc {elt tg iter : Expr} {ifs : List Expr} {scope : Scope} {own : List (Str × Nat)} {pos : Pos} {is : List Nat} {it : M (List D)} {g : D → Env → Option Env} {c : M Bool} {e : M OV} {pe : Bool} (hc : X.calm = true) (hN : X.N.Nodup) (hi : SI X κ tg iter it) (ok : BlkOk X.N X.env.scope scope own)
    (hg : ∀ (s : Shared) (H : Hp) (C : Addr) (cl : List (Str × Addr)) (fp : List Addr), SG (X.blk s H scope (compEnvC scope cl C X.env) fp) κ.nx tg is g) (ht : ∀ (s : Shared) (H : Hp) (C : Addr) (cl : List (Str × Addr)) (fp : List Addr), STs (X.blk s H scope (compEnvC scope cl C X.env) fp) κ.nx ifs c)
    (he : ∀ (s : Shared) (H : Hp) (C : Addr) (cl : List (Str × Addr)) (fp : List Addr), SE (X.blk s H scope (compEnvC scope cl C X.env) fp) κ.nx pe elt e) (g_len : ∀ {d ρ ρ'}, g d ρ = some ρ' → ρ.length = ρ'.length) (his : ∀ i ∈ is, i ∈ own.map (·.2)) (hs : ∀ x, foldedSetIterable iter X.env x = pure x := by intro _; rfl) :
    SE X κ false (.ListComp elt [⟨tg, iter, ifs, 0⟩] scope pos) (compM (own.map (·.2)) it g c e) :=
  ⟨(pe_lc hc hN hi.pi ok (fun s H C cl fp => (hg s H C cl fp).pg) (fun s H C cl fp => (ht s H C cl fp).pt) (fun s H C cl fp => (he s H C cl fp).pe) hs).imp fun σ H Q q => lc_sound g_len his q⟩
theorem se_lc2 {elt tg iter tg1 iter1 : Expr} {ifs ifs1 : List Expr} {scope : Scope} {own : List (Str × Nat)} {vs1 : List Nat} {pos : Pos} {is is1 : List Nat} {it it1 : M (List D)} {g g1 : D → Env → Option Env} {c c1 : M Bool} {e : M OV} {pe : Bool} (hc : X.calm = true) (hN : X.N.Nodup) (hi : SI X κ tg iter it) (ok : BlkOk X.N X.env.scope scope own)
    (hv : ∀ i ∈ vs1, i ∈ own.map (·.2))
    (hg : ∀ (s : Shared) (H : Hp) (C : Addr) (cl : List (Str × Addr)) (fp : List Addr), SG (X.blk s H scope (compEnvC scope cl C X.env) fp) κ.nx tg is g) (ht : ∀ (s : Shared) (H : Hp) (C : Addr) (cl : List (Str × Addr)) (fp : List Addr), STs (X.blk s H scope (compEnvC scope cl C X.env) fp) κ.nx ifs c)
    (hi1 : ∀ (s : Shared) (H : Hp) (C : Addr) (cl : List (Str × Addr)) (fp : List Addr), SI (X.blk s H scope (compEnvC scope cl C X.env) fp) κ.nx tg1 iter1 it1)
    (hg1 : ∀ (s : Shared) (H : Hp) (C : Addr) (cl : List (Str × Addr)) (fp : List Addr), SG (X.blk s H scope (compEnvC scope cl C X.env) fp) κ.nx tg1 is1 g1) (ht1 : ∀ (s : Shared) (H : Hp) (C : Addr) (cl : List (Str × Addr)) (fp : List Addr), STs (X.blk s H scope (compEnvC scope cl C X.env) fp) κ.nx ifs1 c1)
    (he : ∀ (s : Shared) (H : Hp) (C : Addr) (cl : List (Str × Addr)) (fp : List Addr), SE (X.blk s H scope (compEnvC scope cl C X.env) fp) κ.nx pe elt e) (g_len : ∀ {d ρ ρ'}, g d ρ = some ρ' → ρ.length = ρ'.length) (g_len1 : ∀ {d ρ ρ'}, g1 d ρ = some ρ' → ρ.length = ρ'.length)
    (his : ∀ i ∈ is, i ∈ own.map (·.2)) (his1 : ∀ i ∈ is1, i ∈ vs1) (hs : ∀ x, foldedSetIterable iter X.env x = pure x := by intro _; rfl) (hs1 : ∀ env x, foldedSetIterable iter1 env x = pure x := by intro _ _; rfl) :
    SE X κ false (.ListComp elt [⟨tg, iter, ifs, 0⟩, ⟨tg1, iter1, ifs1, 0⟩] scope pos) (comp2M (own.map (·.2)) vs1 it g c it1 g1 c1 e) :=
  ⟨(pe_lc2 hc hN hi.pi ok hv (fun s H C cl fp => (hg s H C cl fp).pg) (fun s H C cl fp => (ht s H C cl fp).pt) (fun s H C cl fp => (hi1 s H C cl fp).pi) (fun s H C cl fp => (hg1 s H C cl fp).pg) (fun s H C cl fp => (ht1 s H C cl fp).pt) (fun s H C cl fp => (he s H C cl fp).pe) hs hs1).imp fun σ H Q q => lc2_sound g_len g_len1 his his1 hv q⟩
theorem tnm_len {i : Nat} {d : D} {ρ ρ' : Env} (h : tnm i d ρ = some ρ') : ρ.length = ρ'.length := by
  unfold tnm at h
  split at h
  · cases h; simp
  · cases h
theorem setsE_len : ∀ {is : List Nat} {ds : List D} {ρ : Env}, (setsE ρ is ds).length = ρ.length
  | [], _, _ => rfl
  | i :: is, [], _ => rfl
  | i :: is, d :: ds, ρ => by rw [show setsE ρ (i :: is) (d :: ds) = setsE (ρ.set i (.fz d)) is ds from rfl, setsE_len]; simp
theorem ttp_len {is : List Nat} {d : D} {ρ ρ' : Env} (h : ttp is d ρ = some ρ') : ρ.length = ρ'.length := by
  unfold ttp at h
  split at h
  · split at h
    · cases h; rw [setsE_len]
    · cases h
  · cases h
end
end Kv
/-! Statements. -/
namespace Kv
open PySem L2
inductive Fl where
  | nx | bk | ct | rt (o : OV)
def Kp (kp : List Nat) (σ σ' : St) : Prop := ∀ j ∈ kp, σ'[j]? = σ[j]?
theorem Kp.rfl {kp : List Nat} {σ : St} : Kp kp σ σ := fun _ _ => Eq.refl _
theorem Kp.trans {kp : List Nat} {σ σ' σ'' : St} (h : Kp kp σ σ') (h2 : Kp kp σ' σ'') : Kp kp σ σ'' := fun j hj => (h2 j hj).trans (h j hj)
theorem Kp.set {kp : List Nat} {σ : St} {i : Nat} {v : Option V} (h : i ∉ kp) : Kp kp σ (σ.set i v) := fun j hj => List.getElem?_set_ne fun e => h (by rw [e]; exact hj)
/-- what is wanted behind a statement, by its end -/
def EndK (t : CT) (kp : List Nat) (σ : St) (fr : List (V × OV)) (D : Ends) (fl : Fl) (ρ' : Env) : Prop := match fl with
  | .nx => ∀ σ' H', WS σ' ρ' → Kp kp σ σ' → Live t H' (prs σ' ρ' ++ fr) → D.nx σ' H'
  | .bk => ∀ σ' H', WS σ' ρ' → Kp kp σ σ' → Live t H' (prs σ' ρ' ++ fr) → D.bk σ' H'
  | .ct => ∀ σ' H', WS σ' ρ' → Kp kp σ σ' → Live t H' (prs σ' ρ' ++ fr) → D.ct σ' H'
  | .rt o => ∀ v σ' H', WS σ' ρ' → Kp kp σ σ' → Live t H' ((v, o) :: (prs σ' ρ' ++ fr)) → D.rt v H'
def ErrK (κ : Kx) (kp : List Nat) (σ : St) (fr : List (V × OV)) (x : Ex) (ρ' : Env) : Prop := ∀ σ', Kp kp σ σ' → κ.xw x σ' ρ' fr
def TSt (κ : Kx) (kp : List Nat) (m : M Fl) : TS := fun D σ H => ∃ ρ fr, WS σ ρ ∧ Live κ.T H (prs σ ρ ++ fr) ∧ wp m ρ (EndK κ.T kp σ fr D) (ErrK κ kp σ fr)
structure SS (X : Cx) (κ : Kx) (kp : List Nat) (st : Stmt) (m : M Fl) : Prop where
  ps : PS X st (TSt κ kp m)
structure SSs (X : Cx) (κ : Kx) (kp : List Nat) (st : List Stmt) (m : M Fl) : Prop where
  ps : PSs X st (TSt κ kp m)
theorem _root_.L2.PS.imp {X : Cx} {st : Stmt} {t t' : TS} (p : PS X st t) (h : ∀ D σ H, t' D σ H → t D σ H) : PS X st t' := ⟨fun pins s σ H D I q => p.run pins s σ H D I (h _ _ _ q)⟩
theorem _root_.L2.PSs.imp {X : Cx} {st : List Stmt} {t t' : TS} (p : PSs X st t) (h : ∀ D σ H, t' D σ H → t D σ H) : PSs X st t' := ⟨fun pins s σ H D I q => p.run pins s σ H D I (h _ _ _ q)⟩
theorem _root_.L2.PS.at {X : Cx} {st : Stmt} {t : TS} (h : ∀ D σ H, t D σ H → ∃ t', PS X st t' ∧ t' D σ H) : PS X st t := ⟨fun pins s σ H D I q => let ⟨_, p, q'⟩ := h D σ H q; p.run pins s σ H D I q'⟩
theorem EndK.mono {t : CT} {kp : List Nat} {σ σ1 : St} {fr : List (V × OV)} {D : Ends} {fl : Fl} {ρ' : Env} (k : Kp kp σ σ1) (h : EndK t kp σ fr D fl ρ') : EndK t kp σ1 fr D fl ρ' := by
  cases fl with
  | nx => exact fun σ' H' a b c => h σ' H' a (k.trans b) c
  | bk => exact fun σ' H' a b c => h σ' H' a (k.trans b) c
  | ct => exact fun σ' H' a b c => h σ' H' a (k.trans b) c
  | rt o => exact fun v σ' H' a b c => h v σ' H' a (k.trans b) c
theorem ErrK.mono {κ : Kx} {kp : List Nat} {σ σ1 : St} {fr : List (V × OV)} {x : Ex} {ρ' : Env} (k : Kp kp σ σ1) (h : ErrK κ kp σ fr x ρ') : ErrK κ kp σ1 fr x ρ' := fun σ' b => h σ' (k.trans b)
theorem wp_ite {α : Type} {b : Bool} {m1 m2 : M α} {ρ : Env} {Q : α → Env → Prop} {E : Ex → Env → Prop} (h : wp (if b = true then m1 else m2) ρ Q E) : if b = true then wp m1 ρ Q E else wp m2 ρ Q E := by
  cases b <;> exact h
section
variable {X : Cx} {κ : Kx} {kp : List Nat} {pu p q r fl fl' : Bool} {e a b c tg it : Expr} {pos ps ps2 apos : Pos} {es : List Expr} {st : Stmt} {sts orelse rest : List Stmt}
/-! ### blocks -/
def seqM (m1 m2 : M Fl) : M Fl := bnd m1 fun f => match f with
  | .nx => m2
  | f => ret f
theorem ss_nil : SSs X κ kp [] (ret .nx) := ⟨pss_nil.imp fun D σ H ⟨ρ, fr, w, l, hp⟩ => hp σ H w .rfl l⟩
theorem seq_ok {m1 m2 : M Fl} {t u : TS} (ht : ∀ D σ H, TSt κ kp m1 D σ H → t D σ H) (hu : ∀ D σ H, TSt κ kp m2 D σ H → u D σ H) {D : Ends} {σ : St} {H : Hp} (h : TSt κ kp (seqM m1 m2) D σ H) : tSeq t u D σ H := by
  obtain ⟨ρ, fr, w, l, hp⟩ := h
  unfold seqM at hp
  rw [wp_bnd] at hp
  refine ht _ _ _ ⟨ρ, fr, w, l, wp_mono hp fun f ρ' k => ?_⟩
  cases f with
  | nx => exact fun σ' H' a b c => hu _ _ _ ⟨ρ', fr, a, c, wp_mono2 k (fun f ρ'' k => k.mono b) fun x ρ'' k => k.mono b⟩
  | bk => exact k
  | ct => exact k
  | rt o => exact k
theorem ss_cons {m1 m2 : M Fl} (h1 : SS X κ kp st m1) (h2 : SSs X κ kp rest m2) : SSs X κ kp (st :: rest) (seqM m1 m2) :=
  ⟨(pss_cons h1.ps h2.ps).imp fun D σ H h => seq_ok (fun _ _ _ h => h) (fun _ _ _ h => h) h⟩
theorem ss_one {m : M Fl} (h1 : SS X κ kp st m) : SSs X κ kp [st] m := ⟨pss_one h1.ps⟩
theorem ss_pass : SS X κ kp (.Pass pos) (ret .nx) := ⟨ps_pass.imp fun D σ H ⟨ρ, fr, w, l, hp⟩ => hp σ H w .rfl l⟩
theorem ss_break : SS X κ kp (.Break pos) (ret .bk) := ⟨ps_break.imp fun D σ H ⟨ρ, fr, w, l, hp⟩ => hp σ H w .rfl l⟩
theorem ss_continue : SS X κ kp (.Continue pos) (ret .ct) := ⟨ps_continue.imp fun D σ H ⟨ρ, fr, w, l, hp⟩ => hp σ H w .rfl l⟩
theorem ss_never : SS X κ kp st bad := ⟨ps_never.imp fun D σ H ⟨ρ, fr, w, l, hp⟩ => hp⟩
theorem sss_never : SSs X κ kp sts bad := ⟨pss_never.imp fun D σ H ⟨ρ, fr, w, l, hp⟩ => hp⟩
def dropM {α : Type} (m : M α) : M Fl := bnd m fun _ => ret .nx
theorem errK_of {x : Ex} {σ : St} {ρ' : Env} {fr : List (V × OV)} (h : ErrK κ kp σ fr x ρ') : κ.xw x σ ρ' fr := h σ .rfl
theorem ss_expr {m : M OV} (h : SE X κ p e m) (hs : swapsWith e none pos.line X.env = pure false := by rfl) : SS X κ kp (.Expr e pos) (dropM m) := ⟨(ps_expr h.pe hs).imp fun D σ H ⟨ρ, fr, w, l, hp⟩ => by
  unfold dropM at hp
  rw [wp_bnd] at hp
  exact ⟨ρ, fr, w, l, wp_mono2 hp (fun o ρ' k v H' w' s' l' => k σ H' w' .rfl l'.tail) fun x ρ' k => errK_of k⟩⟩
theorem ss_doc {x j pos pos'} : SS X κ kp (.Expr (.Constant (.str x) j pos) pos') (ret .nx) := ⟨ps_doc.imp fun D σ H ⟨ρ, fr, w, l, hp⟩ => hp σ H w .rfl l⟩
def retM (m : M OV) : M Fl := bnd m fun o => ret (.rt o)
theorem ss_ret {m : M OV} (h : SE X κ p e m) : SS X κ kp (.Return (some e) pos) (retM m) := ⟨(ps_ret h.pe).imp fun D σ H ⟨ρ, fr, w, l, hp⟩ => by
  unfold retM at hp
  rw [wp_bnd] at hp
  exact ⟨ρ, fr, w, l, wp_mono2 hp (fun o ρ' k v H' w' s' l' => k v σ H' w' .rfl l') fun x ρ' k => errK_of k⟩⟩
theorem ss_retN : SS X κ kp (.Return none pos) (ret (.rt (.fz .non))) := ⟨ps_retN.imp fun D σ H ⟨ρ, fr, w, l, hp⟩ => hp .non σ H w .rfl (live_non l)⟩
/-- the local moves out -/
def mvM (i : Nat) : M OV := fun ρ => match ρ[i]? with
  | some o => if o.isNo then none else some (.ok o, ρ.set i .no)
  | none => none
def ifS (c : M Bool) (m1 m2 : M Fl) : M Fl := bnd c fun b => if b = true then m1 else m2
theorem ss_if {mc : M Bool} {m1 m2 : M Fl} (hc : SB X κ p c mc) (h1 : SSs X κ kp sts m1) (h2 : SSs X κ kp orelse m2) : SS X κ kp (.If c sts orelse pos) (ifS mc m1 m2) := ⟨(ps_if hc.pt h1.ps h2.ps).imp fun D σ H ⟨ρ, fr, w, l, hp⟩ => by
  unfold ifS at hp
  rw [wp_bnd] at hp
  refine ⟨ρ, fr, w, l, wp_mono2 hp (fun b ρ' k H' w' s' l' => ?_) fun x ρ' k => errK_of k⟩
  cases b with
  | true => exact ⟨ρ', fr, w', l', k⟩
  | false => exact ⟨ρ', fr, w', l', k⟩⟩
/-! ### names -/
def setN (i : Nat) (m : M OV) : M Fl := bnd m fun o => fun ρ => if o.isNo = true then none else if i < ρ.length then some (.ok .nx, ρ.set i o) else none
theorem set_ok {i : Nat} {m : M OV} {te : TE} (hk : i ∉ kp) (ht : ∀ σ H Q, T κ p m σ H Q → te σ H Q) {D : Ends} {σ : St} {H : Hp} (h : TSt κ kp (setN i m) D σ H) : tAsg te (gName i) D σ H := by
  obtain ⟨ρ, fr, w, l, hp⟩ := h
  unfold setN at hp
  rw [wp_bnd] at hp
  refine ht _ _ _ ⟨ρ, fr, w, l, wp_mono2 hp (fun o ρ' k v H' w' s' l' => ?_) fun x ρ' k => errK_of k⟩
  unfold wp at k
  by_cases h1 : o.isNo = true
  · simp [h1] at k
  · by_cases h2 : i < ρ'.length
    · simp only [h1, h2, if_true, if_false] at k
      exact k _ _ w'.set2 (Kp.set hk) (live_set2 w' h2 l')
    · simp [h1, h2] at k
theorem ss_set {i : Nat} {x : Str} {m : M OV} (hN : X.N.Nodup) (hi : X.N[i]? = some x) (hx : Loc X.env.scope x) (hk : i ∉ kp) (h : SE X κ p e m) (hs : swapsWith e (some (.Name x ps)) pos.line X.env = pure false := by rfl)
    (hf : X.fn x = true ∨ X.env.scope.names.lookup x = some .local := by first | exact .inl rfl | exact .inr rfl | assumption) : SS X κ kp (.Assign [.Name x ps] e pos) (setN i m) :=
  ⟨(ps_set hN hi hx h.pe hs hf).imp fun D σ H q => set_ok hk (fun _ _ _ q => q) q⟩
/-- name = [..] on one line -/
theorem ss_setLc {elt tg iter : Expr} {ifs : List Expr} {scope : Scope} {own : List (Str × Nat)} {y : Str} {i : Nat} {is : List Nat} {it : M (List D)} {g : D → Env → Option Env} {c : M Bool} {e : M OV} {pe : Bool} (hc : X.calm = true) (hN : X.N.Nodup) (hy : X.N[i]? = some y) (hyl : X.env.scope.names.lookup y = some .local) (hk : i ∉ kp)
    (hsw : swapsWith (.ListComp elt [⟨tg, iter, ifs, 0⟩] scope ps) (some (.Name y ps2)) pos.line X.env = pure true) (hi : SI X κ tg iter it) (ok : BlkOk X.N X.env.scope scope own)
    (hg : ∀ (s : Shared) (H : Hp) (C : Addr) (cl : List (Str × Addr)) (fp : List Addr), SG (X.blk s H scope (compEnvC scope cl C X.env) fp) κ.nx tg is g) (ht : ∀ (s : Shared) (H : Hp) (C : Addr) (cl : List (Str × Addr)) (fp : List Addr), STs (X.blk s H scope (compEnvC scope cl C X.env) fp) κ.nx ifs c)
    (he : ∀ (s : Shared) (H : Hp) (C : Addr) (cl : List (Str × Addr)) (fp : List Addr), SE (X.blk s H scope (compEnvC scope cl C X.env) fp) κ.nx pe elt e) (g_len : ∀ {d ρ ρ'}, g d ρ = some ρ' → ρ.length = ρ'.length) (his : ∀ i ∈ is, i ∈ own.map (·.2)) (hs : ∀ x, foldedSetIterable iter X.env x = pure x := by intro _; rfl) :
    SS X κ kp (.Assign [.Name y ps2] (.ListComp elt [⟨tg, iter, ifs, 0⟩] scope ps) pos) (setN i (compM (own.map (·.2)) it g c e)) :=
  ⟨(ps_setLc hc hN hy hyl hsw hi.pi ok (fun s H C cl fp => (hg s H C cl fp).pg) (fun s H C cl fp => (ht s H C cl fp).pt) (fun s H C cl fp => (he s H C cl fp).pe) hs).imp fun D σ H q => set_ok hk (fun _ _ _ q => lc_sound g_len his q) q⟩
theorem ss_setLc2 {elt tg iter tg1 iter1 : Expr} {ifs ifs1 : List Expr} {scope : Scope} {own : List (Str × Nat)} {vs1 : List Nat} {y : Str} {i : Nat} {is is1 : List Nat} {it it1 : M (List D)} {g g1 : D → Env → Option Env} {c c1 : M Bool} {e : M OV} {pe : Bool} (hc : X.calm = true) (hN : X.N.Nodup) (hy : X.N[i]? = some y) (hyl : X.env.scope.names.lookup y = some .local) (hk : i ∉ kp)
    (hsw : swapsWith (.ListComp elt [⟨tg, iter, ifs, 0⟩, ⟨tg1, iter1, ifs1, 0⟩] scope ps) (some (.Name y ps2)) pos.line X.env = pure true) (hi : SI X κ tg iter it) (ok : BlkOk X.N X.env.scope scope own) (hv : ∀ i ∈ vs1, i ∈ own.map (·.2))
    (hg : ∀ (s : Shared) (H : Hp) (C : Addr) (cl : List (Str × Addr)) (fp : List Addr), SG (X.blk s H scope (compEnvC scope cl C X.env) fp) κ.nx tg is g) (ht : ∀ (s : Shared) (H : Hp) (C : Addr) (cl : List (Str × Addr)) (fp : List Addr), STs (X.blk s H scope (compEnvC scope cl C X.env) fp) κ.nx ifs c)
    (hi1 : ∀ (s : Shared) (H : Hp) (C : Addr) (cl : List (Str × Addr)) (fp : List Addr), SI (X.blk s H scope (compEnvC scope cl C X.env) fp) κ.nx tg1 iter1 it1)
    (hg1 : ∀ (s : Shared) (H : Hp) (C : Addr) (cl : List (Str × Addr)) (fp : List Addr), SG (X.blk s H scope (compEnvC scope cl C X.env) fp) κ.nx tg1 is1 g1) (ht1 : ∀ (s : Shared) (H : Hp) (C : Addr) (cl : List (Str × Addr)) (fp : List Addr), STs (X.blk s H scope (compEnvC scope cl C X.env) fp) κ.nx ifs1 c1)
    (he : ∀ (s : Shared) (H : Hp) (C : Addr) (cl : List (Str × Addr)) (fp : List Addr), SE (X.blk s H scope (compEnvC scope cl C X.env) fp) κ.nx pe elt e) (g_len : ∀ {d ρ ρ'}, g d ρ = some ρ' → ρ.length = ρ'.length) (g_len1 : ∀ {d ρ ρ'}, g1 d ρ = some ρ' → ρ.length = ρ'.length)
    (his : ∀ i ∈ is, i ∈ own.map (·.2)) (his1 : ∀ i ∈ is1, i ∈ vs1) (hs : ∀ x, foldedSetIterable iter X.env x = pure x := by intro _; rfl) (hs1 : ∀ env x, foldedSetIterable iter1 env x = pure x := by intro _ _; rfl) :
    SS X κ kp (.Assign [.Name y ps2] (.ListComp elt [⟨tg, iter, ifs, 0⟩, ⟨tg1, iter1, ifs1, 0⟩] scope ps) pos) (setN i (comp2M (own.map (·.2)) vs1 it g c it1 g1 c1 e)) :=
  ⟨(ps_setLc2 hc hN hy hyl hsw hi.pi ok hv (fun s H C cl fp => (hg s H C cl fp).pg) (fun s H C cl fp => (ht s H C cl fp).pt) (fun s H C cl fp => (hi1 s H C cl fp).pi) (fun s H C cl fp => (hg1 s H C cl fp).pg) (fun s H C cl fp => (ht1 s H C cl fp).pt) (fun s H C cl fp => (he s H C cl fp).pe) hs hs1).imp fun D σ H q => set_ok hk (fun _ _ _ q => lc2_sound g_len g_len1 his his1 hv q) q⟩
/-- a target of values: name, tuple -/
def asgT (g : D → Env → Option Env) (m : M OV) : M Fl := bnd m fun o => fun ρ => if o.isNo = true then none else match g o.dat ρ with
  | none => none
  | some ρ' => some (.ok .nx, ρ')
theorem ss_asg {is : List Nat} {g : D → Env → Option Env} {m : M OV} (hk : ∀ i ∈ is, i ∉ kp) (h : SE X κ p e m) (hg : SG X κ tg is g) (hs : swapsWithSole [tg] e pos.line X.env = pure false := by rfl) (hw : swappedStores [tg] e X.env = pure none := by rfl)
    (h1 : (assignEach [tg] X.env).map (·.2) = [assign tg X.env] := by rfl) : SS X κ kp (.Assign [tg] e pos) (asgT g m) := ⟨(ps_asg h.pe hg.pg hs hw h1).imp fun D σ H ⟨ρ, fr, w, l, hp⟩ => by
  unfold asgT at hp
  rw [wp_bnd] at hp
  refine ⟨ρ, fr, w, l, wp_mono2 hp (fun o ρ' k v H' w' s' l' => ?_) fun x ρ' k => errK_of k⟩
  unfold wp at k
  by_cases h1 : o.isNo = true
  · simp [h1] at k
  · cases eg : g o.dat ρ' with
    | none => simp [h1, eg] at k
    | some ρ2 =>
      simp only [h1, eg] at k
      exact ⟨ρ', fr, o.dat, ρ2, w', l'.frz, eg, fun σ' H2 w2 f2 l2 => k σ' H2 w2 (fun j hj => f2 j fun z => hk j z hj) l2⟩⟩
def setOO (i j : Nat) (a b : OV) : M Fl := fun ρ => if a.isNo = true ∨ b.isNo = true ∨ ρ.length ≤ i ∨ ρ.length ≤ j then none else some (.ok .nx, (ρ.set i a).set j b)
theorem wp_setOO {i j : Nat} {a b : OV} {ρ : Env} {Q : Fl → Env → Prop} {E : Ex → Env → Prop} (h : wp (setOO i j a b) ρ Q E) : (i < ρ.length ∧ j < ρ.length) ∧ Q .nx ((ρ.set i a).set j b) := by
  unfold wp setOO at h
  by_cases hc : a.isNo = true ∨ b.isNo = true ∨ ρ.length ≤ i ∨ ρ.length ≤ j
  · rw [if_pos hc] at h; exact h.elim
  · rw [if_neg hc] at h; exact ⟨by omega, h⟩
def parM (i j : Nat) (ms : M (List Opd)) : M Fl := bnd ms fun ods => match ods with
  | [.tv a, .tv b] => setOO i j a b
  | _ => bad
theorem ss_par {i j : Nat} {x y : Str} {ms : M (List Opd)} {px py pt : Pos} {kt k2 : Nat} {pt2 : Pos} (hc : X.calm = true) (hN : X.N.Nodup) (hi : X.N[i]? = some x) (hj : X.N[j]? = some y) (hij : i ≠ j) (hki : i ∉ kp) (hkj : j ∉ kp)
    (hx : X.env.scope.names.lookup x = some .local) (hy : X.env.scope.names.lookup y = some .local) (ha : SA X κ p [a, b] ms)
    (hw : swappedStores [.Tuple [.Name x px, .Name y py] kt pt] (.Tuple [a, b] k2 pt2) X.env = pure (some [x, y]) := by rfl)
    (hs : swapsWithSole [.Tuple [.Name x px, .Name y py] kt pt] (.Tuple [a, b] k2 pt2) pos.line X.env = pure false := by rfl) :
    SS X κ kp (.Assign [.Tuple [.Name x px, .Name y py] kt pt] (.Tuple [a, b] k2 pt2) pos) (parM i j ms) := ⟨(ps_par hc hN hi hj hij hx hy ha.pa hw hs).imp fun D σ H ⟨ρ, fr, w, l, hp⟩ => by
  unfold parM at hp
  rw [wp_bnd] at hp
  refine ⟨ρ, fr, w, l, wp_mono2 hp (fun ods ρ' k vs H' w' s' l' od' => ?_) fun x ρ' k => errK_of k⟩
  split at k
  · rename_i a b
    obtain ⟨⟨h1, h2⟩, k⟩ := wp_setOO k
    obtain ⟨v, u, rfl⟩ : ∃ v u, vs = [v, u] := by
      cases vs with
      | nil => exact od'.elim
      | cons v vs => cases vs with
        | nil => exact od'.2.elim
        | cons u vs => cases vs with
          | nil => exact ⟨v, u, rfl⟩
          | cons _ _ => exact od'.2.2.elim
    refine ⟨v, u, rfl, k _ _ w'.set2.set2 (Kp.trans (Kp.set hki) (Kp.set hkj)) ?_⟩
    have l1 : Live κ.T H' ((v, a) :: (u, b) :: (prs σ ρ' ++ fr)) := l'
    have l2 := live_set2 (fr := (u, b) :: fr) w' (i := i) h1 (l1.perm (.cons _ List.perm_middle.symm))
    exact live_set2 w'.set2 (by rw [List.length_set]; exact h2) (l2.perm List.perm_middle)
  · exact k.elim⟩
/-! ### loops -/
def floop (g : D → Env → Option Env) (b : M Fl) : List D → M Fl
  | [] => ret .nx
  | d :: ds => fun ρ => match g d ρ with
    | none => none
    | some ρ1 => (bnd b fun f => match f with
      | .nx => floop g b ds
      | .ct => floop g b ds
      | .bk => ret .nx
      | .rt o => ret (.rt o)) ρ1
def forM (it : M (List D)) (g : D → Env → Option Env) (b : M Fl) : M Fl := bnd it fun ds => floop g b ds
theorem ss_for {is : List Nat} {mi : M (List D)} {g : D → Env → Option Env} {mb : M Fl} (hp : PassesOwn (model X.prog X.w) X.A X.env X.xe) (hc : X.calm = true) (hk : ∀ i ∈ is, i ∉ kp) (hi : SI X κ tg it mi) (hg : SG X κ tg is g) (hb : SSs X κ kp sts mb)
    (hs : ∀ x, foldedSetIterable it X.env x = pure x := by intro _; rfl) : SS X κ kp (.For tg it sts [] pos) (forM mi g mb) := ⟨(ps_for hp hc hi.pi hg.pg hb.ps hs).imp fun D σ H ⟨ρ, fr, w, l, hp⟩ => by
  unfold forM at hp
  rw [wp_bnd] at hp
  refine ⟨ρ, fr, w, l, wp_mono2 hp (fun ds ρ0 k J L0 H0 w0 ok l0 => ?_) fun x ρ' k => errK_of k⟩
  let W : Nat → Nat → St → Hp → Prop := fun i m σ1 H1 => i + m = ds.length ∧ ∃ ρ1, WS σ1 ρ1 ∧ Kp kp σ σ1 ∧ Live κ.T H1 (L0 ++ (prs σ1 ρ1 ++ fr)) ∧ wp (floop g mb (ds.drop i)) ρ1 (EndK κ.T kp σ fr D) (ErrK κ kp σ fr)
  refine ⟨W, ⟨ds.length, by omega, ρ0, w0, .rfl, l0, k⟩, fun i m σ1 H1 hW => ?_⟩
  obtain ⟨em, ρ1, w1, k1, l1, hp1⟩ := hW
  by_cases hlt : ds.length ≤ i
  · left
    rw [List.drop_eq_nil_of_le hlt] at hp1
    exact ⟨ok.stop i H1 _ hlt l1, hp1 σ1 H1 w1 k1 l1.drop⟩
  · right
    have hlt : i < ds.length := Nat.lt_of_not_le hlt
    have hd : ds[i]? = some ds[i] := List.getElem?_eq_getElem hlt
    rw [List.drop_eq_getElem_cons hlt] at hp1
    obtain ⟨go, yld⟩ := ok.go i _ H1 _ hd l1
    refine ⟨go, fun σ' H' => ∃ m', m' < m ∧ W (i + 1) m' σ' H', fun σ' H' h => h, fun x H2 y => ?_⟩
    have l3 := yld x H2 y
    unfold wp floop at hp1
    cases eg : g ds[i] ρ1 with
    | none => rw [eg] at hp1; exact hp1.elim
    | some ρ2 =>
      rw [eg] at hp1
      have hp2 : wp (bnd mb fun f => match f with
        | .nx => floop g mb (ds.drop (i + 1))
        | .ct => floop g mb (ds.drop (i + 1))
        | .bk => ret .nx
        | .rt o => ret (.rt o)) ρ2 (EndK κ.T kp σ fr D) (ErrK κ kp σ fr) := hp1
      clear hp1
      refine ⟨ρ1, L0 ++ fr, ds[i], ρ2, w1, l3.perm (.cons _ (swapA _ _ _)), eg, fun σ2 H3 w2 fr2 l4 => ?_⟩
      have k2 : Kp kp σ σ2 := k1.trans fun j hj => fr2 j fun z => hk j z hj
      rw [wp_bnd] at hp2
      refine ⟨ρ2, L0 ++ fr, w2, l4, wp_mono2 hp2 (fun f ρ3 k3 => ?_) fun x ρ3 k3 => ?_⟩
      · cases f with
        | nx => exact fun σ' H' a b c => ⟨m - 1, by omega, by omega, ρ3, a, k2.trans b, c.perm (swapA _ _ _), k3⟩
        | ct => exact fun σ' H' a b c => ⟨m - 1, by omega, by omega, ρ3, a, k2.trans b, c.perm (swapA _ _ _), k3⟩
        | bk => exact fun σ' H' a b c => k3 σ' H' a (k2.trans b) (c.perm (swapA _ _ _)).drop
        | rt o => exact fun v σ' H' a b c => k3 v σ' H' a (k2.trans b) (c.perm (swapA (_ :: _) _ _)).drop
      · intro σ' b
        refine κ.xcl _ _ _ (fun H l => (l.perm (swapA _ _ _)).drop) (k3 σ' (k2.trans b))⟩
def wloop (c : M Bool) (b : M Fl) : Nat → M Fl
  | 0 => bad
  | n + 1 => bnd c fun k => if k = true then bnd b fun f => match f with
      | .nx => wloop c b n
      | .ct => wloop c b n
      | .bk => ret .nx
      | .rt o => ret (.rt o)
    else ret .nx
open Classical in
noncomputable def whileM (c : M Bool) (b : M Fl) : M Fl := fun ρ => if h : ∃ n, (wloop c b n ρ).isSome = true then wloop c b (Classical.choose h) ρ else none
theorem ss_while {mc : M Bool} {mb : M Fl} (hp : PassesOwn (model X.prog X.w) X.A X.env X.xe) (hc : SB X κ p c mc) (hb : SSs X κ kp sts mb) : SS X κ kp (.While c sts [] pos) (whileM mc mb) := ⟨(ps_while hp hc.pt hb.ps).imp fun D σ H ⟨ρ, fr, w, l, hp⟩ => by
  obtain ⟨n, hp⟩ : ∃ n, wp (wloop mc mb n) ρ (EndK κ.T kp σ fr D) (ErrK κ kp σ fr) := by
    unfold wp whileM at hp
    by_cases h : ∃ n, (wloop mc mb n ρ).isSome = true
    · rw [dif_pos h] at hp
      exact ⟨_, hp⟩
    · rw [dif_neg h] at hp
      exact hp.elim
  let W : Nat → St → Hp → Prop := fun m σ1 H1 => ∃ ρ1, WS σ1 ρ1 ∧ Kp kp σ σ1 ∧ Live κ.T H1 (prs σ1 ρ1 ++ fr) ∧ wp (wloop mc mb m) ρ1 (EndK κ.T kp σ fr D) (ErrK κ kp σ fr)
  refine ⟨W, ⟨n, ρ, w, .rfl, l, hp⟩, fun m σ1 H1 hW => ?_⟩
  obtain ⟨ρ1, w1, k1, l1, hp1⟩ := hW
  cases m with
  | zero => exact hp1.elim
  | succ m =>
    unfold wloop at hp1
    rw [wp_bnd] at hp1
    refine ⟨ρ1, fr, w1, l1, wp_mono2 hp1 (fun b ρ2 hp2 H2 w2 s2 l2 => ?_) fun x ρ' k => k σ1 k1⟩
    cases b with
    | false => exact hp2 σ1 H2 w2 k1 l2
    | true =>
      refine ⟨fun σ' H' => W m σ' H', fun σ' H' h => ⟨m, Nat.lt_succ_self _, h⟩, ?_⟩
      have hp3 : wp (bnd mb fun f => match f with
        | .nx => wloop mc mb m
        | .ct => wloop mc mb m
        | .bk => ret .nx
        | .rt o => ret (.rt o)) ρ2 (EndK κ.T kp σ fr D) (ErrK κ kp σ fr) := hp2
      rw [wp_bnd] at hp3
      refine ⟨ρ2, fr, w2, l2, wp_mono2 hp3 (fun f ρ3 k3 => ?_) fun x ρ3 k3 => k3.mono k1⟩
      cases f with
      | nx => exact fun σ' H' a b c => ⟨ρ3, a, k1.trans b, c, k3⟩
      | ct => exact fun σ' H' a b c => ⟨ρ3, a, k1.trans b, c, k3⟩
      | bk => exact fun σ' H' a b c => k3 σ' H' a (k1.trans b) c
      | rt o => exact fun v σ' H' a b c => k3 v σ' H' a (k1.trans b) c⟩
end
end Kv
/-! Attributes read and stored; containers changed in place. -/
namespace Kv
open PySem L2
section
variable {t : CT} {G G' H H' : Hp}
/-- an owned instance's attribute taken out -/
theorem Live.outF {v : V} {c f : Nat} {fs : List OV} {o : OV} {L : List (V × OV)} (l : Live t H ((v, .oi c fs) :: L)) (ho : fs[f]? = some o) (hn : o.isNo = false) :
    ∃ a dx fvs n y, v = .ref a ∧ H a = some (.ins (t.ca c) dx fvs) ∧ (t.fn c)[f]? = some n ∧ fvs.lookup n = some y ∧ Live t H ((y, o) :: (v, .oi c (fs.set f .no)) :: L) := by
  obtain ⟨G, O, s, ow, a, u, n⟩ := l
  cases ow with
  | @cons _ _ _ _ Oa Ob h tl =>
    cases h with
    | @oi ad dx _ fvs fl _ O2 g1 g2 =>
      have hf : f < fl.length := by rw [g2.length]; exact (List.getElem?_eq_some_iff.mp ho).1
      obtain ⟨y, hy⟩ : ∃ y, fl[f]? = some y := ⟨fl[f], List.getElem?_eq_getElem hf⟩
      have hfn : f < (t.fn c).length := by rw [← g1.len]; exact hf
      obtain ⟨nm, hnm⟩ : ∃ y, (t.fn c)[f]? = some y := ⟨(t.fn c)[f], List.getElem?_eq_getElem hfn⟩
      have hp : presO fs f = true := by unfold presO; rw [ho]; simp [hn]
      obtain ⟨O1, O3, p1, q1, k⟩ := ownL_focus g2 hy ho
      obtain ⟨O'', p2, r2⟩ := k G y .no [] (Same.refl G) (.no y)
      rw [List.nil_append] at p2
      have key : fl.set f y = fl := by
        apply List.ext_getElem?
        intro j
        by_cases e : f = j
        · subst e; rw [List.getElem?_set_self hf, hy]
        · rw [List.getElem?_set_ne e]
      rw [key] at r2
      have P : ((ad, HO.ins (t.ca c) dx fvs) :: (dx, HO.own ad) :: O2 ++ Ob).Perm (O1 ++ ((ad, HO.ins (t.ca c) dx fvs) :: (dx, HO.own ad) :: O3 ++ Ob)) := by
        have : ((ad, HO.ins (t.ca c) dx fvs) :: (dx, HO.own ad) :: O2).Perm (O1 ++ ((ad, HO.ins (t.ca c) dx fvs) :: (dx, HO.own ad) :: O3)) :=
          (((p1.cons _).cons _).trans ((List.perm_middle.symm.cons _).trans List.perm_middle.symm))
        rw [← List.append_assoc]
        exact this.append_right Ob
      refine ⟨ad, dx, fvs, nm, y, rfl, a _ (List.mem_append_left _ List.mem_cons_self), hnm, g1.has f nm y hnm hy hp, G, O1 ++ (((ad, HO.ins (t.ca c) dx fvs) :: (dx, HO.own ad) :: O'') ++ Ob), ?_⟩
      refine liveG_perm s (OwnL.cons q1 (.cons (.oi (g1.weak fun j hj => ?_) r2) tl)) ?_ a u n
      · rcases presO_set hj with ⟨rfl, z⟩ | ⟨_, h⟩
        · cases z
        · exact h
      · refine List.Perm.trans ?_ P.symm
        refine List.Perm.append_left _ ?_
        exact ((p2.cons _).cons _).append_right Ob
theorem putF_same {n : Str} {y : V} : ∀ {fvs : List (Str × V)}, fvs.lookup n = some y → putF n y fvs = fvs
  | [], h => by cases h
  | (m, z) :: r, h => by
    rw [List.lookup_cons] at h
    by_cases e : m = n
    · subst e
      rw [beq_self_eq_true] at h
      cases h
      conv => lhs; unfold putF
      rw [if_pos rfl]
    · rw [beq_eq_false_iff_ne.mpr fun q => e q.symm] at h
      conv => lhs; unfold putF
      rw [if_neg e, putF_same h]
/-- and back -/
theorem Live.backF {a dx : Addr} {c f : Nat} {fs : List OV} {o : OV} {fvs : List (Str × V)} {n : Str} {y : V} {L : List (V × OV)} (hnd : (t.fn c).Nodup) (h1 : H a = some (.ins (t.ca c) dx fvs)) (h2 : (t.fn c)[f]? = some n) (h3 : fvs.lookup n = some y)
    (l : Live t H ((y, o) :: (.ref a, .oi c (fs.set f .no)) :: L)) : Live t H ((.ref a, .oi c (fs.set f o)) :: L) := by
  obtain ⟨dx', fvs', e1, _, l'⟩ := l.fldSet h2 hnd
  rw [h1] at e1
  cases e1
  rw [putF_same h3, List.set_set] at l'
  have : upd H a (.ins (t.ca c) dx fvs) = H := by
    funext b
    by_cases e : b = a
    · subst e; rw [upd_same, h1]
    · rw [upd_ne e]
  rwa [this] at l'
/-- what is owned at an operand, changed -/
def mutO (g : OV → Option OV) : Opd → Env → Option Env
  | .pl i, ρ => match ρ[i]? with
    | some o => match g o with
      | some o' => some (ρ.set i o')
      | none => none
    | none => none
  | .pf i c f, ρ => match ρ[i]? with
    | some (.oi c' fs) => if c' = c then match fs[f]? with
        | some o => if o.isNo = true then none else match g o with
          | some o' => some (ρ.set i (.oi c (fs.set f o')))
          | none => none
        | none => none
      else none
    | _ => none
  | .tv _, _ => none
def Insts (H H' : Hp) : Prop := ∀ a C dx fvs, H a = some (.ins C dx fvs) → H' a = some (.ins C dx fvs)
theorem mut_ok {g : OV → Option OV} {σ : St} {ρ ρ' : Env} {od : Opd} {v : V} {K fr : List (V × OV)} (hfn : ∀ c, (t.fn c).Nodup) (w : WS σ ρ) (r : OdR t σ H od v) (l : Live t H (K ++ (prs σ ρ ++ fr))) (e : mutO g od ρ = some ρ') (hi : Insts H H')
    (P : ∀ L o o', g o = some o' → Live t H ((v, o) :: (K ++ L)) → Live t H' ((v, o') :: L)) : WS σ ρ' ∧ Live t H' (prs σ ρ' ++ fr) := by
  cases od with
  | tv o => cases e
  | pl i =>
    have r : σ[i]? = some (some v) := r
    simp only [mutO] at e
    split at e
    · rename_i o e1
      split at e
      · rename_i o' e2
        cases e
        refine ⟨w.set r, live_put r e1 (P _ _ _ e2 ?_)⟩
        exact (l.perm (swapA K (prs σ ρ) fr)) |>.perm (((prs_perm r e1).append_right _).trans (.cons _ (swapA _ _ _)))
      · cases e
    · cases e
  | pf i c f =>
    obtain ⟨a, dx, fvs, n, h1, h2, h3, h4⟩ := r
    simp only [mutO] at e
    split at e
    · rename_i c' fs e1
      split at e
      · rename_i hc
        subst hc
        split at e
        · rename_i o e2
          split at e
          · cases e
          · rename_i hn
            split at e
            · rename_i o' e3
              cases e
              refine ⟨w.set h1, live_put h1 e1 ?_⟩
              have l1 : Live t H ((.ref a, .oi c' fs) :: (K ++ ((prs σ ρ).eraseIdx i ++ fr))) := (l.perm (swapA K (prs σ ρ) fr)).perm (((prs_perm h1 e1).append_right _).trans (.cons _ (swapA _ _ _)))
              obtain ⟨a', dx', fvs', n', y, ea, h2', h3', h4', l2⟩ := l1.outF e2 (by simpa using hn)
              cases ea
              rw [h2] at h2'
              cases h2'
              rw [h3] at h3'
              cases h3'
              rw [h4] at h4'
              cases h4'
              refine Live.backF (hfn _) (hi _ _ _ _ h2) h3 h4 (P _ _ _ e3 (l2.perm (.cons _ List.perm_middle.symm)))
            · cases e
        · cases e
      · cases e
    · cases e
end
section
variable {X : Cx} {κ : Kx} {kp : List Nat} {pu p q r fl fl' : Bool} {e a b c tg it : Expr} {pos ps ps2 apos : Pos} {es : List Expr}
/-! ### attributes read -/
/-- the place i.f -/
def opf (i c f : Nat) : M Opd := fun ρ => match peek ρ (.pf i c f) with
  | some _ => some (.ok (.pf i c f), ρ)
  | none => none
theorem inFld {σ : St} {H : Hp} {ρ : Env} {fr : List (V × OV)} {i c f : Nat} {d : D} {nm : Str} (w : WS σ ρ) (l : Live κ.T H (prs σ ρ ++ fr)) (hn : (κ.T.fn c)[f]? = some nm) (e : peek ρ (.pf i c f) = some d) :
    ∃ a dx fvs y, σ[i]? = some (some (.ref a)) ∧ H a = some (.ins (κ.T.ca c) dx fvs) ∧ fvs.lookup nm = some y := by
  obtain ⟨o, e1, e2⟩ := Option.bind_eq_some_iff.mp (show (ρ[i]?).bind (fldO c f) = some d from e)
  have hno : o.isNo = false := by
    cases o with
    | no => simp [fldO] at e2
    | _ => rfl
  obtain ⟨v, hv⟩ := w.has i o e1 hno
  have l1 := live_slot l hv e1
  cases o with
  | oi c' fs =>
    simp only [fldO] at e2
    split at e2
    · rename_i hc
      subst hc
      obtain ⟨o, e3, e4⟩ := Option.bind_eq_some_iff.mp e2
      obtain ⟨a, dx, fvs, n, y, rfl, h2, h3, h4, _⟩ := l1.outF e3 (odat_some e4).1
      rw [hn] at h3
      cases h3
      exact ⟨a, dx, fvs, y, hv, h2, h4⟩
    · cases e2
  | fz dd =>
    cases dd with
    | ins c' fs =>
      simp only [fldO] at e2
      split at e2
      · rename_i hc
        subst hc
        obtain ⟨o, e3, e4⟩ := Option.bind_eq_some_iff.mp e2
        obtain ⟨a, dx, fvs, n, y, rfl, h2, h3, h4, _⟩ := l1.fldF e3 (ddat_some e4).1
        rw [hn] at h3
        cases h3
        exact ⟨a, dx, fvs, y, hv, h2, h4⟩
      · cases e2
    | _ => simp [fldO] at e2
  | _ => simp [fldO] at e2
theorem so_pf {i c f : Nat} {nm : Str} (hn : (κ.T.fn c)[f]? = some nm) (h : PE X e (tVar i)) (hc : Cls X.K (κ.T.ca c)) (hna : NoAttr X.K (κ.T.ca c) nm) (hb : attributeBase e nm X.env (eval e X.env) = eval e X.env := by rfl) : SO X κ true true (.Attribute e nm pos) (opf i c f) := ⟨(pe_fld h hb).imp fun σ H Q ⟨ρ, fr, w, l, hp⟩ => by
  unfold wp opf at hp
  cases ep : peek ρ (.pf i c f) with
  | none => rw [ep] at hp; exact hp.elim
  | some d =>
    rw [ep] at hp
    obtain ⟨a, dx, fvs, y, h1, h2, h3⟩ := inFld w l hn ep
    exact ⟨_, h1, a, _, dx, fvs, y, rfl, h2, hc, hna, h3, hp y H w (fun _ => Same.refl H) (fun h => nomatch h) (l.no y) ⟨a, dx, fvs, nm, h1, h2, hn, h3⟩⟩⟩
/-- an attribute's value: what is owned is frozen -/
def frzFld (c f : Nat) : OV → Option (D × OV)
  | .oi c' fs => if c' = c then match fs[f]? with
    | some o => if o.isNo = true then none else some (o.dat, .oi c (fs.set f (.fz o.dat)))
    | none => none
    else none
  | .fz (.ins c' fs) => if c' = c then match fs[f]? with
    | some d => if isNo d = true then none else some (d, .fz (.ins c fs))
    | none => none
    else none
  | _ => none
def fldV (i c f : Nat) : M OV := fun ρ => match ρ[i]? with
  | some o => match frzFld c f o with
    | some (d, o') => some (.ok (.fz d), ρ.set i o')
    | none => none
  | none => none
theorem se_fld {i c f : Nat} {nm : Str} (hn : (κ.T.fn c)[f]? = some nm) (h : PE X e (tVar i)) (hc : Cls X.K (κ.T.ca c)) (hna : NoAttr X.K (κ.T.ca c) nm) (hb : attributeBase e nm X.env (eval e X.env) = eval e X.env := by rfl) : SE X κ true (.Attribute e nm pos) (fldV i c f) := ⟨(pe_fld h hb).imp fun σ H Q ⟨ρ, fr, w, l, hp⟩ => by
  unfold wp fldV at hp
  cases e1 : ρ[i]? with
  | none => rw [e1] at hp; exact hp.elim
  | some o =>
    rw [e1] at hp
    simp only at hp
    cases e2 : frzFld c f o with
    | none => rw [e2] at hp; exact hp.elim
    | some p =>
      obtain ⟨d, o'⟩ := p
      rw [e2] at hp
      simp only at hp
      cases o with
      | oi c' fs =>
        obtain ⟨v, hv⟩ := w.has i _ e1 rfl
        have l1 := live_slot l hv e1
        simp only [frzFld] at e2
        split at e2
        · rename_i hcc
          subst hcc
          split at e2
          · rename_i o e3
            split at e2
            · cases e2
            · rename_i hno
              cases e2
              obtain ⟨a, dx, fvs, n, y, rfl, h2, h3, h4, l2⟩ := l1.frzF e3 (by simpa using hno)
              rw [hn] at h3
              cases h3
              refine ⟨_, hv, a, _, dx, fvs, y, rfl, h2, hc, hna, h4, hp y H (w.set hv) (fun _ => Same.refl H) ?_⟩
              exact (live_put (fr := (y, .fz o.dat) :: fr) hv e1 (l2.perm ((List.Perm.swap _ _ _).trans (.cons _ List.perm_middle.symm)))).perm List.perm_middle
          · cases e2
        · cases e2
      | fz dd =>
        cases dd with
        | ins c' fs =>
          obtain ⟨v, hv⟩ := w.has i _ e1 rfl
          have l1 := live_slot l hv e1
          simp only [frzFld] at e2
          split at e2
          · rename_i hcc
            subst hcc
            split at e2
            · rename_i d0 e3
              split at e2
              · cases e2
              · rename_i hno
                cases e2
                obtain ⟨a, dx, fvs, n, y, rfl, h2, h3, h4, l2⟩ := l1.fldF e3 (by simpa using hno)
                rw [hn] at h3
                cases h3
                refine ⟨_, hv, a, _, dx, fvs, y, rfl, h2, hc, hna, h4, hp y H (w.set hv) (fun _ => Same.refl H) ?_⟩
                exact (live_put (fr := (y, .fz d) :: fr) hv e1 (l2.perm ((List.Perm.swap _ _ _).trans (.cons _ List.perm_middle.symm)))).perm List.perm_middle
            · cases e2
          · cases e2
        | _ => simp [frzFld] at e2
      | _ => simp [frzFld] at e2⟩
/-! ### an attribute stored -/
def fldS (i c f : Nat) (m : M OV) : M Fl := bnd m fun o => fun ρ => if o.isNo = true then none else match ρ[i]? with
  | some (.oi c' fs) => if c' = c then some (.ok .nx, ρ.set i (.oi c (fs.set f o))) else none
  | _ => none
theorem ss_fld {i c f : Nat} {nm : Str} {m : M OV} (hn : (κ.T.fn c)[f]? = some nm) (hnd : (κ.T.fn c).Nodup) (hlen : (κ.T.fn c).length < 1000) (h : PE X a (tVar i)) (hc : Cls X.K (κ.T.ca c)) (hna : NoAttr X.K (κ.T.ca c) nm) (hv : SE X κ p e m)
    (hs : swapsWith e (some (.Attribute a nm ps)) pos.line X.env = pure false := by rfl) : SS X κ kp (.Assign [.Attribute a nm ps] e pos) (fldS i c f m) := ⟨(ps_fld h hv.pe hs).imp fun D σ H ⟨ρ, fr, w, l, hp⟩ => by
  unfold fldS at hp
  rw [wp_bnd] at hp
  refine ⟨ρ, fr, w, l, wp_mono2 hp (fun o ρ' k y H' w' s' l' => ?_) fun x ρ' k => errK_of k⟩
  unfold wp at k
  by_cases h1 : o.isNo = true
  · simp [h1] at k
  · simp only [h1, if_false] at k
    cases e1 : ρ'[i]? with
    | none => simp [e1] at k
    | some oo =>
      cases oo with
      | oi c' fs =>
        simp only [e1] at k
        by_cases hcc : c' = c
        · subst hcc
          simp only [if_true] at k
          obtain ⟨v, hv⟩ := w'.has i _ e1 rfl
          have l1 : Live κ.T H' ((v, .oi c' fs) :: ((prs σ ρ').eraseIdx i ++ ((y, o) :: fr))) := live_slot (l'.perm List.perm_middle.symm) hv e1
          obtain ⟨ad, rfl⟩ : ∃ ad, v = .ref ad := by
            obtain ⟨G, O, s, ow, _⟩ := l1
            cases ow with
            | cons h _ => cases h; exact ⟨_, rfl⟩
          obtain ⟨dx, fvs, h2, h3, l2⟩ := Live.fldSet (nm := nm) (l1.perm ((List.Perm.cons _ List.perm_middle).trans (.swap _ _ _))) hn hnd
          exact ⟨_, hv, ad, _, dx, fvs, rfl, h2, hc, hna, by omega, k _ _ (w'.set hv) .rfl (live_put hv e1 l2)⟩
        · simp [hcc] at k
      | _ => simp [e1] at k⟩
end
end Kv
/-! Lists and dicts changed in place. -/
namespace Kv
open PySem L2
section
variable {t : CT} {G H H' : Hp}
theorem Live.putDK {a : Addr} {ks es : List D} {v : V} {d : D} {L : List (V × OV)} (k : Key) (l : Live t H ((.ref a, .od false ks es) :: (v, .fz d) :: L)) :
    ∃ kvs, H a = some (.dK kvs) ∧ kvs.length = ks.length ∧ Live t (upd H a (.dK (putK kvs k v))) ((.ref a, .od false (putKs ks (keyD k)) (putVs ks es (keyD k) d)) :: L) := by
  obtain ⟨G, O, l⟩ := l.perm (.swap _ _ _)
  obtain ⟨r, l⟩ := LiveG.sub (vs := [v]) (ds := [d]) rfl l
  cases r with
  | cons rv _ =>
  have h := l.own
  generalize e : ((V.ref a, OV.od false ks es) :: L).map (·.1) = A at h
  generalize e2 : ((V.ref a, OV.od false ks es) :: L).map (·.2) = B at h
  cases h with
  | nil => simp at e
  | @cons v vs o os O1 O2 h t =>
    simp only [List.map_cons, List.cons.injEq] at e e2
    obtain ⟨e, e'⟩ := e
    obtain ⟨e2, e2'⟩ := e2
    subst e e' e2'
    cases h with
    | @dk _ kvs _ n r' =>
      cases e2
      obtain ⟨k1, k2, k3⟩ := put_ok eqK_key k rv n r'
      refine ⟨kvs, l.at_ _ (List.mem_append_left _ (List.mem_singleton.mpr rfl)), by simp, G, _, LiveG.write l t ?_⟩
      rw [← k1]
      exact OwnR.dk k2 k3
    | _ => cases e2
theorem Live.putDT {a : Addr} {ks es : List D} {v : V} {d : D} {L : List (V × OV)} (k : List Key) (l : Live t H ((.ref a, .od true ks es) :: (v, .fz d) :: L)) :
    ∃ kvs, H a = some (.dT kvs) ∧ kvs.length = ks.length ∧ Live t (upd H a (.dT (putK kvs k v))) ((.ref a, .od true (putKs ks (.tup (k.map keyD))) (putVs ks es (.tup (k.map keyD)) d)) :: L) := by
  obtain ⟨G, O, l⟩ := l.perm (.swap _ _ _)
  obtain ⟨r, l⟩ := LiveG.sub (vs := [v]) (ds := [d]) rfl l
  cases r with
  | cons rv _ =>
  have h := l.own
  generalize e : ((V.ref a, OV.od true ks es) :: L).map (·.1) = A at h
  generalize e2 : ((V.ref a, OV.od true ks es) :: L).map (·.2) = B at h
  cases h with
  | nil => simp at e
  | @cons v vs o os O1 O2 h t =>
    simp only [List.map_cons, List.cons.injEq] at e e2
    obtain ⟨e, e'⟩ := e
    obtain ⟨e2, e2'⟩ := e2
    subst e e' e2'
    cases h with
    | @dt _ kvs _ n r' =>
      cases e2
      obtain ⟨k1, k2, k3⟩ := put_ok (enc := fun k : List Key => D.tup (k.map keyD)) eqK_tup k rv n r'
      refine ⟨kvs, l.at_ _ (List.mem_append_left _ (List.mem_singleton.mpr rfl)), by simp, G, _, LiveG.write l t ?_⟩
      rw [← k1]
      exact OwnR.dt k2 k3
    | _ => cases e2
theorem insts_upd {p : Addr} {x : HO} (h : ∀ C dx fvs, H p ≠ some (.ins C dx fvs)) : Insts H (upd H p x) := fun a C dx fvs e => by
  have : a ≠ p := fun z => h C dx fvs (z ▸ e)
  rw [upd_ne this]; exact e
theorem mutO_peek {g : OV → Option OV} (hg : ∀ o o', g o = some o' → o.isNo = false) {od : Opd} {ρ ρ' : Env} (e : mutO g od ρ = some ρ') : ∃ o o', peek ρ od = some o.dat ∧ g o = some o' := by
  cases od with
  | tv o => cases e
  | pl i =>
    simp only [mutO] at e
    split at e
    · rename_i o e1
      split at e
      · rename_i o' e2
        refine ⟨o, o', ?_, e2⟩
        show (ρ[i]?).bind odat = _
        rw [e1]
        show odat o = _
        unfold odat
        rw [hg _ _ e2]; rfl
      · cases e
    · cases e
  | pf i c f =>
    simp only [mutO] at e
    split at e
    · rename_i c' fs e1
      split at e
      · rename_i hc
        split at e
        · rename_i o e2
          split at e
          · cases e
          · split at e
            · rename_i o' e3
              refine ⟨o, o', ?_, e3⟩
              show (ρ[i]?).bind (fldO c f) = _
              rw [e1]
              show fldO c f (.oi c' fs) = _
              simp only [fldO, hc, if_true, e2, Option.bind_some]
              unfold odat
              rw [hg _ _ e3]; rfl
            · cases e
        · cases e
      · cases e
    · cases e
/-- xs.append(d) -/
def appG (d : D) : OV → Option OV
  | .ol xs => if xs.length < 1000000 then some (.ol (xs ++ [d])) else none
  | _ => none
theorem appG_some {d : D} {o o' : OV} (h : appG d o = some o') : ∃ xs, o = .ol xs ∧ xs.length < 1000000 ∧ o' = .ol (xs ++ [d]) := by
  cases o with
  | ol xs =>
    simp only [appG] at h
    split at h
    · cases h; exact ⟨xs, rfl, by assumption, rfl⟩
    · cases h
  | _ => cases h
/-- d[k] = v -/
def putG (k d : D) : OV → Option OV
  | .od false ks es => if ks.length < 1000000 then (toKey k).map fun _ => .od false (putKs ks k) (putVs ks es k d) else none
  | .od true ks es => if ks.length < 1000000 then (toTK k).map fun _ => .od true (putKs ks k) (putVs ks es k d) else none
  | _ => none
/-- xs[i] = v -/
def setG (k d : D) : OV → Option OV
  | .ol xs => match k with
    | .int i => (ixN xs.length i).map fun j => .ol (xs.set j d)
    | _ => none
  | _ => none
theorem setG_some {k d : D} {o o' : OV} (h : setG k d o = some o') : ∃ xs i j, o = .ol xs ∧ k = .int i ∧ ixN xs.length i = some j ∧ o' = .ol (xs.set j d) := by
  cases o with
  | ol xs =>
    simp only [setG] at h
    split at h
    · obtain ⟨j, e, rfl⟩ := Option.map_eq_some_iff.mp h
      exact ⟨xs, _, j, rfl, rfl, e, rfl⟩
    · cases h
  | _ => cases h
theorem Live.setAt {a : Addr} {xs : List D} {j : Nat} {v : V} {d : D} {L : List (V × OV)} (l : Live t H ((.ref a, .ol xs) :: (v, .fz d) :: L)) :
    ∃ vs, H a = some (.lst vs) ∧ vs.length = xs.length ∧ Live t (upd H a (.lst (vs.set j v))) ((.ref a, .ol (xs.set j d)) :: L) := by
  obtain ⟨a', vs, e, hl, hH, _⟩ := l.ofOl
  cases e
  obtain ⟨G, O, lg⟩ := l.perm (.swap _ _ _)
  obtain ⟨r, lg⟩ := LiveG.sub (vs := [v]) (ds := [d]) rfl lg
  cases r with
  | cons rv _ =>
  have h := lg.own
  generalize e : ((V.ref a, OV.ol xs) :: L).map (·.1) = A at h
  generalize e2 : ((V.ref a, OV.ol xs) :: L).map (·.2) = B at h
  cases h with
  | nil => simp at e
  | @cons v1 vs1 o os O1 O2 h tl =>
    simp only [List.map_cons, List.cons.injEq] at e e2
    obtain ⟨e, e'⟩ := e
    obtain ⟨e2, e2'⟩ := e2
    subst e e2 e' e2'
    cases h with
    | @ol _ vs' _ r' =>
      have := lg.at_ _ (List.mem_append_left _ (List.mem_singleton.mpr rfl))
      simp only at this
      rw [hH] at this
      cases this
      refine ⟨vs, hH, hl, G, _, LiveG.write lg tl (OwnR.ol (ds := xs.set j d) ?_)⟩
      refine Reps.ofGet (by simp [hl]) fun i v2 d2 e1 e2 => ?_
      by_cases hj : j = i
      · subst hj
        by_cases hlt : j < vs.length
        · rw [List.getElem?_set_self hlt] at e1
          rw [List.getElem?_set_self (by omega)] at e2
          cases e1; cases e2
          exact rv
        · rw [List.getElem?_eq_none (by simp; omega)] at e1; cases e1
      · rw [List.getElem?_set_ne hj] at e1 e2
        obtain ⟨d', e3, r3⟩ := r'.getV e1
        rw [e2] at e3; cases e3
        exact r3
end
section
variable {X : Cx} {κ : Kx} {kp : List Nat} {pu p q r fl fl' : Bool} {e a b c tg it : Expr} {pos ps ps2 apos : Pos} {es : List Expr}
def mutM (g : OV → Option OV) (x : Opd) : M Unit := fun ρ => match mutO g x ρ with
  | some ρ' => some (.ok (), ρ')
  | none => none
theorem wp_mutM {g : OV → Option OV} {x : Opd} {ρ : Env} {Q : Unit → Env → Prop} {E : Ex → Env → Prop} (h : wp (mutM g x) ρ Q E) : ∃ ρ', mutO g x ρ = some ρ' ∧ Q () ρ' := by
  unfold wp mutM at h
  cases e : mutO g x ρ with
  | none => rw [e] at h; exact h.elim
  | some ρ' => rw [e] at h; exact ⟨ρ', rfl, h⟩
def pkL (x : Opd) : M Unit := fun ρ => match peek ρ x with
  | some (.lst _) => some (.ok (), ρ)
  | _ => none
theorem wp_pkL {od : Opd} {ρ : Env} {Q : Unit → Env → Prop} {E : Ex → Env → Prop} (h : wp (pkL od) ρ Q E) : ∃ fs, peek ρ od = some (.lst fs) ∧ Q () ρ := by
  unfold wp pkL at h
  cases e : peek ρ od with
  | none => rw [e] at h; exact h.elim
  | some d =>
    rw [e] at h
    cases d with
    | lst fs => exact ⟨fs, rfl, h⟩
    | _ => exact h.elim
def appM (mo : M Opd) (ms : M (List D)) : M OV := bnd mo fun x => bnd (pkL x) fun _ => bnd ms fun ds => match ds with
  | [d] => bnd (mutM (appG d) x) fun _ => ret (.fz .non)
  | _ => bad
theorem se_app {mo : M Opd} {ms : M (List D)} (hfn : ∀ c, (κ.T.fn c).Nodup) (ho : SO X κ p fl a mo) (ha : SD X κ q [e] ms) (hfl : (!fl || q) = true := by rfl)
    (hbase : attributeBase a "append" X.env (eval a X.env) = eval a X.env := by rfl)
    (hfew : ((backTo pos (starEach [e] X.env)).all (fun x => !x.1) && (backToKw pos (keywordEach [] X.env)).all (fun x => x.1.isSome)
      && decide ([e].length + ([] : List Keyword).length + (if ([] : List Keyword).isEmpty then 0 else 1) < 30)) = true := by rfl)
    (hline : (apos.endLine == pos.line) = true := by rfl) (hs : starEach [e] X.env = (false, eval e X.env) :: starEach [] X.env := by rfl) (hplain : (backTo pos (starEach [] X.env)).any (·.1) = false := by rfl) :
    SE X κ false (.Call (.Attribute a "append" apos) [e] [] pos) (appM mo ms) := ⟨(pe_bm PySem.F.plainAttrs_list PySem.F.slot_list_append PySem.F.type_list_append mt_append ho.pe ha.pa hbase hfew hline hs hplain).imp fun σ H Q ⟨ρ, fr, w, l, hp⟩ => by
  unfold appM at hp
  rw [wp_bnd] at hp
  refine ⟨ρ, fr, w, l, wp_mono hp fun x ρ1 hp v1 H1 w1 s1 f1 l1 od1 => ?_⟩
  rw [wp_bnd] at hp
  obtain ⟨xs, e1, hp⟩ := wp_pkL hp
  have bx := bor_od l1 w1 (fun z hz => List.mem_cons_of_mem _ (List.mem_append_left _ hz)) List.mem_cons_self od1 e1
  obtain ⟨G, O, lg⟩ := l1
  obtain ⟨ad, vs, rfl, hH, _⟩ := bx.cmp G O lg
  refine ⟨.inl ⟨rfl, vs, SqL.of hH⟩, ?_⟩
  have l1' : Live κ.T H1 (prs σ ρ1 ++ ((.ref ad, x.ov) :: fr)) := Live.perm ⟨G, O, lg⟩ List.perm_middle.symm
  rw [wp_bnd] at hp
  refine ⟨ρ1, _, w1, l1', wp_mono2 hp (fun ds ρ2 hp us H2 w2 s2 hl l2 => ?_) fun _ _ h => κ.xm _ _ _ _ _ h⟩
  split at hp
  · rename_i d
    obtain ⟨y, rfl⟩ := len1 hl
    rw [wp_bnd] at hp
    obtain ⟨ρ3, e3, hp⟩ := wp_mutM hp
    have od2 : OdR κ.T σ H2 x (.ref ad) := by
      cases hx : fl with
      | true => rw [hx] at hfl; exact od1.same (s2 (by simpa using hfl))
      | false => exact od1.plain (f1 hx)
    have l2' : Live κ.T H2 ([(y, .fz d)] ++ (prs σ ρ2 ++ ((.ref ad, x.ov) :: fr))) := l2
    obtain ⟨o, o', e4, e5⟩ := mutO_peek (fun o o' h => by obtain ⟨xs, rfl, _⟩ := appG_some h; rfl) e3
    obtain ⟨xs, rfl, hlt, rfl⟩ := appG_some e5
    have b2 := bor_od l2' w2 (fun z hz => List.mem_append_right _ (List.mem_append_left _ hz)) (List.mem_append_right _ (List.mem_append_right _ List.mem_cons_self)) od2 e4
    have ⟨G2, O2, lg2⟩ := l2'
    obtain ⟨ad', vs2, ea, hH2, rr⟩ := b2.cmp G2 O2 lg2
    cases ea
    have hl2 : vs2.length = xs.length := rr.length
    obtain ⟨w3, l3⟩ := mut_ok (H' := upd H2 ad (.lst (vs2 ++ [y]))) hfn w2 od2 l2' e3 (insts_upd fun C dx fvs => by rw [hH2]; intro h; cases h) (fun L o o' h l => by
      obtain ⟨xs, rfl, _, rfl⟩ := appG_some h
      obtain ⟨us, hu, _, l4⟩ := Live.app (l.perm (.swap _ _ _))
      rw [hH2] at hu
      cases hu
      exact l4)
    exact ⟨ad, vs2, y, rfl, rfl, hH2, Nat.lt_of_lt_of_le (by omega : vs2.length < 1000000) (by decide), hp .non _ w3 (fun h => nomatch h) (live_non (live_mid l3))⟩
  · exact hp.elim⟩
/-! ### d[k] = v -/
def putS (mv : M OV) (mo : M Opd) (mk : M OV) : M Fl := bnd mv fun o => bnd (ofO (froz o)) fun d => bnd mo fun x => bnd mk fun k => bnd (ofO (froz k)) fun kd => bnd (mutM (putG kd d) x) fun _ => ret .nx
theorem ss_put {mv mk : M OV} {mo : M Opd} (hfn : ∀ c, (κ.T.fn c).Nodup) (hu : X.A.units + 1 < cLine) (hv : SE X κ r e mv) (ho : SO X κ p fl a mo) (hk : SE X κ q b mk) (hfl : (!fl || q) = true := by rfl) (hs : swapsWith e (some (.Subscript a b ps)) pos.line X.env = pure false := by rfl) :
    SS X κ kp (.Assign [.Subscript a b ps] e pos) (putS mv mo mk) := ⟨(ps_dput hu ho.pe hk.pe hv.pe hs).imp fun D σ H ⟨ρ, fr, w, l, hp⟩ => by
  unfold putS at hp
  rw [wp_bnd] at hp
  refine ⟨ρ, fr, w, l, wp_mono2 hp (fun o ρ1 hp v H1 w1 s1 l1 => ?_) fun x ρ' k => errK_of k⟩
  rw [wp_bnd] at hp
  obtain ⟨d, ed, hp⟩ := wp_ofO hp
  cases froz_some ed
  have l1' : Live κ.T H1 (prs σ ρ1 ++ ((v, .fz o.dat) :: fr)) := l1.frz.perm List.perm_middle.symm
  rw [wp_bnd] at hp
  refine ⟨ρ1, _, w1, l1', wp_mono2 hp (fun x ρ2 hp vx H2 w2 s2 f2 l2 od2 => ?_) fun x ρ' k => κ.xm _ _ _ _ _ (errK_of k)⟩
  have l2' : Live κ.T H2 (prs σ ρ2 ++ ((vx, x.ov) :: (v, .fz o.dat) :: fr)) := l2.perm List.perm_middle.symm
  rw [wp_bnd] at hp
  refine ⟨ρ2, _, w2, l2', wp_mono2 hp (fun ko ρ3 hp vk H3 w3 s3 l3 => ?_) fun x ρ' k => κ.xm _ _ _ _ _ (κ.xm _ _ _ _ _ (errK_of k))⟩
  rw [wp_bnd] at hp
  obtain ⟨kd, ek, hp⟩ := wp_ofO hp
  cases froz_some ek
  rw [wp_bnd] at hp
  obtain ⟨ρ4, e4, hp⟩ := wp_mutM hp
  have od3 : OdR κ.T σ H3 x vx := by
    cases hx : fl with
    | true => rw [hx] at hfl; exact od2.same (s3 (by simpa using hfl))
    | false => exact od2.plain (f2 hx)
  have l3' : Live κ.T H3 ([(vk, .fz ko.dat)] ++ (prs σ ρ3 ++ ((vx, x.ov) :: (v, .fz o.dat) :: fr))) := l3.frz
  obtain ⟨oo, oo', e5, e6⟩ := mutO_peek (g := putG ko.dat o.dat) (fun o o' h => by cases o <;> first | rfl | cases h) e4
  have b3 := bor_od l3' w3 (fun z hz => List.mem_append_right _ (List.mem_append_left _ hz)) (List.mem_append_right _ (List.mem_append_right _ List.mem_cons_self)) od3 e5
  have bk : Bor κ.T H3 _ vk ko.dat := bor_mem (o := .fz ko.dat) l3' List.mem_cons_self
  have ⟨G3, O3, lg3⟩ := l3'
  have l3k : Live κ.T H3 ([(v, .fz o.dat)] ++ (prs σ ρ3 ++ ((vx, x.ov) :: fr))) := by
    have := l3'.tail
    refine this.perm ?_
    have h1 : (prs σ ρ3 ++ ((vx, x.ov) :: (v, OV.fz o.dat) :: fr)).Perm ((v, OV.fz o.dat) :: (prs σ ρ3 ++ ((vx, x.ov) :: fr))) :=
      (List.Perm.append_left _ (List.Perm.swap _ _ _)).trans List.perm_middle
    exact h1
  cases oo with
  | od tt ks es2 =>
    cases tt with
    | false =>
      simp only [putG] at e6
      split at e6
      · rename_i hlt
        obtain ⟨k, ek1, _⟩ := Option.map_eq_some_iff.mp e6
        have ek2 := toKey_some ek1
        obtain ⟨ad, kvs, rfl, hH3, ekk, _, _⟩ := b3.cmp G3 O3 lg3
        have hkl : kvs.length = ks.length := by rw [ekk]; simp
        have hvk : vk = kV k := key_v (by rw [← ek2]; exact bk.rep)
        obtain ⟨w5, l5⟩ := mut_ok (H' := upd H3 ad (.dK (putK kvs k v))) hfn w3 od3 l3k e4 (insts_upd fun C dx fvs => by rw [hH3]; intro h; cases h) (fun L o1 o2 h l => by
          cases o1 with
          | od tt ks1 es1 =>
            cases tt with
            | false =>
              simp only [putG] at h
              split at h
              · rw [ek1] at h
                cases h
                obtain ⟨kvs', h1, _, h3⟩ := Live.putDK k l
                rw [hH3] at h1
                cases h1
                rw [ek2]
                exact h3
              · cases h
            | true =>
              obtain ⟨G9, O9, l9⟩ := l
              have := (bor_mem ⟨G9, O9, l9⟩ (v := .ref ad) (o := .od true ks1 es1) List.mem_cons_self).cmp G9 O9 l9
              obtain ⟨a9, k9, e9, h9, _⟩ := this
              cases e9
              rw [hH3] at h9
              cases h9
          | _ => cases h)
        refine ⟨ad, _, rfl, ?_, hp σ _ w5 .rfl (live_mid l5)⟩
        rw [hvk]
        exact DPut.k hH3 (Nat.lt_of_lt_of_le (by omega : kvs.length < 1000000) (by decide))
      · cases e6
    | true =>
      simp only [putG] at e6
      split at e6
      · rename_i hlt
        obtain ⟨k, ek1, _⟩ := Option.map_eq_some_iff.mp e6
        have ek2 := toTK_some ek1
        obtain ⟨ad, kvs, rfl, hH3, ekk, _, _⟩ := b3.cmp G3 O3 lg3
        have hkl : kvs.length = ks.length := by rw [ekk]; simp
        have hck := bk.cmp G3 O3 lg3
        rw [ek2] at hck
        obtain ⟨_, bd, ws, rfl, hb, rb⟩ := hck
        rw [keys_v rb] at hb
        obtain ⟨w5, l5⟩ := mut_ok (H' := upd H3 ad (.dT (putK kvs k v))) hfn w3 od3 l3k e4 (insts_upd fun C dx fvs => by rw [hH3]; intro h; cases h) (fun L o1 o2 h l => by
          cases o1 with
          | od tt ks1 es1 =>
            cases tt with
            | true =>
              simp only [putG] at h
              split at h
              · rw [ek1] at h
                cases h
                obtain ⟨kvs', h1, _, h3⟩ := Live.putDT k l
                rw [hH3] at h1
                cases h1
                rw [ek2]
                exact h3
              · cases h
            | false =>
              obtain ⟨G9, O9, l9⟩ := l
              have := (bor_mem ⟨G9, O9, l9⟩ (v := .ref ad) (o := .od false ks1 es1) List.mem_cons_self).cmp G9 O9 l9
              obtain ⟨a9, k9, e9, h9, _⟩ := this
              cases e9
              rw [hH3] at h9
              cases h9
          | _ => cases h)
        refine ⟨ad, _, rfl, ?_, hp σ _ w5 .rfl (live_mid l5)⟩
        exact DPut.t hH3 hb (Nat.lt_of_lt_of_le (by omega : kvs.length < 1000000) (by decide))
      · cases e6
  | _ => cases e6⟩
/-! ### xs[i] = v -/
def putLS (mv : M OV) (mo : M Opd) (mk : M OV) : M Fl := bnd mv fun o => bnd (ofO (froz o)) fun d => bnd mo fun x => bnd mk fun k => bnd (ofO (froz k)) fun kd => bnd (mutM (setG kd d) x) fun _ => ret .nx
theorem ss_putL {mv mk : M OV} {mo : M Opd} (hfn : ∀ c, (κ.T.fn c).Nodup) (hv : SE X κ r e mv) (ho : SO X κ p fl a mo) (hk : SE X κ q b mk) (hfl : (!fl || q) = true := by rfl)
    (ha : ∀ v, assign (.Subscript a b ps) X.env v = (do
      let ov ← holding [v] (eval a X.env)
      let iv ← holding [v, ov] (eval b X.env)
      standAt ps
      holding [v, ov, iv] (setItem ov iv v)
      release [v, ov, iv] []) := by intro _; rfl)
    (hs : swapsWithSole [.Subscript a b ps] e pos.line X.env = pure false := by rfl) (hw : swappedStores [.Subscript a b ps] e X.env = pure none := by rfl)
    (h1 : (assignEach [.Subscript a b ps] X.env).map (·.2) = [assign (.Subscript a b ps) X.env] := by rfl) : SS X κ kp (.Assign [.Subscript a b ps] e pos) (putLS mv mo mk) := ⟨(ps_asg hv.pe (pg_sub ho.pe hk.pe set_list ha) hs hw h1).imp fun D σ H ⟨ρ, fr, w, l, hp⟩ => by
  unfold putLS at hp
  rw [wp_bnd] at hp
  refine ⟨ρ, fr, w, l, wp_mono2 hp (fun o ρ1 hp v H1 w1 s1 l1 => ?_) fun x ρ' k => errK_of k⟩
  rw [wp_bnd] at hp
  obtain ⟨d, ed, hp⟩ := wp_ofO hp
  cases froz_some ed
  have l1' : Live κ.T H1 (prs σ ρ1 ++ ((v, .fz o.dat) :: fr)) := l1.frz.perm List.perm_middle.symm
  rw [wp_bnd] at hp
  refine ⟨ρ1, _, w1, l1', wp_mono2 hp (fun x ρ2 hp vx H2 w2 s2 f2 l2 od2 => ?_) fun x ρ' k => κ.xm _ _ _ _ _ (errK_of k)⟩
  have l2' : Live κ.T H2 (prs σ ρ2 ++ ((vx, x.ov) :: (v, .fz o.dat) :: fr)) := l2.perm List.perm_middle.symm
  rw [wp_bnd] at hp
  refine ⟨ρ2, _, w2, l2', wp_mono2 hp (fun ko ρ3 hp vk H3 w3 s3 l3 => ?_) fun x ρ' k => κ.xm _ _ _ _ _ (κ.xm _ _ _ _ _ (errK_of k))⟩
  rw [wp_bnd] at hp
  obtain ⟨kd, ek, hp⟩ := wp_ofO hp
  cases froz_some ek
  rw [wp_bnd] at hp
  obtain ⟨ρ4, e4, hp⟩ := wp_mutM hp
  have od3 : OdR κ.T σ H3 x vx := by
    cases hx : fl with
    | true => rw [hx] at hfl; exact od2.same (s3 (by simpa using hfl))
    | false => exact od2.plain (f2 hx)
  have l3' : Live κ.T H3 ([(vk, .fz ko.dat)] ++ (prs σ ρ3 ++ ((vx, x.ov) :: (v, .fz o.dat) :: fr))) := l3.frz
  obtain ⟨oo, oo', e5, e6⟩ := mutO_peek (g := setG ko.dat o.dat) (fun o o' h => by obtain ⟨_, _, _, rfl, _⟩ := setG_some h; rfl) e4
  obtain ⟨xs, i, j, rfl, ei, ej, rfl⟩ := setG_some e6
  have b3 := bor_od l3' w3 (fun z hz => List.mem_append_right _ (List.mem_append_left _ hz)) (List.mem_append_right _ (List.mem_append_right _ List.mem_cons_self)) od3 e5
  have bk : Bor κ.T H3 _ vk ko.dat := bor_mem (o := .fz ko.dat) l3' List.mem_cons_self
  have ⟨G3, O3, lg3⟩ := l3'
  have l3k : Live κ.T H3 ([(v, .fz o.dat)] ++ (prs σ ρ3 ++ ((vx, x.ov) :: fr))) := by
    refine l3'.tail.perm ?_
    have h1 : (prs σ ρ3 ++ ((vx, x.ov) :: (v, OV.fz o.dat) :: fr)).Perm ((v, OV.fz o.dat) :: (prs σ ρ3 ++ ((vx, x.ov) :: fr))) :=
      (List.Perm.append_left _ (List.Perm.swap _ _ _)).trans List.perm_middle
    exact h1
  obtain ⟨ad, vs, rfl, hH3, rr⟩ := b3.cmp G3 O3 lg3
  have hvk : vk = .int i := int_of (by rw [← ei]; exact bk.rep)
  have hl3 : vs.length = xs.length := rr.length
  obtain ⟨w5, l5⟩ := mut_ok (H' := upd H3 ad (.lst (vs.set j v))) hfn w3 od3 l3k e4 (insts_upd fun C dx fvs => by rw [hH3]; intro h; cases h) (fun L o1 o2 h l => by
    obtain ⟨xs1, i1, j1, rfl, ei1, ej1, rfl⟩ := setG_some h
    have l : Live κ.T H3 ((.ref ad, .ol xs1) :: (v, .fz o.dat) :: L) := l
    rw [ei] at ei1
    cases ei1
    obtain ⟨us, hu, hul, l4⟩ := Live.setAt (j := j1) l
    rw [hH3] at hu
    cases hu
    have : j1 = j := by
      rw [← hl3, hul, ej1] at ej
      exact Option.some.inj ej
    subst this
    exact l4)
  exact ⟨ad, vs, i, j, rfl, hvk, hH3, by rw [hl3]; exact ej, hp σ _ w5 .rfl (live_mid l5)⟩⟩
end
end Kv
/-! Dict comprehensions; a dict's items; get; a value moved out; reversed lists. -/
namespace Kv
open PySem L2
section
variable {t : CT} {H : Hp}
theorem Live.lock {d : Addr} {ks es : List D} {L : List (V × OV)} (l : Live t H ((.ref d, .od false ks es) :: L)) :
    ∃ kvs, H d = some (.dK kvs) ∧ ks = kvs.map (fun p => keyD p.1) ∧ (kvs.map (·.1)).Nodup ∧ kvs.length = es.length ∧ ∀ x, Live t (upd H d x) ((.ref d, .lk x) :: (zipF (kvs.map (·.2)) es ++ L)) := by
  obtain ⟨G, O, l⟩ := l
  have h := l.own
  generalize e : ((V.ref d, OV.od false ks es) :: L).map (·.1) = A at h
  generalize e2 : ((V.ref d, OV.od false ks es) :: L).map (·.2) = B at h
  cases h with
  | nil => simp at e
  | @cons v vs o os O1 O2 h tl =>
    simp only [List.map_cons, List.cons.injEq] at e e2
    obtain ⟨e, e'⟩ := e
    obtain ⟨e2, e2'⟩ := e2
    subst e e' e2'
    cases h with
    | @dk _ kvs _ n r' =>
      cases e2
      refine ⟨kvs, l.at_ _ (List.mem_append_left _ (List.mem_singleton.mpr rfl)), rfl, n, by have := r'.length; simpa using this, fun x => ?_⟩
      have l2 : LiveG t G (upd H d x) ((.ref d, .lk x) :: L) ((d, x) :: O2) := LiveG.write l tl .lk
      exact Live.perm ⟨G, _, l2.add r'⟩ List.perm_middle
    | _ => cases e2
theorem Live.lkAt {d : Addr} {x : HO} {L : List (V × OV)} (l : Live t H ((.ref d, .lk x) :: L)) : H d = some x := by
  obtain ⟨G, O, l⟩ := l
  have h := l.own
  generalize e : ((V.ref d, OV.lk x) :: L).map (·.1) = A at h
  generalize e2 : ((V.ref d, OV.lk x) :: L).map (·.2) = B at h
  cases h with
  | nil => simp at e
  | @cons v vs o os O1 O2 h tl =>
    simp only [List.map_cons, List.cons.injEq] at e e2
    obtain ⟨e, e'⟩ := e
    obtain ⟨e2, e2'⟩ := e2
    subst e e' e2'
    cases h with
    | lk => cases e2; exact l.at_ _ (List.mem_append_left _ (List.mem_singleton.mpr rfl))
    | _ => cases e2
theorem Live.unlock {d : Addr} {x : HO} {kvs : List (Key × V)} {es : List D} {L : List (V × OV)} (n : (kvs.map (·.1)).Nodup) (hl : kvs.length = es.length) (l : Live t H ((.ref d, .lk x) :: (zipF (kvs.map (·.2)) es ++ L))) :
    Live t (upd H d (.dK kvs)) ((.ref d, .od false (kvs.map fun p => keyD p.1) es) :: L) := by
  obtain ⟨G, O, l⟩ := l.perm List.perm_middle.symm
  obtain ⟨r, l⟩ := l.sub (by simpa using hl)
  have h := l.own
  generalize e : ((V.ref d, OV.lk x) :: L).map (·.1) = A at h
  generalize e2 : ((V.ref d, OV.lk x) :: L).map (·.2) = B at h
  cases h with
  | nil => simp at e
  | @cons v vs o os O1 O2 h tl =>
    simp only [List.map_cons, List.cons.injEq] at e e2
    obtain ⟨e, e'⟩ := e
    obtain ⟨e2, e2'⟩ := e2
    subst e e' e2'
    cases h with
    | lk => cases e2; exact ⟨G, _, LiveG.write l tl (.dk n r)⟩
    | _ => cases e2
def itemL (ks es : List D) : List D := List.zipWith (fun k e => .tup [k, e]) ks es
theorem rep_kV (k : Key) (G : Hp) : Rep t G (kV k) (keyD k) := by
  cases k with
  | inl i => exact .int i
  | inr x => exact .str x
theorem it_items {d : Addr} {o : Obj} {kvs : List (Key × V)} {es : List D} (hl : kvs.length = es.length) : ItOk t (Iti d o kvs) ((.ref d, .lk (.frz o (.dK kvs))) :: zipF (kvs.map (·.2)) es) (itemL (kvs.map fun p => keyD p.1) es) where
  go := fun i x H M hd l => by
    unfold itemL at hd
    rw [List.getElem?_zipWith] at hd
    cases e1 : (kvs.map fun p => keyD p.1)[i]? with
    | none => rw [e1] at hd; cases hd
    | some k =>
      cases e2 : es[i]? with
      | none => rw [e1, e2] at hd; cases hd
      | some e =>
        rw [e1, e2] at hd
        cases hd
        have hi : i < kvs.length := by
          have := (List.getElem?_eq_some_iff.mp e1).1
          simpa using this
        refine ⟨⟨Live.lkAt l, hi⟩, fun x H' y => ?_⟩
        obtain ⟨T, kk, v, hk, rfl, hT, rfl⟩ := y
        rw [List.getElem?_map, hk] at e1
        cases e1
        have hv : (kvs.map (·.2))[i]? = some v := by rw [List.getElem?_map, hk]; rfl
        have l1 : Live t H (zipF (kvs.map (·.2)) es ++ ((.ref d, .lk (.frz o (.dK kvs))) :: M)) := l.perm List.perm_middle.symm
        obtain ⟨G, O, lg⟩ := l1
        obtain ⟨r, lg⟩ := LiveG.sub (by simpa using hl) lg
        have l2 : Live t H (zipF (kvs.map (·.2)) es ++ (zipF (kvs.map (·.2)) es ++ ((.ref d, .lk (.frz o (.dK kvs))) :: M))) := ⟨G, O, (lg.add r).add r⟩
        have l3 := live_pick hv e2 l2
        exact (live_pair hT (l3.put fun G => rep_kV kk G)).perm (.cons _ List.perm_middle)
  stop := fun i H M hi l => by
    refine ⟨Live.lkAt l, ?_⟩
    unfold itemL at hi
    rw [List.length_zipWith, List.length_map] at hi
    omega
end
section
variable {X : Cx} {κ : Kx} {kp : List Nat} {pu p q r fl fl' : Bool} {e a b c tg it : Expr} {pos ps ps2 apos : Pos} {es : List Expr}
/-! ### dict comprehensions, keys ints or texts -/
def dloop (vs : List Nat) (g : D → Env → Option Env) (c : M Bool) (ek ev : M OV) : List D → List D → List D → M (List D × List D)
  | [], ks, es => ret (ks, es)
  | d :: ds, ks, es => fun ρ => match g d (wipeE ρ vs) with
    | none => none
    | some ρ1 => (bnd c fun k => match k with
      | true => bnd ek fun ko => bnd (ofO (froz ko)) fun k => bnd ev fun vo => bnd (ofO (froz vo)) fun v => if (toKey k).isSome = true then dloop vs g c ek ev ds (putKs ks k) (putVs ks es k v) else bad
      | false => dloop vs g c ek ev ds ks es) ρ1
def dlW (κ : Kx) (σ : St) (vs : List Nat) (g : D → Env → Option Env) (c : M Bool) (ek ev : M OV) (Da : Addr) (L0 fr : List (V × OV)) (ds : List D) (Kf : List D × List D → Env → Prop) (i m : Nat) (H : Hp) : Prop :=
  i + m = ds.length ∧ ∃ ρ ks es, WS (wipe σ vs) (wipeE ρ vs) ∧ ks.length ≤ i ∧ Live κ.T H (prs (wipe σ vs) (wipeE ρ vs) ++ ((.ref Da, .od false ks es) :: (L0 ++ fr))) ∧ wp (dloop vs g c ek ev (ds.drop i) ks es) ρ Kf (fun _ _ => False)
theorem putKs_len (ks : List D) (k : D) : (putKs ks k).length ≤ ks.length + 1 := by
  unfold putKs
  split <;> simp
theorem dl_turn {κ : Kx} {pc pk pv : Bool} {vs is : List Nat} {g : D → Env → Option Env} {c : M Bool} {ek ev : M OV} {Da : Addr} {L0 fr : List (V × OV)} {ds : List D} {Kf : List D × List D → Env → Prop} {σ : St} {J : It} (g_len : ∀ {d ρ ρ'}, g d ρ = some ρ' → ρ.length = ρ'.length) (his : ∀ i ∈ is, i ∈ vs)
    (ok : ItOk κ.T J L0 ds) (hB : ds.length < sizeLine) (i m : Nat) (H1 : Hp) (hW : dlW κ σ vs g c ek ev Da L0 fr ds Kf i m H1) :
    (J.stop i H1 ∧ ∃ ρ ks es, WS (wipe σ vs) (wipeE ρ vs) ∧ Live κ.T H1 (prs (wipe σ vs) (wipeE ρ vs) ++ ((.ref Da, .od false ks es) :: (L0 ++ fr))) ∧ Kf (ks, es) ρ) ∨
    (J.go i H1 ∧ ∃ Nx : Hp → Prop, (∀ H', Nx H' → ∃ m', m' < m ∧ dlW κ σ vs g c ek ev Da L0 fr ds Kf (i + 1) m' H') ∧ ∀ x H', J.yld i H1 x H' → TGt κ.nx is g x (wipe σ vs) H' fun σ2 H2 => wipe σ2 vs = wipe σ vs ∧ TB κ.nx pc c σ2 H2 fun b H3 =>
      if b = true then T κ.nx pk ek σ2 H3 fun y H4 => T κ.nx pv ev σ2 H4 fun z H5 => ∃ kvs k, y = kV k ∧ H5 Da = some (.dK kvs) ∧ kvs.length < sizeLine ∧ Nx (upd H5 Da (.dK (putK kvs k z))) else Nx H3) := by
  obtain ⟨em, ρ1, ks, es, w1, ha, l1, hp1⟩ := hW
  by_cases hi : ds.length ≤ i
  · left
    rw [List.drop_eq_nil_of_le hi] at hp1
    have l2 : Live κ.T H1 (L0 ++ (prs (wipe σ vs) (wipeE ρ1 vs) ++ ((.ref Da, .od false ks es) :: fr))) := l1.perm (swapB _ _ _)
    exact ⟨ok.stop i H1 _ hi l2, ρ1, ks, es, w1, l1, hp1⟩
  · right
    have hi : i < ds.length := Nat.lt_of_not_le hi
    have hd : ds[i]? = some ds[i] := List.getElem?_eq_getElem hi
    rw [List.drop_eq_getElem_cons hi] at hp1
    have l2 : Live κ.T H1 (L0 ++ (prs (wipe σ vs) (wipeE ρ1 vs) ++ ((.ref Da, .od false ks es) :: fr))) := l1.perm (swapB _ _ _)
    obtain ⟨go, yld⟩ := ok.go i _ H1 _ hd l2
    refine ⟨go, fun H' => ∃ m', m' < m ∧ dlW κ σ vs g c ek ev Da L0 fr ds Kf (i + 1) m' H', fun H' h => h, fun x H2 y => ?_⟩
    have l3 := yld x H2 y
    unfold wp dloop at hp1
    cases eg : g ds[i] (wipeE ρ1 vs) with
    | none => rw [eg] at hp1; exact hp1.elim
    | some ρ2 =>
      rw [eg] at hp1
      have hp2 : wp (bnd c fun k => match k with
        | true => bnd ek fun ko => bnd (ofO (froz ko)) fun k => bnd ev fun vo => bnd (ofO (froz vo)) fun v => if (toKey k).isSome = true then dloop vs g c ek ev (ds.drop (i + 1)) (putKs ks k) (putVs ks es k v) else bad
        | false => dloop vs g c ek ev (ds.drop (i + 1)) ks es) ρ2 Kf (fun _ _ => False) := hp1
      clear hp1
      refine ⟨wipeE ρ1 vs, (.ref Da, .od false ks es) :: (L0 ++ fr), ds[i], ρ2, w1, l3.perm ?_, eg, fun σ2 H3 w2 fr2 l4 => ?_⟩
      · refine List.Perm.cons _ ?_
        exact (swapA _ _ _).trans (List.Perm.append_left _ List.perm_middle)
      · have hsl : σ2.length = σ.length := by rw [w2.len, ← g_len eg, ← w1.len, wipe_length]
        have ew : wipe σ2 vs = wipe σ vs := wipe_eq hsl fun j hj => fr2 j fun z => hj (his j z)
        refine ⟨ew, ρ2, _, w2, l4, ?_⟩
        rw [wp_bnd] at hp2
        refine wp_mono hp2 fun b ρ3 hp3 H4 w3 _ l5 => ?_
        have next : ∀ {ρ4 : Env} {ks' es' : List D} {H5 : Hp}, WS σ2 ρ4 → ks'.length ≤ i + 1 → Live κ.T H5 (prs σ2 ρ4 ++ ((.ref Da, .od false ks' es') :: (L0 ++ fr))) →
            wp (dloop vs g c ek ev (ds.drop (i + 1)) ks' es') ρ4 Kf (fun _ _ => False) → ∃ m', m' < m ∧ dlW κ σ vs g c ek ev Da L0 fr ds Kf (i + 1) m' H5 := fun {ρ4} {ks'} {es'} {H5} w4 h4 l6 h6 => by
          obtain ⟨w5, l7⟩ := wipe_ws w4 l6 vs
          rw [ew] at w5 l7
          exact ⟨m - 1, by omega, by omega, ρ4, ks', es', w5, h4, l7, h6⟩
        cases b with
        | false => exact next w3 (by omega) l5 hp3
        | true =>
          have hp3 : wp (bnd ek fun ko => bnd (ofO (froz ko)) fun k => bnd ev fun vo => bnd (ofO (froz vo)) fun v => if (toKey k).isSome = true then dloop vs g c ek ev (ds.drop (i + 1)) (putKs ks k) (putVs ks es k v) else bad) ρ3 _ _ := hp3
          rw [wp_bnd] at hp3
          refine ⟨ρ3, _, w3, l5, wp_mono hp3 fun ko ρ4 hp4 vk H5 w4 _ l6 => ?_⟩
          rw [wp_bnd] at hp4
          obtain ⟨kd, ed, hp4⟩ := wp_ofO hp4
          cases froz_some ed
          rw [wp_bnd] at hp4
          refine ⟨ρ4, _, w4, l6.frz.perm List.perm_middle.symm, wp_mono2 hp4 (fun vo ρ5 hp5 vv H6 w5 _ l7 => ?_) fun _ _ h => h.elim⟩
          rw [wp_bnd] at hp5
          obtain ⟨vd, ed2, hp5⟩ := wp_ofO hp5
          cases froz_some ed2
          split at hp5
          · rename_i hk
            obtain ⟨k, ek1⟩ := Option.isSome_iff_exists.mp hk
            have ek2 := toKey_some ek1
            have l7' : Live κ.T H6 ((vk, .fz ko.dat) :: (vv, .fz vo.dat) :: (prs σ2 ρ5 ++ ((.ref Da, .od false ks es) :: (L0 ++ fr)))) := by
              refine l7.frz.perm ?_
              exact (List.Perm.cons _ List.perm_middle).trans (.swap _ _ _)
            have hvk : vk = kV k := key_v (by rw [← ek2]; exact (bor_mem l7' List.mem_cons_self).rep)
            have l8 : Live κ.T H6 ((.ref Da, .od false ks es) :: (vv, .fz vo.dat) :: (prs σ2 ρ5 ++ (L0 ++ fr))) := by
              refine l7'.tail.perm ?_
              exact (List.Perm.cons _ List.perm_middle).trans (.swap _ _ _)
            obtain ⟨kvs, hk1, hk2, l9⟩ := l8.putDK k
            refine ⟨kvs, k, hvk, hk1, by omega, next w5 ?_ ?_ hp5⟩
            · have := putKs_len ks ko.dat; omega
            · rw [ek2]; exact l9.perm List.perm_middle.symm
          · exact hp5.elim
/-- over the items of the dict in slot i -/
def dcItM (i : Nat) (vs : List Nat) (g : D → Env → Option Env) (c : M Bool) (ek ev : M OV) : M OV := fun ρ => match ρ[i]? with
  | some (.od false ks es) => if ks.length ≤ 1000000 then match dloop vs g c ek ev (itemL ks es) [] [] (ρ.set i .no) with
    | some (.ok (ks', es'), ρ') => some (.ok (.od false ks' es'), (wipeE ρ' vs).set i (.od false ks es))
    | _ => none
    else none
  | _ => none
theorem dcIt_sound {i : Nat} {vs is : List Nat} {g : D → Env → Option Env} {c : M Bool} {ek ev : M OV} {pc pk pv : Bool} (g_len : ∀ {d ρ ρ'}, g d ρ = some ρ' → ρ.length = ρ'.length) (his : ∀ i ∈ is, i ∈ vs) {σ : St} {H : Hp} {Q : VK} (hq : T κ false (dcItM i vs g c ek ev) σ H Q) :
    tLockE (tDc (iItems (tVar i)) (TGt κ.nx is g) (TB κ.nx pc c) (T κ.nx pk ek) (T κ.nx pv ev) vs) σ H Q := by
  obtain ⟨ρ, fr, w, l, hp⟩ := hq
  unfold wp dcItM at hp
  cases e1 : ρ[i]? with
  | none => rw [e1] at hp; exact hp.elim
  | some o =>
    cases o with
    | od tt ks es =>
      cases tt with
      | true => rw [e1] at hp; exact hp.elim
      | false =>
        rw [e1] at hp
        simp only at hp
        split at hp
        · exact hp.elim
        · rename_i oo ρ' ee
          split at ee
          · rename_i hlt
            split at ee
            · rename_i ks' es' ρ2 e2
              cases ee
              obtain ⟨v, hv⟩ := w.has i _ e1 rfl
              have l1 := live_slot l hv e1
              obtain ⟨d, rfl⟩ : ∃ d, v = .ref d := by
                obtain ⟨G, O, s, ow, _⟩ := l1
                cases ow with
                | cons h _ => cases h; exact ⟨_, rfl⟩
              obtain ⟨kvs, hd, rfl, hn, hl, lk⟩ := l1.lock
              refine ⟨d, _, hd, trivial, fun od => ?_⟩
              have l2 := lk (.frz od (.dK kvs))
              have w0 : WS σ (ρ.set i .no) := w.set hv
              have l3 : Live κ.T (upd H d (.frz od (.dK kvs))) (((.ref d, .lk (.frz od (.dK kvs))) :: zipF (kvs.map (·.2)) es) ++ (prs σ (ρ.set i .no) ++ fr)) := by
                have l4 : Live κ.T (upd H d (.frz od (.dK kvs))) ((prs σ ρ).eraseIdx i ++ (((.ref d, .lk (.frz od (.dK kvs))) :: zipF (kvs.map (·.2)) es) ++ fr)) := l2.perm (swapA (_ :: _) _ _)
                have l5 := live_put (o' := .no) hv e1 (l4.no (.ref d))
                exact l5.perm (swapA _ _ _)
              refine ⟨.ref d, hv, d, od, kvs, rfl, upd_same, fun Da hDa => ?_⟩
              obtain ⟨w0', l0'⟩ := wipe_ws w0 (l3.perm (swapA _ _ _)) vs
              have hlen : (itemL (kvs.map fun p => keyD p.1) es).length = kvs.length := by unfold itemL; rw [List.length_zipWith, List.length_map]; omega
              refine ⟨dlW κ σ vs g c ek ev Da ((.ref d, .lk (.frz od (.dK kvs))) :: zipF (kvs.map (·.2)) es) fr (itemL (kvs.map fun p => keyD p.1) es) (fun r ρ' => r = (ks', es') ∧ ρ' = ρ2), ⟨_, Nat.zero_add _, ρ.set i .no, [], [], w0', Nat.zero_le _, ?_, ?_⟩, fun j m H1 hW => ?_⟩
              · exact (Live.dK (kvs := []) (es := []) rfl .nil l0' hDa).perm List.perm_middle.symm
              · unfold wp
                rw [List.drop_zero, e2]
                exact ⟨rfl, rfl⟩
              · have hz : (itemL (kvs.map fun p => keyD p.1) es).length < sizeLine := by
                  rw [hlen]
                  have : kvs.length ≤ 1000000 := by simpa using hlt
                  exact Nat.lt_of_le_of_lt this (by decide)
                rcases dl_turn (g := g) (pc := pc) (pk := pk) (pv := pv) g_len his (it_items hl) hz j m H1 hW with ⟨h1, ρ', ks1, es1, w1, l4, e3, e4⟩ | ⟨h1, Nx, h2, h3⟩
                · left
                  cases e3
                  subst e4
                  refine ⟨h1, ?_⟩
                  have l5 : Live κ.T H1 (((.ref d, .lk (.frz od (.dK kvs))) :: zipF (kvs.map (·.2)) es) ++ (prs (wipe σ vs) (wipeE ρ' vs) ++ ((.ref Da, .od false ks' es') :: fr))) := l4.perm (swapB _ _ _)
                  refine ⟨Live.lkAt l5, ?_⟩
                  have l6 := Live.unlock hn hl l5
                  obtain ⟨w2, l7⟩ := unwipe_ws w1 (fr := (.ref d, .od false (kvs.map fun p => keyD p.1) es) :: (.ref Da, .od false ks' es') :: fr) (l6.perm List.perm_middle.symm)
                  have hil : i < (wipeE ρ' vs).length := by
                    rw [← w2.len]
                    exact (List.getElem?_eq_some_iff.mp hv).1
                  obtain ⟨old, ho⟩ : ∃ old, (wipeE ρ' vs)[i]? = some old := ⟨_, List.getElem?_eq_getElem hil⟩
                  have l8 := live_over hv ho (l7.perm List.perm_middle)
                  exact hp _ _ (w2.set hv) (fun h => nomatch h) (l8.perm List.perm_middle)
                · exact .inr ⟨h1, Nx, h2, h3⟩
            · cases ee
          · cases ee
        · rename_i x ρ' ee
          split at ee
          · split at ee <;> cases ee
          · cases ee
    | _ => rw [e1] at hp; exact hp.elim
theorem se_dcIt {kx vx e : Expr} {ifs : List Expr} {scope : Scope} {own : List (Str × Nat)} {elts : List Expr} {kk : Nat} {tpos : Pos} {i : Nat} {is : List Nat} {g : D → Env → Option Env} {c : M Bool} {ek ev : M OV} {pk pv : Bool} (hc : X.calm = true) (hN : X.N.Nodup) (he : PE X e (tVar i)) (ok : BlkOk X.N X.env.scope scope own)
    (hg : ∀ (s : Shared) (H : Hp) (C : Addr) (cl : List (Str × Addr)) (fp : List Addr), SG (X.blk s H scope (compEnvC scope cl C X.env) fp) κ.nx (.Tuple elts kk tpos) is g) (ht : ∀ (s : Shared) (H : Hp) (C : Addr) (cl : List (Str × Addr)) (fp : List Addr), STs (X.blk s H scope (compEnvC scope cl C X.env) fp) κ.nx ifs c)
    (hk : ∀ (s : Shared) (H : Hp) (C : Addr) (cl : List (Str × Addr)) (fp : List Addr), SE (X.blk s H scope (compEnvC scope cl C X.env) fp) κ.nx pk kx ek) (hv : ∀ (s : Shared) (H : Hp) (C : Addr) (cl : List (Str × Addr)) (fp : List Addr), SE (X.blk s H scope (compEnvC scope cl C X.env) fp) κ.nx pv vx ev)
    (g_len : ∀ {d ρ ρ'}, g d ρ = some ρ' → ρ.length = ρ'.length) (his : ∀ i ∈ is, i ∈ own.map (·.2)) (hs : ∀ x, foldedSetIterable (.Call (.Attribute e "items" apos) [] [] pos) X.env x = pure x := by intro _; rfl)
    (hbase : attributeBase e "items" X.env (eval e X.env) = eval e X.env := by rfl) (hline : (apos.endLine == pos.line) = true := by rfl) :
    SE X κ false (.DictComp kx vx [⟨.Tuple elts kk tpos, .Call (.Attribute e "items" apos) [] [] pos, ifs, 0⟩] scope ps) (dcItM i (own.map (·.2)) g c ek ev) :=
  ⟨(pe_lock (pe_dc hc hN (pi_items he hbase hline) ok (fun s H C cl fp => (hg s H C cl fp).pg) (fun s H C cl fp => (ht s H C cl fp).pt) (fun s H C cl fp => (hk s H C cl fp).pe) (fun s H C cl fp => (hv s H C cl fp).pe) hs)).imp fun σ H Q q => dcIt_sound g_len his q⟩
/-! ### a name's value moved out; an attribute of a value -/
theorem se_mv {i : Nat} (h : PE X e (tVar i)) : SE X κ true e (mvM i) := ⟨h.imp fun σ H Q ⟨ρ, fr, w, l, hp⟩ => by
  unfold wp mvM at hp
  cases e : ρ[i]? with
  | none => rw [e] at hp; exact hp.elim
  | some o =>
    rw [e] at hp
    cases n : o.isNo with
    | true => simp [n] at hp
    | false =>
      simp only [n, Bool.false_eq_true, if_false] at hp
      obtain ⟨v, hv⟩ := w.has i o e n
      refine ⟨v, hv, hp v H (w.set hv) (fun _ => Same.refl H) ?_⟩
      have l1 := live_slot l hv e
      exact (live_put (fr := (v, o) :: fr) hv e ((l1.no v).perm (.cons _ List.perm_middle.symm))).perm List.perm_middle⟩
def outV (c f : Nat) : OV → Option OV
  | .oi c' fs => if c' = c then match fs[f]? with
    | some o => if o.isNo = true then none else some o
    | none => none
    else none
  | .fz (.ins c' fs) => if c' = c then match fs[f]? with
    | some d => if isNo d = true then none else some (.fz d)
    | none => none
    else none
  | _ => none
def fldE (c f : Nat) (m : M OV) : M OV := bnd m fun o => ofO (outV c f o)
theorem se_fldE {c f : Nat} {nm : Str} {m : M OV} (hn : (κ.T.fn c)[f]? = some nm) (h : SE X κ p e m) (hc : Cls X.K (κ.T.ca c)) (hna : NoAttr X.K (κ.T.ca c) nm) (hb : attributeBase e nm X.env (eval e X.env) = eval e X.env := by rfl) : SE X κ p (.Attribute e nm pos) (fldE c f m) := ⟨(pe_fld h.pe hb).imp fun σ H Q ⟨ρ, fr, w, l, hp⟩ => by
  unfold fldE at hp
  rw [wp_bnd] at hp
  refine ⟨ρ, fr, w, l, wp_mono hp fun o ρ1 hp v H1 w1 s1 l1 => ?_⟩
  obtain ⟨u, e2, hk⟩ := wp_ofO hp
  clear hp
  cases o with
  | oi c' fs =>
    simp only [outV] at e2
    split at e2
    · rename_i hcc
      subst hcc
      split at e2
      · rename_i o e3
        split at e2
        · cases e2
        · rename_i hno
          cases e2
          obtain ⟨a, dx, fvs, n, y, rfl, h2, h3, h4, l2⟩ := l1.outF e3 (by simpa using hno)
          rw [hn] at h3
          cases h3
          exact ⟨a, _, dx, fvs, y, rfl, h2, hc, hna, h4, hk y H1 w1 s1 (live_mid (a := [(y, u)]) l2)⟩
      · cases e2
    · cases e2
  | fz dd =>
    cases dd with
    | ins c' fs =>
      simp only [outV] at e2
      split at e2
      · rename_i hcc
        subst hcc
        split at e2
        · rename_i d e3
          split at e2
          · cases e2
          · rename_i hno
            cases e2
            obtain ⟨a, dx, fvs, n, y, rfl, h2, h3, h4, l2⟩ := l1.fldF e3 (by simpa using hno)
            rw [hn] at h3
            cases h3
            exact ⟨a, _, dx, fvs, y, rfl, h2, hc, hna, h4, hk y H1 w1 s1 (live_mid (a := [(y, .fz d)]) l2)⟩
        · cases e2
      · cases e2
    | _ => simp [outV] at e2
  | _ => simp [outV] at e2⟩
/-! ### d.get(k, x) -/
def pkD (x : Opd) : M Unit := fun ρ => match peek ρ x with
  | some (.dct _ _ _) => some (.ok (), ρ)
  | _ => none
theorem wp_pkD {od : Opd} {ρ : Env} {Q : Unit → Env → Prop} {E : Ex → Env → Prop} (h : wp (pkD od) ρ Q E) : ∃ tt ks es, peek ρ od = some (.dct tt ks es) ∧ Q () ρ := by
  unfold wp pkD at h
  cases e : peek ρ od with
  | none => rw [e] at h; exact h.elim
  | some d =>
    rw [e] at h
    cases d with
    | dct tt ks es => exact ⟨tt, ks, es, rfl, h⟩
    | _ => exact h.elim
def getM (mo : M Opd) (mk mx : M OV) : M OV := bnd mo fun x => bnd (pkD x) fun _ => bnd mk fun k => bnd mx fun z => bnd (pk x) fun dx => bnd (ofO (dgF dx k.dat)) fun o => match o with
  | some d => ret (.fz d)
  | none => ret z
theorem isD_of {t : CT} {H : Hp} {L : List (V × OV)} {v : V} {tt : Bool} {ks es : List D} (l : Live t H L) (b : Bor t H L v (.dct tt ks es)) : ∃ a, v = .ref a ∧ IsD H a := by
  obtain ⟨G, O, lg⟩ := l
  cases tt with
  | false =>
    obtain ⟨a, kvs, rfl, h, _⟩ := b.cmp G O lg
    exact ⟨a, rfl, .inl ⟨kvs, .inl h⟩⟩
  | true =>
    obtain ⟨a, kvs, rfl, h, _⟩ := b.cmp G O lg
    exact ⟨a, rfl, .inr ⟨kvs, .inl h⟩⟩
theorem se_get {mo : M Opd} {mk mx : M OV} (hu : X.A.units + 1 < cLine) (ho : SO X κ p fl a mo) (hk : SE X κ q b mk) (hx : SE X κ r c mx) (m : M2 X a "get" apos b c pos) (hfl : (!fl || (q && r)) = true := by rfl) : SE X κ false (.Call (.Attribute a "get" apos) [b, c] [] pos) (getM mo mk mx) := ⟨(pe_dget2 hu ho.pe hk.pe hx.pe m).imp fun σ H Q ⟨ρ, fr, w, l, hp⟩ => by
  unfold getM at hp
  rw [wp_bnd] at hp
  refine ⟨ρ, fr, w, l, wp_mono hp fun x ρ1 hp v1 H1 w1 s1 f1 l1 od1 => ?_⟩
  rw [wp_bnd] at hp
  obtain ⟨tt, ks, es, e1, hp⟩ := wp_pkD hp
  have bx := bor_od l1 w1 (fun z hz => List.mem_cons_of_mem _ (List.mem_append_left _ hz)) List.mem_cons_self od1 e1
  obtain ⟨ad, rfl, hD⟩ := isD_of l1 bx
  refine ⟨ad, rfl, hD, ?_⟩
  rw [wp_bnd] at hp
  refine ⟨ρ1, _, w1, l1.perm List.perm_middle.symm, wp_mono2 hp (fun ko ρ2 hp vk H2 w2 s2 l2 => ?_) fun _ _ h => κ.xm _ _ _ _ _ h⟩
  rw [wp_bnd] at hp
  refine ⟨ρ2, _, w2, l2.perm List.perm_middle.symm, wp_mono2 hp (fun zo ρ3 hp vz H3 w3 s3 l3 => ?_) fun _ _ h => κ.xm _ _ _ _ _ (κ.xm _ _ _ _ _ h)⟩
  rw [wp_bnd] at hp
  obtain ⟨dx, e3, hp⟩ := wp_pk hp
  rw [wp_bnd] at hp
  obtain ⟨oo, e4, hp⟩ := wp_ofO hp
  have od3 : OdR κ.T σ H3 x (.ref ad) := by
    cases hx : fl with
    | true =>
      rw [hx] at hfl
      have : q = true ∧ r = true := by simpa using hfl
      exact (od1.same (s2 this.1)).same (s3 this.2)
    | false => exact od1.plain (f1 hx)
  have b3 := bor_od l3 w3 (fun z hz => List.mem_cons_of_mem _ (List.mem_append_left _ hz)) (List.mem_cons_of_mem _ (List.mem_append_right _ (List.mem_cons_of_mem _ List.mem_cons_self))) od3 e3
  have bk := bor_mem l3 (v := vk) (o := ko) (List.mem_cons_of_mem _ (List.mem_append_right _ List.mem_cons_self))
  obtain ⟨a', rr, ea, g, dg⟩ := dget_ok l3 b3 bk e4
  cases ea
  refine ⟨rr, g, ?_⟩
  have fin : ∀ {v : V} {o : OV}, Live κ.T H3 ((v, o) :: (prs σ ρ3 ++ ((vk, ko) :: (.ref ad, x.ov) :: fr))) → Live κ.T H3 ((v, o) :: (prs σ ρ3 ++ fr)) := fun {v} {o} l => by
    have l1 := live_mid (a := (v, o) :: prs σ ρ3) l
    exact live_mid (a := (v, o) :: prs σ ρ3) l1
  cases oo with
  | some d =>
    obtain ⟨v, rfl, l4⟩ := dg
    exact hp v H3 w3 (fun h => nomatch h) (fin (live_mid (a := [(v, .fz d)]) l4))
  | none =>
    cases dg
    exact hp vz H3 w3 (fun h => nomatch h) (fin l3)⟩
/-! ### xs[::-1] of a list -/
def revF : D → Option OV
  | .lst ds => some (.ol ds.reverse)
  | _ => none
def revM (mo : M Opd) : M OV := bnd mo fun x => bnd (pk x) fun d => ofO (revF d)
theorem Reps.rev {t : CT} {G : Hp} : ∀ {vs : List V} {ds : List D}, Reps t G vs ds → Reps t G vs.reverse ds.reverse
  | _, _, .nil => .nil
  | _, _, .cons h r => by
    rw [List.reverse_cons, List.reverse_cons]
    exact (Reps.rev r).app (.cons h .nil)
theorem se_rev {mo : M Opd} {k : Nat} {p1 p2 p3 : Pos} (ho : SO X κ p fl a mo) : SE X κ false (.Subscript a (.Slice none none (some (.UnaryOp .USub (.Constant (.int 1) k p1) p2)) p3) pos) (revM mo) := ⟨(pe_revL ho.pe).imp fun σ H Q ⟨ρ, fr, w, l, hp⟩ => by
  unfold revM at hp
  rw [wp_bnd] at hp
  refine ⟨ρ, fr, w, l, wp_mono hp fun x ρ1 hp v1 H1 w1 s1 f1 l1 od1 => ?_⟩
  rw [wp_bnd] at hp
  obtain ⟨d, e1, hp⟩ := wp_pk hp
  obtain ⟨o, e2, hp⟩ := wp_ofO hp
  have bx := bor_od l1 w1 (fun z hz => List.mem_cons_of_mem _ (List.mem_append_left _ hz)) List.mem_cons_self od1 e1
  have ⟨G, O, lg⟩ := l1
  have main : ∀ ds ad vs, v1 = .ref ad → SqL X.K H1 ad vs → Reps κ.T G vs ds → o = .ol ds.reverse → ∃ a xs, v1 = .ref a ∧ SqL X.K H1 a xs ∧ ∀ p, H1 p = none → Q (.ref p) (upd H1 p (.lst xs.reverse)) := fun ds ad vs ev hH rr eo => by
    subst eo
    refine ⟨ad, vs, ev, hH, fun pp hpp => hp _ _ w1 (fun h => nomatch h) ?_⟩
    have l2 : Live κ.T H1 (zipF vs.reverse ds.reverse ++ (prs σ ρ1 ++ fr)) := by
      have := Live.perm ⟨G, O, lg.add (Reps.rev rr)⟩ (show (zipF vs.reverse ds.reverse ++ ((v1, x.ov) :: (prs σ ρ1 ++ fr))).Perm ((v1, x.ov) :: (zipF vs.reverse ds.reverse ++ (prs σ ρ1 ++ fr))) from List.perm_middle)
      exact this.tail
    exact Live.lst (Reps.rev rr).length l2 hpp
  cases d with
  | lst ds =>
    cases e2
    obtain ⟨ad, vs, ev, hH, rr⟩ := bx.cmp G O lg
    exact main ds ad vs ev (SqL.of hH) rr rfl
  | _ => cases e2⟩
end
end Kv
/-! Defs. -/
namespace Kv
open PySem L2
open PyProof.Rows (envOfC)
/-- what the arguments hold behind a call -/
def outsOf (kp : List Nat) (np : Nat) (ρ : Env) : List OV := (List.range np).map fun j => if j ∈ kp then (ρ[j]?).getD .no else .no
/-- a def's worth, from its body's: n slots, np parameters -/
def fnR (n np : Nat) (kp : List Nat) (m : M Fl) : List OV → Res := fun os => if os.length = np then match m (os ++ List.replicate (n - np) .no) with
  | some (.ok (.rt o), ρ') => if np ≤ ρ'.length then some (.ok o, outsOf kp np ρ') else none
  | some (.ok .nx, ρ') => if np ≤ ρ'.length then some (.ok (.fz .non), outsOf kp np ρ') else none
  | _ => none
  else none
section
variable {t : CT} {H : Hp}
theorem live_map {L L' : List (V × OV)} (h : L.Perm L') (l : Live t H L) : Live t H L' := l.perm h
theorem start_prs {N : List Str} : ∀ {vs : List V} {os : List OV}, vs.length = os.length → ∀ k : Nat, prs (vs.map some ++ List.replicate k none) (os ++ List.replicate k .no) = vs.zip os ++ List.replicate k (.non, .no)
  | [], [], _, k => by
    unfold prs
    simp only [List.map_nil, List.nil_append, List.map_replicate, List.zip_nil_left]
    rw [List.zip_replicate']
    rfl
  | v :: vs, o :: os, h, k => by
    have ih := start_prs (N := N) (vs := vs) (os := os) (by simpa using h) k
    unfold prs at ih ⊢
    simp only [List.map_cons, List.cons_append, List.zip_cons_cons]
    rw [ih]
    rfl
  | [], _ :: _, h, _ => by simp at h
  | _ :: _, [], h, _ => by simp at h
theorem live_nos {L : List (V × OV)} (l : Live t H L) : ∀ k : Nat, Live t H (List.replicate k (V.non, OV.no) ++ L)
  | 0 => l
  | k + 1 => (live_nos l k).no .non
theorem start_ws {N : List Str} {vs : List V} {os : List OV} (h : vs.length = os.length) (k : Nat) : WS (vs.map some ++ List.replicate k none) (os ++ List.replicate k .no) := ⟨by simp [h], fun i o e n => by
  by_cases hi : i < os.length
  · rw [List.getElem?_append_left (by simp; omega), List.getElem?_map, List.getElem?_eq_getElem (by omega)]
    exact ⟨_, rfl⟩
  · rw [List.getElem?_append_right (by omega), List.getElem?_replicate] at e
    split at e <;> cases e
    cases n⟩
theorem zip_outs {kp : List Nat} {vs : List V} {np j : Nat} {ρ' : Env} (h1 : j < (vs.zip (outsOf kp np ρ')).length) (h2 : j < vs.length) (h3 : j < np) : (vs.zip (outsOf kp np ρ'))[j] = (vs[j], if j ∈ kp then (ρ'[j]?).getD .no else .no) := by
  rw [List.getElem_zip]
  refine Prod.ext rfl ?_
  show (outsOf kp np ρ')[j]'(by unfold outsOf; simpa using h3) = _
  unfold outsOf
  rw [List.getElem_map, List.getElem_range]
/-- the kept parameters' values, back -/
theorem outs_live {kp : List Nat} {vs : List V} {σ' : St} {ρ' : Env} {fr : List (V × OV)} (w : WS σ' ρ') (np : Nat) (hnp : np = vs.length) (hk : ∀ j ∈ kp, j < np → σ'[j]? = some (vs[j]?)) (hle : np ≤ σ'.length) (l : Live t H (prs σ' ρ' ++ fr)) :
    Live t H (vs.zip (outsOf kp np ρ') ++ fr) := by
  -- the first np pairs, those not kept replaced by nothing
  have key : ∀ (n : Nat), n ≤ np → ∀ {fr : List (V × OV)}, Live t H ((prs σ' ρ').drop (np - n) ++ fr) → Live t H ((vs.zip (outsOf kp np ρ')).drop (np - n) ++ fr) := fun n => by
    induction n with
    | zero =>
      intro _ fr l
      have : (vs.zip (outsOf kp np ρ')).drop (np - 0) = [] := List.drop_eq_nil_of_le (by rw [List.length_zip]; omega)
      rw [this]
      exact l.drop
    | succ n ih =>
      intro hn fr l
      have hj : np - (n + 1) < np := by omega
      have e0 : np - n = np - (n + 1) + 1 := by omega
      generalize hJ : np - (n + 1) = j at *
      have hl1 : j < (prs σ' ρ').length := by rw [prs_len w, ← w.len]; omega
      have hl2 : j < (vs.zip (outsOf kp np ρ')).length := by rw [List.length_zip]; unfold outsOf; simp; omega
      rw [List.drop_eq_getElem_cons hl1] at l
      rw [List.drop_eq_getElem_cons hl2]
      have l2 : Live t H ((prs σ' ρ').drop (np - n) ++ (((prs σ' ρ')[j]) :: fr)) := by
        rw [e0]; exact Live.perm l List.perm_middle.symm
      have l3 := ih (by omega) l2
      rw [e0] at l3
      have l4 : Live t H (((prs σ' ρ')[j]) :: ((vs.zip (outsOf kp np ρ')).drop (j + 1) ++ fr)) := l3.perm List.perm_middle
      have hz : (vs.zip (outsOf kp np ρ'))[j] = (vs[j]'(by omega), if j ∈ kp then (ρ'[j]?).getD .no else .no) := by
        exact zip_outs hl2 (by omega) hj
      show Live t H ((vs.zip (outsOf kp np ρ'))[j] :: ((vs.zip (outsOf kp np ρ')).drop (j + 1) ++ fr))
      rw [hz]
      by_cases hkj : j ∈ kp
      · rw [if_pos hkj]
        have hs := hk j hkj hj
        have hvj : vs[j]? = some (vs[j]'(by omega)) := List.getElem?_eq_getElem _
        rw [hvj] at hs
        have hr : j < ρ'.length := by rw [← w.len]; omega
        have hp : (prs σ' ρ')[j]? = some (vs[j]'(by omega), ρ'[j]) := prs_get hs (List.getElem?_eq_getElem hr)
        rw [List.getElem?_eq_getElem hl1] at hp
        rw [Option.some.inj hp] at l4
        rw [List.getElem?_eq_getElem hr]
        exact l4
      · rw [if_neg hkj]
        exact l4.tail.no _
  have := key np (Nat.le_refl _) (fr := fr)
  rw [Nat.sub_self] at this
  exact this l
end
section
variable {P : Program} {w : World} {K : PySem.W.Frag} {mg : Str → Option Value} {base : Heap}
def kxOf (t : CT) : Kx := { T := t, xc := fun _ _ => False, xcl := fun _ _ _ _ h => h }
/-- a def without errors -/
theorem fn_ok1 {x qual : Str} {st : Stmt} {f : Addr} {fd : FuncData} {N ps : List Str} {k : Nat} {t : CT} {kp : List Nat} {m : M Fl} {xg : Ex → List (V × OV) → XK → Prop} (F : Fun K x qual st f fd) (S : FnScope N ps (defScope st)) (hle : ps.length ≤ N.length)
    (body : ∀ (cdv : Value) (A : Around) (outer : List PySem.Env) (s : Shared) (H : Hp) (E : XK), Room k (A.deeper (envOfC qual (defScope st) s.heap.objs.size f cdv)) →
      SSs (cxOf CX0 P w K mg base N qual (defScope st) f cdv A outer s H E).nox (kxOf t) kp (defBody st) m) : FnOk P w K mg base CX0 (k + 1) f fd ps (spF t xg (fnR N.length ps.length kp m)) := by
  refine F.ok S (fun vs H Q E h => ?_) (fun cdv A outer s H vs Q E hr h => ?_)
  · obtain ⟨os, fr, h1, h2, h3⟩ := h
    unfold fnR at h3
    by_cases he : os.length = ps.length
    · rw [h1, he]
    · rw [if_neg he] at h3
      exact h3.elim
  · obtain ⟨os, fr, h1, h2, h3⟩ := h
    refine ⟨_, (body cdv A outer s H E hr).ps, ?_⟩
    unfold fnR at h3
    by_cases he : os.length = ps.length
    · rw [if_pos he] at h3
      have hst : L2.start N vs = vs.map some ++ List.replicate (N.length - ps.length) none := by unfold L2.start; rw [h1, he]
      rw [hst]
      have w0 := start_ws (N := N) h1 (N.length - ps.length)
      refine ⟨os ++ List.replicate (N.length - ps.length) .no, fr, w0, ?_, ?_⟩
      · rw [start_prs (N := N) h1]
        exact (live_nos h2 _).perm (by rw [← List.append_assoc]; exact List.perm_append_comm.append_right _)
      · have back : ∀ {σ' : St} {ρ' : Env} {H' : Hp} {fr' : List (V × OV)}, WS σ' ρ' → Kp kp (vs.map some ++ List.replicate (N.length - ps.length) none) σ' → ps.length ≤ ρ'.length → Live t H' (prs σ' ρ' ++ fr') → Live t H' (vs.zip (outsOf kp ps.length ρ') ++ fr') := fun {σ' ρ' H' fr'} w' k' hl' l' => by
          refine outs_live w' ps.length (by rw [h1, he]) (fun j hj hlt => ?_) (by rw [w'.len]; exact hl') l'
          rw [k' j hj, List.getElem?_append_left (by simp; omega), List.getElem?_map, List.getElem?_eq_getElem (by omega)]
          rfl
        unfold wp
        cases em : m (os ++ List.replicate (N.length - ps.length) .no) with
        | none => rw [em] at h3; exact h3.elim
        | some p =>
          obtain ⟨r, ρ'⟩ := p
          rw [em] at h3
          cases r with
          | error x => exact h3.elim
          | ok fl =>
            cases fl with
            | nx =>
              simp only at h3
              split at h3
              · exact h3.elim
              · rename_i e1
                split at e1
                · rename_i hl
                  cases e1
                  exact fun σ' H' a b c => h3 .non H' (live_non (back a b hl c))
                · cases e1
              · rename_i e1
                split at e1 <;> cases e1
            | rt o =>
              simp only at h3
              split at h3
              · exact h3.elim
              · rename_i e1
                split at e1
                · rename_i hl
                  cases e1
                  exact fun v σ' H' a b c => h3 v H' ((back (fr' := (v, o) :: fr) a b hl (c.perm List.perm_middle.symm)).perm List.perm_middle)
                · cases e1
              · rename_i e1
                split at e1 <;> cases e1
            | bk => exact h3.elim
            | ct => exact h3.elim
    · rw [if_neg he] at h3
      exact h3.elim
theorem fn_ok {x qual : Str} {st : Stmt} {f : Addr} {fd : FuncData} {N ps : List Str} {k : Nat} {t : CT} {kp : List Nat} {m : M Fl} {xg : Ex → List (V × OV) → XK → Prop} (F : Fun K x qual st f fd) (S : FnScope N ps (defScope st)) (hb : Binds K fd ps []) (hle : ps.length ≤ N.length)
    (body : ∀ (cdv : Value) (A : Around) (outer : List PySem.Env) (s : Shared) (H : Hp) (E : XK), Room k (A.deeper (envOfC qual (defScope st) s.heap.objs.size f cdv)) →
      SSs (cxOf CX0 P w K mg base N qual (defScope st) f cdv A outer s H E).nox (kxOf t) kp (defBody st) m) : FnF P w K mg base CX0 (k + 1) t xg f (fnR N.length ps.length kp m) := ⟨fd, ps, fn_ok1 F S hle body, F.kp, hb⟩
end
end Kv
/-! match of a tuple of names. -/
namespace Kv
open PySem PyProof.Rows
open L2 hiding St
section
variable {X : Cx} {κ : Kx} {kp : List Nat} {pu p q r fl fl' : Bool} {e a b c tg it : Expr} {pos ps ps2 apos : Pos} {es : List Expr}
def cap (p : Str × Pos) : Pattern := .MatchAs none (some p.1) p.2
theorem matchEach_caps {M : Model} {A : Around} {E : Value → Shared → Prop} {env : PySem.Env} : ∀ {xs : List (Str × Pos)} {us : List Value} {s : Shared} {Q : Option (List (Str × Value)) → Shared → Prop}, xs.length = us.length → Q (some (List.zipWith (fun x u => (x.1, u)) xs us)) s → wpAny M A (matchEach (xs.map cap) env us) Q E s
  | [], [], s, Q, _, h => wpAny_matchEach_nil h
  | x :: xs, u :: us, s, Q, hl, h => by
    refine wpAny_matchEach_cons ?_
    refine wpAny_matchPattern_Capture ?_
    show wpAny M A (matchEach (xs.map cap) env us) _ E s
    refine matchEach_caps (by simpa using hl) ?_
    exact h
  | [], _ :: _, _, _, h, _ => by simp at h
  | _ :: _, [], _, _, h, _ => by simp at h
def Locs (X : Cx) : List (Str × Pos) → List Nat → Prop
  | [], [] => True
  | x :: xs, i :: is => X.N[i]? = some x.1 ∧ X.env.scope.names.lookup x.1 = some .local ∧ Locs X xs is
  | _, _ => False
theorem binds_caps {pins : List (Addr × Obj)} {E : Value → Shared → Prop} (hN : X.N.Nodup) : ∀ {xs : List (Str × Pos)} {is : List Nat} {us : List Value} {vs : List V} {σ : L2.St} {H : Hp} {s : Shared} {Q : Unit → Shared → Prop}, Locs X xs is → L2.Vals vs us → vs.length = xs.length → L2.Inv X pins σ H s →
    (∀ s', L2.Inv X pins (setsS σ is vs) H s' → Q () s') → wpAny (model X.prog X.w) X.A (assignInOrder ((List.zipWith (fun x u => (x.1, u)) xs us).map fun p => bindName X.env p.1) ((List.zipWith (fun x u => (x.1, u)) xs us).map (·.2))) Q E s
  | [], [], _, _, σ, H, s, Q, _, r, hl, I, k => by
    obtain rfl := List.eq_nil_of_length_eq_zero hl
    cases r
    exact assignInOrder_nil (k s I)
  | x :: xs, i :: is, _, _, σ, H, s, Q, ⟨h1, h2, h3⟩, r, hl, I, k => by
    cases r with
    | nil => simp at hl
    | @cons v u vs us r1 rr =>
      show wpAny _ _ (assignInOrder (bindName X.env x.1 :: (List.zipWith (fun x u => (x.1, u)) xs us).map fun p => bindName X.env p.1) (u :: (List.zipWith (fun x u => (x.1, u)) xs us).map (·.2))) Q E s
      refine assignInOrder_cons (wpAny_bindName (L2.store_ok I hN h1 (.inl h2) r1 (fun s2 I2 => ?_) (.inr h2)))
      exact binds_caps hN h3 rr (by simpa using hl) I2 k
  | [], _ :: _, _, _, _, _, _, _, h, _, _, _, _ => h.elim
  | _ :: _, [], _, _, _, _, _, _, h, _, _, _, _ => h.elim
theorem ps_matchT {xs : List (Str × Pos)} {is : List Nat} {g : Expr} {body : List Stmt} {rest : List MatchCase} {mpos : Pos} {te : L2.TE} {tg : L2.TT} {tb : L2.TS} (hc : X.calm = true) (hN : X.N.Nodup) (hl : Locs X xs is) (he : L2.PE X e te) (hg : L2.PT X g tg) (hb : L2.PSs X body tb)
    (hstar : (xs.map cap).findIdx? (·.isStar) = none := by rfl) (hwild : ((xs.map cap).all fun p => p.isWildcard || (p.isStar && p.names.isEmpty)) = false := by rfl) :
    L2.PS X (.Match e (⟨.MatchSequence (xs.map cap) pos, some g, body⟩ :: rest) mpos) (fun D σ H => te σ H fun v H1 => ∃ a vs, v = .ref a ∧ L2.SqT X.K H1 a vs ∧ vs.length = xs.length ∧ tg (setsS σ is vs) H1 fun b H2 => b = true ∧ tb D (setsS σ is vs) H2) := by
  refine ⟨fun pins s σ H D I h => ?_⟩
  refine wpAny_Match (L2.thn (he.run pins s σ H _ I h) fun u s1 ⟨v, H1, I1, r1, a, vs, ev, hq, hlen, q1⟩ => ?_)
  subst ev
  cases r1
  obtain ⟨its, rv, ht, hz⟩ := I1.tuple hq
  have hsz : its.length = xs.length := by rw [← rv.length]; exact hlen
  refine wpAny_matchCases_cons ?_
  have hfit : ((its.toArray.size : Nat) : Int) < 2 ^ 63 := by
    have h1 := rv.length
    have h2 : sizeLine = 16777216 := rfl
    rw [List.size_toArray]
    have h3 : (16777216 : Int) < 2 ^ 63 := by decide
    omega
  refine matchSeq_tuple_hit ht hfit (by simp [hsz]) ?_ hstar hwild
  have el : (xs.map cap).length = its.toArray.size := by rw [List.length_map, List.size_toArray]; exact hsz.symm
  rw [el]
  refine unpackItems_tuple (s := { s1 with toks := s1.toks + 1 + 1 }) (items := its.toArray) (I1.ok.hd hc) ht fun h' hx => ?_
  refine matchEach_caps (xs := xs) (us := its.toArray.toList) (by show xs.length = its.length; exact hsz.symm) ?_
  have I2 : L2.Inv X pins σ H1 { s1 with heap := h', toks := s1.toks + 1 + 1 } := I1.kept (h' := h') (t' := s1.toks + 1 + 1) fun b o e => hx b o (Nat.ne_of_lt (Heap.lt_size e)) e
  refine binds_caps hN hl (us := its) (vs := vs) rv hlen I2 fun s3 I3 => ?_
  refine L2.thn (hg.run pins s3 _ H1 _ I3 q1) fun b s4 ⟨H4, I4, hb1, q4⟩ => ?_
  subst hb1
  rw [if_pos rfl]
  exact hb.run pins s4 _ H4 D I4 q4
end
end Kv
/-! The rules in short: operators, comparisons, built-ins; match. -/
namespace Kv
open PySem L2
section
variable {X : Cx} {κ : Kx} {kp : List Nat} {pu p q r fl fl' fl2 : Bool} {e a b c tg it : Expr} {pos ps ps2 apos : Pos} {es : List Expr} {ma mb mc : M Opd} {ms : M (List Opd)}
/-! ### operators -/
def addF : D → D → Option OV := oe (oe (iiF (fun _ _ => true) fun i j => .int (i + j)) catS) (oe catL catT)
def subF : D → D → Option OV := iiF (fun _ _ => true) fun i j => .int (i - j)
def mulF : D → D → Option OV := oe (iiF mulB fun i j => .int (i * j)) repL
def fdvF : D → D → Option OV := iiF divB fun i j => .int (i.fdiv j)
def modF : D → D → Option OV := iiF modB fun i j => .int (i.fmod j)
def powF : D → D → Option OV := iiF powB fun i j => .int (i ^ j.toNat)
theorem v_add (ha : SO X κ p fl a ma) (hb : SO X κ q fl' b mb) (hfl : (!fl || q) = true := by rfl) : SE X κ (p && q) (.BinOp a .Add b pos) (bin2 addF ma mb) :=
  se_bin (OpR.or (OpR.or op_add op_add_str) (OpR.or op_cat op_catA)) (P2.or (P2.or p2_ii0 p2_catS) (P2.or p2_catL p2_catT)) ha hb hfl
theorem v_sub (ha : SO X κ p fl a ma) (hb : SO X κ q fl' b mb) (hfl : (!fl || q) = true := by rfl) : SE X κ (p && q) (.BinOp a .Sub b pos) (bin2 subF ma mb) := se_bin op_sub p2_ii0 ha hb hfl
theorem v_mul (ha : SO X κ p fl a ma) (hb : SO X κ q fl' b mb) (hfl : (!fl || q) = true := by rfl) : SE X κ (p && q) (.BinOp a .Mult b pos) (bin2 mulF ma mb) := se_bin (OpR.or op_mul op_rep) (P2.or (p2_ii mulB_ok) p2_repL) ha hb hfl
theorem v_fdv (ha : SO X κ p fl a ma) (hb : SO X κ q fl' b mb) (hfl : (!fl || q) = true := by rfl) : SE X κ (p && q) (.BinOp a .FloorDiv b pos) (bin2 fdvF ma mb) := se_bin op_fdivN (p2_ii divB_ok) ha hb hfl
theorem modB_ok (i j : Int) (h : modB i j = true) : j ≠ 0 := of_decide_eq_true h
theorem v_mod (ha : SO X κ p fl a ma) (hb : SO X κ q fl' b mb) (hfl : (!fl || q) = true := by rfl) : SE X κ (p && q) (.BinOp a .Mod b pos) (bin2 modF ma mb) := se_bin op_modN (p2_ii modB_ok) ha hb hfl
theorem v_pow (ha : SO X κ p fl a ma) (hb : SO X κ q fl' b mb) (hfl : (!fl || q) = true := by rfl) : SE X κ (p && q) (.BinOp a .Pow b pos) (bin2 powF ma mb) := se_bin op_pow (p2_ii powB_ok) ha hb hfl
/-! ### comparisons -/
structure Cm (X : Cx) (t : CT) (op : CmpOp) (f : D → D → Option OV) : Prop where
  ex : ∃ r, OpR X (compareOp op) r ∧ P2 t r f
def ltF : D → D → Option OV := iiF (fun _ _ => true) fun i j => .bl (decide (i < j))
def leF : D → D → Option OV := iiF (fun _ _ => true) fun i j => .bl (decide (i ≤ j))
def gtF : D → D → Option OV := iiF (fun _ _ => true) fun i j => .bl (decide (j < i))
def geF : D → D → Option OV := iiF (fun _ _ => true) fun i j => .bl (decide (j ≤ i))
def eqF : D → D → Option OV := oe (fun d e => blO (eqS d e)) fun d e => blO (eqP d e)
def neF : D → D → Option OV := oe (fun d e => blO ((eqS d e).map not)) fun d e => blO ((eqP d e).map not)
def inF : D → D → Option OV := oe (oe (inDict false) (inStr false)) (oe (inFlat false) (inDeep false))
def ninF : D → D → Option OV := oe (oe (inDict true) (inStr true)) (oe (inFlat true) (inDeep true))
theorem cm_lt {t : CT} : Cm X t .Lt ltF := ⟨_, op_lt, p2_ib0⟩
theorem cm_le {t : CT} : Cm X t .LtE leF := ⟨_, op_le, p2_ib0⟩
theorem cm_gt {t : CT} : Cm X t .Gt gtF := ⟨_, op_gt, p2_ib0⟩
theorem cm_ge {t : CT} : Cm X t .GtE geF := ⟨_, op_ge, p2_ib0⟩
theorem rm {A : Around} {k : Nat} (hr : Room k A) (n : Nat) (h : n ≤ 200) : A.units + n < cLine := by have := hr.un; omega
theorem cm_eq {t : CT} {k : Nat} (hr : Room k X.A) : Cm X t .Eq eqF := ⟨_, OpR.or op_eq (op_eqD (rm hr 64 (by decide))), P2.or p2_eqS p2_eqP⟩
theorem cm_ne {t : CT} {k : Nat} (hr : Room k X.A) : Cm X t .NotEq neF := ⟨_, OpR.or op_ne (op_neD (rm hr 64 (by decide))), P2.or p2_neS p2_neP⟩
theorem cm_in {t : CT} {k : Nat} (hr : Room k X.A) : Cm X t .In inF := ⟨_, OpR.or (OpR.or (op_din (hu_of hr)) op_in_str) (OpR.or op_in_seq (op_inD (rm hr 65 (by decide)))), P2.or (P2.or p2_inDict p2_inStr) (P2.or p2_inFlat p2_inDeep)⟩
theorem cm_nin {t : CT} {k : Nat} (hr : Room k X.A) : Cm X t .NotIn ninF := ⟨_, OpR.or (OpR.or (op_dnotin (hu_of hr)) op_notin_str) (OpR.or op_notIn_seq (op_notInD (rm hr 65 (by decide)))), P2.or (P2.or p2_inDict p2_notinStr) (P2.or p2_inFlat p2_notinDeep)⟩
theorem cm_is {t : CT} : Cm X t .Is (isN false) := ⟨_, op_isN, p2_isN⟩
theorem cm_isnt {t : CT} : Cm X t .IsNot (isN true) := ⟨_, op_notN, p2_notN⟩
theorem v_cmp {op : CmpOp} {f : D → D → Option OV} (h : Cm X κ.T op f) (ha : SO X κ p fl a ma) (hb : SO X κ q fl' b mb) (hm : behindInMarks op b = false := by first | exact nomark _ | rfl) (hfl : (!fl || q) = true := by rfl) : SE X κ (p && q) (.Compare a [op] [b] pos) (bin2 f ma mb) := let ⟨_, h1, h2⟩ := h.ex; se_cmp h1 h2 ha hb hm hfl
theorem t_cmp {op : CmpOp} {f : D → D → Option OV} (h : Cm X κ.T op f) (ha : SO X κ p fl a ma) (hb : SO X κ q fl' b mb) (hm : behindInMarks op b = false := by first | exact nomark _ | rfl) (hfl : (!fl || q) = true := by rfl) : SB X κ (p && q) (.Compare a [op] [b] pos) (tob (bin2 f ma mb)) := let ⟨_, h1, h2⟩ := h.ex; sb_cmp h1 h2 ha hb hm hfl
theorem v_cmp3 {op op' : CmpOp} {f g : D → D → Option OV} (h : Cm X κ.T op f) (h' : Cm X κ.T op' g) (ha : SO X κ p fl a ma) (hb : SO X κ q fl' b mb) (hc : SO X κ r fl2 c mc)
    (hm : lastMarks [op, op'] [b, c] = false := by with_unfolding_all rfl) (h1 : (!fl || (q && r)) = true := by rfl) (h2 : (!fl' || r) = true := by rfl) : SE X κ (p && (q && r)) (.Compare a [op, op'] [b, c] pos) (chM f g ma mb mc) := let ⟨_, k1, k2⟩ := h.ex; let ⟨_, k3, k4⟩ := h'.ex; se_chain k1 k3 k2 k4 ha hb hc hm h1 h2
theorem t_cmp3 {op op' : CmpOp} {f g : D → D → Option OV} (h : Cm X κ.T op f) (h' : Cm X κ.T op' g) (ha : SO X κ p fl a ma) (hb : SO X κ q fl' b mb) (hc : SO X κ r fl2 c mc)
    (hm : lastMarks [op, op'] [b, c] = false := by with_unfolding_all rfl) (h1 : (!fl || (q && r)) = true := by rfl) (h2 : (!fl' || r) = true := by rfl) : SB X κ (p && (q && r)) (.Compare a [op, op'] [b, c] pos) (tob (chM f g ma mb mc)) := let ⟨_, k1, k2⟩ := h.ex; let ⟨_, k3, k4⟩ := h'.ex; sb_chain k1 k3 k2 k4 ha hb hc hm h1 h2
/-! ### constants, names -/
theorem v_int {i : Int} {j pos} : SE X κ true (.Constant (.int i) j pos) (co (.int i)) := se_co pe_int fun _ => .int i
theorem v_str {i : Str} {j pos} : SE X κ true (.Constant (.str i) j pos) (co (.str i)) := se_co pe_str fun _ => .str i
theorem v_bl {i : Bool} {j pos} : SE X κ true (.Constant (.bool i) j pos) (co (.bl i)) := se_co pe_bl fun _ => .bl i
theorem v_non {j pos} : SE X κ true (.Constant .none j pos) (co .non) := se_co pe_non fun _ => .non
theorem pe_negI {i : Int} {j : Nat} {p1 pos : Pos} : PE X (.UnaryOp .USub (.Constant (.int i) j p1) pos) (tC (.int (-i))) := (pe_un un_neg pe_int).imp fun σ H Q h => ⟨i, rfl, h⟩
theorem v_neg {i : Int} {j : Nat} {p1 pos : Pos} : SE X κ true (.UnaryOp .USub (.Constant (.int i) j p1) pos) (co (.int (-i))) := se_co pe_negI fun _ => .int _
theorem v_gi {x : Str} {i : Int} {tk : Tok} (hm : X.mg x = some (.int i tk)) (hg : Gl X x := by rfl) (hd : (x == ("__debug__" : Str)) = false := by decide) : SE X κ true (.Name x pos) (co (.int i)) := se_co (pe_glob (v := .int i) hg hm ⟨tk, rfl⟩ hd) fun _ => .int i
theorem v_gs {x : Str} {i : Str} {tk : Tok} (hm : X.mg x = some (.str i tk)) (hg : Gl X x := by rfl) (hd : (x == ("__debug__" : Str)) = false := by decide) : SE X κ true (.Name x pos) (co (.str i)) := se_co (pe_glob (v := .str i) hg hm ⟨tk, rfl⟩ hd) fun _ => .str i
/-- the name of a type -/
theorem v_ty {x : Str} {n : String} (hm : X.mg x = none) (hv : bootBuiltins x = some (.type n)) (hg : Gl X x := by rfl) (hn : x ≠ "__name__" := by decide) (hd : (x == ("__debug__" : Str)) = false := by decide) : SE X κ true (.Name x pos) (co (.ty n)) := se_co (pe_bltn (v := .ty n) hg hm hv rfl hn hd) fun _ => .ty n
/-! ### built-ins -/
def lenN : List D → Option OV := oeN (fun ds => match ds with | [d] => lenF d | _ => none) fun ds => match ds with | [d] => lenD d | _ => none
def n1 (f : D → Option OV) : List D → Option OV := fun ds => match ds with | [d] => f d | _ => none
def n2 (f : D → D → Option OV) : List D → Option OV := fun ds => match ds with | [d, e] => f d e | _ => none
theorem c_len (hm : X.mg "len" = none) (ha : SA X κ p (e :: es) ms) (hg : Gl X "len" := by rfl) (hK : κ.T.K = X.K := by rfl) (he : starEach (e :: es) X.env = (false, eval e X.env) :: starEach es X.env := by rfl) (hpl : (backTo pos (starEach es X.env)).any (·.1) = false := by rfl) : SE X κ p (.Call (.Name "len" ps) (e :: es) [] pos) (callP lenN ms) :=
  se_callB (CallR.or call_len (CallR.or call_lenD call_len_dT)) (PN.or (pn1 (hK ▸ p1_len)) (pn1 p1_lenD)) hg hm boot_len ha (by decide) (by decide) he hpl
theorem c_int (hm : X.mg "int" = none) (ha : SA X κ p (e :: es) ms) (hg : Gl X "int" := by rfl) (he : starEach (e :: es) X.env = (false, eval e X.env) :: starEach es X.env := by rfl) (hpl : (backTo pos (starEach es X.env)).any (·.1) = false := by rfl) : SE X κ p (.Call (.Name "int" ps) (e :: es) [] pos) (callP (n1 intF) ms) :=
  se_callTy call_int1 (pn1 p1_int) hg hm PyProof.Rows.boot_int ha (by decide) (by decide) he hpl
theorem c_isi (hm : X.mg "isinstance" = none) (ha : SA X κ p (e :: es) ms) (hg : Gl X "isinstance" := by rfl) (he : starEach (e :: es) X.env = (false, eval e X.env) :: starEach es X.env := by rfl) (hpl : (backTo pos (starEach es X.env)).any (·.1) = false := by rfl) : SE X κ p (.Call (.Name "isinstance" ps) (e :: es) [] pos) (callP (n2 isiF) ms) :=
  se_callB call_isi (pn2 p2_isi) hg hm PyProof.Rows.boot_isinstance ha (by decide) (by decide) he hpl
theorem c_all (hc : X.calm = true) (hm : X.mg "all" = none) (ha : SA X κ p (e :: es) ms) (hg : Gl X "all" := by rfl) (he : starEach (e :: es) X.env = (false, eval e X.env) :: starEach es X.env := by rfl) (hpl : (backTo pos (starEach es X.env)).any (·.1) = false := by rfl) : SE X κ p (.Call (.Name "all" ps) (e :: es) [] pos) (callP (n1 allF) ms) :=
  se_callB (cr_all hc) (pn1 p1_all) hg hm PyProof.Rows.boot_all ha (by decide) (by decide) he hpl
theorem c_sum (hc : X.calm = true) (hm : X.mg "sum" = none) (ha : SA X κ p (e :: es) ms) (hg : Gl X "sum" := by rfl) (he : starEach (e :: es) X.env = (false, eval e X.env) :: starEach es X.env := by rfl) (hpl : (backTo pos (starEach es X.env)).any (·.1) = false := by rfl) : SE X κ p (.Call (.Name "sum" ps) (e :: es) [] pos) (callP (n1 sumF) ms) :=
  se_callB (cr_sum hc) (pn1 p1_sum) hg hm PyProof.Rows.boot_sum ha (by decide) (by decide) he hpl
theorem c_sorted (hm : X.mg "sorted" = none) (ha : SA X κ p (e :: es) ms) (hg : Gl X "sorted" := by rfl) (he : starEach (e :: es) X.env = (false, eval e X.env) :: starEach es X.env := by rfl) (hpl : (backTo pos (starEach es X.env)).any (·.1) = false := by rfl) : SE X κ p (.Call (.Name "sorted" ps) (e :: es) [] pos) (callP (n1 sortedF) ms) :=
  se_callB cr_sortedI (pn1 p1_sorted) hg hm PyProof.Rows.boot_sorted ha (by decide) (by decide) he hpl
theorem c_list (hm : X.mg "list" = none) (ha : SA X κ p (e :: es) ms) (hg : Gl X "list" := by rfl) (he : starEach (e :: es) X.env = (false, eval e X.env) :: starEach es X.env := by rfl) (hpl : (backTo pos (starEach es X.env)).any (·.1) = false := by rfl) : SE X κ p (.Call (.Name "list" ps) (e :: es) [] pos) (callP (n1 listF) ms) :=
  se_callTy call_list_of (pn1 p1_list) hg hm PyProof.Rows.boot_list ha (by decide) (by decide) he hpl
theorem c_tuple (hm : X.mg "tuple" = none) (ha : SA X κ p (e :: es) ms) (hg : Gl X "tuple" := by rfl) (he : starEach (e :: es) X.env = (false, eval e X.env) :: starEach es X.env := by rfl) (hpl : (backTo pos (starEach es X.env)).any (·.1) = false := by rfl) : SE X κ p (.Call (.Name "tuple" ps) (e :: es) [] pos) (callP (n1 tupF) ms) :=
  se_callTy call_tuple_of (pn1 p1_tup) hg hm PyProof.Rows.boot_tuple ha (by decide) (by decide) he hpl
theorem c_join {hd : Unit} (ha : SO X κ p fl a ma) (hb : SO X κ q fl' b mb) (hs : starEach [b] X.env = [(false, eval b X.env)] := by rfl) (hbase : attributeBase a "join" X.env (eval a X.env) = eval a X.env := by rfl) (hline : (apos.endLine == pos.line) = true := by rfl) :
    SE X κ (p && q) (.Call (.Attribute a "join" apos) [b] [] pos) (m1M joinF ma mb) := se_m1 PySem.F.slot_str_join PySem.F.type_str_join mt_join p2_join ha hb hs hbase hline
theorem v_sub1 {k : Nat} (hr : Room k X.A) (ha : SO X κ p fl a ma) (hb : SO X κ q fl' b mb) (hs : PlainIx b := by intro _ _; rfl) (hfl : (!fl || q) = true := by rfl) (hK : κ.T.K = X.K := by rfl) : SE X κ (p && q) (.Subscript a b pos) (bin2 (oe ixF itemD) ma mb) := se_sub (hu_of hr) ha hb hs hfl hK
theorem v_slice {ml mh : M (Option Int)} {lo hi : Option Expr} {p2 : Pos} (ha : SO X κ p fl a ma) (hl : SPt X κ q lo ml) (hh : SPt X κ r hi mh) (hfl : (!fl || (q && r)) = true := by rfl) : SE X κ (p && (q && r)) (.Subscript a (.Slice lo hi none p2) pos) (slM slF ma ml mh) := se_slice sl_all p3_sl ha hl hh hfl
/-! ### match -/
def matchM (is : List Nat) (m : M OV) (mg : M Bool) (mb : M Fl) : M Fl := bnd m fun o => fun ρ => match ttp is o.dat ρ with
  | none => none
  | some ρ1 => (bnd mg fun b => if b = true then mb else bad) ρ1
theorem ss_match {xs : List (Str × Pos)} {is : List Nat} {g : Expr} {body : List Stmt} {rest : List MatchCase} {mpos : Pos} {m : M OV} {mg : M Bool} {mb : M Fl} (hc : X.calm = true) (hN : X.N.Nodup) (hl : Locs X xs is) (hk : ∀ i ∈ is, i ∉ kp) (hlen : is.length = xs.length) (he : SE X κ p e m) (hg : SB X κ q g mg) (hb : SSs X κ kp body mb)
    (hstar : (xs.map cap).findIdx? (·.isStar) = none := by rfl) (hwild : ((xs.map cap).all fun p => p.isWildcard || (p.isStar && p.names.isEmpty)) = false := by rfl) :
    SS X κ kp (.Match e (⟨.MatchSequence (xs.map cap) pos, some g, body⟩ :: rest) mpos) (matchM is m mg mb) := ⟨(ps_matchT hc hN hl he.pe hg.pt hb.ps hstar hwild).imp fun D σ H ⟨ρ, fr, w, l, hp⟩ => by
  unfold matchM at hp
  rw [wp_bnd] at hp
  refine ⟨ρ, fr, w, l, wp_mono2 hp (fun o ρ1 hp v H1 w1 s1 l1 => ?_) fun x ρ' k => errK_of k⟩
  unfold wp at hp
  simp only at hp
  cases et : ttp is o.dat ρ1 with
  | none => rw [et] at hp; exact hp.elim
  | some ρ2 =>
    rw [et] at hp
    have hp : wp (bnd mg fun b => if b = true then mb else bad) ρ2 (EndK κ.T kp σ fr D) (ErrK κ kp σ fr) := hp
    unfold ttp at et
    split at et
    · rename_i ds ed
      split at et
      · rename_i hcc
        cases et
        have l1' := l1.frz
        rw [ed] at l1'
        obtain ⟨ad, vs, rfl, hlv, hH, l2⟩ := l1'.ofTup
        obtain ⟨s1, s2, s3⟩ := sets_ok (is := is) w1 hcc.2 hlv (hlv.trans hcc.1) (live_mid l2)
        have k2 : Kp kp σ (setsS σ is vs) := fun j hj => s3 j fun z => hk j z hj
        refine ⟨ad, vs, rfl, SqT.of hH, (hlv.trans hcc.1).trans hlen, ?_⟩
        rw [wp_bnd] at hp
        refine ⟨_, fr, s1, s2, wp_mono2 hp (fun b ρ3 k3 H3 w3 _ l3 => ?_) fun x ρ3 k3 => k3 _ k2⟩
        cases b with
        | false => exact k3.elim
        | true => exact ⟨rfl, ρ3, fr, w3, l3, wp_mono2 k3 (fun f ρ4 k4 => k4.mono k2) fun x ρ4 k4 => k4.mono k2⟩
      · cases et
    · cases et⟩
end
end Kv
namespace Kv
open PySem L2
theorem cal0 {X : Cx} {κ : Kx} {F : List OV → Res} {f : Addr} {k : Nat} {xg : Ex → List (V × OV) → XK → Prop} (h : FnF X.prog X.w X.K X.mg X.base CX0 k κ.T xg f F) (hx : ∀ x L, κ.xc x L → False) : CalS X κ F f k :=
  ⟨CX0, xg, E0, h, pass0, fun x L h => (hx x L h).elim⟩
theorem fn_none {P : Program} {w : World} {K : PySem.W.Frag} {mg : Str → Option Value} {base : Heap} {CX : CXT} {k : Nat} {t : CT} {xg : Ex → List (V × OV) → XK → Prop} {x qual : Str} {st : Stmt} {f : Addr} {fd : FuncData} {ps : List Str} (F : Fun K x qual st f fd) (hb : Binds K fd ps []) :
    FnF P w K mg base CX k t xg f (fun _ => none) := ⟨fd, ps, ⟨fun vs H Q E h => by obtain ⟨os, fr, _, _, h⟩ := h; exact h.elim, fun A outer s H args us vs Q E hr he hbd hv hs => by obtain ⟨os, fr, _, _, h⟩ := hs; exact h.elim⟩, F.kp, hb⟩
end Kv
/-! name = {k: v ..} on one line. -/
namespace L2
open PySem PySem.Spec PyProof.Rows
section
variable {X : Cx}
theorem sw_trueD {kx vx : Expr} {gs : List Comprehension} {scope : Scope} {pos py : Pos} {y : Str} {l : Nat} {env : Env} (hk : env.scope.kind = .function) (hy : env.scope.names.lookup y = some .local) (hl : (py.line == pos.line) = true)
    (ha : (scope.names.any fun (n, k) => n == y && (k == .local || k == .cell)) = false) : swapsWith (.DictComp kx vx gs scope pos) (some (.Name y py)) l env = pure true := by
  have ky : env.kindOf y = some .local := hy
  have hb : env.blockKind = .function := by unfold Env.blockKind; rw [hk]; rfl
  unfold swapsWith
  simp only [hb, ky, ha, Expr.pos, hl]
  rfl
theorem ps_setDc {i : Nat} {y : Str} {py : Pos} {kx vx tg iter : Expr} {ifs : List Expr} {scope : Scope} {own : List (Str × Nat)} {pos spos : Pos} {wi : TI} {g : TG} {tt : TT} {tk tv : TE} (hc : X.calm = true) (hN : X.N.Nodup) (hy : X.N[i]? = some y) (hyl : X.env.scope.names.lookup y = some .local)
    (hsw : swapsWith (.DictComp kx vx [⟨tg, iter, ifs, 0⟩] scope pos) (some (.Name y py)) spos.line X.env = pure true) (hi : PI X tg iter wi) (ok : BlkOk X.N X.env.scope scope own)
    (hg : ∀ (s : Shared) (H : Hp) (C : Addr) (cl : List (Str × Addr)) (fp : List Addr), PG (X.blk s H scope (compEnvC scope cl C X.env) fp) tg g) (ht : ∀ (s : Shared) (H : Hp) (C : Addr) (cl : List (Str × Addr)) (fp : List Addr), PTs (X.blk s H scope (compEnvC scope cl C X.env) fp) ifs tt)
    (hk : ∀ (s : Shared) (H : Hp) (C : Addr) (cl : List (Str × Addr)) (fp : List Addr), PE (X.blk s H scope (compEnvC scope cl C X.env) fp) kx tk)
    (he : ∀ (s : Shared) (H : Hp) (C : Addr) (cl : List (Str × Addr)) (fp : List Addr), PE (X.blk s H scope (compEnvC scope cl C X.env) fp) vx tv) (hs : ∀ x, foldedSetIterable iter X.env x = pure x := by intro _; rfl) :
    PS X (.Assign [.Name y py] (.DictComp kx vx [⟨tg, iter, ifs, 0⟩] scope pos) spos) (tAsg (tDc wi g tt tk tv (own.map (·.2))) (gName i)) := by
  refine ⟨fun pins s σ H D I h => ?_⟩
  rw [exec_Assign_Name_used _ _ _ _ hsw]
  refine wpAny_bind (wpAny_standAt (wpAny_bind ?_))
  show wpAny _ X.A (do let _ ← comprehension (.DictComp kx vx [⟨tg, iter, ifs, 0⟩] scope pos) scope X.env (firstIterPos [⟨tg, iter, ifs, 0⟩] pos) newDict false (eval iter X.env) (some (assign (.Name y py) X.env))) _ _ s
  have h : tDc wi g tt tk tv (own.map (·.2)) σ H (fun x H1 => gName i x σ H1 D.nx) := h
  refine wpAny_bind (thn (dc_core (Qf := fun _ s' => SP X pins D .next s') hc hN I hi ok hg ht hk he hs h fun L C s' m H' I' q hn f => ?_) fun _ s' hq => wpAny_pure (wpAny_pure hq))
  show wpAny _ _ (assign (.Name y py) X.env (.ref L)) _ _ _
  refine wpAny_assign_Name (store_ok2 (v := V.ref L) I' hN hy (.inl hyl) rfl (fun s2 I2 ⟨a, sb, ha⟩ => ?_) (.inr hyl))
  obtain ⟨f0, f1, f2, f3, f4, f5⟩ := f
  have haC : C ≠ a := by
    rcases ha with z | z
    · rw [z]; exact f1
    · exact fun e => f4 y a z e.symm
  refine ⟨m, hn.sameBut sb haC, fun h3 sb3 => ?_⟩
  exact ⟨_, H', I2.turned (t' := s2.toks) (fun b o hb e => (sb3.2 b hb).trans e) f0 f1 f3 f4 f5, q⟩
end
end L2
namespace Kv
open PySem L2
section
variable {X : Cx} {κ : Kx} {kp : List Nat} {pu p q r fl fl' : Bool} {e a b c tg it : Expr} {pos ps ps2 apos : Pos} {es : List Expr}
theorem ss_setDcIt {kx vx e : Expr} {ifs : List Expr} {scope : Scope} {own : List (Str × Nat)} {elts : List Expr} {kk : Nat} {tpos : Pos} {i j : Nat} {y : Str} {es0 : Pos} {is : List Nat} {g : D → Env → Option Env} {c : M Bool} {ek ev : M OV} {pk pv : Bool} (hc : X.calm = true) (hN : X.N.Nodup) (hy : X.N[j]? = some y) (hyl : X.env.scope.names.lookup y = some .local) (hkp : j ∉ kp)
    (hsw : swapsWith (.DictComp kx vx [⟨.Tuple elts kk tpos, .Call (.Attribute e "items" apos) [] [] pos, ifs, 0⟩] scope ps) (some (.Name y ps2)) es0.line X.env = pure true) (he : PE X e (tVar i)) (ok : BlkOk X.N X.env.scope scope own)
    (hg : ∀ (s : Shared) (H : Hp) (C : Addr) (cl : List (Str × Addr)) (fp : List Addr), SG (X.blk s H scope (compEnvC scope cl C X.env) fp) κ.nx (.Tuple elts kk tpos) is g) (ht : ∀ (s : Shared) (H : Hp) (C : Addr) (cl : List (Str × Addr)) (fp : List Addr), STs (X.blk s H scope (compEnvC scope cl C X.env) fp) κ.nx ifs c)
    (hk : ∀ (s : Shared) (H : Hp) (C : Addr) (cl : List (Str × Addr)) (fp : List Addr), SE (X.blk s H scope (compEnvC scope cl C X.env) fp) κ.nx pk kx ek) (hv : ∀ (s : Shared) (H : Hp) (C : Addr) (cl : List (Str × Addr)) (fp : List Addr), SE (X.blk s H scope (compEnvC scope cl C X.env) fp) κ.nx pv vx ev)
    (g_len : ∀ {d ρ ρ'}, g d ρ = some ρ' → ρ.length = ρ'.length) (his : ∀ i ∈ is, i ∈ own.map (·.2)) (hs : ∀ x, foldedSetIterable (.Call (.Attribute e "items" apos) [] [] pos) X.env x = pure x := by intro _; rfl)
    (hbase : attributeBase e "items" X.env (eval e X.env) = eval e X.env := by rfl) (hline : (apos.endLine == pos.line) = true := by rfl) :
    SS X κ kp (.Assign [.Name y ps2] (.DictComp kx vx [⟨.Tuple elts kk tpos, .Call (.Attribute e "items" apos) [] [] pos, ifs, 0⟩] scope ps) es0) (setN j (dcItM i (own.map (·.2)) g c ek ev)) :=
  by
  have vsE : ∃ vs : List Nat, vs = own.map (·.2) := ⟨_, rfl⟩
  have key : ∀ σ H Q, T κ false (dcItM i (own.map (·.2)) g c ek ev) σ H Q → tLockE (tDc (iItems (tVar i)) (TGt κ.nx is g) (TB κ.nx false c) (T κ.nx pk ek) (T κ.nx pv ev) (own.map (·.2))) σ H Q := fun _ _ _ q => dcIt_sound (pc := false) (pk := pk) (pv := pv) g_len his q
  refine ⟨(ps_lock (ps_setDc hc hN hy hyl hsw (pi_items he hbase hline) ok (fun s H C cl fp => (hg s H C cl fp).pg) (fun s H C cl fp => (ht s H C cl fp).pt) (fun s H C cl fp => (hk s H C cl fp).pe) (fun s H C cl fp => (hv s H C cl fp).pe) hs)).imp fun D σ H q => ?_⟩
  obtain ⟨d, u, h1, h2, h3⟩ := set_ok hkp key q
  exact ⟨d, u, h1, h2, fun od => h3 od⟩
end
end Kv
/-! The end: the law's promise out of its computation. -/
namespace Kv
open PySem hiding Env
open L2
def mkA (l c : List Addr) (n : Nat) : Addr := bif Nat.blt n 100 then l.getD n 0 else c.getD (n - 100) 0
def spLaw (K : PySem.W.Frag) : Sp := fun vs H Q _ => ∃ (a : Addr) (ns : List Int), vs = [.ref a] ∧ SqL K H a (ns.map V.int) ∧ ns.length ≤ 63 ∧ ∀ H', Q (.bl true) H'
theorem law_ints {t : CT} {G : Hp} : ∀ ns : List Int, Reps t G (ns.map V.int) (ns.map D.int)
  | [] => .nil
  | n :: r => .cons (.int n) (law_ints r)
theorem law_sp {t : CT} {xg : Ex → List (V × OV) → XK → Prop} {F : List OV → Res} (h : ∀ ns : List Int, ns.length ≤ 63 → ∃ outs, F [.fz (.frl (ns.map D.int))] = some (.ok (.fz (.bl true)), outs)) (vs : List V) (H : Hp) (Q : VK) (E : XK) (hs : spLaw t.K vs H Q E) : spF t xg F vs H Q E := by
  obtain ⟨a, ns, rfl, hS, hl, k⟩ := hs
  obtain ⟨outs, e⟩ := h ns hl
  refine ⟨[.fz (.frl (ns.map D.int))], [], rfl, ⟨H, [], ⟨fun _ _ h => h, .cons (.fz (.frl hS (law_ints ns))) .nil, (fun _ h => by cases h), (fun _ h => by cases h), List.nodup_nil⟩⟩, ?_⟩
  rw [e]
  intro v H' l
  have r : Rep t H' v (.bl true) := l.rep
  cases r
  exact k H'
theorem walk {l : PySem.W.OpenLaw} {q : Program} {loose : List Str} {XP : (Str → Option Value) → Heap → Prop} {YP : World → Heap → Prop} {d : DefRec} {K : Params → PySem.W.Frag} {x : Str} {k : Nat} (hn : l.most = some 63) (hdf : d.params.defaults = []) (hr : Room k callerA)
    (hY : ∀ (w : World) (h : Heap), YP w h → (K w.params).In h)
    (F : ∀ (w : World) (mg : Str → Option Value) (fa : Addr) (h : Heap), (K w.params).In h → h.Ns mainGlobals mg → mg d.name = some (.ref fa) →
      ∃ fd : FuncData, (∀ (s : Shared) (u : Value), BindsTo s fd ⟨[u], []⟩ [(x, u)]) ∧ ∀ base : Heap, (K w.params).In base → base.Ns mainGlobals mg → FnOk l.prog w (K w.params) mg base CX0 k fa fd [x] (spLaw (K w.params))) :
    PySem.W.WalkO q loose XP YP l.row.toRowW d [] (fun f vs => PySem.call f vs) :=
  L2.walk_of (n := 63) (k := k) (x := x) (CX := fun _ => CX0) (sp := fun w => spLaw (K w.params)) hn (by decide) hdf hr hY F (fun _ _ a ns hl _ hS => ⟨a, ns, rfl, hS, hl, fun _ => rfl⟩) fun _ _ _ _ _ z => z
end Kv
/-! More of the layer: range downwards, max of two, startswith, an attribute among targets, the firsts of a list in a place. -/
namespace Kv
open PySem hiding Env
open L2 PySem.Spec PyProof.Rows
section
variable {t : CT} {H : Hp} {K : PySem.W.Frag}
def startF : D → D → Option OV
  | .str a, .str b => some (.fz (.bl (Txt.startswith a b)))
  | _, _ => none
theorem p2_start : P2 t (fun x y H Q => (fun x xs H Q => ∃ a b, x = V.str a ∧ xs = [V.str b] ∧ Q (V.bl (Txt.startswith a b)) H) x [y] H Q) startF := fun H L x y dx dy o Q l bx b_y e k => by
  unfold startF at e
  split at e
  · cases e
    exact ⟨_, _, str_of bx.rep, by rw [str_of b_y.rep], k _ _ (Same.refl H) (live_bl l _)⟩
  · cases e
def maxF : D → D → Option OV
  | .int a, .int b => some (.fz (.int (if b > a then b else a)))
  | _, _ => none
theorem p2_max : P2 t (fun x y H Q => (fun xs H Q => ∃ i j, xs = [V.int i, V.int j] ∧ Q (V.int (if j > i then j else i)) H) [x, y] H Q) maxF := fun H L x y dx dy o Q l bx b_y e k => by
  unfold maxF at e
  split at e
  · cases e
    exact ⟨_, _, by rw [int_of bx.rep, int_of b_y.rep], k _ _ (Same.refl H) (live_int l _)⟩
  · cases e
theorem it_down {i : Int} {n : Nat} : ItOk t (Itc i (-1) n) [] ((List.range n).map fun k => .int (i - (k : Nat))) where
  go := fun k d H M hd l => by
    rw [List.getElem?_map] at hd
    obtain ⟨j, hj, rfl⟩ := Option.map_eq_some_iff.mp hd
    obtain ⟨hi, e⟩ := List.getElem?_eq_some_iff.mp hj
    have hi : k < n := by simpa using hi
    simp at e
    subst e
    refine ⟨hi, fun x H' y => ?_⟩
    obtain ⟨rfl, rfl⟩ := y
    have : i + -1 * (k : Int) = i - (k : Int) := by omega
    first | exact this ▸ live_int l _ | (have h2 : i + (k : Int) * -1 = i - (k : Int) := by omega); exact h2 ▸ live_int l _
  stop := fun i H M hi l => show n ≤ i by simpa using hi
end
section
variable {X : Cx} {κ : Kx} {kp : List Nat} {pu p q r fl fl' fl2 : Bool} {e a b c tg : Expr} {pos ps apos : Pos} {es rest : List Expr}
theorem c_start {hd : Unit} {ma mb : M Opd} (ha : SO X κ p fl a ma) (hb : SO X κ q fl' b mb) (hs : starEach [b] X.env = [(false, eval b X.env)] := by rfl) (hbase : attributeBase a "startswith" X.env (eval a X.env) = eval a X.env := by rfl) (hline : (apos.endLine == pos.line) = true := by rfl) :
    SE X κ (p && q) (.Call (.Attribute a "startswith" apos) [b] [] pos) (m1M startF ma mb) := se_m1 PySem.F.slot_str_startswith PySem.F.type_str_startswith mt_startswith p2_start ha hb hs hbase hline
theorem c_max {ms : M (List Opd)} (hc : X.calm = true) (hm : X.mg "max" = none) (ha : SA X κ p (e :: es) ms) (hg : Gl X "max" := by rfl) (he : starEach (e :: es) X.env = (false, eval e X.env) :: starEach es X.env := by rfl) (hpl : (backTo pos (starEach es X.env)).any (·.1) = false := by rfl) : SE X κ p (.Call (.Name "max" ps) (e :: es) [] pos) (callP (n2 maxF) ms) :=
  se_callB (call_max2 hc) (pn2 p2_max) hg hm boot_max ha (by decide) (by decide) he hpl
def rngD (lo hi : Int) : Option (List D) := if -(2 ^ 62) ≤ lo ∧ lo < 2 ^ 62 ∧ -(2 ^ 62) ≤ hi ∧ hi < 2 ^ 62 then some ((List.range (lo - hi).toNat).map fun i => .int (lo - (i : Nat))) else none
def rng3M (m : M (List Opd)) : M (List D) := bnd m fun ods => bnd (pks ods) fun ds => match ds with
  | [.int a, .int b, .int (-1)] => ofO (rngD a b)
  | _ => bad
theorem si_range3 {ms : M (List Opd)} (hg : Gl X "range") (hm : X.mg "range" = none) (ha : SA X κ p [a, b, c] ms) (hs : starEach [a, b, c] X.env = (false, eval a X.env) :: starEach [b, c] X.env := by rfl) (hpl : (backTo pos (starEach [b, c] X.env)).any (·.1) = false := by rfl) : SI X κ tg (.Call (.Name "range" ps) [a, b, c] [] pos) (rng3M ms) := ⟨(pi_range3 hg hm ha.pa hs hpl).imp fun σ H R ⟨ρ, fr, w, l, hp⟩ => by
  unfold rng3M at hp
  rw [wp_bnd] at hp
  refine ⟨ρ, fr, w, l, wp_mono hp fun ods ρ1 hp vs H1 w1 s1 l1 od1 => ?_⟩
  rw [wp_bnd] at hp
  obtain ⟨ds, e1, hp⟩ := wp_ofO (o := peeks ρ1 ods) hp
  obtain ⟨h1, h2⟩ := bor_ods l1 w1 (fun z hz => List.mem_append_right _ (List.mem_append_left _ hz)) (fun z hz => List.mem_append_left _ hz) od1 e1
  split at hp
  · rename_i n m
    obtain ⟨xs, e2, k⟩ := wp_ofO hp
    have rr := ints_ods h1 h2
    cases rr with
    | cons r1 rr =>
      cases rr with
      | cons r2 rr =>
        cases rr with
        | cons r3 rr =>
          cases rr
          cases int_of r1
          cases int_of r2
          cases int_of r3
          unfold rngD at e2
          split at e2
          · rename_i hc
            cases e2
            exact ⟨n, m, -1, _, rfl, RgC.neg hc.1 hc.2.1 hc.2.2.1 hc.2.2.2, k (Itc n (-1) _) [] H1 w1 it_down l1.drop⟩
          · cases e2
  · exact hp.elim⟩
end
end Kv
/-! An attribute among the targets; the firsts of pairs of a list in a place. -/
namespace Kv
open PySem hiding Env
open L2 PySem.Spec PyProof.Rows
def gFld (K : PySem.W.Frag) (ta : TE) (f : Str) : TG := fun v σ H Q => ta σ H fun x H2 => ∃ a C dx fs, x = .ref a ∧ H2 a = some (.ins C dx fs) ∧ Cls K C ∧ NoAttr K C f ∧ fs.length < 1000 ∧ Q σ (upd H2 a (.ins C dx (putF f v fs)))
section
variable {X : Cx} {κ : Kx} {kp : List Nat} {pu p q r fl fl' fl2 : Bool} {e a b c tg : Expr} {pos ps apos : Pos} {es rest : List Expr}
theorem pg_fld {o : Expr} {ta : TE} {f : Str} {pos : Pos} (ha : PE X o ta) : PG X (.Attribute o f pos) (gFld X.K ta f) := by
  refine ⟨fun pins s σ H v u Q I r h => ?_⟩
  rw [assign_Attribute]
  refine wpAny_bind (wpAny_holding (thn (ha.run pins s σ H _ I h) fun ov s1 ⟨x, H1, I1, rx, a, C, dx, fs, ex, ea, c, n, l, q⟩ => ?_))
  subst ex
  obtain rfl : ov = Value.ref a := rx
  refine wpAny_bind (wpAny_standAt (wpAny_bind (wpAny_holding (setattr_ok I1 ea c n l r fun s3 I3 => ?_))))
  exact wpAny_release ⟨σ, _, I3, q⟩
def setOF (i j c f : Nat) (a b : OV) : M Fl := fun ρ => if a.isNo = true ∨ b.isNo = true ∨ ρ.length ≤ i then none else match (ρ.set i a)[j]? with
  | some (.oi c' fs) => if c' = c then some (.ok .nx, (ρ.set i a).set j (.oi c (fs.set f b))) else none
  | _ => none
theorem wp_setOF {i j c f : Nat} {a b : OV} {ρ : Env} {Q : Fl → Env → Prop} {E : Ex → Env → Prop} (h : wp (setOF i j c f a b) ρ Q E) : i < ρ.length ∧ ∃ fs, (ρ.set i a)[j]? = some (.oi c fs) ∧ Q .nx ((ρ.set i a).set j (.oi c (fs.set f b))) := by
  unfold wp setOF at h
  by_cases hc : a.isNo = true ∨ b.isNo = true ∨ ρ.length ≤ i
  · rw [if_pos hc] at h; exact h.elim
  · rw [if_neg hc] at h
    refine ⟨by omega, ?_⟩
    cases e1 : (ρ.set i a)[j]? with
    | none => rw [e1] at h; exact h.elim
    | some oo =>
      rw [e1] at h
      cases oo with
      | oi c' fs =>
        simp only at h
        by_cases hcc : c' = c
        · subst hcc
          simp only [if_true] at h
          exact ⟨fs, rfl, h⟩
        · simp [hcc] at h
      | _ => exact h.elim
def parF (i j c f : Nat) (ms : M (List Opd)) : M Fl := bnd ms fun ods => match ods with
  | [.tv a, .tv b] => setOF i j c f a b
  | _ => bad
theorem ss_parF {i j c f : Nat} {x nm : Str} {ob : Expr} {ms : M (List Opd)} {px py pt : Pos} {kt k2 : Nat} {pt2 : Pos} (hc : X.calm = true) (hN : X.N.Nodup) (hi : X.N[i]? = some x) (hki : i ∉ kp) (hij : i ≠ j)
    (hx : X.env.scope.names.lookup x = some .local) (hn : (κ.T.fn c)[f]? = some nm) (hnd : (κ.T.fn c).Nodup) (hlen : (κ.T.fn c).length < 1000) (ho : PE X ob (tVar j)) (hcl : Cls X.K (κ.T.ca c)) (hna : NoAttr X.K (κ.T.ca c) nm) (ha : SA X κ p [a, b] ms)
    (hs : swapsWithSole [.Tuple [.Name x px, .Attribute ob nm py] kt pt] (.Tuple [a, b] k2 pt2) pos.line X.env = pure false := by rfl)
    (hw : swappedStores [.Tuple [.Name x px, .Attribute ob nm py] kt pt] (.Tuple [a, b] k2 pt2) X.env = pure none := by rfl)
    (h1 : (assignEach [.Tuple [.Name x px, .Attribute ob nm py] kt pt] X.env).map (·.2) = [assign (.Tuple [.Name x px, .Attribute ob nm py] kt pt) X.env] := by rfl)
    (hl : (assignEach [.Name x px, .Attribute ob nm py] X.env).length = 2 := by rfl) (hst : (assignEach [.Name x px, .Attribute ob nm py] X.env).findIdx? (·.1) = none := by rfl)
    (hs1 : (assignEach [.Name x px, .Attribute ob nm py] X.env).map (·.2) = assign (.Name x px) X.env :: (assignEach [.Attribute ob nm py] X.env).map (·.2) := by rfl)
    (hs2 : (assignEach [.Attribute ob nm py] X.env).map (·.2) = assign (.Attribute ob nm py) X.env :: (assignEach [] X.env).map (·.2) := by rfl) :
    SS X κ kp (.Assign [.Tuple [.Name x px, .Attribute ob nm py] kt pt] (.Tuple [a, b] k2 pt2) pos) (parF i j c f ms) :=
  ⟨(ps_asg (pe_tup ha.pa) (pg_tup (n := 2) hc (pgs_cons (pg_name (i := i) hN hi (.inl hx) (.inr hx)) (pgs_cons (pg_fld ho) pgs_nil hs2) hs1) hl hst) hs hw h1).imp fun D σ H ⟨ρ, fr, w, l, hp⟩ => by
  unfold parF at hp
  rw [wp_bnd] at hp
  refine ⟨ρ, fr, w, l, wp_mono2 hp (fun ods ρ' k vs H' w' s' l' od' => ?_) fun x ρ' k => errK_of k⟩
  split at k
  · rename_i a b
    obtain ⟨h1, fs, e1, k⟩ := wp_setOF k
    obtain ⟨v, u, rfl⟩ : ∃ v u, vs = [v, u] := by
      cases vs with
      | nil => exact od'.elim
      | cons v vs => cases vs with
        | nil => exact od'.2.elim
        | cons u vs => cases vs with
          | nil => exact ⟨v, u, rfl⟩
          | cons _ _ => exact od'.2.2.elim
    refine ⟨by show 2 ≤ sizeLine; decide, fun pp hpp => ⟨pp, [v, u], rfl, SqT.of upd_same, rfl, v, [u], rfl, ?_⟩⟩
    obtain ⟨G, O, lg⟩ := l'
    have l1 : Live κ.T (upd H' pp (.tup [v, u])) ((v, a) :: (u, b) :: (prs σ ρ' ++ fr)) := ⟨_, _, (lg.newF (x := .tup [v, u]) hpp).2⟩
    have l2 := live_set2 (fr := (u, b) :: fr) w' (i := i) h1 (l1.perm (.cons _ List.perm_middle.symm))
    have w2 : WS (σ.set i (some v)) (ρ'.set i a) := w'.set2
    obtain ⟨y, hy⟩ := w2.has j _ e1 rfl
    have l3 : Live κ.T _ ((y, .oi c fs) :: ((prs (σ.set i (some v)) (ρ'.set i a)).eraseIdx j ++ ((u, b) :: fr))) := live_slot l2 hy e1
    obtain ⟨ad, rfl⟩ : ∃ ad, y = .ref ad := by
      obtain ⟨G, O, s, ow, _⟩ := l3
      cases ow with
      | cons h _ => cases h; exact ⟨_, rfl⟩
    obtain ⟨dx, fvs, h2, h3, l4⟩ := Live.fldSet (nm := nm) (l3.perm ((List.Perm.cons _ List.perm_middle).trans (.swap _ _ _))) hn hnd
    refine ⟨u, [], rfl, _, hy, ad, _, dx, fvs, rfl, h2, hcl, hna, by omega, rfl, ?_⟩
    exact k _ _ (w2.set hy) (Kp.set hki) (live_put hy e1 l4)
  · exact k.elim⟩
/-! ### [x for (x, y) in place] -/
def fstL : List D → Option (List D)
  | [] => some []
  | .tup [a, _] :: r => (fstL r).map fun ys => a :: ys
  | _ => none
def lcFstO (i j : Nat) (x : Opd) : M OV := fun ρ => match peek ρ x with
  | some (.lst ds) => if i < ρ.length ∧ j < ρ.length ∧ ds.length ≤ 100000 then (fstL ds).map fun ys => (.ok (.ol ys), ρ) else none
  | _ => none
def lcFst (i j : Nat) (mo : M Opd) : M OV := bnd mo fun x => lcFstO i j x
theorem wp_lcFst {i j : Nat} {x : Opd} {ρ : Env} {Q : OV → Env → Prop} {E : Ex → Env → Prop} (h : wp (lcFstO i j x) ρ Q E) : ∃ ds ys, peek ρ x = some (.lst ds) ∧ i < ρ.length ∧ j < ρ.length ∧ ds.length ≤ 100000 ∧ fstL ds = some ys ∧ Q (.ol ys) ρ := by
  unfold wp lcFstO at h
  cases e : peek ρ x with
  | none => rw [e] at h; exact h.elim
  | some d =>
    rw [e] at h
    cases d with
    | lst ds =>
      simp only at h
      by_cases hc : i < ρ.length ∧ j < ρ.length ∧ ds.length ≤ 100000
      · rw [if_pos hc] at h
        cases e2 : fstL ds with
        | none => rw [e2] at h; exact h.elim
        | some ys => rw [e2] at h; exact ⟨ds, ys, rfl, hc.1, hc.2.1, hc.2.2, e2, h⟩
      · rw [if_neg hc] at h; exact h.elim
    | _ => exact h.elim
theorem fst_reps {t : CT} {G : Hp} : ∀ {us : List V} {ds ys : List D}, Reps t G us ds → fstL ds = some ys → ∃ ks : List V, ks.length = us.length ∧ Reps t G ks ys ∧ ∀ (i : Nat) (u : V), us[i]? = some u → ∃ (p : Addr) (k w : V), u = V.ref p ∧ ks[i]? = some k ∧ G p = some (.tup [k, w])
  | [], [], ys, _, h => by cases h; exact ⟨[], rfl, .nil, fun i u h => by simp at h⟩
  | u :: us, d :: ds, ys, .cons r rr, h => by
    unfold fstL at h
    split at h
    · rename_i e; cases e
    · rename_i a b r' e
      cases e
      obtain ⟨zs, hz, rfl⟩ := Option.map_eq_some_iff.mp h
      obtain ⟨ks, h1, h2, h3⟩ := fst_reps rr hz
      cases r with
      | @tup p vs _ hG rv =>
        cases rv with
        | @cons k _ _ _ rk rv =>
          cases rv with
          | @cons w _ _ _ rw rv =>
            cases rv
            refine ⟨k :: ks, by simp [h1], .cons rk h2, fun i u hu => ?_⟩
            cases i with
            | zero => simp at hu; subst hu; exact ⟨p, k, w, rfl, rfl, hG⟩
            | succ i => simpa using h3 i u (by simpa using hu)
    · cases h
theorem set_wipe2 {σ : L2.St} {i j : Nat} {k w : V} : wipe (setsS (wipe σ [i, j]) [i, j] [k, w]) [i, j] = wipe σ [i, j] := by
  refine wipe_eq (by show ((((wipe σ [i, j]).set i (some k)).set j (some w)).length = _); rw [List.length_set, List.length_set, wipe_length]) fun m hm => ?_
  show ((((wipe σ [i, j]).set i (some k)).set j (some w)))[m]? = _
  rw [List.getElem?_set_ne (fun z => hm (by simp [z])), List.getElem?_set_ne (fun z => hm (by simp [z]))]
theorem se_lcFst {x y : Str} {i j : Nat} {px py pt pe : Pos} {kt : Nat} {it : Expr} {scope : Scope} {own : List (Str × Nat)} {pos : Pos} {mo : M Opd} (hc : X.calm = true) (hN : X.N.Nodup) (ho : SO X κ p fl it mo) (hown : own.map (·.2) = [i, j]) (hij : i ≠ j) (ok : BlkOk X.N X.env.scope scope own)
    (hg : ∀ (s : Shared) (H : Hp) (C : Addr) (cl : List (Str × Addr)) (fp : List Addr), PG (X.blk s H scope (compEnvC scope cl C X.env) fp) (.Tuple [.Name x px, .Name y py] kt pt) (gTup X.K 2 (gNames [i, j])))
    (he : ∀ (s : Shared) (H : Hp) (C : Addr) (cl : List (Str × Addr)) (fp : List Addr), PE (X.blk s H scope (compEnvC scope cl C X.env) fp) (.Name x pe) (tVar i))
    (hs : ∀ x, foldedSetIterable it X.env x = pure x := by intro _; rfl) :
    SE X κ false (.ListComp (.Name x pe) [⟨.Tuple [.Name x px, .Name y py] kt pt, it, [], 0⟩] scope pos) (lcFst i j mo) :=
  ⟨(pe_lc hc hN (pi_list ho.pe) ok hg (fun _ _ _ _ _ => pts_nil) he hs).imp fun σ H Q ⟨ρ, fr, w, l, hp⟩ => by
  unfold lcFst at hp
  rw [wp_bnd] at hp
  refine ⟨ρ, fr, w, l, wp_mono hp fun x ρ1 hp v1 H1 w1 s1 f1 l1 od1 => ?_⟩
  obtain ⟨ds, ys, e1, hi, hj, hz, e2, hq⟩ := wp_lcFst hp
  have bx := bor_od l1 w1 (fun z hz => List.mem_cons_of_mem _ (List.mem_append_left _ hz)) List.mem_cons_self od1 e1
  obtain ⟨G, O, lg⟩ := l1
  obtain ⟨ad, us, rfl, hH, rr⟩ := bx.cmp G O lg
  refine ⟨ad, rfl, ⟨us, SqL.of hH⟩, fun Da hD => ?_⟩
  obtain ⟨ks, hkl, rk, hks⟩ := fst_reps rr e2
  have nad : ad ≠ Da := fun z => by rw [z, hD] at hH; cases hH
  have hlen : us.length ≤ 100000 := by rw [rr.length]; exact hz
  have hσ : σ.length = ρ1.length := w1.len
  rw [hown]
  refine ⟨fun n m H' => n + m = us.length ∧ H' = upd H1 Da (.lst (ks.take n)), ⟨us.length, by omega, rfl⟩, fun n m H' ⟨hnm, hH'⟩ => ?_⟩
  subst hH'
  have hus : SqL X.K (upd H1 Da (.lst (ks.take n))) ad us := SqL.of (by rw [upd_ne nad]; exact hH)
  by_cases hn : us.length ≤ n
  · left
    refine ⟨⟨us, hus, hn⟩, ?_⟩
    have : ks.take n = ks := List.take_of_length_le (by omega)
    rw [this]
    have l2 : Live κ.T H1 (zipF ks ys ++ ((V.ref ad, x.ov) :: (prs σ ρ1 ++ fr))) := ⟨G, O, lg.add rk⟩
    have l3 := Live.lst rk.length l2 hD
    exact hq _ _ w1 (fun h => nomatch h) (l3.perm (.swap _ _ _)).tail
  · right
    have hn : n < us.length := Nat.lt_of_not_le hn
    have hu : us[n]? = some us[n] := List.getElem?_eq_getElem hn
    obtain ⟨pp, k, wv, eu, hk, hG⟩ := hks n _ hu
    refine ⟨⟨us, us[n], hus, hu⟩, fun H'' => H'' = upd H1 Da (.lst (ks.take (n + 1))), fun H'' e => ⟨m - 1, by omega, by omega, e⟩, fun z H'' hy => ?_⟩
    obtain ⟨rfl, hy⟩ := hy
    have hz := hy us hus
    rw [hu] at hz
    cases hz
    have hpp : H1 pp = some (.tup [k, wv]) := lg.same _ _ hG
    have npp : pp ≠ Da := fun z => by rw [z, hD] at hpp; cases hpp
    refine ⟨pp, [k, wv], eu, SqT.of (by rw [upd_ne npp]; exact hpp), rfl, gNames_ok rfl ⟨set_wipe2, ?_⟩⟩
    simp only [tYes, if_true]
    have hwl : (wipe σ [i, j]).length = σ.length := wipe_length _ _
    refine ⟨k, ?_, ks.take n, upd_same, ?_, ?_⟩
    · show ((((wipe σ [i, j]).set i (some k)).set j (some wv)))[i]? = _
      rw [List.getElem?_set_ne (Ne.symm hij), List.getElem?_set_self (by omega)]
    · rw [List.length_take]
      exact Nat.lt_of_le_of_lt (by omega : min n ks.length ≤ 100000) (by decide)
    · rw [upd_upd, List.take_succ, hk]
      rfl⟩
end
end Kv
/-! for and if in a generator's body. -/
namespace Kv
open PySem hiding Env
open L2 PySem.Spec PyProof.Rows GenW
section
variable {prog : Program} {w : World} {A : Around} {R : GenEnd} {Y : Protocol} {n : Nat} {s₀ : Shared} {c : Code} {fs : List Frame} {s : Shared} {env : PySem.Env} {K : Flow → Sem PySem.Fin} {H : Value → Sem PySem.Fin} {gd : Bool → Bool} {lv : List Value → List Value}
theorem seg_If {test : Expr} {body orelse : List Stmt} {pos : Pos}
    (h : wpAny (model prog w) (A.over c fs) (isTrue test env (eval test env)) (fun b s' => Seg (model prog w) A R Y n s₀ c ((if b = true then execs body env else execs orelse env).wrap K H gd lv) fs s') (fun x s' => Seg (model prog w) A R Y n s₀ c (H x) fs s') s) :
    Seg (model prog w) A R Y n s₀ c ((exec (.If test body orelse pos) env).wrap K H gd lv) fs s := by
  rw [exec_If]
  exact seg_bind_wrap (wpAny_standAt (seg_bind_wrap h))
theorem seg_For {target iter : Expr} {body : List Stmt} {pos : Pos} (hs : ∀ x, foldedSetIterable iter env x = pure x)
    (h : wpAny (model prog w) (A.over c fs) (eval iter env) (fun x s1 => wpAny (model prog w) (A.over c fs) (pyIter x) (fun it s2 => ∀ p, Seg (model prog w) A R Y n s₀ (.forLoop target it body [] env) ((model prog w).den (.forLoop target it body [] env))
      (.ret (fun r => ((match r with | .ok f => (.pure f : Sem Flow) | .error e => .raise e).onRaise (cameBack env)).wrap K H gd lv) none (gd false) (lv []) c p [] :: fs) s2)
      (fun x s' => Seg (model prog w) A R Y n s₀ c (H x) fs s') s1) (fun x s' => Seg (model prog w) A R Y n s₀ c (H x) fs s') s) :
    Seg (model prog w) A R Y n s₀ c ((exec (.For target iter body [] pos) env).wrap K H gd lv) fs s := by
  rw [exec_For]
  refine seg_bind_wrap (wpAny_standAt (seg_bind_wrap (wpAny_mono h (fun x s1 h1 => ?_) fun _ _ z => z)))
  refine seg_bind_wrap (wpAny_of_eq (hs x) ?_)
  refine seg_bind_wrap (wpAny_standAt ?_)
  refine seg_bind_wrap (wpAny_holding (wpAny_mono h1 (fun it s2 h2 => ?_) fun _ _ z => z))
  exact seg_call h2
end
section
variable {prog : Program} {w : World} {A : Around} {R : GenEnd} {Y : Protocol} {n : Nat} {s₀ : Shared} {fs : List Frame} {s : Shared} {env : PySem.Env}
abbrev noteK (env : PySem.Env) (e : Value) : Sem PySem.Fin := (do noteFrame e env; theTreesLotGoes e : Sem Unit).wrap (fun _ => .raise e) .raise id id
theorem seg_forLoop {target : Expr} {it : Value} {body : List Stmt}
    (h : wpAny (model prog w) (A.over (.forLoop target it body [] env) fs) (pyNext it) (fun r s1 => match r with
      | none => Seg (model prog w) A R Y n s₀ (.block [] env) ((model prog w).den (.block [] env)) fs s1
      | some v => wpAny (model prog w) (A.over (.forLoop target it body [] env) fs) (letOwnedTupleGo target it v) (fun _ s2 =>
        wpAny (model prog w) (A.over (.forLoop target it body [] env) fs) (assign target env v) (fun _ s3 =>
          Seg (model prog w) A R Y n s₀ (.forLoop target it body [] env) ((execs body env).wrap (fun f => match f with
            | .next | .cont => .pure (.again (.forLoop target it body [] env))
            | .brk => .pure (.done .next)
            | .ret v => .pure (.done (.ret v))) (noteK env) id id) fs s3)
          (fun x s' => Seg (model prog w) A R Y n s₀ (.forLoop target it body [] env) (noteK env x) fs s') s2) (fun _ _ => False) s1) (fun _ _ => False) s) :
    Seg (model prog w) A R Y n s₀ (.forLoop target it body [] env) ((model prog w).den (.forLoop target it body [] env)) fs s := by
  show Seg _ A R Y n s₀ _ ((forTurn target it body [] env).onRaise (fun x => do noteFrame x env; theTreesLotGoes x)) fs s
  have note : ∀ e, (fun e => ((do noteFrame e env; theTreesLotGoes e : Sem Unit).bind fun _ => (.raise e : Sem PySem.Fin))) e = noteK env e := fun e => by
    show ((do noteFrame e env; theTreesLotGoes e : Sem Unit).bind fun _ => (.raise e : Sem PySem.Fin)) = _
    rw [Sem.bind_eq_wrap]
  rw [Sem.onRaise_eq_wrap, Sem.wrap_congr _ _ _ (fun _ => rfl) note]
  unfold forTurn
  refine seg_bind_wrap (wpAny_standAt ?_)
  refine seg_bind_wrap (wpAny_onRaise (wpAny_mono h (fun r s1 h1 => ?_) fun _ _ z => z.elim))
  cases r with
  | none => exact seg_again rfl h1
  | some v =>
    refine seg_bind_wrap (wpAny_mono h1 (fun _ s2 h2 => ?_) fun _ _ z => z.elim)
    refine seg_bind_wrap (wpAny_mono h2 (fun _ s3 h3 => ?_) fun _ _ z => z)
    rw [Sem.bind_eq_wrap', Sem.wrap_wrap]
    exact (congrArg (fun m => Seg (model prog w) A R Y n s₀ (.forLoop target it body [] env) m fs s3) (Sem.wrap_congr (execs body env) id id (fun f => by cases f <;> rfl) (fun e => rfl))).mpr h3
theorem seg_block0 (h : Seg (model prog w) A R Y n s₀ (.block [] env) (.pure (.done .next)) fs s) : Seg (model prog w) A R Y n s₀ (.block [] env) ((model prog w).den (.block [] env)) fs s := h
end
section
variable {X : Cx} {st : Stmt} {rest : List Stmt}
def tGIf (tc : TT) (t u : TGn) : TGn := fun D ys σ H => tc σ H fun b H1 => if b = true then t D ys σ H1 else u D ys σ H1
theorem gs_if {test : Expr} {body orelse : List Stmt} {pos : Pos} {tc : TT} {t u : TGn} (hc : PT X test tc) (h1 : GSs X body t) (h2 : GSs X orelse u) : GS X (.If test body orelse pos) (tGIf tc t u) := by
  refine ⟨fun A S ip R n ys s₀ c fs K J gd lv s σ H D g hn k hI ht => ?_⟩
  refine seg_If ?_
  rw [g.over]
  obtain ⟨acc, cc, r, I⟩ := hI
  refine wpAny_mono (hc.run _ s σ H _ I ht) (fun b s' hb => ?_) fun x s' hx => k.exc n s₀ x s' hx
  obtain ⟨H2, I2, q2⟩ := hb
  cases b with
  | true =>
    rw [if_pos rfl] at q2 ⊢
    exact h1.run A S ip R n ys s₀ c fs K J gd lv s' σ H2 D g hn k ⟨acc, cc, r, I2⟩ q2
  | false =>
    rw [if_neg Bool.false_ne_true] at q2 ⊢
    exact h2.run A S ip R n ys s₀ c fs K J gd lv s' σ H2 D g hn k ⟨acc, cc, r, I2⟩ q2
end
end Kv
/-! for in a generator's body. -/
namespace Kv
open PySem hiding Env
open L2 PySem.Spec PyProof.Rows GenW
section
variable {X : Cx} {st : Stmt} {rest : List Stmt}
def tGFor (wi : TI) (g : TG) (tb : TGn) : TGn := fun D ys σ H => wi σ H fun J H1 => ∃ W : Nat → Nat → List V → L2.St → Hp → Prop, (∃ m, W 0 m ys σ H1) ∧ ∀ i m ys σ H, W i m ys σ H →
  (J.stop i H ∧ D.nx ys σ H) ∨ (J.go i H ∧ ∃ N : List V → L2.St → Hp → Prop, (∀ ys' σ' H', N ys' σ' H' → ∃ m', m' < m ∧ W (i + 1) m' ys' σ' H') ∧ ∀ x H', J.yld i H x H' → g x σ H' fun σ2 H2 => tb { D with nx := N, ct := N, bk := D.nx } ys σ2 H2)
theorem GI.less {S : Addr} {ip pl : List (Addr × Obj)} {ys : List V} {σ : L2.St} {H : Hp} {s : Shared} (h : GI X S (ip ++ pl) ys σ H s) : GI X S ip ys σ H s := by
  obtain ⟨acc, c, r, I⟩ := h
  exact ⟨acc, c, r, Inv.unpinned (pins := (S, lstObj acc c) :: ip) (pl := pl) I⟩
theorem gs_for {tg iter : Expr} {body : List Stmt} {pos : Pos} {wi : TI} {g : TG} {tb : TGn} (hp : PassesOwn (model X.prog X.w) X.A X.env X.xe) (hc : X.calm = true) (hi : PI X tg iter wi) (hg : PG X tg g) (hb : GSs X body tb)
    (hs : ∀ x, foldedSetIterable iter X.env x = pure x := by intro _; rfl) : GS X (.For tg iter body [] pos) (tGFor wi g tb) := by
  refine ⟨fun A S ip R n ys s₀ c fs K J gd lv s σ H D gc hn k hI ht => ?_⟩
  obtain ⟨acc, cc, r, I⟩ := hI
  refine seg_For hs ?_
  rw [gc.over]
  refine wpAny_mono (hi.run _ s σ H _ I ht) (fun v s1 h1 => wpAny_mono h1 (fun itv s2 h2 => fun p => ?_) fun x s' hx => k.exc n s₀ x s' hx) fun x s' hx => k.exc n s₀ x s' hx
  obtain ⟨it, fp, tn, Jt, H2, rfl, I2, T, st2, f2, W, ⟨m0, w0⟩, turn⟩ := h2
  have gl := fun (kk : Result → Sem PySem.Fin) => gc_loop (k := kk) (c' := .forLoop tg (.ref it) body [] X.env) (l := lv []) (kp := []) (p := p) gc rfl rfl
  have stat : ∀ {H' : Hp} {acc' : Array Value} {cc' : Nat}, (∀ b ∈ fp, H' b = none) → ∀ b ∈ fp, FpOk X ((S, lstObj acc' cc') :: ip) H' b := fun {H' acc' cc'} hn b hb => by
    obtain ⟨h1, h2, h3, h4, h5, h6⟩ := f2 b hb
    refine ⟨hn b hb, h2, h3, h4, h5, fun p hp => ?_⟩
    rcases List.mem_append.mp hp with z | z
    · exact h6 p (List.mem_append_left _ z)
    · rcases List.mem_cons.mp z with z | z
      · rw [z]; exact h6 (S, lstObj acc cc) (List.mem_append_right _ List.mem_cons_self)
      · exact h6 p (List.mem_append_right _ (List.mem_cons_of_mem _ z))
  have hSb : ∀ b ∈ fp, b ≠ S := fun b hb z => (f2 b hb).2.2.2.2.2 (S, lstObj acc cc) (List.mem_append_right _ List.mem_cons_self) z.symm
  have ee : ∀ (n : Nat) (s₀ : Shared) (x : Value) (s' : Shared), X.xe x s' → Seg (model X.prog X.w) A R (GY X S) n s₀ (.forLoop tg (.ref it) body [] X.env) (noteK X.env x)
      (.ret (fun r => ((match r with | .ok f => (.pure f : Sem Flow) | .error e => .raise e).onRaise (cameBack X.env)).wrap K J gd lv) none (gd false) (lv []) c p [] :: fs) s' := fun n s₀ x s' hx => by
    refine seg_wrap ?_
    rw [(gl _).over]
    refine wpAny_bind (wpAny_mono (hp x s' hx) (fun _ s'' hcb => wpAny_theTreesLotGoes ?_) fun y s'' hcb => ?_)
    · exact seg_leaf (.error x) (seg_cameBack gc k hcb)
    · exact seg_leaf (.error y) (seg_cameBack gc k hcb)
  have loop : ∀ (m n : Nat) (ys : List V) (s₀ s : Shared) (σ : L2.St) (H : Hp) (i : Nat) (acc : Array Value) (cc : Nat), n + ys.length = sizeLine → W i m ys σ H → Vals ys acc.toList → L2.Inv X ((S, lstObj acc cc) :: ip) σ H s → tn i s.heap → (∀ b ∈ fp, H b = none) →
      Seg (model X.prog X.w) A R (GY X S) n s₀ (.forLoop tg (.ref it) body [] X.env) ((model X.prog X.w).den (.forLoop tg (.ref it) body [] X.env))
        (.ret (fun r => ((match r with | .ok f => (.pure f : Sem Flow) | .error e => .raise e).onRaise (cameBack X.env)).wrap K J gd lv) none (gd false) (lv []) c p [] :: fs) s := by
    intro m
    induction m using Nat.strongRecOn with
    | ind m ih =>
      intro n ys s₀ s σ H i acc cc hn w rv I st fr
      refine seg_forLoop ?_
      rw [(gl _).over]
      rcases turn i m ys σ H w with ⟨stop, qn⟩ | ⟨go, N, hN, step⟩
      · refine wpAny_mono (T.done X rfl rfl rfl hc i _ s σ H (fun _ _ => False) I (stat fr) st stop) (fun rr s4 ⟨hr, I4⟩ => ?_) fun _ _ z => z
        subst hr
        exact seg_block0 (seg_leaf (.ok .next) (k.ok n ys s₀ s4 .next hn ⟨σ, H, ⟨acc, cc, rv, I4⟩, qn⟩))
      · refine wpAny_mono (T.item X rfl rfl rfl hc i _ s σ H (fun _ _ => False) I (stat fr) st go) (fun rr s4 ⟨u, hr, h4⟩ => ?_) fun _ _ z => z
        subst hr
        refine wpAny_mono h4 (fun _ s5 ⟨x, H5, I5, r5, y5, st5, fr5⟩ => ?_) fun _ _ z => z
        have I5' := I5.pinned (stat fr5) (T.obj _ _ st5)
        refine wpAny_mono (hg.run _ s5 σ H5 x u _ I5' r5 (step x H5 y5)) (fun _ s6 ⟨σ6, H6, I6, q6⟩ => ?_) fun x s' hx => ee n s₀ x s' hx
        have gl' : ∀ kk : Result → Sem PySem.Fin, GC X S (ip ++ pinsAt fp s5.heap) A (.forLoop tg (.ref it) body [] X.env) (Frame.ret kk none (gd false) (lv []) c p [] :: fs) id := fun kk =>
          ⟨(gl kk).pn, fun q hq => (List.mem_append.mp hq).elim ((gl kk).ip q) fun z => hSb _ (of_pinsAt z).1, (gl kk).apart, (gl kk).over, (gl kk).split, (gl kk).guard, (gl kk).gd⟩
        have again : ∀ {ys' : List V} {σ7 : L2.St} {H7 : Hp} {s7 : Shared} {n' : Nat} {s₀' : Shared}, n' + ys'.length = sizeLine → GI X S (ip ++ pinsAt fp s5.heap) ys' σ7 H7 s7 → N ys' σ7 H7 →
            Seg (model X.prog X.w) A R (GY X S) n' s₀' (.forLoop tg (.ref it) body [] X.env) (.pure (.again (.forLoop tg (.ref it) body [] X.env)))
              (.ret (fun r => ((match r with | .ok f => (.pure f : Sem Flow) | .error e => .raise e).onRaise (cameBack X.env)).wrap K J gd lv) none (gd false) (lv []) c p [] :: fs) s7 := fun {ys' σ7 H7 s7 n' s₀'} hn' I7 n7 => by
          obtain ⟨m', hm, w7⟩ := hN ys' σ7 H7 n7
          obtain ⟨acc7, cc7, rv7, I7⟩ := I7
          have I7p : L2.Inv X (((S, lstObj acc7 cc7) :: ip) ++ pinsAt fp s5.heap) σ7 H7 s7 := I7
          refine seg_again rfl (ih m' hm n' ys' s₀' s7 σ7 H7 (i + 1) acc7 cc7 hn' w7 rv7 I7p.unpinned (T.keep _ _ _ st5 fun b hb o e => (I7p.pin (b, o) (List.mem_append_right _ (List.mem_append_right _ (mem_pinsAt hb e)))).1) fun b hb => ?_)
          obtain ⟨o, e, d⟩ := T.obj _ _ st5 b hb
          exact (I7p.pin (b, o) (List.mem_append_right _ (List.mem_append_right _ (mem_pinsAt hb e)))).2.1
        refine hb.run A S (ip ++ pinsAt fp s5.heap) R n ys s₀ _ _ _ _ id id s6 σ6 H6 { D with nx := N, ct := N, bk := D.nx } (gl' _) hn ⟨fun n' ys' s₀' s3 f hn' hs => ?_, fun n' s₀' x s3 hx => ee n' s₀' x s3 hx⟩ ⟨acc, cc, rv, I6⟩ q6
        cases f with
        | next =>
          obtain ⟨σ3, H3, I3, n3⟩ := hs
          exact again hn' I3 n3
        | cont =>
          obtain ⟨σ3, H3, I3, n3⟩ := hs
          exact again hn' I3 n3
        | brk =>
          obtain ⟨σ3, H3, I3, n3⟩ := hs
          exact seg_leaf (.ok .next) (k.ok n' ys' s₀' s3 .next hn' ⟨σ3, H3, GI.less I3, n3⟩)
        | ret v =>
          obtain ⟨v3, σ3, H3, I3, r3, n3⟩ := hs
          exact seg_leaf (.ok (.ret v)) (k.ok n' ys' s₀' s3 (.ret v) hn' ⟨v3, σ3, H3, GI.less I3, r3, n3⟩)
  exact loop m0 n ys s₀ s2 σ H2 0 acc cc hn w0 r I2 st2 fun b hb => (f2 b hb).1
end
end Kv
/-! Generator defs as computations of the list that they hand out. -/
namespace Kv
open PySem hiding Env
open L2 PySem.Spec PyProof.Rows GenW
abbrev MG := List D → M (Fl × List D)
def EndG (t : CT) (kp : List Nat) (σ0 : L2.St) (fr : List (V × OV)) (D : GEnds) (r : Fl × List Kv.D) (ρ' : Env) : Prop := match r.1 with
  | .nx => ∀ ys σ' H', WS σ' ρ' → Kp kp σ0 σ' → ys.length = r.2.length → Live t H' (zipF ys r.2 ++ (prs σ' ρ' ++ fr)) → D.nx ys σ' H'
  | .rt o => ∀ ys v σ' H', WS σ' ρ' → Kp kp σ0 σ' → ys.length = r.2.length → Live t H' ((v, o) :: (zipF ys r.2 ++ (prs σ' ρ' ++ fr))) → D.rt ys v H'
  | _ => False
def TGSt (κ : Kx) (kp : List Nat) (m : MG) : TGn := fun D ys σ H => ∃ ρ fr ds, WS σ ρ ∧ ys.length = ds.length ∧ Live κ.T H (zipF ys ds ++ (prs σ ρ ++ fr)) ∧ wp (m ds) ρ (EndG κ.T kp σ fr D) (fun _ _ => False)
structure GSS (X : Cx) (κ : Kx) (kp : List Nat) (st : Stmt) (m : MG) : Prop where
  gs : GS X st (TGSt κ kp m)
structure GSSs (X : Cx) (κ : Kx) (kp : List Nat) (st : List Stmt) (m : MG) : Prop where
  gs : GSs X st (TGSt κ kp m)
theorem _root_.L2.GS.imp {X : Cx} {st : Stmt} {t t' : TGn} (p : GS X st t) (h : ∀ D ys σ H, t' D ys σ H → t D ys σ H) : GS X st t' := ⟨fun A S ip R n ys s₀ c fs K J gd lv s σ H D a b e f g => p.run A S ip R n ys s₀ c fs K J gd lv s σ H D a b e f (h _ _ _ _ g)⟩
theorem _root_.L2.GSs.imp {X : Cx} {st : List Stmt} {t t' : TGn} (p : GSs X st t) (h : ∀ D ys σ H, t' D ys σ H → t D ys σ H) : GSs X st t' := ⟨fun A S ip R n ys s₀ c fs K J gd lv s σ H D a b e f g => p.run A S ip R n ys s₀ c fs K J gd lv s σ H D a b e f (h _ _ _ _ g)⟩
theorem EndG.mono {t : CT} {kp : List Nat} {σ σ1 : L2.St} {fr : List (V × OV)} {D : GEnds} {r : Fl × List Kv.D} {ρ' : Env} (k : Kp kp σ σ1) (h : EndG t kp σ fr D r ρ') : EndG t kp σ1 fr D r ρ' := by
  obtain ⟨f, ds⟩ := r
  cases f with
  | nx => exact fun ys σ' H' a b => h ys σ' H' a (k.trans b)
  | rt o => exact fun ys v σ' H' a b => h ys v σ' H' a (k.trans b)
  | bk => exact h
  | ct => exact h
section
variable {X : Cx} {κ : Kx} {kp : List Nat} {pu p q r fl fl' : Bool} {e a b c tg it : Expr} {pos ps ps2 apos yp : Pos} {es : List Expr} {st : Stmt} {sts orelse rest : List Stmt}
def plainG (m : M Fl) : MG := fun ds => bnd m fun f => ret (f, ds)
theorem g_plain {m : M Fl} (h : SS X κ kp st m) : GSS X κ kp st (plainG m) := ⟨(gs_ps h.ps).imp fun D ys σ H ⟨ρ, fr, ds, w, hl, l, hp⟩ => by
  unfold plainG at hp
  rw [wp_bnd] at hp
  refine ⟨ρ, zipF ys ds ++ fr, w, l.perm (swapA _ _ _), wp_mono2 hp (fun f ρ' k => ?_) fun _ _ z => z.elim⟩
  cases f with
  | nx => exact fun σ' H' a b l' => k ys σ' H' a b hl (l'.perm (swapA _ _ _))
  | rt o => exact fun v σ' H' a b l' => k ys v σ' H' a b hl (l'.perm (.cons _ (swapA _ _ _)))
  | bk => exact k.elim
  | ct => exact k.elim⟩
def yieldG (m : M OV) : MG := fun ds => if ds.length < 100000 then bnd m fun o => bnd (ofO (froz o)) fun d => ret (.nx, ds ++ [d]) else bad
theorem g_yield {m : M OV} (h : SE X κ p e m) (hco : X.env.scope.isCoroutine = false := by rfl) (hi : interactive X.env = false := by rfl) : GSS X κ kp (.Expr (.Yield (some e) yp) pos) (yieldG m) := ⟨(gs_yield h.pe hco hi).imp fun D ys σ H ⟨ρ, fr, ds, w, hl, l, hp⟩ => by
  unfold yieldG at hp
  split at hp
  · rename_i hz
    rw [wp_bnd] at hp
    refine ⟨Nat.lt_of_lt_of_le (by rw [hl]; exact hz) (by decide), ρ, zipF ys ds ++ fr, w, l.perm (swapA _ _ _), wp_mono2 hp (fun o ρ' k v H' w' s' l' => ?_) fun _ _ z => z.elim⟩
    rw [wp_bnd] at k
    obtain ⟨d, ed, k⟩ := wp_ofO k
    cases froz_some ed
    refine k (ys ++ [v]) σ H' w' .rfl (by simp [hl]) ?_
    show Live κ.T H' (zipF (ys ++ [v]) (ds ++ [o.dat]) ++ (prs σ ρ' ++ fr))
    rw [zipF_app hl, List.append_assoc]
    have l2 : Live κ.T H' ((v, .fz o.dat) :: (zipF ys ds ++ (prs σ ρ' ++ fr))) := l'.frz.perm (.cons _ (swapA _ _ _))
    exact l2.perm List.perm_middle.symm
  · exact hp.elim⟩
def ifG (c : M Bool) (m1 m2 : MG) : MG := fun ds => bnd c fun b => if b = true then m1 ds else m2 ds
theorem g_if {mc : M Bool} {m1 m2 : MG} (hc : SB X κ p c mc) (h1 : GSSs X κ kp sts m1) (h2 : GSSs X κ kp orelse m2) : GSS X κ kp (.If c sts orelse pos) (ifG mc m1 m2) := ⟨(gs_if hc.pt h1.gs h2.gs).imp fun D ys σ H ⟨ρ, fr, ds, w, hl, l, hp⟩ => by
  unfold ifG at hp
  rw [wp_bnd] at hp
  refine ⟨ρ, zipF ys ds ++ fr, w, l.perm (swapA _ _ _), wp_mono2 hp (fun b ρ' k H' w' s' l' => ?_) fun _ _ z => z.elim⟩
  cases b with
  | true => exact ⟨ρ', fr, ds, w', hl, l'.perm (swapA _ _ _), k⟩
  | false => exact ⟨ρ', fr, ds, w', hl, l'.perm (swapA _ _ _), k⟩⟩
def seqG (m1 m2 : MG) : MG := fun ds => bnd (m1 ds) fun r => match r.1 with
  | .nx => m2 r.2
  | f => ret (f, r.2)
theorem g_nil : GSSs X κ kp [] (fun ds => ret (.nx, ds)) := ⟨gss_nil.imp fun D ys σ H ⟨ρ, fr, ds, w, hl, l, hp⟩ => hp ys σ H w .rfl hl l⟩
theorem g_cons {m1 m2 : MG} (h1 : GSS X κ kp st m1) (h2 : GSSs X κ kp rest m2) : GSSs X κ kp (st :: rest) (seqG m1 m2) := ⟨(gss_cons h1.gs h2.gs).imp fun D ys σ H ⟨ρ, fr, ds, w, hl, l, hp⟩ => by
  unfold seqG at hp
  rw [wp_bnd] at hp
  refine ⟨ρ, fr, ds, w, hl, l, wp_mono2 hp (fun r ρ' k => ?_) fun _ _ z => z.elim⟩
  obtain ⟨f, ds'⟩ := r
  cases f with
  | nx => exact fun ys' σ' H' a b hl' l' => ⟨ρ', fr, ds', a, hl', l', wp_mono2 k (fun r ρ'' k => EndG.mono b k) fun _ _ z => z⟩
  | rt o => exact k
  | bk => exact k
  | ct => exact k⟩
theorem g_one {m : MG} (h1 : GSS X κ kp st m) : GSSs X κ kp [st] m := ⟨(gss_cons h1.gs gss_nil).imp fun D ys σ H h => h⟩
def gloop (g : D → Env → Option Env) (b : MG) : List D → MG
  | [], ds => ret (.nx, ds)
  | x :: xs, ds => fun ρ => match g x ρ with
    | none => none
    | some ρ1 => (bnd (b ds) fun r => match r.1 with
      | .nx => gloop g b xs r.2
      | _ => bad) ρ1
def forG (it : M (List D)) (g : D → Env → Option Env) (b : MG) : MG := fun ds => bnd it fun xs => gloop g b xs ds
theorem swapC {α : Type} (A B C Dd : List α) : (A ++ (B ++ (C ++ Dd))).Perm (B ++ (C ++ (A ++ Dd))) :=
  (swapA A B (C ++ Dd)).trans (List.Perm.append_left _ (swapA A C Dd))
theorem g_for {is : List Nat} {mi : M (List D)} {g : D → Env → Option Env} {mb : MG} (hp : PassesOwn (model X.prog X.w) X.A X.env X.xe) (hc : X.calm = true) (hk : ∀ i ∈ is, i ∉ kp) (hi : SI X κ tg it mi) (hg : SG X κ tg is g) (hb : GSSs X κ kp sts mb)
    (hs : ∀ x, foldedSetIterable it X.env x = pure x := by intro _; rfl) : GSS X κ kp (.For tg it sts [] pos) (forG mi g mb) := ⟨(gs_for hp hc hi.pi hg.pg hb.gs hs).imp fun D ys σ H ⟨ρ, fr, ds, w, hl, l, hp⟩ => by
  unfold forG at hp
  rw [wp_bnd] at hp
  refine ⟨ρ, zipF ys ds ++ fr, w, l.perm (swapA _ _ _), wp_mono2 hp (fun xs ρ0 k J L0 H0 w0 ok l0 => ?_) fun _ _ z => z.elim⟩
  let W : Nat → Nat → List V → L2.St → Hp → Prop := fun i m ys σ1 H1 => i + m = xs.length ∧ ∃ ρ1 ds, WS σ1 ρ1 ∧ Kp kp σ σ1 ∧ ys.length = ds.length ∧ Live κ.T H1 (L0 ++ (zipF ys ds ++ (prs σ1 ρ1 ++ fr))) ∧ wp (gloop g mb (xs.drop i) ds) ρ1 (EndG κ.T kp σ fr D) (fun _ _ => False)
  refine ⟨W, ⟨xs.length, by omega, ρ0, ds, w0, .rfl, hl, l0.perm (List.Perm.append_left _ (swapA _ _ _)), k⟩, fun i m ys σ1 H1 hW => ?_⟩
  obtain ⟨em, ρ1, ds, w1, k1, hl, l1, hp1⟩ := hW
  by_cases hlt : xs.length ≤ i
  · left
    rw [List.drop_eq_nil_of_le hlt] at hp1
    exact ⟨ok.stop i H1 _ hlt l1, hp1 ys σ1 H1 w1 k1 hl l1.drop⟩
  · right
    have hlt : i < xs.length := Nat.lt_of_not_le hlt
    have hd : xs[i]? = some xs[i] := List.getElem?_eq_getElem hlt
    rw [List.drop_eq_getElem_cons hlt] at hp1
    obtain ⟨go, yld⟩ := ok.go i _ H1 _ hd l1
    refine ⟨go, fun ys' σ' H' => ∃ m', m' < m ∧ W (i + 1) m' ys' σ' H', fun ys' σ' H' h => h, fun x H2 y => ?_⟩
    have l3 := yld x H2 y
    unfold wp gloop at hp1
    cases eg : g xs[i] ρ1 with
    | none => rw [eg] at hp1; exact hp1.elim
    | some ρ2 =>
      rw [eg] at hp1
      have hp2 : wp (bnd (mb ds) fun r => match r.1 with
        | .nx => gloop g mb (xs.drop (i + 1)) r.2
        | _ => bad) ρ2 (EndG κ.T kp σ fr D) (fun _ _ => False) := hp1
      clear hp1
      refine ⟨ρ1, L0 ++ (zipF ys ds ++ fr), xs[i], ρ2, w1, l3.perm (.cons _ (swapC (prs σ1 ρ1) L0 (zipF ys ds) fr).symm), eg, fun σ2 H3 w2 fr2 l4 => ?_⟩
      rw [wp_bnd] at hp2
      have k2 : Kp kp σ1 σ2 := fun j hj => fr2 j fun z => hk j z hj
      refine ⟨ρ2, L0 ++ fr, ds, w2, hl, l4.perm ?_, wp_mono2 hp2 (fun r ρ3 k3 => ?_) fun _ _ z => z⟩
      · refine (swapC (prs σ2 ρ2) L0 (zipF ys ds) fr).trans ?_
        refine (swapA _ _ _).trans (List.Perm.append_left _ ?_)
        exact swapA _ _ _
      · obtain ⟨f, ds3⟩ := r
        cases f with
        | nx =>
          intro ys3 σ3 H4 w3 k4 hl3 l5
          refine ⟨m - 1, by omega, by omega, ρ3, ds3, w3, (k1.trans k2).trans k4, hl3, l5.perm ?_, k3⟩
          have h1 : (zipF ys3 ds3 ++ (prs σ3 ρ3 ++ (L0 ++ fr))).Perm (zipF ys3 ds3 ++ (L0 ++ (prs σ3 ρ3 ++ fr))) := List.Perm.append_left _ (swapA _ _ _)
          exact h1.trans (swapA _ _ _)
        | rt o => exact k3.elim
        | bk => exact k3.elim
        | ct => exact k3.elim⟩
end
/-! ### a generator def, and list of its call -/
def resG (F : List OV → Option (List D × List OV)) : List OV → Res := fun os => (F os).map fun p => (.ok (.ol p.1), p.2)
def spGF (t : CT) (F : List OV → Option (List D × List OV)) : SpG := fun vs H Q _ => ∃ os fr, vs.length = os.length ∧ Live t H (vs.zip os ++ fr) ∧
  match F os with
  | none => False
  | some (ds, outs) => ∀ ys H', ys.length = ds.length → Live t H' (zipF ys ds ++ (vs.zip outs ++ fr)) → Q ys H'
structure GnF (P : Program) (w : World) (K : PySem.W.Frag) (mg : Str → Option Value) (base : Heap) (k : Nat) (t : CT) (f : Addr) (F : List OV → Option (List D × List OV)) : Prop where
  ex : ∃ fd ps, GFn P w K mg base k f fd ps (spGF t F) ∧ PySem.W.keepIn K (.ref f) = true ∧ Binds K fd ps []
def fnG (n np : Nat) (kp : List Nat) (m : MG) : List OV → Option (List D × List OV) := fun os => if os.length = np then match m [] (os ++ List.replicate (n - np) .no) with
  | some (.ok (.nx, ds), ρ') => if np ≤ ρ'.length then some (ds, outsOf kp np ρ') else none
  | _ => none
  else none
theorem passG {P : Program} {w : World} {X : Cx} : Passes (CX P w) X E0 := fun _ _ _ _ _ _ _ h => by
  obtain ⟨_, _, _, _, _, _, _, _, _, _, _, _, h⟩ := h
  exact h.elim
section
variable {P : Program} {w : World} {K : PySem.W.Frag} {mg : Str → Option Value} {base : Heap}
theorem gfn_ok {x qual : Str} {st : Stmt} {f : Addr} {fd : FuncData} {N ps : List Str} {k : Nat} {t : CT} {kp : List Nat} {m : MG} (F : Fun K x qual st f fd) (S : GScope N ps (defScope st)) (hb : Binds K fd ps []) (hle : ps.length ≤ N.length)
    (body : ∀ (cdv : Value) (A : Around) (outer : List PySem.Env) (s : Shared) (H : Hp) (E : XK) (pn : List (Addr × Obj)), Room k (A.deeper (envOfC qual (defScope st) s.heap.objs.size f cdv)) →
      GSSs (gcxOf P w K mg base N qual (defScope st) f cdv A outer s H E pn) (kxOf t) kp (defBody st) m) : GnF P w K mg base (k + 1) t f (fnG N.length ps.length kp m) := by
  obtain ⟨oc, od, kV, doc, pm, an, cdv, ct, osl, e, lk, hcd⟩ := F.ex
  refine ⟨fd, ps, ?_, F.kp, hb⟩
  subst e
  refine gfn_of lk hcd S (fun vs H Q E h => ?_) (fun A outer s H vs Q E pn hr h => ?_)
  · obtain ⟨os, fr, h1, h2, h3⟩ := h
    unfold fnG at h3
    by_cases he : os.length = ps.length
    · rw [h1, he]
    · rw [if_neg he] at h3
      exact h3.elim
  · obtain ⟨os, fr, h1, h2, h3⟩ := h
    refine ⟨_, (body cdv A outer s H E pn hr).gs, ?_⟩
    unfold fnG at h3
    by_cases he : os.length = ps.length
    · rw [if_pos he] at h3
      have hst : L2.start N vs = vs.map some ++ List.replicate (N.length - ps.length) none := by unfold L2.start; rw [h1, he]
      rw [hst]
      have w0 := start_ws (N := N) h1 (N.length - ps.length)
      refine ⟨os ++ List.replicate (N.length - ps.length) .no, fr, [], w0, rfl, ?_, ?_⟩
      · show Live t H (prs _ _ ++ fr)
        rw [start_prs (N := N) h1]
        exact (live_nos h2 _).perm (by rw [← List.append_assoc]; exact List.perm_append_comm.append_right _)
      · unfold wp
        cases em : m [] (os ++ List.replicate (N.length - ps.length) .no) with
        | none => rw [em] at h3; exact h3.elim
        | some p =>
          obtain ⟨r, ρ'⟩ := p
          rw [em] at h3
          cases r with
          | error x => exact h3.elim
          | ok fd =>
            obtain ⟨fl, ds⟩ := fd
            cases fl with
            | nx =>
              simp only at h3
              split at h3
              · exact h3.elim
              · rename_i e1
                split at e1
                · rename_i hl
                  cases e1
                  intro ys σ' H' w' k' hlen l'
                  refine h3 ys H' hlen ?_
                  have l2 : Live t H' (prs σ' ρ' ++ (zipF ys ds ++ fr)) := l'.perm (swapA _ _ _)
                  have l3 := outs_live w' ps.length (by rw [h1, he]) (fun j hj hlt => by
                    rw [k' j hj, List.getElem?_append_left (by simp; omega), List.getElem?_map, List.getElem?_eq_getElem (by omega)]
                    rfl) (by rw [w'.len]; exact hl) l2
                  exact l3.perm (swapA _ _ _)
                · cases e1
            | _ => exact h3.elim
    · rw [if_neg he] at h3
      exact h3.elim
end
section
variable {X : Cx} {κ : Kx} {kp : List Nat} {p : Bool} {e : Expr} {pos ps pos' p1 : Pos} {es : List Expr} {f : Addr} {k : Nat} {F : List OV → Option (List D × List OV)}
theorem callG_core {ods : List Opd} {vs : List V} {σ : L2.St} {ρ : Env} {H : Hp} {fr : List (V × OV)} {Q : VK} {E : XK} (w : WS σ ρ) (l : Live κ.T H (odp vs ods ++ (prs σ ρ ++ fr))) (r : OdRs κ.T σ H ods vs)
    (hp : wp (callO (resG F) ods) ρ (fun o ρ' => ∀ v H', WS σ ρ' → Live κ.T H' ((v, o) :: (prs σ ρ' ++ fr)) → Q v H') fun x ρ' => κ.xw x σ ρ' fr) : spGF κ.T F vs H (fun out H2 => ∀ p, H2 p = none → Q (.ref p) (upd H2 p (.lst out))) E := by
  unfold wp callO at hp
  cases e : takes ρ ods with
  | none => rw [e] at hp; exact hp.elim
  | some p =>
    obtain ⟨os, ρ1⟩ := p
    rw [e] at hp
    obtain ⟨h1, w1, l1⟩ := takes_ok w l r e
    have hb : ∀ i, Opd.pl i ∈ ods → i < ρ1.length := fun i hi => by rw [takes_len e, ← w.len]; exact odrs_lt r i hi
    refine ⟨os, prs σ ρ1 ++ fr, h1, l1, ?_⟩
    simp only [resG] at hp
    cases e2 : F os with
    | none => rw [e2] at hp; exact hp.elim
    | some q =>
      obtain ⟨ds, outs⟩ := q
      rw [e2] at hp
      simp only [Option.map_some] at hp
      intro ys H' hl l2 a ha
      have l2' := Live.lst hl l2 ha
      have l3 : Live κ.T (upd H' a (.lst ys)) (vs.zip outs ++ (prs σ ρ1 ++ (V.ref a, .ol ds) :: fr)) := l2'.perm (by rw [← List.append_assoc, ← List.append_assoc]; exact List.perm_middle.symm)
      have r' : OdRs κ.T σ (upd H' a (.lst ys)) ods vs := takes_odrs e r
      obtain ⟨w2, l4⟩ := puts_ok (os := os) w1 r' l3 hb
      exact hp _ _ w2 (l4.perm List.perm_middle)
theorem se_listG {x : Str} {ms : M (List Opd)} (h : GnF X.prog X.w X.K X.mg X.base k κ.T f F) (hr : Room (k + 3) X.A) (hg : Gl X x) (hm : X.mg x = some (.ref f)) (hgl : Gl X "list") (hml : X.mg "list" = none) (ha : SA X κ p (e :: es) ms) (hdb : (x == ("__debug__" : Str)) = false := by decide) (he : starEach (e :: es) X.env = (false, eval e X.env) :: starEach es X.env := by rfl) (hpl : (backTo pos' (starEach es X.env)).any (·.1) = false := by rfl)
    (he2 : starEach [.Call (.Name x ps) (e :: es) [] pos'] X.env = (false, eval (.Call (.Name x ps) (e :: es) [] pos') X.env) :: starEach [] X.env := by rfl) :
    SE X κ false (.Call (.Name "list" p1) [.Call (.Name x ps) (e :: es) [] pos'] [] pos) (callM (resG F) ms) := by
  obtain ⟨fd, pn, hF, hk, hb⟩ := h.ex
  have hpg := pgen_call (E := E0) (dvs := []) (ds := []) (ps := pn) (pos' := pos') (p := ps) hF (hr.mono (by omega)) hg hm hk hb .nil ha.pa hdb he hpl
  refine ⟨(pe_listG (pos := pos) (p := p1) hpg passG (fun _ _ _ h => h.elim) hr hgl hml PyProof.Rows.boot_list (by decide) (by decide) he2).imp fun σ H Q ⟨ρ, fr, w, l, hp⟩ => ?_⟩
  unfold callM at hp
  rw [wp_bnd] at hp
  refine ⟨ρ, fr, w, l, wp_mono hp fun ods ρ1 hp vs H1 w1 s1 l1 r1 => ?_⟩
  show spGF κ.T F (vs ++ []) H1 _ E0
  rw [List.append_nil]
  exact callG_core w1 l1 r1 (wp_mono hp fun o ρ' k v H' w' l' => k v H' w' (fun h => nomatch h) l')
end
end Kv
/-! a, b, c = x, y, z -/
namespace Kv
open PySem hiding Env
open L2 PySem.Spec PyProof.Rows
section
variable {X : Cx} {κ : Kx} {kp : List Nat} {p : Bool} {a b c : Expr} {pos : Pos}
def setO3 (i j l : Nat) (a b c : OV) : M Fl := fun ρ => if a.isNo = true ∨ b.isNo = true ∨ c.isNo = true ∨ ρ.length ≤ i ∨ ρ.length ≤ j ∨ ρ.length ≤ l then none else some (.ok .nx, ((ρ.set i a).set j b).set l c)
theorem wp_setO3 {i j l : Nat} {a b c : OV} {ρ : Env} {Q : Fl → Env → Prop} {E : Ex → Env → Prop} (h : wp (setO3 i j l a b c) ρ Q E) : (i < ρ.length ∧ j < ρ.length ∧ l < ρ.length) ∧ Q .nx (((ρ.set i a).set j b).set l c) := by
  unfold wp setO3 at h
  by_cases hc : a.isNo = true ∨ b.isNo = true ∨ c.isNo = true ∨ ρ.length ≤ i ∨ ρ.length ≤ j ∨ ρ.length ≤ l
  · rw [if_pos hc] at h; exact h.elim
  · rw [if_neg hc] at h; exact ⟨by omega, h⟩
def par3M (i j l : Nat) (ms : M (List Opd)) : M Fl := bnd ms fun ods => match ods with
  | [.tv a, .tv b, .tv c] => setO3 i j l a b c
  | _ => bad
theorem ss_par3 {i j l : Nat} {x y z : Str} {ms : M (List Opd)} {px py pz pt : Pos} {kt k2 : Nat} {pt2 : Pos} (hc : X.calm = true) (hN : X.N.Nodup) (hi : X.N[i]? = some x) (hj : X.N[j]? = some y) (hl : X.N[l]? = some z) (hij : i ≠ j) (hil : i ≠ l) (hjl : j ≠ l) (hki : i ∉ kp) (hkj : j ∉ kp) (hkl : l ∉ kp)
    (hx : X.env.scope.names.lookup x = some .local) (hy : X.env.scope.names.lookup y = some .local) (hz : X.env.scope.names.lookup z = some .local) (ha : SA X κ p [a, b, c] ms)
    (hw : swappedStores [.Tuple [.Name x px, .Name y py, .Name z pz] kt pt] (.Tuple [a, b, c] k2 pt2) X.env = pure (some [x, y, z]) := by rfl)
    (hs : swapsWithSole [.Tuple [.Name x px, .Name y py, .Name z pz] kt pt] (.Tuple [a, b, c] k2 pt2) pos.line X.env = pure false := by rfl) :
    SS X κ kp (.Assign [.Tuple [.Name x px, .Name y py, .Name z pz] kt pt] (.Tuple [a, b, c] k2 pt2) pos) (par3M i j l ms) := ⟨(ps_par3 hc hN hi hj hl hij hil hjl hx hy hz ha.pa hw hs).imp fun D σ H ⟨ρ, fr, w, l0, hp⟩ => by
  unfold par3M at hp
  rw [wp_bnd] at hp
  refine ⟨ρ, fr, w, l0, wp_mono2 hp (fun ods ρ' k vs H' w' s' l' od' => ?_) fun x ρ' k => errK_of k⟩
  split at k
  · rename_i a b c
    obtain ⟨⟨h1, h2, h3⟩, k⟩ := wp_setO3 k
    obtain ⟨v, u, y, rfl⟩ : ∃ v u y, vs = [v, u, y] := by
      cases vs with
      | nil => exact od'.elim
      | cons v vs => cases vs with
        | nil => exact od'.2.elim
        | cons u vs => cases vs with
          | nil => exact od'.2.2.elim
          | cons y vs => cases vs with
            | nil => exact ⟨v, u, y, rfl⟩
            | cons _ _ => exact od'.2.2.2.elim
    refine ⟨v, u, y, rfl, k _ _ w'.set2.set2.set2 (Kp.trans (Kp.trans (Kp.set hki) (Kp.set hkj)) (Kp.set hkl)) ?_⟩
    have l1 : Live κ.T H' ((v, a) :: (u, b) :: (y, c) :: (prs σ ρ' ++ fr)) := l'
    have p1 : ((v, a) :: (u, b) :: (y, c) :: (prs σ ρ' ++ fr)).Perm ((v, a) :: (prs σ ρ' ++ ((u, b) :: (y, c) :: fr))) := .cons _ ((List.perm_middle.trans (.cons _ List.perm_middle)).symm)
    have l2 := live_set2 (fr := (u, b) :: (y, c) :: fr) w' (i := i) h1 (l1.perm p1)
    have p2 : ∀ L : List (V × OV), (L ++ ((u, b) :: (y, c) :: fr)).Perm ((u, b) :: (L ++ ((y, c) :: fr))) := fun L => List.perm_middle
    have l3 := live_set2 (fr := (y, c) :: fr) w'.set2 (i := j) (by rw [List.length_set]; exact h2) (l2.perm (p2 _))
    exact live_set2 w'.set2.set2 (i := l) (by rw [List.length_set, List.length_set]; exact h3) (l3.perm List.perm_middle)
  · exact k.elim⟩
end
end Kv
/-! A dict by names whose values are owned: the heap's side. -/
namespace Kv
open PySem hiding Env
open L2 PySem.Spec PyProof.Rows
theorem kvz_cons (n : Str) (ns : List Str) (v : V) (vs : List V) : kvz (n :: ns) (v :: vs) = (.inr n, v) :: kvz ns vs := rfl
theorem kvz_len (ns : List Str) (vs : List V) : (kvz ns vs).length ≤ ns.length := by
  unfold kvz
  rw [List.length_map, List.length_zip]
  omega
theorem kvz_get : ∀ {ns : List Str} {vs : List V} {f : Nat} {n : Str} {v : V}, ns[f]? = some n → vs[f]? = some v → ns.Nodup → valV (kvz ns vs) (.inr n) = some v
  | [], _, _, _, _, h, _, _ => by simp at h
  | _ :: _, [], _, _, _, _, h, _ => by simp at h
  | m :: ns, w :: vs, 0, n, v, h1, h2, nd => by
    simp at h1 h2
    subst h1 h2
    rw [kvz_cons]
    exact valV_pos rfl
  | m :: ns, w :: vs, f + 1, n, v, h1, h2, nd => by
    rw [List.nodup_cons] at nd
    have h1 : ns[f]? = some n := by simpa using h1
    have h2 : vs[f]? = some v := by simpa using h2
    rw [kvz_cons, valV_neg (show ¬ (Sum.inr m : Key) = .inr n from fun e => nd.1 (by cases e; exact List.mem_of_getElem? h1))]
    exact kvz_get h1 h2 nd.2
theorem kvz_map : ∀ {ns : List Str} {vs : List V} {n : Str} {y : V}, n ∉ ns → (kvz ns vs).map (fun kv => if kv.1 = (.inr n : Key) then (kv.1, y) else kv) = kvz ns vs
  | [], _, _, _, _ => rfl
  | _ :: _, [], _, _, _ => rfl
  | m :: ns, w :: vs, n, y, h => by
    rw [List.mem_cons, not_or] at h
    rw [kvz_cons, List.map_cons, kvz_map h.2, if_neg (fun e => h.1 (by cases e; rfl))]
theorem kvz_mapset : ∀ {ns : List Str} {vs : List V} {f : Nat} {n : Str} {y : V}, ns[f]? = some n → ns.Nodup → (kvz ns vs).map (fun kv => if kv.1 = (.inr n : Key) then (kv.1, y) else kv) = kvz ns (vs.set f y)
  | [], _, _, _, _, h, _ => by simp at h
  | _ :: _, [], _, _, _, _, _ => by simp [kvz]
  | m :: ns, w :: vs, 0, n, y, h, nd => by
    simp at h
    subst h
    rw [List.nodup_cons] at nd
    rw [List.set_cons_zero, kvz_cons, kvz_cons, List.map_cons, kvz_map nd.1, if_pos rfl]
  | m :: ns, w :: vs, f + 1, n, y, h, nd => by
    rw [List.nodup_cons] at nd
    have h1 : ns[f]? = some n := by simpa using h
    rw [List.set_cons_succ, kvz_cons, kvz_cons, List.map_cons, kvz_mapset h1 nd.2, if_neg (fun e => nd.1 (by cases e; exact List.mem_of_getElem? h1))]
theorem kvz_put {ns : List Str} {vs : List V} {f : Nat} {n : Str} {y : V} (h : ns[f]? = some n) (hl : vs.length = ns.length) (nd : ns.Nodup) : putK (kvz ns vs) (.inr n) y = kvz ns (vs.set f y) := by
  have hf : f < vs.length := by rw [hl]; exact (List.getElem?_eq_some_iff.mp h).1
  unfold putK
  rw [if_pos ?_, kvz_mapset h nd]
  rw [valV_any, kvz_get h (List.getElem?_eq_getElem hf) nd]
  rfl
theorem kvz_inj : ∀ {ns : List Str} {vs ws : List V}, vs.length = ns.length → ws.length = ns.length → kvz ns vs = kvz ns ws → vs = ws
  | [], [], [], _, _, _ => rfl
  | n :: ns, v :: vs, w :: ws, h1, h2, e => by
    rw [kvz_cons, kvz_cons] at e
    injection e with e1 e2
    cases e1
    rw [kvz_inj (by simpa using h1) (by simpa using h2) e2]
section
variable {t : CT} {G G' H H' : Hp}
theorem Live.outK {v : V} {ns : List Str} {f : Nat} {fs : List OV} {o : OV} {L : List (V × OV)} (l : Live t H ((v, .oh ns fs) :: L)) (ho : fs[f]? = some o) :
    ∃ a vs y, v = .ref a ∧ vs.length = ns.length ∧ ns.Nodup ∧ H a = some (.dK (kvz ns vs)) ∧ vs[f]? = some y ∧ Live t H ((y, o) :: (v, .oh ns (fs.set f .no)) :: L) := by
  obtain ⟨G, O, s, ow, a, u, n⟩ := l
  cases ow with
  | @cons _ _ _ _ Oa Ob h tl =>
    cases h with
    | @oh ad _ fl _ O2 g0 g1 g2 =>
      have hf : f < fl.length := by rw [g2.length]; exact (List.getElem?_eq_some_iff.mp ho).1
      obtain ⟨y, hy⟩ : ∃ y, fl[f]? = some y := ⟨fl[f], List.getElem?_eq_getElem hf⟩
      obtain ⟨O1, O3, p1, q1, k⟩ := ownL_focus g2 hy ho
      obtain ⟨O'', p2, r2⟩ := k G y .no [] (Same.refl G) (.no y)
      rw [List.nil_append] at p2
      have key : fl.set f y = fl := by
        apply List.ext_getElem?
        intro j
        by_cases e : f = j
        · subst e; rw [List.getElem?_set_self hf, hy]
        · rw [List.getElem?_set_ne e]
      rw [key] at r2
      have P : ((ad, HO.dK (kvz ns fl)) :: O2 ++ Ob).Perm (O1 ++ ((ad, HO.dK (kvz ns fl)) :: O3 ++ Ob)) := by
        have : ((ad, HO.dK (kvz ns fl)) :: O2).Perm (O1 ++ ((ad, HO.dK (kvz ns fl)) :: O3)) := (p1.cons _).trans List.perm_middle.symm
        rw [← List.append_assoc]
        exact this.append_right Ob
      refine ⟨ad, fl, y, rfl, g1, g0, a _ (List.mem_append_left _ List.mem_cons_self), hy, G, O1 ++ (((ad, HO.dK (kvz ns fl)) :: O'') ++ Ob), ?_⟩
      refine liveG_perm s (OwnL.cons q1 (.cons (.oh g0 g1 r2) tl)) ?_ a u n
      refine List.Perm.trans ?_ P.symm
      refine List.Perm.append_left _ ?_
      exact (p2.cons _).append_right Ob
theorem Live.setK {a : Addr} {ns : List Str} {f : Nat} {fs : List OV} {y : V} {o : OV} {L : List (V × OV)} (l : Live t H ((y, o) :: (.ref a, .oh ns fs) :: L)) (hf2 : f < fs.length) :
    ∃ vs, H a = some (.dK (kvz ns vs)) ∧ vs.length = ns.length ∧ ns.Nodup ∧ f < vs.length ∧ Live t (upd H a (.dK (kvz ns (vs.set f y)))) ((.ref a, .oh ns (fs.set f o)) :: L) := by
  obtain ⟨G, O, s, ow, at_, u, n⟩ := l
  generalize e1 : ((y, o) :: (V.ref a, OV.oh ns fs) :: L).map (·.1) = A at ow
  generalize e2 : ((y, o) :: (V.ref a, OV.oh ns fs) :: L).map (·.2) = B at ow
  cases ow with
  | nil => simp at e1
  | @cons v1 vs1 o1 os1 Oy Or hy tl =>
    simp only [List.map_cons, List.cons.injEq] at e1 e2
    obtain ⟨rfl, e1⟩ := e1
    obtain ⟨rfl, e2⟩ := e2
    generalize e3 : (V.ref a :: L.map (·.1)) = A2 at e1
    generalize e4 : (OV.oh ns fs :: L.map (·.2)) = B2 at e2
    subst e1 e2
    cases tl with
    | nil => cases e3
    | @cons v2 vs2 o2 os2 Oi Ob hi tl =>
      simp only [List.cons.injEq] at e3 e4
      obtain ⟨rfl, rfl⟩ := e3
      obtain ⟨rfl, rfl⟩ := e4
      cases hi with
      | @oh _ _ fl _ O2 g0 g1 g2 =>
        have hf : f < fl.length := by rw [g2.length]; exact hf2
        obtain ⟨O1, O3, p1, q1, k⟩ := ownL_focus g2 (List.getElem?_eq_getElem hf) (List.getElem?_eq_getElem hf2)
        obtain ⟨O'', p2, r2⟩ := k G y o Oy (Same.refl G) hy
        refine ⟨fl, at_ _ (List.mem_append_right _ (List.mem_append_left _ List.mem_cons_self)), g1, g0, hf, G, ?_⟩
        have P : (Oy ++ (((a, HO.dK (kvz ns fl)) :: O2) ++ Ob)).Perm ((a, HO.dK (kvz ns fl)) :: (O1 ++ ((Oy ++ O3) ++ Ob))) := by
          refine List.perm_middle.trans (.cons _ ?_)
          refine ((p1.append_right Ob).append_left Oy).trans ?_
          rw [List.append_assoc O1, ← List.append_assoc Oy, List.append_assoc Oy O3 Ob, ← List.append_assoc O1]
          exact List.perm_append_comm.append_right _
        have nd := (P.map (·.1)).nodup_iff.mp n
        have out' : ∀ x ∈ (a, HO.dK (kvz ns fl)) :: (O1 ++ ((Oy ++ O3) ++ Ob)), G x.1 = none := fun x hx => u x (P.mem_iff.mpr hx)
        have at' : ∀ x ∈ (a, HO.dK (kvz ns fl)) :: (O1 ++ ((Oy ++ O3) ++ Ob)), H x.1 = some x.2 := fun x hx => at_ x (P.mem_iff.mpr hx)
        rw [List.map_cons, List.nodup_cons, List.map_append] at nd
        obtain ⟨na, nd⟩ := nd
        obtain ⟨_, nd2, _⟩ := nodup_app nd
        have neA : ∀ x ∈ (Oy ++ O3) ++ Ob, x.1 ≠ a := fun x hx e => na (by rw [← List.map_append]; exact (List.mem_map.mpr ⟨x, List.mem_append_right _ hx, e⟩))
        refine ⟨((a, HO.dK (kvz ns (fl.set f y))) :: O'') ++ Ob, liveG_perm (O := (a, HO.dK (kvz ns (fl.set f y))) :: ((Oy ++ O3) ++ Ob)) ?_ (OwnL.cons (.oh g0 (by rw [List.length_set]; exact g1) r2) tl) ?_ ?_ ?_ ?_⟩
        · intro b x e
          have : b ≠ a := fun z => by rw [z, out' _ List.mem_cons_self] at e; cases e
          rw [upd_ne this]
          exact s b x e
        · exact (p2.append_right Ob).cons _
        · intro x hx
          rcases List.mem_cons.mp hx with rfl | hx
          · exact upd_same
          · rw [upd_ne (neA x hx)]
            exact at' x (List.mem_cons_of_mem _ (List.mem_append_right _ hx))
        · intro x hx
          rcases List.mem_cons.mp hx with rfl | hx
          · exact out' (a, HO.dK (kvz ns fl)) List.mem_cons_self
          · exact out' x (List.mem_cons_of_mem _ (List.mem_append_right _ hx))
        · rw [List.map_cons, List.nodup_cons]
          refine ⟨fun z => ?_, nd2⟩
          obtain ⟨x, hx, e⟩ := List.mem_map.mp z
          exact neA x hx e
theorem Live.backK {a : Addr} {ns : List Str} {f : Nat} {fs : List OV} {vs : List V} {y : V} {o : OV} {L : List (V × OV)} (h1 : H a = some (.dK (kvz ns vs))) (hl : vs.length = ns.length) (h2 : vs[f]? = some y) (hf : f < fs.length)
    (l : Live t H ((y, o) :: (.ref a, .oh ns (fs.set f .no)) :: L)) : Live t H ((.ref a, .oh ns (fs.set f o)) :: L) := by
  obtain ⟨vs', e1, hl', _, hf', l'⟩ := l.setK (f := f) (by rw [List.length_set]; exact hf)
  rw [h1] at e1
  have e1 : kvz ns vs = kvz ns vs' := by injection e1 with e1; injection e1
  have e1 := kvz_inj hl hl' e1
  subst e1
  rw [List.set_set] at l'
  have hs : vs.set f y = vs := by
    apply List.ext_getElem?
    intro j
    by_cases e : f = j
    · subst e; rw [List.getElem?_set_self hf', h2]
    · rw [List.getElem?_set_ne e]
  rw [hs] at l'
  have : upd H a (.dK (kvz ns vs)) = H := by
    funext b
    by_cases e : b = a
    · subst e; rw [upd_same, h1]
    · rw [upd_ne e]
  rwa [this] at l'
/-- a value, frozen -/
theorem Live.frzK {v : V} {ns : List Str} {f : Nat} {fs : List OV} {o : OV} {L : List (V × OV)} (l : Live t H ((v, .oh ns fs) :: L)) (ho : fs[f]? = some o) :
    ∃ a vs y, v = .ref a ∧ vs.length = ns.length ∧ ns.Nodup ∧ H a = some (.dK (kvz ns vs)) ∧ vs[f]? = some y ∧ Live t H ((y, .fz o.dat) :: (v, .oh ns (fs.set f (.fz o.dat))) :: L) := by
  obtain ⟨a, vs, y, rfl, h1, h2, h3, h4, l1⟩ := l.outK ho
  refine ⟨a, vs, y, rfl, h1, h2, h3, h4, ?_⟩
  have l2 := l1.frz.dup
  have l3 : Live t H ((y, .fz o.dat) :: (.ref a, .oh ns (fs.set f .no)) :: (y, .fz o.dat) :: L) := l2.perm (.cons _ (.swap _ _ _))
  exact (Live.backK h3 h1 h4 (List.getElem?_eq_some_iff.mp ho).1 l3).perm (.swap _ _ _)
/-- a new dict by names -/
theorem Live.newK {ns : List Str} {vs : List V} {os : List OV} {p : Addr} {L : List (V × OV)} (hl : vs.length = ns.length) (hl2 : os.length = ns.length) (nd : ns.Nodup) (l : Live t H (vs.zip os ++ L)) (hp : H p = none) :
    Live t (upd H p (.dK (kvz ns vs))) ((.ref p, .oh ns os) :: L) := by
  obtain ⟨G, O, s, ow, at_, u, n⟩ := l
  rw [List.map_append, List.map_append, List.map_fst_zip (by omega), List.map_snd_zip (by omega)] at ow
  obtain ⟨O1, O2, rfl, r1, r2⟩ := ow.split (by omega)
  have hG : G p = none := s.free hp
  refine ⟨G, ((p, .dK (kvz ns vs)) :: O1) ++ O2, fun b x e => ?_, OwnL.cons (.oh nd hl r1) r2, fun q hq => ?_, fun q hq => ?_, ?_⟩
  · rw [upd_ne (ne_of_none e hG)]; exact s b x e
  · rcases List.mem_cons.mp hq with rfl | hq
    · exact upd_same
    · rw [upd_ne (ne_of_none (at_ q hq) hp)]; exact at_ q hq
  · rcases List.mem_cons.mp hq with rfl | hq
    · exact hG
    · exact u q hq
  · show (((p, HO.dK (kvz ns vs)) :: (O1 ++ O2)).map (·.1)).Nodup
    rw [List.map_cons, List.nodup_cons]
    refine ⟨fun z => ?_, n⟩
    obtain ⟨q, hq, e⟩ := List.mem_map.mp z
    exact ne_of_none (at_ q hq) hp e
end
end Kv
/-! A dict by names whose values are owned: the rules. -/
namespace Kv
open PySem hiding Env
open L2 PySem.Spec PyProof.Rows
section
variable {X : Cx} {κ : Kx} {kp : List Nat} {pu p q r fl fl' fl2 : Bool} {e a b c tg : Expr} {pos ps apos pk : Pos} {es rest : List Expr} {jk : Nat}
/-! ### read -/
def kyV (i f : Nat) (nm : Str) : M OV := fun ρ => match ρ[i]? with
  | some (.oh ns fs) => if ns[f]? = some nm then match fs[f]? with
    | some o => if o.isNo = true then none else some (.ok (.fz o.dat), ρ.set i (.oh ns (fs.set f (.fz o.dat))))
    | none => none
    else none
  | _ => none
theorem wp_kyV {i f : Nat} {nm : Str} {ρ : Env} {Q : OV → Env → Prop} {E : Ex → Env → Prop} (h : wp (kyV i f nm) ρ Q E) : ∃ ns fs o, ρ[i]? = some (.oh ns fs) ∧ ns[f]? = some nm ∧ fs[f]? = some o ∧ Q (.fz o.dat) (ρ.set i (.oh ns (fs.set f (.fz o.dat)))) := by
  unfold wp kyV at h
  cases e1 : ρ[i]? with
  | none => rw [e1] at h; exact h.elim
  | some oo =>
    rw [e1] at h
    cases oo with
    | oh ns fs =>
      simp only at h
      by_cases hn : ns[f]? = some nm
      · rw [if_pos hn] at h
        cases e2 : fs[f]? with
        | none => rw [e2] at h; exact h.elim
        | some o =>
          rw [e2] at h
          simp only at h
          by_cases ho : o.isNo = true
          · rw [if_pos ho] at h; exact h.elim
          · rw [if_neg ho] at h; exact ⟨ns, fs, o, rfl, hn, e2, h⟩
      · rw [if_neg hn] at h; exact h.elim
    | _ => exact h.elim
theorem se_ky {i f : Nat} {nm : Str} (hu : X.A.units + 1 < cLine) (h : PE X e (tVar i)) : SE X κ true (.Subscript e (.Constant (.str nm) jk pk) pos) (kyV i f nm) := ⟨(pe_dget hu h pe_str (by intro _ _; rfl)).imp fun σ H Q ⟨ρ, fr, w, l, hp⟩ => by
  obtain ⟨ns, fs, o, e1, hn, e2, hq⟩ := wp_kyV hp
  obtain ⟨v, hv⟩ := w.has i _ e1 rfl
  have l1 := live_slot l hv e1
  obtain ⟨ad, vs, y, rfl, h1, h2, h3, h4, l2⟩ := l1.frzK e2
  refine ⟨_, hv, ad, y, rfl, ?_, hq y H (w.set hv) (fun _ => Same.refl H) ?_⟩
  · have := DGet.k (k := .inr nm) h3
    rw [kvz_get hn h4 h2] at this
    exact this
  · exact (live_put (fr := (y, .fz o.dat) :: fr) hv e1 (l2.perm ((List.Perm.swap _ _ _).trans (.cons _ List.perm_middle.symm)))).perm List.perm_middle⟩
/-! ### stored -/
def stK (i f : Nat) (nm : Str) (o : OV) : M Fl := fun ρ => if o.isNo = true then none else match ρ[i]? with
  | some (.oh ns fs) => if ns[f]? = some nm ∧ f < fs.length ∧ ns.length ≤ 100 then some (.ok .nx, ρ.set i (.oh ns (fs.set f o))) else none
  | _ => none
theorem wp_stK {i f : Nat} {nm : Str} {o : OV} {ρ : Env} {Q : Fl → Env → Prop} {E : Ex → Env → Prop} (h : wp (stK i f nm o) ρ Q E) : ∃ ns fs, ρ[i]? = some (.oh ns fs) ∧ (ns[f]? = some nm ∧ f < fs.length ∧ ns.length ≤ 100) ∧ Q .nx (ρ.set i (.oh ns (fs.set f o))) := by
  unfold wp stK at h
  by_cases ho : o.isNo = true
  · rw [if_pos ho] at h; exact h.elim
  · rw [if_neg ho] at h
    cases e1 : ρ[i]? with
    | none => rw [e1] at h; exact h.elim
    | some oo =>
      rw [e1] at h
      cases oo with
      | oh ns fs =>
        simp only at h
        by_cases hn : ns[f]? = some nm ∧ f < fs.length ∧ ns.length ≤ 100
        · rw [if_pos hn] at h; exact ⟨ns, fs, rfl, hn, h⟩
        · rw [if_neg hn] at h; exact h.elim
      | _ => exact h.elim
def kyS (i f : Nat) (nm : Str) (m : M OV) : M Fl := bnd m fun o => stK i f nm o
/-- the store itself -/
theorem stK_live {i f : Nat} {nm : Str} {o : OV} {y v : V} {σ : L2.St} {ρ : Env} {H : Hp} {fr : List (V × OV)} {ns : List Str} {fs : List OV} (w : WS σ ρ) (l : Live κ.T H ((y, o) :: (prs σ ρ ++ fr))) (e1 : ρ[i]? = some (.oh ns fs)) (hn : ns[f]? = some nm ∧ f < fs.length ∧ ns.length ≤ 100) :
    ∃ ad H', σ[i]? = some (some (.ref ad)) ∧ DPut H ad (.str nm) y H' ∧ WS σ (ρ.set i (.oh ns (fs.set f o))) ∧ Live κ.T H' (prs σ (ρ.set i (.oh ns (fs.set f o))) ++ fr) := by
  obtain ⟨v, hv⟩ := w.has i _ e1 rfl
  have l1 : Live κ.T H ((v, .oh ns fs) :: ((prs σ ρ).eraseIdx i ++ ((y, o) :: fr))) := live_slot (l.perm List.perm_middle.symm) hv e1
  obtain ⟨ad, rfl⟩ : ∃ ad, v = .ref ad := by
    obtain ⟨G, O, s, ow, _⟩ := l1
    cases ow with
    | cons h _ => cases h; exact ⟨_, rfl⟩
  obtain ⟨vs, h1, h2, h3, h4, l2⟩ := Live.setK (f := f) (l1.perm ((List.Perm.cons _ List.perm_middle).trans (.swap _ _ _))) hn.2.1
  refine ⟨ad, _, hv, ?_, w.set hv, live_put hv e1 l2⟩
  have hz : (kvz ns vs).length < sizeLine := Nat.lt_of_le_of_lt (kvz_len ns vs) (Nat.lt_of_le_of_lt hn.2.2 (by decide))
  have := DPut.k (k := .inr nm) (v := y) h1 hz
  rw [kvz_put hn.1 h2 h3] at this
  exact this
theorem ss_ky {i f : Nat} {nm : Str} {m : M OV} (hu : X.A.units + 1 < cLine) (h : PE X a (tVar i)) (hv : SE X κ p e m)
    (hs : swapsWith e (some (.Subscript a (.Constant (.str nm) jk pk) ps)) pos.line X.env = pure false := by rfl) : SS X κ kp (.Assign [.Subscript a (.Constant (.str nm) jk pk) ps] e pos) (kyS i f nm m) := ⟨(ps_dput hu h pe_str hv.pe hs).imp fun D σ H ⟨ρ, fr, w, l, hp⟩ => by
  unfold kyS at hp
  rw [wp_bnd] at hp
  refine ⟨ρ, fr, w, l, wp_mono2 hp (fun o ρ' k y H' w' s' l' => ?_) fun x ρ' k => errK_of k⟩
  obtain ⟨ns, fs, e1, hn, hq⟩ := wp_stK k
  obtain ⟨ad, H2, hv, hd, w2, l2⟩ := stK_live (v := .non) w' l' e1 hn
  exact ⟨_, hv, ad, H2, rfl, hd, hq _ _ w2 .rfl l2⟩⟩
/-! ### h[k], h[m] = a, b -/
def parK (i f g : Nat) (nm nm2 : Str) (ms : M (List Opd)) : M Fl := bnd ms fun ods => match ods with
  | [.tv a, .tv b] => bnd (stK i f nm a) fun _ => stK i g nm2 b
  | _ => bad
theorem ss_parK {i f g : Nat} {nm nm2 : Str} {ob ob2 : Expr} {ms : M (List Opd)} {px py pt : Pos} {kt k2 : Nat} {pt2 pk2 : Pos} {jk2 : Nat} (hc : X.calm = true) (hu : X.A.units + 1 < cLine)
    (ho : PE X ob (tVar i)) (ho2 : PE X ob2 (tVar i)) (ha : SA X κ p [a, b] ms)
    (hs : swapsWithSole [.Tuple [.Subscript ob (.Constant (.str nm) jk pk) px, .Subscript ob2 (.Constant (.str nm2) jk2 pk2) py] kt pt] (.Tuple [a, b] k2 pt2) pos.line X.env = pure false := by rfl)
    (hw : swappedStores [.Tuple [.Subscript ob (.Constant (.str nm) jk pk) px, .Subscript ob2 (.Constant (.str nm2) jk2 pk2) py] kt pt] (.Tuple [a, b] k2 pt2) X.env = pure none := by rfl)
    (h1 : (assignEach [.Tuple [.Subscript ob (.Constant (.str nm) jk pk) px, .Subscript ob2 (.Constant (.str nm2) jk2 pk2) py] kt pt] X.env).map (·.2) = [assign (.Tuple [.Subscript ob (.Constant (.str nm) jk pk) px, .Subscript ob2 (.Constant (.str nm2) jk2 pk2) py] kt pt) X.env] := by rfl)
    (hl : (assignEach [.Subscript ob (.Constant (.str nm) jk pk) px, .Subscript ob2 (.Constant (.str nm2) jk2 pk2) py] X.env).length = 2 := by rfl) (hst : (assignEach [.Subscript ob (.Constant (.str nm) jk pk) px, .Subscript ob2 (.Constant (.str nm2) jk2 pk2) py] X.env).findIdx? (·.1) = none := by rfl)
    (hs1 : (assignEach [.Subscript ob (.Constant (.str nm) jk pk) px, .Subscript ob2 (.Constant (.str nm2) jk2 pk2) py] X.env).map (·.2) = assign (.Subscript ob (.Constant (.str nm) jk pk) px) X.env :: (assignEach [.Subscript ob2 (.Constant (.str nm2) jk2 pk2) py] X.env).map (·.2) := by rfl)
    (hs2 : (assignEach [.Subscript ob2 (.Constant (.str nm2) jk2 pk2) py] X.env).map (·.2) = assign (.Subscript ob2 (.Constant (.str nm2) jk2 pk2) py) X.env :: (assignEach [] X.env).map (·.2) := by rfl)
    (ha1 : ∀ v, assign (.Subscript ob (.Constant (.str nm) jk pk) px) X.env v = (do
      let ov ← holding [v] (eval ob X.env)
      let iv ← holding [v, ov] (eval (.Constant (.str nm) jk pk) X.env)
      standAt px
      holding [v, ov, iv] (setItem ov iv v)
      release [v, ov, iv] []) := by intro _; rfl)
    (ha2 : ∀ v, assign (.Subscript ob2 (.Constant (.str nm2) jk2 pk2) py) X.env v = (do
      let ov ← holding [v] (eval ob2 X.env)
      let iv ← holding [v, ov] (eval (.Constant (.str nm2) jk2 pk2) X.env)
      standAt py
      holding [v, ov, iv] (setItem ov iv v)
      release [v, ov, iv] []) := by intro _; rfl) :
    SS X κ kp (.Assign [.Tuple [.Subscript ob (.Constant (.str nm) jk pk) px, .Subscript ob2 (.Constant (.str nm2) jk2 pk2) py] kt pt] (.Tuple [a, b] k2 pt2) pos) (parK i f g nm nm2 ms) :=
  ⟨(ps_asg (pe_tup ha.pa) (pg_tup (n := 2) hc (pgs_cons (pg_sub ho pe_str (set_dict hu) ha1) (pgs_cons (pg_sub ho2 pe_str (set_dict hu) ha2) pgs_nil hs2) hs1) hl hst) hs hw h1).imp fun D σ H ⟨ρ, fr, w, l, hp⟩ => by
  unfold parK at hp
  rw [wp_bnd] at hp
  refine ⟨ρ, fr, w, l, wp_mono2 hp (fun ods ρ' k vs H' w' s' l' od' => ?_) fun x ρ' k => errK_of k⟩
  split at k
  · rename_i a b
    rw [wp_bnd] at k
    obtain ⟨ns, fs, e1, hn, k⟩ := wp_stK k
    obtain ⟨ns2, fs2, e2, hn2, k⟩ := wp_stK k
    obtain ⟨v, u, rfl⟩ : ∃ v u, vs = [v, u] := by
      cases vs with
      | nil => exact od'.elim
      | cons v vs => cases vs with
        | nil => exact od'.2.elim
        | cons u vs => cases vs with
          | nil => exact ⟨v, u, rfl⟩
          | cons _ _ => exact od'.2.2.elim
    refine ⟨by show 2 ≤ sizeLine; decide, fun pp hpp => ⟨pp, [v, u], rfl, SqT.of upd_same, rfl, v, [u], rfl, ?_⟩⟩
    obtain ⟨G, O, lg⟩ := l'
    have l1 : Live κ.T (upd H' pp (.tup [v, u])) ((v, a) :: (u, b) :: (prs σ ρ' ++ fr)) := ⟨_, _, (lg.newF (x := .tup [v, u]) hpp).2⟩
    obtain ⟨ad, H2, hv, hd, w2, l2⟩ := stK_live (v := .non) (fr := (u, b) :: fr) w' (l1.perm (.cons _ List.perm_middle.symm)) e1 hn
    obtain ⟨ad2, H3, hv2, hd2, w3, l3⟩ := stK_live (v := .non) (fr := fr) w2 (l2.perm List.perm_middle) e2 hn2
    exact ⟨_, hv, ad, H2, rfl, hd, u, [], rfl, _, hv2, ad2, H3, rfl, hd2, rfl, k _ _ w3 .rfl l3⟩
  · exact k.elim⟩
/-! ### h[k].append(e) -/
def chkK (i f : Nat) (nm : Str) : M Unit := fun ρ => match ρ[i]? with
  | some (.oh ns fs) => if ns[f]? = some nm then match fs[f]? with
    | some (.ol _) => some (.ok (), ρ)
    | _ => none
    else none
  | _ => none
theorem wp_chkK {i f : Nat} {nm : Str} {ρ : Env} {Q : Unit → Env → Prop} {E : Ex → Env → Prop} (h : wp (chkK i f nm) ρ Q E) : ∃ ns fs xs, ρ[i]? = some (.oh ns fs) ∧ ns[f]? = some nm ∧ fs[f]? = some (.ol xs) ∧ Q () ρ := by
  unfold wp chkK at h
  cases e1 : ρ[i]? with
  | none => rw [e1] at h; exact h.elim
  | some oo =>
    rw [e1] at h
    cases oo with
    | oh ns fs =>
      simp only at h
      by_cases hn : ns[f]? = some nm
      · rw [if_pos hn] at h
        cases e2 : fs[f]? with
        | none => rw [e2] at h; exact h.elim
        | some o =>
          rw [e2] at h
          cases o with
          | ol xs => exact ⟨ns, fs, xs, rfl, hn, e2, h⟩
          | _ => exact h.elim
      · rw [if_neg hn] at h; exact h.elim
    | _ => exact h.elim
def pshK (i f : Nat) (nm : Str) (d : D) : M Unit := fun ρ => match ρ[i]? with
  | some (.oh ns fs) => if ns[f]? = some nm then match fs[f]? with
    | some (.ol xs) => if xs.length < 1000000 then some (.ok (), ρ.set i (.oh ns (fs.set f (.ol (xs ++ [d]))))) else none
    | _ => none
    else none
  | _ => none
theorem wp_pshK {i f : Nat} {nm : Str} {d : D} {ρ : Env} {Q : Unit → Env → Prop} {E : Ex → Env → Prop} (h : wp (pshK i f nm d) ρ Q E) : ∃ ns fs xs, ρ[i]? = some (.oh ns fs) ∧ ns[f]? = some nm ∧ fs[f]? = some (.ol xs) ∧ xs.length < 1000000 ∧ Q () (ρ.set i (.oh ns (fs.set f (.ol (xs ++ [d]))))) := by
  unfold wp pshK at h
  cases e1 : ρ[i]? with
  | none => rw [e1] at h; exact h.elim
  | some oo =>
    rw [e1] at h
    cases oo with
    | oh ns fs =>
      simp only at h
      by_cases hn : ns[f]? = some nm
      · rw [if_pos hn] at h
        cases e2 : fs[f]? with
        | none => rw [e2] at h; exact h.elim
        | some o =>
          rw [e2] at h
          cases o with
          | ol xs =>
            simp only at h
            by_cases hz : xs.length < 1000000
            · rw [if_pos hz] at h; exact ⟨ns, fs, xs, rfl, hn, e2, hz, h⟩
            · rw [if_neg hz] at h; exact h.elim
          | _ => exact h.elim
      · rw [if_neg hn] at h; exact h.elim
    | _ => exact h.elim
def appK (i f : Nat) (nm : Str) (ms : M (List D)) : M OV := bnd (chkK i f nm) fun _ => bnd ms fun ds => match ds with
  | [d] => bnd (pshK i f nm d) fun _ => ret (.fz .non)
  | _ => bad
theorem se_appK {i f : Nat} {nm : Str} {ms : M (List D)} (hu : X.A.units + 1 < cLine) (ho : PE X a (tVar i)) (ha : SD X κ true [e] ms)
    (hbase : attributeBase (.Subscript a (.Constant (.str nm) jk pk) ps) "append" X.env (eval (.Subscript a (.Constant (.str nm) jk pk) ps) X.env) = eval (.Subscript a (.Constant (.str nm) jk pk) ps) X.env := by rfl)
    (hfew : ((backTo pos (starEach [e] X.env)).all (fun x => !x.1) && (backToKw pos (keywordEach [] X.env)).all (fun x => x.1.isSome)
      && decide ([e].length + ([] : List Keyword).length + (if ([] : List Keyword).isEmpty then 0 else 1) < 30)) = true := by rfl)
    (hline : (apos.endLine == pos.line) = true := by rfl) (hs : starEach [e] X.env = (false, eval e X.env) :: starEach [] X.env := by rfl) (hplain : (backTo pos (starEach [] X.env)).any (·.1) = false := by rfl) :
    SE X κ false (.Call (.Attribute (.Subscript a (.Constant (.str nm) jk pk) ps) "append" apos) [e] [] pos) (appK i f nm ms) := ⟨(pe_bm PySem.F.plainAttrs_list PySem.F.slot_list_append PySem.F.type_list_append mt_append (pe_dget hu ho pe_str (by intro _ _; rfl)) ha.pa hbase hfew hline hs hplain).imp fun σ H Q ⟨ρ, fr, w, l, hp⟩ => by
  unfold appK at hp
  rw [wp_bnd] at hp
  obtain ⟨ns, fs, xs, e1, hn, e2, hp⟩ := wp_chkK hp
  obtain ⟨v, hv⟩ := w.has i _ e1 rfl
  obtain ⟨ad, vs, y, rfl, h1, h2, h3, h4, l2⟩ := (live_slot l hv e1).outK e2
  have hg : DGet H ad (.str nm) (some y) := by
    have := DGet.k (k := .inr nm) h3
    rw [kvz_get hn h4 h2] at this
    exact this
  obtain ⟨lo, us, rfl, hul, hH, _⟩ := l2.ofOl
  refine ⟨_, hv, ad, _, rfl, hg, .inl ⟨rfl, us, SqL.of hH⟩, ?_⟩
  rw [wp_bnd] at hp
  refine ⟨ρ, fr, w, l, wp_mono hp fun ds ρ2 hp zs H2 w2 s2 hl l3 => ?_⟩
  split at hp
  · rename_i d
    obtain ⟨z, rfl⟩ := len1 hl
    rw [wp_bnd] at hp
    obtain ⟨ns2, fs2, xs2, e3, hn2, e4, hz, hq⟩ := wp_pshK hp
    have l4 : Live κ.T H2 ((.ref ad, .oh ns2 fs2) :: ((prs σ ρ2).eraseIdx i ++ ((z, .fz d) :: fr))) := live_slot (Live.perm (show Live κ.T H2 ((z, .fz d) :: (prs σ ρ2 ++ fr)) from l3) List.perm_middle.symm) hv e3
    obtain ⟨ad2, vs2, y2, ea, k1, k2, k3, k4, l5⟩ := l4.outK e4
    cases ea
    have hy : y2 = .ref lo := by
      have q1 := s2 rfl _ _ h3
      rw [k3] at q1
      have q1 : kvz ns2 vs2 = kvz ns vs := by injection q1 with q1; injection q1
      have q2 := kvz_get hn2 k4 k2
      rw [q1, kvz_get hn h4 h2] at q2
      exact (Option.some.inj q2).symm
    subst hy
    have l6 : Live κ.T H2 ((z, .fz d) :: (.ref lo, .ol xs2) :: (.ref ad, .oh ns2 (fs2.set f .no)) :: ((prs σ ρ2).eraseIdx i ++ fr)) := by
      refine l5.perm ?_
      exact (List.Perm.cons _ ((List.Perm.cons _ List.perm_middle).trans (.swap _ _ _))).trans (.swap _ _ _)
    obtain ⟨ws, hw, hwl, l7⟩ := Live.app l6
    have nad : lo ≠ ad := fun z => by rw [z, k3] at hw; cases hw
    refine ⟨lo, ws, z, rfl, rfl, hw, Nat.lt_of_lt_of_le (by omega : ws.length < 1000000) (by decide), ?_⟩
    have l8 := Live.backK (a := ad) (f := f) (vs := vs2) (H := upd H2 lo (.lst (ws ++ [z]))) (by rw [upd_ne nad.symm]; exact k3) k1 k4 (List.getElem?_eq_some_iff.mp e4).1 l7
    exact hq .non _ (w2.set hv) (fun h => nomatch h) (live_non (live_put hv e3 l8))
  · exact hp.elim⟩
end
end Kv
/-! The display of a dict by names; pop, pop(0), extend of a list in a slot. -/
namespace Kv
open PySem hiding Env
open L2 PySem.Spec PyProof.Rows
theorem putK_new {κ : Type} [DecidableEq κ] {kvs : List (κ × V)} {k : κ} {v : V} (h : k ∉ kvs.map (·.1)) : putK kvs k v = kvs ++ [(k, v)] := by
  unfold putK
  rw [if_neg]
  intro z
  obtain ⟨x, hx, e⟩ := List.any_eq_true.mp z
  exact h (List.mem_map.mpr ⟨x, hx, by simpa using e⟩)
theorem mergeK_new : ∀ {more acc : List (Key × V)}, ((acc ++ more).map (·.1)).Nodup → mergeK acc more = acc ++ more
  | [], acc, _ => by show acc = acc ++ []; rw [List.append_nil]
  | p :: r, acc, h => by
    have hn : p.1 ∉ acc.map (·.1) := by
      rw [List.map_append, List.map_cons] at h
      obtain ⟨_, _, z⟩ := nodup_app h
      exact fun q => z _ q List.mem_cons_self
    show mergeK (putK acc p.1 p.2) r = _
    rw [putK_new hn, mergeK_new (by rw [List.append_assoc]; exact h), List.append_assoc]
    rfl
theorem kvz_fst : ∀ {ns : List Str} {vs : List V}, vs.length = ns.length → (kvz ns vs).map (·.1) = ns.map Sum.inr
  | [], [], _ => rfl
  | n :: ns, v :: vs, h => by rw [kvz_cons, List.map_cons, kvz_fst (by simpa using h)]; rfl
theorem nodup_inr : ∀ {ns : List Str}, ns.Nodup → (ns.map (Sum.inr : Str → Key)).Nodup
  | [], _ => List.nodup_nil
  | n :: ns, h => by
    rw [List.nodup_cons] at h
    rw [List.map_cons, List.nodup_cons]
    refine ⟨fun z => ?_, nodup_inr h.2⟩
    obtain ⟨x, hx, e⟩ := List.mem_map.mp z
    cases e
    exact h.1 hx
theorem kvz_merge {ns : List Str} {vs : List V} (h : vs.length = ns.length) (nd : ns.Nodup) : mergeK [] (kvz ns vs) = kvz ns vs := by
  rw [mergeK_new]
  · rfl
  · rw [List.nil_append, kvz_fst h]
    exact nodup_inr nd
theorem kvz_ps : ∀ (ns : List Str) (vs : List V), (ns.map V.str).zip vs = (kvz ns vs).map fun kv => (kV kv.1, kv.2)
  | [], _ => rfl
  | _ :: _, [] => rfl
  | n :: ns, v :: vs => by
    rw [kvz_cons, List.map_cons, List.map_cons, List.zip_cons_cons, kvz_ps ns vs]
    rfl
section
variable {t : CT} {H : Hp}
theorem Live.fillK {ns : List Str} {vs : List V} {os : List OV} {p : Addr} {L : List (V × OV)} (hl : vs.length = ns.length) (hl2 : os.length = ns.length) (nd : ns.Nodup) (l : Live t H ((.ref p, .od false [] []) :: (vs.zip os ++ L))) :
    H p = some (.dK []) ∧ Live t (upd H p (.dK (kvz ns vs))) ((.ref p, .oh ns os) :: L) := by
  obtain ⟨G, O, s, ow, at_, u, n⟩ := l
  rw [List.map_cons, List.map_cons, List.map_append, List.map_append, List.map_fst_zip (by omega), List.map_snd_zip (by omega)] at ow
  generalize e5 : V.ref p = vp at ow
  generalize e6 : OV.od false [] [] = op at ow
  cases ow with
  | @cons _ _ _ _ Oa Ob h tl =>
    subst e5
    generalize e7 : ([] : List D) = kk at e6
    cases h with
    | @dk _ kvs es nn r =>
      injection e6 with _ e8 e9
      rw [← e7] at e8 
      have hk : kvs = [] := by
        cases kvs with
        | nil => rfl
        | cons _ _ => simp at e8
      subst hk
      obtain ⟨O1, O2, rfl, r1, r2⟩ := tl.split (by omega)
      have hH := at_ (p, .dK []) (List.mem_append_left _ (List.mem_singleton.mpr rfl))
      have hG : G p = none := u (p, .dK []) (List.mem_append_left _ (List.mem_singleton.mpr rfl))
      have nd2 := n
      rw [List.map_append, List.map_cons, List.map_nil] at nd2
      have neA : ∀ q ∈ O1 ++ O2, q.1 ≠ p := fun q hq e => (nodup_app nd2).2.2 p (List.mem_singleton.mpr rfl) (List.mem_map.mpr ⟨q, hq, e⟩)
      refine ⟨hH, G, ((p, .dK (kvz ns vs)) :: O1) ++ O2, fun b x e => ?_, OwnL.cons (.oh nd hl r1) r2, fun q hq => ?_, fun q hq => ?_, ?_⟩
      · rw [upd_ne (ne_of_none e hG)]; exact s b x e
      · rcases List.mem_cons.mp hq with rfl | hq
        · exact upd_same
        · rw [upd_ne (neA q hq)]; exact at_ q (List.mem_append_right _ hq)
      · rcases List.mem_cons.mp hq with rfl | hq
        · exact hG
        · exact u q (List.mem_append_right _ hq)
      · exact n
    | _ => cases e6
end
section
variable {X : Cx} {κ : Kx} {kp : List Nat} {pu p q r fl fl' fl2 : Bool} {e a b c tg : Expr} {pos ps apos pk : Pos} {es rest : List Expr} {jk : Nat}
structure SDp (X : Cx) (κ : Kx) (pos : Pos) (ns : List Str) (keys : List (Option Expr)) (values : List Expr) (ms : M (List OV)) : Prop where
  ex : ∃ trs, PPs X pos keys values trs ∧ ∀ (σ : L2.St) (H : Hp) (Q : List (V × V) → Hp → Prop) (ρ : Env) (fr : List (V × OV)), WS σ ρ → Live κ.T H (prs σ ρ ++ fr) →
    wp ms ρ (fun os ρ' => os.length = ns.length ∧ ∀ vs H', vs.length = ns.length → WS σ ρ' → Same H H' → Live κ.T H' (vs.zip os ++ (prs σ ρ' ++ fr)) → Q ((ns.map V.str).zip vs) H') (fun x ρ' => κ.xw x σ ρ' fr) → tPairs trs σ H Q
theorem sdp_nil : SDp X κ pos [] [] [] (ret []) := ⟨[], pps_nil, fun σ H Q ρ fr w l hp => hp.2 [] H rfl w (Same.refl H) l⟩
def consV (m : M OV) (ms : M (List OV)) : M (List OV) := bnd m fun o => bnd ms fun os => ret (o :: os)
theorem sdp_cons {n : Str} {ns : List Str} {ks : List (Option Expr)} {v : Expr} {vs : List Expr} {m : M OV} {ms : M (List OV)} (hv : SE X κ true v m) (hr : SDp X κ pos ns ks vs ms) :
    SDp X κ pos (n :: ns) (some (.Constant (.str n) jk pk) :: ks) (v :: vs) (consV m ms) := by
  obtain ⟨trs, hp, hq⟩ := hr.ex
  refine ⟨(tC (.str n), T κ true m) :: trs, pps_cons pe_str hv.pe hp, fun σ H Q ρ fr w l h => ?_⟩
  unfold consV at h
  rw [wp_bnd] at h
  refine ⟨ρ, fr, w, l, wp_mono h fun o ρ1 h y H1 w1 s1 l1 => ?_⟩
  rw [wp_bnd] at h
  refine hq σ H1 _ ρ1 ((y, o) :: fr) w1 (l1.perm List.perm_middle.symm) (wp_mono2 h (fun os ρ2 h => ?_) fun x ρ' k => κ.xm _ _ _ _ _ k)
  obtain ⟨h1, h2⟩ : (o :: os).length = (n :: ns).length ∧ _ := h
  refine ⟨by simpa using h1, fun us H2 hl w2 s2 l2 => h2 (y :: us) H2 (by simp [hl]) w2 ((s1 rfl).trans s2) ?_⟩
  refine l2.perm ?_
  show (us.zip os ++ (prs σ ρ2 ++ (y, o) :: fr)).Perm ((y, o) :: (us.zip os ++ (prs σ ρ2 ++ fr)))
  rw [← List.append_assoc, ← List.append_assoc]
  exact List.perm_middle
def dspM (ns : List Str) (ms : M (List OV)) : M OV := bnd ms fun os => if os.length = ns.length then ret (.oh ns os) else bad
theorem se_disp {ns : List Str} {keys : List (Option Expr)} {values : List Expr} {ms : M (List OV)} (h : SDp X κ pos ns keys values ms) (nd : ns.Nodup) (hn : ns.length ≤ 15) (hall : keys.all (·.isSome) = true) (hl : keys.length = values.length) (h0 : keys ≠ [])
    (h15 : keys.length ≤ 15) : SE X κ true (.Dict keys values pos) (dspM ns ms) := by
  obtain ⟨trs, hp, hq⟩ := h.ex
  refine ⟨(pe_disp hp hall hl h0 h15).imp fun σ H Q ⟨ρ, fr, w, l, hw⟩ p hpn => ?_⟩
  unfold dspM at hw
  rw [wp_bnd] at hw
  have l0 : Live κ.T (upd H p (.dK [])) ((.ref p, .od false [] []) :: (prs σ ρ ++ fr)) := Live.dK (kvs := []) (es := []) rfl .nil l hpn
  refine hq σ _ _ ρ ((.ref p, .od false [] []) :: fr) w (l0.perm List.perm_middle.symm) (wp_mono2 hw (fun os ρ1 k => ?_) fun x ρ' k => κ.xm _ _ _ _ _ k)
  by_cases hos : os.length = ns.length
  · rw [if_pos hos] at k
    refine ⟨hos, fun vs H2 hvl w2 s2 l2 => ?_⟩
    have l3 : Live κ.T H2 ((.ref p, .od false [] []) :: (vs.zip os ++ (prs σ ρ1 ++ fr))) := by
      refine l2.perm ?_
      rw [← List.append_assoc, ← List.append_assoc]
      exact List.perm_middle
    obtain ⟨e1, l4⟩ := l3.fillK hvl hos nd
    refine ⟨e1, kvz ns vs, kvz_ps ns vs, Nat.le_trans (kvz_len _ _) hn, ?_⟩
    rw [kvz_merge hvl nd]
    refine k _ _ w2 (fun _ b x e => ?_) l4
    have : b ≠ p := fun z => by rw [z, hpn] at e; cases e
    rw [upd_ne this]
    exact s2 b x (by rw [upd_ne this]; exact e)
  · rw [if_neg hos] at k
    exact k.elim
/-! ### xs.pop(), xs.pop(0), xs.extend(ys), xs in a slot -/
def popK (i : Nat) : M OV := fun ρ => match ρ[i]? with
  | some (.ol xs) => match xs[xs.length - 1]? with
    | some d => some (.ok (.fz d), ρ.set i (.ol xs.dropLast))
    | none => none
  | _ => none
theorem wp_popK {i : Nat} {ρ : Env} {Q : OV → Env → Prop} {E : Ex → Env → Prop} (h : wp (popK i) ρ Q E) : ∃ xs d, ρ[i]? = some (.ol xs) ∧ xs[xs.length - 1]? = some d ∧ Q (.fz d) (ρ.set i (.ol xs.dropLast)) := by
  unfold wp popK at h
  cases e1 : ρ[i]? with
  | none => rw [e1] at h; exact h.elim
  | some oo =>
    rw [e1] at h
    cases oo with
    | ol xs =>
      simp only at h
      cases e2 : xs[xs.length - 1]? with
      | none => rw [e2] at h; exact h.elim
      | some d => rw [e2] at h; exact ⟨xs, d, rfl, e2, h⟩
    | _ => exact h.elim
theorem Reps.dropLast {t : CT} {G : Hp} : ∀ {vs : List V} {ds : List D}, Reps t G vs ds → Reps t G vs.dropLast ds.dropLast
  | _, _, .nil => .nil
  | _, _, .cons _ .nil => .nil
  | _, _, .cons h (.cons h2 r) => .cons h (Reps.dropLast (.cons h2 r))
theorem se_pop {i : Nat} (ho : PE X a (tVar i))
    (hbase : attributeBase a "pop" X.env (eval a X.env) = eval a X.env := by rfl) (hline : (apos.endLine == pos.line) = true := by rfl) :
    SE X κ false (.Call (.Attribute a "pop" apos) [] [] pos) (popK i) := ⟨(pe_bm0 PySem.F.plainAttrs_list PySem.F.slot_list_pop PySem.F.type_list_pop mt_pop ho hbase hline).imp fun σ H Q ⟨ρ, fr, w, l, hp⟩ => by
  obtain ⟨xs, d, e1, e2, hq⟩ := wp_popK hp
  obtain ⟨v, hv⟩ := w.has i _ e1 rfl
  obtain ⟨lo, us, rfl, hul, hH, l2⟩ := (live_slot l hv e1).ofOl
  obtain ⟨G, O, lg⟩ := l2
  obtain ⟨rr, lg⟩ := lg.sub hul
  obtain ⟨y, hy, ry⟩ := rr.get e2
  refine ⟨_, hv, .inl ⟨rfl, us, SqL.of hH⟩, lo, us, y, rfl, rfl, hH, by rw [hul]; exact hy, ?_⟩
  have l3 : Live κ.T H ((V.ref lo, OV.ol xs) :: (y, .fz d) :: ((prs σ ρ).eraseIdx i ++ fr)) := Live.perm ⟨G, O, lg.add (vs := [y]) (ds := [d]) (.cons ry .nil)⟩ (.swap _ _ _)
  have l4 : Live κ.T H (zipF us.dropLast xs.dropLast ++ (V.ref lo, OV.ol xs) :: (y, .fz d) :: ((prs σ ρ).eraseIdx i ++ fr)) := by
    have := (LiveG.add (lg.add (vs := [y]) (ds := [d]) (.cons ry .nil)) rr.dropLast)
    exact Live.perm ⟨G, O, this⟩ (List.Perm.append_left _ (.swap _ _ _))
  have l5 := Live.setOl (vs' := us.dropLast) (ds' := xs.dropLast) (by rw [List.length_dropLast, List.length_dropLast, hul]) l4
  have l6 := live_put (fr := (y, .fz d) :: fr) hv e1 (l5.perm (.cons _ List.perm_middle.symm))
  exact hq y _ (w.set hv) (fun h => nomatch h) (l6.perm List.perm_middle)⟩
def pop0K (i : Nat) : M OV := fun ρ => match ρ[i]? with
  | some (.ol (d :: r)) => some (.ok (.fz d), ρ.set i (.ol r))
  | _ => none
theorem wp_pop0K {i : Nat} {ρ : Env} {Q : OV → Env → Prop} {E : Ex → Env → Prop} (h : wp (pop0K i) ρ Q E) : ∃ d r, ρ[i]? = some (.ol (d :: r)) ∧ Q (.fz d) (ρ.set i (.ol r)) := by
  unfold wp pop0K at h
  cases e1 : ρ[i]? with
  | none => rw [e1] at h; exact h.elim
  | some oo =>
    rw [e1] at h
    cases oo with
    | ol xs => cases xs with
      | nil => exact h.elim
      | cons d r => exact ⟨d, r, rfl, h⟩
    | _ => exact h.elim
theorem se_pop0 {i : Nat} (ho : PE X a (tVar i))
    (hbase : attributeBase a "pop" X.env (eval a X.env) = eval a X.env := by rfl)
    (hfew : ((backTo pos (starEach [.Constant (.int 0) jk pk] X.env)).all (fun x => !x.1) && (backToKw pos (keywordEach [] X.env)).all (fun x => x.1.isSome)
      && decide ([Expr.Constant (.int 0) jk pk].length + ([] : List Keyword).length + (if ([] : List Keyword).isEmpty then 0 else 1) < 30)) = true := by rfl)
    (hline : (apos.endLine == pos.line) = true := by rfl) (hs : starEach [.Constant (.int 0) jk pk] X.env = (false, eval (.Constant (.int 0) jk pk) X.env) :: starEach [] X.env := by rfl) (hplain : (backTo pos (starEach [] X.env)).any (·.1) = false := by rfl) :
    SE X κ false (.Call (.Attribute a "pop" apos) [.Constant (.int 0) jk pk] [] pos) (pop0K i) := ⟨(pe_bm PySem.F.plainAttrs_list PySem.F.slot_list_pop PySem.F.type_list_pop mt_popAt ho (pa_cons pe_int pa_nil hs) hbase hfew hline hs hplain).imp fun σ H Q ⟨ρ, fr, w, l, hp⟩ => by
  obtain ⟨d, r, e1, hq⟩ := wp_pop0K hp
  obtain ⟨v, hv⟩ := w.has i _ e1 rfl
  obtain ⟨lo, us, rfl, hul, hH, l2⟩ := (live_slot l hv e1).ofOl
  obtain ⟨G, O, lg0⟩ := l2
  obtain ⟨rr, lg⟩ := lg0.sub hul
  cases rr with
  | @cons y us _ _ ry rr =>
  refine ⟨_, hv, .inl ⟨rfl, _, SqL.of hH⟩, lo, _, 0, 0, y, rfl, rfl, hH, by decide, by decide, by simp [seqIndex?], rfl, ?_⟩
  have l4 : Live κ.T H (zipF us r ++ (V.ref lo, OV.ol (d :: r)) :: (y, .fz d) :: ((prs σ ρ).eraseIdx i ++ fr)) := by
    have := (LiveG.add (lg.add (vs := [y]) (ds := [d]) (.cons ry .nil)) rr)
    exact Live.perm ⟨G, O, this⟩ (List.Perm.append_left _ (.swap _ _ _))
  have l5 := Live.setOl (vs' := us) (ds' := r) rr.length l4
  have l6 := live_put (fr := (y, .fz d) :: fr) hv e1 (l5.perm (.cons _ List.perm_middle.symm))
  exact hq y _ (w.set hv) (fun h => nomatch h) (l6.perm List.perm_middle)⟩
def chkL (i : Nat) : M Unit := fun ρ => match ρ[i]? with
  | some (.ol _) => some (.ok (), ρ)
  | _ => none
theorem wp_chkL {i : Nat} {ρ : Env} {Q : Unit → Env → Prop} {E : Ex → Env → Prop} (h : wp (chkL i) ρ Q E) : ∃ xs, ρ[i]? = some (.ol xs) ∧ Q () ρ := by
  unfold wp chkL at h
  cases e1 : ρ[i]? with
  | none => rw [e1] at h; exact h.elim
  | some oo =>
    rw [e1] at h
    cases oo with
    | ol xs => exact ⟨xs, rfl, h⟩
    | _ => exact h.elim
def addL (i : Nat) (o : OV) : M OV := fun ρ => match o, ρ[i]? with
  | .ol zs, some (.ol xs) => if xs.length + zs.length ≤ 1000000 then some (.ok (.fz .non), ρ.set i (.ol (xs ++ zs))) else none
  | _, _ => none
theorem wp_addL {i : Nat} {o : OV} {ρ : Env} {Q : OV → Env → Prop} {E : Ex → Env → Prop} (h : wp (addL i o) ρ Q E) : ∃ xs zs, o = .ol zs ∧ ρ[i]? = some (.ol xs) ∧ xs.length + zs.length ≤ 1000000 ∧ Q (.fz .non) (ρ.set i (.ol (xs ++ zs))) := by
  unfold wp addL at h
  cases o with
  | ol zs =>
    cases e1 : ρ[i]? with
    | none => rw [e1] at h; exact h.elim
    | some oo =>
      rw [e1] at h
      cases oo with
      | ol xs =>
        simp only at h
        by_cases hc : xs.length + zs.length ≤ 1000000
        · rw [if_pos hc] at h; exact ⟨xs, zs, rfl, rfl, hc, h⟩
        · rw [if_neg hc] at h; exact h.elim
      | _ => exact h.elim
  | _ => exact h.elim
def extK (i : Nat) (m : M OV) : M OV := bnd (chkL i) fun _ => bnd m fun o => addL i o
theorem se_ext {i : Nat} {m : M OV} (ho : PE X a (tVar i)) (hm : SE X κ p e m)
    (hbase : attributeBase a "extend" X.env (eval a X.env) = eval a X.env := by rfl)
    (hfew : ((backTo pos (starEach [e] X.env)).all (fun x => !x.1) && (backToKw pos (keywordEach [] X.env)).all (fun x => x.1.isSome)
      && decide ([e].length + ([] : List Keyword).length + (if ([] : List Keyword).isEmpty then 0 else 1) < 30)) = true := by rfl)
    (hline : (apos.endLine == pos.line) = true := by rfl) (hs : starEach [e] X.env = (false, eval e X.env) :: starEach [] X.env := by rfl) (hplain : (backTo pos (starEach [] X.env)).any (·.1) = false := by rfl) :
    SE X κ false (.Call (.Attribute a "extend" apos) [e] [] pos) (extK i m) := ⟨(pe_bm PySem.F.plainAttrs_list PySem.F.slot_list_extend PySem.F.type_list_extend mt_extend ho (pa_cons hm.pe pa_nil hs) hbase hfew hline hs hplain).imp fun σ H Q ⟨ρ, fr, w, l, hp⟩ => by
  unfold extK at hp
  rw [wp_bnd] at hp
  obtain ⟨xs0, e0, hp⟩ := wp_chkL hp
  obtain ⟨v, hv⟩ := w.has i _ e0 rfl
  obtain ⟨lo, us0, rfl, _, hH0, _⟩ := (live_slot l hv e0).ofOl
  rw [wp_bnd] at hp
  refine ⟨_, hv, .inl ⟨rfl, us0, SqL.of hH0⟩, ρ, fr, w, l, wp_mono hp fun o ρ1 hp y H1 w1 s1 l1 => ?_⟩
  obtain ⟨xs, zs, rfl, e1, hz, hq⟩ := wp_addL hp
  obtain ⟨b, ws, rfl, hwl, hB, l2⟩ := l1.ofOl
  have l3 : Live κ.T H1 ((V.ref b, OV.ol zs) :: (zipF ws zs ++ (prs σ ρ1 ++ fr))) := l2.perm List.perm_middle
  have l4 := live_slot (l3.tail.perm (show (zipF ws zs ++ (prs σ ρ1 ++ fr)).Perm (prs σ ρ1 ++ (zipF ws zs ++ fr)) from swapA _ _ _)) hv e1
  obtain ⟨lo', us, e9, hul, hH, l5⟩ := l4.ofOl
  cases e9
  have l6 : Live κ.T H1 (zipF (us ++ ws) (xs ++ zs) ++ (V.ref lo, OV.ol xs) :: ((prs σ ρ1).eraseIdx i ++ fr)) := by
    have e : zipF (us ++ ws) (xs ++ zs) = zipF us xs ++ zipF ws zs := by unfold zipF; rw [List.zip_append hul, List.map_append]
    rw [e, List.append_assoc]
    refine l5.perm (List.Perm.append_left _ ?_)
    exact (List.Perm.cons _ (swapA _ _ _)).trans List.perm_middle.symm
  have l7 := Live.setOl (vs' := us ++ ws) (ds' := xs ++ zs) (by simp [hul, hwl]) l6
  refine ⟨lo, b, us, ws, rfl, rfl, hH, hB, Nat.le_trans (by omega : us.length + ws.length ≤ 1000000) (by decide), ?_⟩
  exact hq .non _ (w1.set hv) (fun h => nomatch h) (live_non (live_put hv e1 l7))⟩
end
end Kv
/-! a, b = x, y where a or b is a cell: by way of a pair. -/
namespace Kv
open PySem hiding Env
open L2 PySem.Spec PyProof.Rows
section
variable {X : Cx} {κ : Kx} {kp : List Nat} {p : Bool} {a b : Expr} {pos : Pos}
theorem ss_parT {i j : Nat} {x y : Str} {ms : M (List Opd)} {px py pt : Pos} {kt k2 : Nat} {pt2 : Pos} (hc : X.calm = true) (hki : i ∉ kp) (hkj : j ∉ kp) (g1 : PG X (.Name x px) (gName i)) (g2 : PG X (.Name y py) (gName j)) (ha : SA X κ p [a, b] ms)
    (hs : swapsWithSole [.Tuple [.Name x px, .Name y py] kt pt] (.Tuple [a, b] k2 pt2) pos.line X.env = pure false := by rfl)
    (hw : swappedStores [.Tuple [.Name x px, .Name y py] kt pt] (.Tuple [a, b] k2 pt2) X.env = pure none := by rfl)
    (h1 : (assignEach [.Tuple [.Name x px, .Name y py] kt pt] X.env).map (·.2) = [assign (.Tuple [.Name x px, .Name y py] kt pt) X.env] := by rfl)
    (hl : (assignEach [.Name x px, .Name y py] X.env).length = 2 := by rfl) (hst : (assignEach [.Name x px, .Name y py] X.env).findIdx? (·.1) = none := by rfl)
    (hs1 : (assignEach [.Name x px, .Name y py] X.env).map (·.2) = assign (.Name x px) X.env :: (assignEach [.Name y py] X.env).map (·.2) := by rfl)
    (hs2 : (assignEach [.Name y py] X.env).map (·.2) = assign (.Name y py) X.env :: (assignEach [] X.env).map (·.2) := by rfl) :
    SS X κ kp (.Assign [.Tuple [.Name x px, .Name y py] kt pt] (.Tuple [a, b] k2 pt2) pos) (parM i j ms) :=
  ⟨(ps_asg (pe_tup ha.pa) (pg_tup (n := 2) hc (pgs_cons g1 (pgs_cons g2 pgs_nil hs2) hs1) hl hst) hs hw h1).imp fun D σ H ⟨ρ, fr, w, l, hp⟩ => by
  unfold parM at hp
  rw [wp_bnd] at hp
  refine ⟨ρ, fr, w, l, wp_mono2 hp (fun ods ρ' k vs H' w' s' l' od' => ?_) fun x ρ' k => errK_of k⟩
  split at k
  · rename_i a b
    obtain ⟨⟨h1, h2⟩, k⟩ := wp_setOO k
    obtain ⟨v, u, rfl⟩ : ∃ v u, vs = [v, u] := by
      cases vs with
      | nil => exact od'.elim
      | cons v vs => cases vs with
        | nil => exact od'.2.elim
        | cons u vs => cases vs with
          | nil => exact ⟨v, u, rfl⟩
          | cons _ _ => exact od'.2.2.elim
    refine ⟨by show 2 ≤ sizeLine; decide, fun pp hpp => ⟨pp, [v, u], rfl, SqT.of upd_same, rfl, v, [u], rfl, u, [], rfl, rfl, ?_⟩⟩
    obtain ⟨G, O, lg⟩ := l'
    have l1 : Live κ.T (upd H' pp (.tup [v, u])) ((v, a) :: (u, b) :: (prs σ ρ' ++ fr)) := ⟨_, _, (lg.newF (x := .tup [v, u]) hpp).2⟩
    have l2 := live_set2 (fr := (u, b) :: fr) w' (i := i) h1 (l1.perm (.cons _ List.perm_middle.symm))
    exact k _ _ w'.set2.set2 (Kp.trans (Kp.set hki) (Kp.set hkj)) (live_set2 w'.set2 (by rw [List.length_set]; exact h2) (l2.perm List.perm_middle))
  · exact k.elim⟩
end
end Kv
/-! min of a list of data; several names at once by way of a tuple; a def with a star. -/
namespace Kv
open PySem hiding Env
open L2 PySem.Spec PyProof.Rows
mutual
def unpy : PyData → D
  | .none => .non
  | .bool b => .bl b
  | .int i => .int i
  | .str x => .str x
  | .list xs => .lst (unpys xs)
  | .tuple xs => .tup (unpys xs)
  | .dict _ => .no
def unpys : List PyData → List D
  | [] => []
  | x :: xs => unpy x :: unpys xs
end
mutual
theorem unpy_py : ∀ (d : D) (p : PyData), py d = some p → unpy p = d
  | .non, p, h => by simp [py] at h; subst h; rfl
  | .bl b, p, h => by simp [py] at h; subst h; rfl
  | .int b, p, h => by simp [py] at h; subst h; rfl
  | .str b, p, h => by simp [py] at h; subst h; rfl
  | .tup xs, p, h => by
    simp only [py] at h
    obtain ⟨ps, e, rfl⟩ := Option.map_eq_some_iff.mp h
    show D.tup (unpys ps) = _
    rw [unpys_pys xs ps e]
  | .lst xs, p, h => by
    simp only [py] at h
    obtain ⟨ps, e, rfl⟩ := Option.map_eq_some_iff.mp h
    show D.lst (unpys ps) = _
    rw [unpys_pys xs ps e]
  | .no, p, h => by simp [py] at h
  | .byt _, p, h => by simp [py] at h
  | .ty _, p, h => by simp [py] at h
  | .frl _, p, h => by simp [py] at h
  | .dct _ _ _, p, h => by simp [py] at h
  | .ins _ _, p, h => by simp [py] at h
theorem unpys_pys : ∀ (ds : List D) (ps : List PyData), pys ds = some ps → unpys ps = ds
  | [], ps, h => by simp [pys] at h; subst h; rfl
  | d :: ds, ps, h => by
    simp only [pys] at h
    obtain ⟨a, e1, h⟩ := Option.bind_eq_some_iff.mp h
    obtain ⟨b, e2, rfl⟩ := Option.map_eq_some_iff.mp h
    show unpy a :: unpys b = _
    rw [unpy_py d a e1, unpys_pys ds b e2]
end
def notNone : PyData → Bool
  | .none => false
  | _ => true
def alikeAllB (ps : List PyData) : Bool := (ps.all fun a => ps.all fun b => PySem.W.alike a b) && ps.all notNone
theorem alikeAll_of {ps : List PyData} (h : alikeAllB ps = true) : PySem.W.AlikeAll ps := by
  unfold alikeAllB at h
  rw [Bool.and_eq_true, List.all_eq_true, List.all_eq_true] at h
  refine ⟨fun x hx y hy => ?_, fun x hx e => ?_⟩
  · have := h.1 x hx
    rw [List.all_eq_true] at this
    exact this y hy
  · have := h.2 x hx
    subst e
    cases this
def rMinD (K : PySem.W.Frag) : List V → Hp → VK → Prop := fun vs H Q => ∃ (a : Addr) (xs : List V) (p : PyData) (ps : List PyData), vs = [V.ref a] ∧ SqL K H a xs ∧ DpAll K H xs (p :: ps) ∧ PySem.W.AlikeAll (p :: ps) ∧ PyData.depthAll (p :: ps) ≤ 60 ∧ ∀ (i : Nat) (v : V), xs[i]? = some v → (p :: ps)[i]? = some (PySem.W.minD p ps) → Q v H
theorem vals_at : ∀ {xs : List V} {us : List Value} {i : Nat} {u : Value}, Vals xs us → us[i]? = some u → ∃ v, xs[i]? = some v ∧ RelV v u
  | [], _, _, _, r, h => by cases r; simp at h
  | x :: xs, _, 0, u, .cons a r, h => by simp at h; subst h; exact ⟨x, rfl, a⟩
  | x :: xs, _, i + 1, u, .cons a r, h => by
    obtain ⟨v, e, q⟩ := vals_at r (show _ = some u by simpa using h)
    exact ⟨v, by simpa using e, q⟩
theorem cr_minD {X : Cx} (hu : X.A.units + 100 < cLine) (hc : X.calm = true) : CallR X (.builtin "min") (rMinD X.K) := by
  intro pins s σ H vs us Q I r h
  obtain ⟨a, xs, p, ps, rfl, hs, hd, ha, hdp, q⟩ := h
  obtain ⟨its, rv, hl, _⟩ := I.list hs
  rw [Vals.ref1 r]
  obtain ⟨as, hr⟩ := Dp.readsAll I (p :: ps) xs its hd rv
  refine PySem.W.min_list_data (I.ok.hd hc) hl.isList (by simpa using hr) ha (by show X.A.units + 1 + _ < _; omega) fun i v h' tk bs hv rd hk => ?_
  have hv' : its[i]? = some v := by simpa using hv
  obtain ⟨y, hy, ry⟩ := vals_at rv hv'
  obtain ⟨cs, r1, h1, h2, _⟩ := PySem.W.readsAll_at (vs := its) hr i v hv'
  have e : (p :: ps).getD i .none = PySem.W.minD p ps := by
    have hmem : PySem.W.minD p ps ∈ p :: ps := by
      have : ∀ (l : List PyData) (x : PyData), l.foldl (fun a y => if PySem.W.dataLt y a then y else a) x ∈ x :: l := fun l => by
        induction l with
        | nil => intro x; simp
        | cons z l ih =>
          intro x
          rw [List.foldl_cons]
          have := ih (if PySem.W.dataLt z x then z else x)
          rcases List.mem_cons.mp this with h | h
          · rw [h]
            split <;> simp
          · simp [h]
      exact this ps p
    exact PySem.W.alike_unique _ _ v cs bs (ha.1 _ h2 _ hmem) (PySem.W.reads_keeps hk r1) rd
  refine ⟨y, H, I.kept hk, ry, q i y hy ?_⟩
  rw [← e, List.getD_eq_getElem?_getD, List.getElem?_eq_getElem h1]
  rfl
def minDF : D → Option OV
  | .lst xs => match pys xs with
    | some (p :: ps) => if alikeAllB (p :: ps) = true ∧ PyData.depthAll (p :: ps) ≤ 60 then some (.fz (unpy (PySem.W.minD p ps))) else none
    | _ => none
  | _ => none
theorem pys_get : ∀ {ds : List D} {ps : List PyData} {i : Nat} {p : PyData}, pys ds = some ps → ps[i]? = some p → ∃ d, ds[i]? = some d ∧ py d = some p
  | [], ps, i, p, h, e => by simp [pys] at h; subst h; simp at e
  | d :: ds, ps, i, p, h, e => by
    simp only [pys] at h
    obtain ⟨a, e1, h⟩ := Option.bind_eq_some_iff.mp h
    obtain ⟨b, e2, rfl⟩ := Option.map_eq_some_iff.mp h
    cases i with
    | zero => simp at e; subst e; exact ⟨d, rfl, e1⟩
    | succ i =>
      obtain ⟨d', h1, h2⟩ := pys_get (i := i) e2 (by simpa using e)
      exact ⟨d', by simpa using h1, h2⟩
theorem p1_minD {t : CT} {K : PySem.W.Frag} : P1 t (fun x H Q => rMinD K [x] H Q) minDF := fun H L x dx o Q l bx e k => by
  cases dx with
  | lst xs =>
    simp only [minDF] at e
    split at e
    · rename_i p ps ep
      split at e
      · rename_i hc
        cases e
        obtain ⟨G, O, lg⟩ := l
        obtain ⟨a, vs, rfl, hH, rr⟩ := bx.cmp G O lg
        refine ⟨a, vs, p, ps, rfl, SqL.of hH, dps_of (rr.mono lg.same) ep, alikeAll_of hc.1, hc.2, fun i v hv hi => ?_⟩
        obtain ⟨d, hd, hp⟩ := pys_get ep hi
        obtain ⟨d', hd', rv⟩ := rr.getV hv
        rw [hd] at hd'
        cases hd'
        refine k v H (Same.refl H) ?_
        rw [unpy_py d _ hp]
        exact ⟨G, O, lg.add (vs := [v]) (ds := [d]) (.cons rv .nil)⟩
      · cases e
    · cases e
  | _ => cases e
section
variable {X : Cx} {κ : Kx} {kp : List Nat} {pu p q r fl fl' : Bool} {e a b c tg : Expr} {pos ps apos : Pos} {es rest : List Expr} {ms : M (List Opd)}
theorem c_minD {k : Nat} (hr : Room k X.A) (hc : X.calm = true) (hm : X.mg "min" = none) (ha : SA X κ p (e :: es) ms) (hg : Gl X "min" := by rfl) (he : starEach (e :: es) X.env = (false, eval e X.env) :: starEach es X.env := by rfl) (hpl : (backTo pos (starEach es X.env)).any (·.1) = false := by rfl) : SE X κ p (.Call (.Name "min" ps) (e :: es) [] pos) (callP (n1 minDF) ms) :=
  se_callB (cr_minD (rm hr 100 (by decide)) hc) (pn1 p1_minD) hg hm PyProof.Rows.boot_min ha (by decide) (by decide) he hpl
/-! ### a, b, c, d = w, x, y, z -/
def putOs : List Nat → List OV → Env → Option Env
  | [], [], ρ => some ρ
  | i :: is, o :: os, ρ => if o.isNo = true ∨ ρ.length ≤ i then none else putOs is os (ρ.set i o)
  | _, _, _ => none
def tvs : List Opd → Option (List OV)
  | [] => some []
  | .tv o :: r => (tvs r).map fun os => o :: os
  | _ => none
def parsM (is : List Nat) (ms : M (List Opd)) : M Fl := bnd ms fun ods => fun ρ => match tvs ods with
  | some os => match putOs is os ρ with
    | some ρ' => some (.ok .nx, ρ')
    | none => none
  | none => none
theorem puts_live {t : CT} {H : Hp} {kp : List Nat} : ∀ {is : List Nat} {os : List OV} {vs : List V} {σ : L2.St} {ρ ρ' : Env} {fr : List (V × OV)}, (∀ i ∈ is, i ∉ kp) → vs.length = os.length → WS σ ρ → Live t H (vs.zip os ++ (prs σ ρ ++ fr)) → putOs is os ρ = some ρ' →
    vs.length = is.length ∧ WS (setsS σ is vs) ρ' ∧ Kp kp σ (setsS σ is vs) ∧ Live t H (prs (setsS σ is vs) ρ' ++ fr)
  | [], [], [], σ, ρ, ρ', fr, _, _, w, l, e => by cases e; exact ⟨rfl, w, .rfl, l⟩
  | i :: is, o :: os, v :: vs, σ, ρ, ρ', fr, hk, hl, w, l, e => by
    unfold putOs at e
    split at e
    · cases e
    · rename_i hc
      have l1 : Live t H ((v, o) :: (prs σ ρ ++ (vs.zip os ++ fr))) := l.perm (.cons _ (swapA _ _ _))
      have l2 := live_set2 w (i := i) (by omega) l1
      obtain ⟨h1, h2, h3, h4⟩ := puts_live (fun j hj => hk j (List.mem_cons_of_mem _ hj)) (by simpa using hl) w.set2 (l2.perm (swapA _ _ _)) e
      exact ⟨by simp [h1], h2, Kp.trans (Kp.set (hk i List.mem_cons_self)) h3, h4⟩
  | [], _ :: _, _, _, _, _, _, _, _, _, _, e => by cases e
  | _ :: _, [], _, _, _, _, _, _, _, _, _, e => by cases e
  | [], [], _ :: _, _, _, _, _, _, hl, _, _, _ => by cases hl
  | _ :: _, _ :: _, [], _, _, _, _, _, hl, _, _, _ => by cases hl
theorem tvs_odp : ∀ {ods : List Opd} {os : List OV} {vs : List V} {t : CT} {σ : L2.St} {H : Hp}, tvs ods = some os → OdRs t σ H ods vs → vs.length = os.length ∧ odp vs ods = vs.zip os
  | [], os, [], _, _, _, e, _ => by cases e; exact ⟨rfl, rfl⟩
  | [], _, _ :: _, _, _, _, _, r => r.elim
  | .tv o :: ods, os, v :: vs, _, _, _, e, r => by
    obtain ⟨os', e1, rfl⟩ := Option.map_eq_some_iff.mp (show (tvs ods).map (fun os => o :: os) = some os from e)
    obtain ⟨h1, h2⟩ := tvs_odp e1 r.2
    refine ⟨by simp [h1], ?_⟩
    show (v, o) :: odp vs ods = _
    rw [h2]
    rfl
  | _ :: _, _, [], _, _, _, _, r => r.elim
  | .pl _ :: _, _, _ :: _, _, _, _, e, _ => by cases e
  | .pf _ _ _ :: _, _, _ :: _, _, _, _, e, _ => by cases e
theorem ss_pars {is : List Nat} {tgs vals : List Expr} {kt k2 : Nat} {pt pt2 : Pos} (hc : X.calm = true) (hk : ∀ i ∈ is, i ∉ kp) (h16 : is.length ≤ 15) (hg : PG X (.Tuple tgs kt pt) (gTup X.K is.length (gNames is))) (ha : SA X κ p vals ms)
    (hs : swapsWithSole [.Tuple tgs kt pt] (.Tuple vals k2 pt2) pos.line X.env = pure false := by rfl)
    (hw : swappedStores [.Tuple tgs kt pt] (.Tuple vals k2 pt2) X.env = pure none := by rfl)
    (h1 : (assignEach [.Tuple tgs kt pt] X.env).map (·.2) = [assign (.Tuple tgs kt pt) X.env] := by rfl) :
    SS X κ kp (.Assign [.Tuple tgs kt pt] (.Tuple vals k2 pt2) pos) (parsM is ms) :=
  ⟨(ps_asg (pe_tup ha.pa) hg hs hw h1).imp fun D σ H ⟨ρ, fr, w, l, hp⟩ => by
  unfold parsM at hp
  rw [wp_bnd] at hp
  refine ⟨ρ, fr, w, l, wp_mono2 hp (fun ods ρ' k vs H' w' s' l' od' => ?_) fun x ρ' k => errK_of k⟩
  unfold wp at k
  cases e1 : tvs ods with
  | none => rw [e1] at k; exact k.elim
  | some os =>
    rw [e1] at k
    simp only at k
    cases e2 : putOs is os ρ' with
    | none => rw [e2] at k; exact k.elim
    | some ρ2 =>
      rw [e2] at k
      simp only at k
      obtain ⟨hl, hod⟩ := tvs_odp e1 od'
      rw [hod] at l'
      refine ⟨?_, fun pp hpp => ?_⟩
      · have : vs.length = is.length := (puts_live hk hl w' l' e2).1
        rw [this]
        exact Nat.le_trans h16 (by decide)
      · obtain ⟨G, O, lg⟩ := l'
        have l1 : Live κ.T (upd H' pp (.tup vs)) (vs.zip os ++ (prs σ ρ' ++ fr)) := ⟨_, _, (lg.newF (x := .tup vs) hpp).2⟩
        obtain ⟨h3, h4, h5, h6⟩ := puts_live hk hl w' l1 e2
        exact ⟨pp, vs, rfl, SqT.of upd_same, h3, gNames_ok h3 (k _ _ h4 h5 h6)⟩⟩
end
end Kv
/-! A def with a star parameter, called with plain arguments. -/
namespace Kv
open PySem hiding Env
open L2 PySem.Spec PyProof.Rows
def fzs : List OV → Option (List D)
  | [] => some []
  | .fz d :: r => (fzs r).map fun ds => d :: ds
  | _ => none
theorem fzs_some : ∀ {os : List OV} {ds : List D}, fzs os = some ds → os = ds.map OV.fz
  | [], ds, h => by cases h; rfl
  | .fz d :: r, ds, h => by
    obtain ⟨ds', e, rfl⟩ := Option.map_eq_some_iff.mp (show (fzs r).map (fun ds => d :: ds) = some ds from h)
    rw [fzs_some e]
    rfl
  | .no :: _, _, h => by cases h
  | .ol _ :: _, _, h => by cases h
  | .od _ _ _ :: _, _, h => by cases h
  | .oi _ _ :: _, _, h => by cases h
  | .oh _ _ :: _, _, h => by cases h
  | .lk _ :: _, _, h => by cases h
def starR (np : Nat) (F : List OV → Res) : List OV → Res := fun os => match fzs (os.drop np) with
  | some ds => if np ≤ os.length ∧ ds.length ≤ 1000 then match F (os.take np ++ [.fz (.tup ds)]) with
    | some (.ok o, outs) => if np ≤ outs.length then some (.ok o, outs.take np ++ ds.map OV.fz) else none
    | _ => none
    else none
  | none => none
theorem zip_app {α β : Type} : ∀ (a b : List α) (c : List β), (a ++ b).zip c = a.zip (c.take a.length) ++ b.zip (c.drop a.length)
  | [], b, c => by simp
  | x :: a, b, [] => by simp
  | x :: a, b, y :: c => by
    show (x, y) :: (a ++ b).zip c = (x, y) :: (a.zip (c.take a.length) ++ b.zip (c.drop a.length))
    rw [zip_app a b c]
theorem zipF_eq (vs : List V) : ∀ ds : List D, vs.zip (ds.map OV.fz) = zipF vs ds := fun ds => by
  unfold zipF
  rw [List.zip_map_right]
  rfl
abbrev xgF : Ex → List (V × OV) → XK → Prop := fun _ _ _ => False
theorem star_sp {t : CT} {np : Nat} {F : List OV → Res} {vs : List V} {H : Hp} {Q : VK} {E : XK} (h : spF t xgF (starR np F) vs H Q E) :
    ∃ ws rest, vs = ws ++ rest ∧ ws.length = np ∧ rest.length ≤ sizeLine ∧ ∀ p, H p = Option.none → spF t xgF F (ws ++ [V.ref p]) (upd H p (.tup rest)) Q E := by
  obtain ⟨os, fr, hl, l, h3⟩ := h
  unfold starR at h3
  cases e1 : fzs (os.drop np) with
  | none => rw [e1] at h3; exact h3.elim
  | some ds =>
    rw [e1] at h3
    simp only at h3
    by_cases hc : np ≤ os.length ∧ ds.length ≤ 1000
    · rw [if_pos hc] at h3
      have ed := fzs_some e1
      have hrl : (vs.drop np).length = ds.length := by
        have := congrArg List.length ed
        rw [List.length_drop, List.length_map] at this
        rw [List.length_drop]
        omega
      have hwl : (vs.take np).length = np := by rw [List.length_take]; omega
      refine ⟨vs.take np, vs.drop np, (List.take_append_drop np vs).symm, hwl, by rw [hrl]; exact Nat.le_trans hc.2 (by decide), fun p hp => ?_⟩
      have hz : vs.zip os = (vs.take np).zip (os.take np) ++ zipF (vs.drop np) ds := by
        have := zip_app (vs.take np) (vs.drop np) os
        rw [List.take_append_drop, hwl, ed, zipF_eq] at this
        exact this
      rw [hz, List.append_assoc] at l
      obtain ⟨G, O, lg⟩ := l.perm (swapA _ _ _)
      obtain ⟨rr, lg2⟩ := lg.sub hrl
      have l2 : Live t H (zipF (vs.drop np) ds ++ (zipF (vs.drop np) ds ++ ((vs.take np).zip (os.take np) ++ fr))) := ⟨G, O, (lg2.add rr).add rr⟩
      have l3 := Live.tup hrl l2 hp
      refine ⟨os.take np ++ [.fz (.tup ds)], zipF (vs.drop np) ds ++ fr, by simp [hwl]; omega, ?_, ?_⟩
      · have hzz : (vs.take np ++ [V.ref p]).zip (os.take np ++ [OV.fz (.tup ds)]) = (vs.take np).zip (os.take np) ++ [(V.ref p, OV.fz (.tup ds))] := by
          rw [List.zip_append (by rw [hwl, List.length_take]; omega)]
          rfl
        rw [hzz, List.append_assoc]
        refine l3.perm ?_
        refine List.Perm.trans ?_ List.perm_middle.symm
        exact .cons _ (swapA _ _ _)
      · cases e2 : F (os.take np ++ [.fz (.tup ds)]) with
        | none => rw [e2] at h3; exact h3.elim
        | some q =>
          obtain ⟨res, outs⟩ := q
          rw [e2] at h3
          cases res with
          | error x => exact h3.elim
          | ok o =>
            simp only at h3
            by_cases ho : np ≤ outs.length
            · rw [if_pos ho] at h3
              intro v H' l4
              refine h3 v H' ?_
              have z1 : (vs.take np ++ [V.ref p]).zip outs = (vs.take np).zip (outs.take np) ++ [V.ref p].zip (outs.drop np) := by
                rw [zip_app, hwl]
              have z2 : vs.zip (outs.take np ++ ds.map OV.fz) = (vs.take np).zip (outs.take np) ++ zipF (vs.drop np) ds := by
                have := zip_app (vs.take np) (vs.drop np) (outs.take np ++ ds.map OV.fz)
                rw [List.take_append_drop, hwl] at this
                have t1 : (outs.take np ++ ds.map OV.fz).take np = outs.take np := by
                  rw [List.take_append_of_le_length (by rw [List.length_take]; omega), List.take_take, Nat.min_self]
                have t2 : (outs.take np ++ ds.map OV.fz).drop np = ds.map OV.fz := by
                  rw [List.drop_append_of_le_length (by rw [List.length_take]; omega), List.drop_eq_nil_of_le (by rw [List.length_take]; omega), List.nil_append]
                rw [t1, t2, zipF_eq] at this
                exact this
              rw [z2]
              rw [z1] at l4
              have l5 : Live t H' ([V.ref p].zip (outs.drop np) ++ ((v, o) :: ((vs.take np).zip (outs.take np) ++ (zipF (vs.drop np) ds ++ fr)))) := by
                refine l4.perm ?_
                rw [List.append_assoc]
                refine List.Perm.trans (.cons _ (swapA _ _ _)) ?_
                exact List.perm_middle.symm
              have l6 := l5.drop
              rw [List.append_assoc]
              exact l6
            · rw [if_neg ho] at h3; exact h3.elim
    · rw [if_neg hc] at h3; exact h3.elim
structure FnS (P : Program) (w : World) (K : PySem.W.Frag) (mg : Str → Option Value) (base : Heap) (k : Nat) (t : CT) (f : Addr) (F : List OV → Res) : Prop where
  fn : FnR P w K mg base CX0 k f (spF t xgF F)
  kp : PySem.W.keepIn K (.ref f) = true
section
variable {P : Program} {w : World} {K : PySem.W.Frag} {mg : Str → Option Value} {base : Heap}
theorem body_sp {qual : Str} {st : Stmt} {f : Addr} {N ps : List Str} {t : CT} {kp : List Nat} {m : M Fl} {cdv : Value} {A : Around} {outer : List PySem.Env} {s : Shared} {H : Hp} {E : XK} {vs : List V} {Q : VK}
    (body : SSs (cxOf CX0 P w K mg base N qual (defScope st) f cdv A outer s H E).nox (kxOf t) kp (defBody st) m) (h : spF t xgF (fnR N.length ps.length kp m) vs H Q E) :
    ∃ t', PSs (cxOf CX0 P w K mg base N qual (defScope st) f cdv A outer s H E).nox (defBody st) t' ∧ t' { nx := fun _ H' => Q .non H', rt := Q } (L2.start N vs) H := by
  obtain ⟨os, fr, h1, h2, h3⟩ := h
  refine ⟨_, body.ps, ?_⟩
  unfold fnR at h3
  by_cases he : os.length = ps.length
  · rw [if_pos he] at h3
    have hst : L2.start N vs = vs.map some ++ List.replicate (N.length - ps.length) none := by unfold L2.start; rw [h1, he]
    rw [hst]
    have w0 := start_ws (N := N) h1 (N.length - ps.length)
    refine ⟨os ++ List.replicate (N.length - ps.length) .no, fr, w0, ?_, ?_⟩
    · rw [start_prs (N := N) h1]
      exact (live_nos h2 _).perm (by rw [← List.append_assoc]; exact List.perm_append_comm.append_right _)
    · have back : ∀ {σ' : L2.St} {ρ' : Env} {H' : Hp} {fr' : List (V × OV)}, WS σ' ρ' → Kp kp (vs.map some ++ List.replicate (N.length - ps.length) none) σ' → ps.length ≤ ρ'.length → Live t H' (prs σ' ρ' ++ fr') → Live t H' (vs.zip (outsOf kp ps.length ρ') ++ fr') := fun {σ' ρ' H' fr'} w' k' hl' l' => by
        refine outs_live w' ps.length (by rw [h1, he]) (fun j hj hlt => ?_) (by rw [w'.len]; exact hl') l'
        rw [k' j hj, List.getElem?_append_left (by simp; omega), List.getElem?_map, List.getElem?_eq_getElem (by omega)]
        rfl
      unfold wp
      cases em : m (os ++ List.replicate (N.length - ps.length) .no) with
      | none => rw [em] at h3; exact h3.elim
      | some p =>
        obtain ⟨r, ρ'⟩ := p
        rw [em] at h3
        cases r with
        | error x => exact h3.elim
        | ok fl =>
          cases fl with
          | nx =>
            simp only at h3
            split at h3
            · exact h3.elim
            · rename_i e1
              split at e1
              · rename_i hl
                cases e1
                exact fun σ' H' a b c => h3 .non H' (live_non (back a b hl c))
              · cases e1
            · rename_i e1
              split at e1 <;> cases e1
          | rt o =>
            simp only at h3
            split at h3
            · exact h3.elim
            · rename_i e1
              split at e1
              · rename_i hl
                cases e1
                exact fun v σ' H' a b c => h3 v H' ((back (fr' := (v, o) :: fr) a b hl (c.perm List.perm_middle.symm)).perm List.perm_middle)
              · cases e1
            · rename_i e1
              split at e1 <;> cases e1
          | bk => exact h3.elim
          | ct => exact h3.elim
  · rw [if_neg he] at h3
    exact h3.elim
/-- def f(a, *v) -/
theorem fnS_ok {x qual : Str} {st : Stmt} {f : Addr} {fd : FuncData} {N ps : List Str} {pv : Str} {k : Nat} {t : CT} {kp : List Nat} {m : M Fl} (F : Fun K x qual st f fd) (S : FnScope N (ps ++ [pv]) (defScope st))
    (hb : ∀ us rest : List Value, us.length = ps.length → bindArgs fd ⟨us ++ rest, []⟩ = (newTuple rest >>= fun t => pure (ps.zip us ++ [(pv, t)])))
    (body : ∀ (cdv : Value) (A : Around) (outer : List PySem.Env) (s : Shared) (H : Hp) (E : XK), Room k (A.deeper (envOfC qual (defScope st) s.heap.objs.size f cdv)) →
      SSs (cxOf CX0 P w K mg base N qual (defScope st) f cdv A outer s H E).nox (kxOf t) kp (defBody st) m) : FnS P w K mg base (k + 1) t f (starR ps.length (fnR N.length (ps ++ [pv]).length kp m)) := by
  obtain ⟨oc, od, kV, doc, pm, an, cdv, ct, osl, rfl, lk, hcd⟩ := F.ex
  refine ⟨FnR.imp (StX.fn_star (sp := spF t xgF (fnR N.length (ps ++ [pv]).length kp m)) lk hcd S StX.cxUp_none hb fun A outer s H vs Q E hr hsp => ?_) fun vs H Q E h => star_sp h, F.kp⟩
  obtain ⟨t', h, q⟩ := body_sp (ps := ps ++ [pv]) (body cdv A outer s H E hr) hsp
  exact ⟨t', h.nox, q⟩
end
section
variable {X : Cx} {κ : Kx} {p : Bool} {e : Expr} {pos ps : Pos} {es : List Expr} {k : Nat} {f : Addr} {F : List OV → Res} {E : XK}
theorem se_callS {x : Str} {ms : M (List Opd)} (hF : FnS X.prog X.w X.K X.mg X.base k κ.T f F) (hx : Passes CX0 X E) (hX : ∀ x L, ¬ κ.xc x L) (hr : Room k X.A) (hg : Gl X x) (hm : X.mg x = some (.ref f)) (ha : SA X κ p (e :: es) ms) (hdb : (x == ("__debug__" : Str)) = false := by decide) (he : starEach (e :: es) X.env = (false, eval e X.env) :: starEach es X.env := by rfl) (hpl : (backTo pos (starEach es X.env)).any (·.1) = false := by rfl) :
    SE X κ false (.Call (.Name x ps) (e :: es) [] pos) (callM F ms) := by
  have hpe : PE X (.Call (.Name x ps) (e :: es) [] pos) (fun σ H Q => TAo κ p ms σ H fun vs H1 => spF κ.T xgF F vs H1 Q E) := by
    refine ⟨fun pins s σ H Q I h => ?_⟩
    refine wpAny_Call_Name_kw (ld_glob I hg hm ?_ hdb)
    refine PySem.W.callWith_K (h₀ := X.base) I.ok.mod.kin hF.kp (thn (ha.pa.run pos pins s σ H _ I h) fun us s1 ⟨vs, H1, I1, r, q⟩ => ⟨I1.kIn, ?_⟩) he hpl
    exact wpAny_call (run_fnR hF.fn hr hx I1 r q)
  refine ⟨hpe.imp fun σ H Q ⟨ρ, fr, w, l, hp⟩ => ?_⟩
  unfold callM at hp
  rw [wp_bnd] at hp
  refine ⟨ρ, fr, w, l, wp_mono hp fun ods ρ1 hp vs H1 w1 s1 l1 r1 => ?_⟩
  exact callO_core (fun x L h => hX x L h) w1 l1 r1 (wp_mono hp fun o ρ' k v H' w' l' => k v H' w' (fun h => nomatch h) l')
end
end Kv
/-! Running computations by hand. -/
namespace Kv
open PySem L2
/-! ### running computations -/
section
variable {α β : Type}
theorem wp_ok {m : M α} {ρ ρ' : Env} {a : α} {Q : α → Env → Prop} {E : Ex → Env → Prop} (h : m ρ = some (.ok a, ρ')) (k : Q a ρ') : wp m ρ Q E := by unfold wp; rw [h]; exact k
theorem bnd_ok {m : M α} {f : α → M β} {ρ ρ' : Env} {a : α} (h : m ρ = some (.ok a, ρ')) : bnd m f ρ = f a ρ' := by unfold bnd; rw [h]
theorem w_bnd {m : M α} {f : α → M β} {ρ ρ' : Env} {a : α} {Q : β → Env → Prop} {E : Ex → Env → Prop} (h : m ρ = some (.ok a, ρ')) (k : wp (f a) ρ' Q E) : wp (bnd m f) ρ Q E := by rw [wp_bnd]; exact wp_ok h k
variable {m1 m2 : M Fl} {mc : M Bool} {m : M OV} {ma mb : M Opd} {ρ ρ1 ρ2 : Env} {Q : Fl → Env → Prop} {E : Ex → Env → Prop} {o : OV} {i : Nat}
theorem w_seq (h : wp m1 ρ (fun f ρ' => match f with | .nx => wp m2 ρ' Q E | f => Q f ρ') E) : wp (seqM m1 m2) ρ Q E := by
  unfold seqM
  rw [wp_bnd]
  refine wp_mono h fun f ρ' k => ?_
  cases f <;> exact k
theorem s_nx (h : m1 ρ = some (.ok .nx, ρ1)) (k : wp m2 ρ1 Q E) : wp (seqM m1 m2) ρ Q E := w_seq (wp_ok h k)
theorem w_set (h : m ρ = some (.ok o, ρ1)) (hn : o.isNo = false) (hi : i < ρ1.length) : setN i m ρ = some (.ok .nx, ρ1.set i o) := by
  unfold setN
  rw [bnd_ok h]
  simp [hn, hi]
theorem s_set (h : m ρ = some (.ok o, ρ1)) (hn : o.isNo = false) (hi : i < ρ1.length) (k : wp m2 (ρ1.set i o) Q E) : wp (seqM (setN i m) m2) ρ Q E := s_nx (w_set h hn hi) k
theorem w_if {b : Bool} (h : mc ρ = some (.ok b, ρ1)) (h1 : b = true → wp m1 ρ1 Q E) (h2 : b = false → wp m2 ρ1 Q E) : wp (ifS mc m1 m2) ρ Q E := by
  unfold ifS
  refine w_bnd h ?_
  cases b with
  | true => exact h1 rfl
  | false => exact h2 rfl
theorem s_if {b : Bool} {m3 : M Fl} (h : mc ρ = some (.ok b, ρ1)) (h1 : b = true → wp m1 ρ1 (fun f ρ' => match f with | .nx => wp m3 ρ' Q E | f => Q f ρ') E) (h2 : b = false → wp m2 ρ1 (fun f ρ' => match f with | .nx => wp m3 ρ' Q E | f => Q f ρ') E) : wp (seqM (ifS mc m1 m2) m3) ρ Q E := w_seq (w_if h h1 h2)
theorem w_ret (h : m ρ = some (.ok o, ρ1)) (k : Q (.rt o) ρ1) : wp (retM m) ρ Q E := w_bnd h k
theorem bin2_ok {f : D → D → Option OV} {x y : Opd} {dx dy : D} (h1 : ma ρ = some (.ok x, ρ1)) (h2 : mb ρ1 = some (.ok y, ρ2)) (h3 : peek ρ2 x = some dx) (h4 : peek ρ2 y = some dy) (h5 : f dx dy = some o) : bin2 f ma mb ρ = some (.ok o, ρ2) := by
  unfold bin2
  rw [bnd_ok h1, bnd_ok h2, bnd_ok (show pk x ρ2 = some (.ok dx, ρ2) by unfold pk; rw [h3]; rfl), bnd_ok (show pk y ρ2 = some (.ok dy, ρ2) by unfold pk; rw [h4]; rfl), h5]
  rfl
theorem tmp_ok (h : m ρ = some (.ok o, ρ1)) : tmp m ρ = some (.ok (.tv o), ρ1) := by unfold tmp; rw [bnd_ok h]; rfl
theorem putL_ok {mv mk : M OV} {ov ok : OV} {ρ3 ρ4 : Env} {x : Opd} {d kd : D} (h1 : mv ρ = some (.ok ov, ρ1)) (h2 : froz ov = some d) (h3 : ma ρ1 = some (.ok x, ρ2)) (h4 : mk ρ2 = some (.ok ok, ρ3)) (h5 : froz ok = some kd) (h6 : mutO (setG kd d) x ρ3 = some ρ4) : putLS mv ma mk ρ = some (.ok .nx, ρ4) := by
  unfold putLS
  rw [bnd_ok h1, h2]
  show bnd ma _ ρ1 = _
  rw [bnd_ok h3, bnd_ok h4, h5]
  show bnd (mutM (setG kd d) x) _ ρ3 = _
  rw [bnd_ok (show mutM (setG kd d) x ρ3 = some (.ok (), ρ4) by unfold mutM; rw [h6])]
  rfl
end
theorem call1_ok {f : List D → Option OV} {ma : M Opd} {ρ ρ1 : Env} {x : Opd} {d : D} {o : OV} (h1 : ma ρ = some (.ok x, ρ1)) (h2 : peek ρ1 x = some d) (h3 : f [d] = some o) : callP f (consO ma (ret [])) ρ = some (.ok o, ρ1) := by
  unfold callP consO
  rw [bnd_ok (show bnd ma (fun x => bnd (ret []) fun xs => ret (x :: xs)) ρ = some (.ok [x], ρ1) by rw [bnd_ok h1]; rfl)]
  rw [bnd_ok (show pks [x] ρ1 = some (.ok [d], ρ1) by unfold pks peeks; rw [h2]; rfl), h3]
  rfl
theorem call2_ok {f : List D → Option OV} {ma mb : M Opd} {ρ ρ1 ρ2 : Env} {x y : Opd} {d e : D} {o : OV} (h1 : ma ρ = some (.ok x, ρ1)) (h1' : mb ρ1 = some (.ok y, ρ2)) (h2 : peek ρ2 x = some d) (h2' : peek ρ2 y = some e) (h3 : f [d, e] = some o) : callP f (consO ma (consO mb (ret []))) ρ = some (.ok o, ρ2) := by
  unfold callP consO
  rw [bnd_ok (show bnd ma (fun x => bnd (bnd mb fun x => bnd (ret []) fun xs => ret (x :: xs)) fun xs => ret (x :: xs)) ρ = some (.ok [x, y], ρ2) by rw [bnd_ok h1, bnd_ok (show bnd mb (fun x => bnd (ret []) fun xs => ret (x :: xs)) ρ1 = some (.ok [y], ρ2) by rw [bnd_ok h1']; rfl)]; rfl)]
  rw [bnd_ok (show pks [x, y] ρ2 = some (.ok [d, e], ρ2) by unfold pks peeks; rw [h2]; unfold peeks; rw [h2']; rfl), h3]
  rfl
theorem if_ok {γ : Type} {mc : M Bool} {n k : M γ} {ρ ρ1 : Env} {b : Bool} (h : mc ρ = some (.ok b, ρ1)) : ifM mc n k ρ = (if b = true then n ρ1 else k ρ1) := by
  unfold ifM
  rw [bnd_ok h]
  cases b <;> rfl
theorem ix_frl {xs : List D} {i : Int} (h : 0 ≤ i) (h2 : i < xs.length) : ∃ d, d ∈ xs ∧ oe ixF itemD (.frl xs) (.int i) = some (.fz d) := by
  have hi : i.toNat < xs.length := by omega
  refine ⟨xs[i.toNat], List.getElem_mem hi, ?_⟩
  simp [oe, ixF, atI, ixN, h, h2, List.getElem?_eq_getElem hi]
theorem ix_lst {xs : List D} {i : Int} (h : 0 ≤ i) (h2 : i < xs.length) : ∃ d, xs[i.toNat]? = some d ∧ d ∈ xs ∧ oe ixF itemD (.lst xs) (.int i) = some (.fz d) := by
  have hi : i.toNat < xs.length := by omega
  refine ⟨xs[i.toNat], List.getElem?_eq_getElem hi, List.getElem_mem hi, ?_⟩
  simp [oe, ixF, atI, ixN, h, h2, List.getElem?_eq_getElem hi]
theorem ix_tup {xs : List D} {i : Int} (h : 0 ≤ i) (h2 : i < xs.length) : ∃ d, xs[i.toNat]? = some d ∧ d ∈ xs ∧ oe ixF itemD (.tup xs) (.int i) = some (.fz d) := by
  have hi : i.toNat < xs.length := by omega
  refine ⟨xs[i.toNat], List.getElem?_eq_getElem hi, List.getElem_mem hi, ?_⟩
  simp [oe, ixF, atI, ixN, h, h2, List.getElem?_eq_getElem hi]
theorem mod_ok {i j : Int} (h : 0 < j) : modF (.int i) (.int j) = some (.fz (.int (i.fmod j))) := by
  have : modB i j = true := by unfold modB; simp; omega
  simp [modF, iiF, this]
theorem fdv_ok {i j : Int} (h : 0 < j) (h2 : j < 1000000) : fdvF (.int i) (.int j) = some (.fz (.int (i.fdiv j))) := by
  have : divB i j = true := by unfold divB; simp; omega
  simp [fdvF, iiF, this]
/-- a def that answers -/
structure FO (F : List OV → Res) (os : List OV) (P : OV → List OV → Prop) : Prop where
  ex : ∃ o outs, F os = some (.ok o, outs) ∧ P o outs
theorem fo_fnR {n np : Nat} {kp : List Nat} {m : M Fl} {os : List OV} {P : OV → List OV → Prop} (hl : os.length = np) (h : wp m (os ++ List.replicate (n - np) .no) (fun f ρ' => np ≤ ρ'.length ∧ match f with | .rt o => P o (outsOf kp np ρ') | .nx => P (.fz .non) (outsOf kp np ρ') | _ => False) (fun _ _ => False)) : FO (fnR n np kp m) os P := by
  refine ⟨?_⟩
  unfold fnR
  rw [if_pos hl]
  unfold wp at h
  split at h
  · exact h.elim
  · rename_i f ρ' e
    rw [e]
    cases f with
    | rt o => simp only at h ⊢; rw [if_pos h.1]; exact ⟨_, _, rfl, h.2⟩
    | nx => simp only at h ⊢; rw [if_pos h.1]; exact ⟨_, _, rfl, h.2⟩
    | bk => exact h.2.elim
    | ct => exact h.2.elim
  · exact h.elim
theorem fmod_pos {a b : Int} (h : 0 < b) : 0 ≤ a.fmod b ∧ a.fmod b < b := by
  rw [Int.fmod_eq_emod_of_nonneg a (Int.le_of_lt h)]
  exact ⟨Int.emod_nonneg a (by omega), Int.emod_lt_of_pos a h⟩
theorem wp_ex {α : Type} {m : M α} {ρ : Env} {Q : α → Env → Prop} (h : wp m ρ Q (fun _ _ => False)) : ∃ a ρ', m ρ = some (.ok a, ρ') ∧ Q a ρ' := by
  unfold wp at h
  split at h
  · exact h.elim
  · rename_i e; exact ⟨_, _, e, h⟩
  · exact h.elim
theorem fo_ex {F : List OV → Res} {os : List OV} {P : OV → List OV → Prop} (h : FO F os P) : ∃ o outs, F os = some (.ok o, outs) ∧ P o outs := h.ex
theorem call_ok {F : List OV → Res} {ms : M (List Opd)} {ρ ρ1 ρ2 : Env} {ods : List Opd} {os outs : List OV} {o : OV} (h1 : ms ρ = some (.ok ods, ρ1)) (h2 : takes ρ1 ods = some (os, ρ2)) (h3 : F os = some (.ok o, outs)) : callM F ms ρ = some (.ok o, puts ods os outs ρ2) := by
  unfold callM
  rw [bnd_ok h1]
  unfold callO
  rw [h2]
  simp only
  rw [h3]
theorem call_ok' {F : List OV → Res} {ms : M (List Opd)} {ρ ρ1 ρ2 ρ3 : Env} {ods : List Opd} {os outs : List OV} {o : OV} (h1 : ms ρ = some (.ok ods, ρ1)) (h2 : takes ρ1 ods = some (os, ρ2)) (h3 : F os = some (.ok o, outs)) (h4 : puts ods os outs ρ2 = ρ3) : callM F ms ρ = some (.ok o, ρ3) := by
  rw [← h4]; exact call_ok h1 h2 h3
theorem fnR_ok {n np : Nat} {kp : List Nat} {m : M Fl} {os : List OV} {ρ' : Env} {o : OV} (hl : os.length = np) (h : m (os ++ List.replicate (n - np) .no) = some (.ok (.rt o), ρ')) (h2 : np ≤ ρ'.length) : fnR n np kp m os = some (.ok o, outsOf kp np ρ') := by
  unfold fnR
  rw [if_pos hl, h]
  simp only
  rw [if_pos h2]
theorem wp_floop {g : D → Env → Option Env} {b : M Fl} {I : List D → Env → Prop} {Q : Fl → Env → Prop} {E : Ex → Env → Prop} (step : ∀ d ds ρ, I (d :: ds) ρ → ∃ ρ1, g d ρ = some ρ1 ∧ wp b ρ1 (fun f ρ' => match f with | .nx => I ds ρ' | .ct => I ds ρ' | .bk => Q .nx ρ' | .rt o => Q (.rt o) ρ') E)
    (fin : ∀ ρ, I [] ρ → Q .nx ρ) : ∀ {ds : List D} {ρ : Env}, I ds ρ → wp (floop g b ds) ρ Q E
  | [], ρ, h => fin ρ h
  | d :: ds, ρ, h => by
    obtain ⟨ρ1, e, k⟩ := step d ds ρ h
    have : wp (bnd b fun f => match f with
      | .nx => floop g b ds
      | .ct => floop g b ds
      | .bk => ret .nx
      | .rt o => ret (.rt o)) ρ1 Q E := by
      rw [wp_bnd]
      refine wp_mono k fun f ρ' k => ?_
      cases f with
      | nx => exact wp_floop step fin k
      | ct => exact wp_floop step fin k
      | bk => exact k
      | rt o => exact k
    unfold wp floop
    rw [e]
    exact this
theorem w_for {it : M (List D)} {g : D → Env → Option Env} {b : M Fl} {I : List D → Env → Prop} {Q : Fl → Env → Prop} {E : Ex → Env → Prop} {ds : List D} {ρ ρ1 : Env} (h : it ρ = some (.ok ds, ρ1)) (h0 : I ds ρ1) (step : ∀ d ds ρ, I (d :: ds) ρ → ∃ ρ1, g d ρ = some ρ1 ∧ wp b ρ1 (fun f ρ' => match f with | .nx => I ds ρ' | .ct => I ds ρ' | .bk => Q .nx ρ' | .rt o => Q (.rt o) ρ') E)
    (fin : ∀ ρ, I [] ρ → Q .nx ρ) : wp (forM it g b) ρ Q E := by
  unfold forM
  exact w_bnd h (wp_floop step fin h0)
theorem wp_cloop {vs : List Nat} {g : D → Env → Option Env} {c : M Bool} {e : M OV} {I : List D → List D → Env → Prop} {Q : List D → Env → Prop} {E : Ex → Env → Prop}
    (step : ∀ d ds acc ρ, I (d :: ds) acc ρ → ∃ ρ1, g d (wipeE ρ vs) = some ρ1 ∧ wp c ρ1 (fun k ρ2 => match k with | true => wp e ρ2 (fun o ρ3 => ∃ x, froz o = some x ∧ I ds (acc ++ [x]) ρ3) E | false => I ds acc ρ2) E)
    (fin : ∀ acc ρ, I [] acc ρ → Q acc ρ) : ∀ {ds acc : List D} {ρ : Env}, I ds acc ρ → wp (cloop vs g c e ds acc) ρ Q E
  | [], acc, ρ, h => fin acc ρ h
  | d :: ds, acc, ρ, h => by
    obtain ⟨ρ1, e1, k⟩ := step d ds acc ρ h
    have : wp (bnd c fun k => match k with
      | true => bnd e fun o => bnd (ofO (froz o)) fun x => cloop vs g c e ds (acc ++ [x])
      | false => cloop vs g c e ds acc) ρ1 Q E := by
      rw [wp_bnd]
      refine wp_mono k fun b ρ2 k => ?_
      cases b with
      | false => exact wp_cloop step fin k
      | true =>
        show wp (bnd e fun o => bnd (ofO (froz o)) fun x => cloop vs g c e ds (acc ++ [x])) ρ2 Q E
        rw [wp_bnd]
        refine wp_mono k fun o ρ3 k => ?_
        obtain ⟨x, ex, k⟩ := k
        exact w_bnd (show ofO (froz o) ρ3 = some (.ok x, ρ3) by rw [ex]; rfl) (wp_cloop step fin k)
    unfold wp cloop
    rw [e1]
    exact this
theorem comp_ex {vs : List Nat} {it : M (List D)} {g : D → Env → Option Env} {c : M Bool} {e : M OV} {I : List D → List D → Env → Prop} {ds : List D} {ρ ρ1 : Env} (h : it ρ = some (.ok ds, ρ1)) (hl : ds.length ≤ 100000) (h0 : I ds [] ρ1)
    (step : ∀ d ds acc ρ, I (d :: ds) acc ρ → ∃ ρ1, g d (wipeE ρ vs) = some ρ1 ∧ wp c ρ1 (fun k ρ2 => match k with | true => wp e ρ2 (fun o ρ3 => ∃ x, froz o = some x ∧ I ds (acc ++ [x]) ρ3) (fun _ _ => False) | false => I ds acc ρ2) (fun _ _ => False)) :
    ∃ xs ρ', compM vs it g c e ρ = some (.ok (.ol xs), wipeE ρ' vs) ∧ I [] xs ρ' := by
  obtain ⟨xs, ρ', e1, k⟩ := wp_ex (wp_cloop (Q := fun xs ρ' => I [] xs ρ') step (fun _ _ h => h) h0)
  refine ⟨xs, ρ', ?_, k⟩
  unfold compM
  rw [bnd_ok h, if_pos hl, bnd_ok (show unwipe vs (noex (cloop vs g c e ds [])) ρ1 = some (.ok xs, wipeE ρ' vs) by unfold unwipe noex; rw [e1])]
  rfl
theorem par_ok {i j : Nat} {ma mb : M OV} {ρ ρ1 ρ2 : Env} {a b : OV} (h1 : ma ρ = some (.ok a, ρ1)) (h2 : mb ρ1 = some (.ok b, ρ2)) (ha : a.isNo = false) (hb : b.isNo = false) (hi : i < ρ2.length) (hj : j < ρ2.length) : parM i j (consO (tmp ma) (consO (tmp mb) (ret []))) ρ = some (.ok .nx, (ρ2.set i a).set j b) := by
  unfold parM consO
  rw [bnd_ok (show bnd (tmp ma) (fun x => bnd (bnd (tmp mb) fun x => bnd (ret []) fun xs => ret (x :: xs)) fun xs => ret (x :: xs)) ρ = some (.ok [.tv a, .tv b], ρ2) by rw [bnd_ok (tmp_ok h1), bnd_ok (show bnd (tmp mb) (fun x => bnd (ret []) fun xs => ret (x :: xs)) ρ1 = some (.ok [.tv b], ρ2) by rw [bnd_ok (tmp_ok h2)]; rfl)]; rfl)]
  show setOO i j a b ρ2 = _
  unfold setOO
  rw [if_neg]
  simp [ha, hb]
  omega
theorem consD_ok {m : M OV} {ms : M (List D)} {ρ ρ1 ρ2 : Env} {o : OV} {d : D} {ds : List D} (h1 : m ρ = some (.ok o, ρ1)) (h2 : froz o = some d) (h3 : ms ρ1 = some (.ok ds, ρ2)) : consD m ms ρ = some (.ok (d :: ds), ρ2) := by
  unfold consD
  rw [bnd_ok h1, h2]
  show bnd ms _ ρ1 = _
  rw [bnd_ok h3]
  rfl
theorem consO_ok {m : M Opd} {ms : M (List Opd)} {ρ ρ1 ρ2 : Env} {o : Opd} {ds : List Opd} (h1 : m ρ = some (.ok o, ρ1)) (h3 : ms ρ1 = some (.ok ds, ρ2)) : consO m ms ρ = some (.ok (o :: ds), ρ2) := by
  unfold consO
  rw [bnd_ok h1, bnd_ok h3]
  rfl
theorem tup_ok {ms : M (List D)} {ρ ρ1 : Env} {ds : List D} (h : ms ρ = some (.ok ds, ρ1)) (hl : ds.length ≤ 100000) : tupM ms ρ = some (.ok (.fz (.tup ds)), ρ1) := by
  unfold tupM
  rw [bnd_ok h, if_pos hl]
  rfl
theorem lst_ok {ms : M (List D)} {ρ ρ1 : Env} {ds : List D} (h : ms ρ = some (.ok ds, ρ1)) (hl : ds.length ≤ 100000) : lstM ms ρ = some (.ok (.ol ds), ρ1) := by
  unfold lstM
  rw [bnd_ok h, if_pos hl]
  rfl
theorem ret_ok {m : M OV} {ρ ρ1 : Env} {o : OV} (h : m ρ = some (.ok o, ρ1)) : retM m ρ = some (.ok (.rt o), ρ1) := by
  unfold retM
  rw [bnd_ok h]
  rfl
theorem m1_ok {f : D → D → Option OV} {ma mb : M Opd} {ρ ρ1 ρ2 : Env} {x y : Opd} {z : Str} {dy : D} {o : OV} (h1 : ma ρ = some (.ok x, ρ1)) (h2 : peek ρ1 x = some (.str z)) (h3 : mb ρ1 = some (.ok y, ρ2)) (h4 : peek ρ2 y = some dy) (h5 : f (.str z) dy = some o) : m1M f ma mb ρ = some (.ok o, ρ2) := by
  unfold m1M
  rw [bnd_ok h1]
  show bnd (pkS x) _ ρ1 = _
  rw [bnd_ok (show pkS x ρ1 = some (.ok z, ρ1) by unfold pkS; rw [h2])]
  show bnd mb _ ρ1 = _
  rw [bnd_ok h3]
  show bnd (pk y) _ ρ2 = _
  rw [bnd_ok (show pk y ρ2 = some (.ok dy, ρ2) by unfold pk; rw [h4]; rfl), h5]
  rfl
theorem sl_ok {f : D → Option Int → Option Int → Option OV} {ma : M Opd} {ml mh : M (Option Int)} {ρ ρ1 ρ2 ρ3 : Env} {x : Opd} {lo hi : Option Int} {dx : D} {o : OV} (h1 : ma ρ = some (.ok x, ρ1)) (h2 : ml ρ1 = some (.ok lo, ρ2)) (h3 : mh ρ2 = some (.ok hi, ρ3)) (h4 : peek ρ3 x = some dx) (h5 : f dx lo hi = some o) : slM f ma ml mh ρ = some (.ok o, ρ3) := by
  unfold slM
  rw [bnd_ok h1]
  show bnd ml _ ρ1 = _
  rw [bnd_ok h2]
  show bnd mh _ ρ2 = _
  rw [bnd_ok h3]
  show bnd (pk x) _ ρ3 = _
  rw [bnd_ok (show pk x ρ3 = some (.ok dx, ρ3) by unfold pk; rw [h4]; rfl), h5]
  rfl
theorem intP_ok {m : M OV} {ρ ρ1 : Env} {i : Int} (h : m ρ = some (.ok (.fz (.int i)), ρ1)) : intP m ρ = some (.ok (some i), ρ1) := by
  unfold intP
  rw [bnd_ok h]
  rfl
theorem mut_app {i : Nat} {ρ : Env} {xs : List D} {d : D} (h : ρ[i]? = some (.ol xs)) (hl : xs.length < 1000000) : mutO (appG d) (.pl i) ρ = some (ρ.set i (.ol (xs ++ [d]))) := by
  simp [mutO, h, appG, hl]
theorem app_ok {mo : M Opd} {ms : M (List D)} {ρ ρ1 ρ2 ρ3 : Env} {x : Opd} {ds : List D} {d : D} (h1 : mo ρ = some (.ok x, ρ1)) (h2 : peek ρ1 x = some (.lst ds)) (h3 : ms ρ1 = some (.ok [d], ρ2)) (h4 : mutO (appG d) x ρ2 = some ρ3) : appM mo ms ρ = some (.ok (.fz .non), ρ3) := by
  unfold appM
  rw [bnd_ok h1]
  show bnd (pkL x) _ ρ1 = _
  rw [bnd_ok (show pkL x ρ1 = some (.ok (), ρ1) by unfold pkL; rw [h2])]
  show bnd ms _ ρ1 = _
  rw [bnd_ok h3]
  show bnd (mutM (appG d) x) _ ρ2 = _
  rw [bnd_ok (show mutM (appG d) x ρ2 = some (.ok (), ρ3) by unfold mutM; rw [h4])]
  rfl
theorem drop_ok {α : Type} {m : M α} {ρ ρ1 : Env} {a : α} (h : m ρ = some (.ok a, ρ1)) : dropM m ρ = some (.ok .nx, ρ1) := by
  unfold dropM
  rw [bnd_ok h]
  rfl
theorem tob_ok {m : M OV} {ρ ρ1 : Env} {b : Bool} (h : m ρ = some (.ok (.fz (.bl b)), ρ1)) : tob m ρ = some (.ok b, ρ1) := by
  unfold tob
  rw [bnd_ok h]
  rfl
theorem lenN_tup (xs : List D) : lenN [.tup xs] = some (.fz (.int xs.length)) := rfl
theorem lenN_lst (xs : List D) : lenN [.lst xs] = some (.fz (.int xs.length)) := rfl
theorem rng1_ok {ms : M (List Opd)} {ρ ρ1 : Env} {ods : List Opd} {n : Int} (h : ms ρ = some (.ok ods, ρ1)) (h2 : peeks ρ1 ods = some [.int n]) (h3 : 0 ≤ n) (h4 : n < 1000000) : rng1M ms ρ = some (.ok ((List.range n.toNat).map fun i => .int (i : Nat)), ρ1) := by
  unfold rng1M
  rw [bnd_ok h, bnd_ok (show pks ods ρ1 = some (.ok [.int n], ρ1) by unfold pks; rw [h2]; rfl)]
  show ofO (rngI 0 n) _ = _
  unfold rngI
  have h62 : (2 : Int) ^ 62 = 4611686018427387904 := rfl
  rw [if_pos ⟨by decide, by decide, by omega, by omega⟩]
  simp
  rfl
theorem not_ok {mc : M Bool} {ρ ρ1 : Env} {b : Bool} (h : mc ρ = some (.ok b, ρ1)) : bnd mc (fun b => ret (!b)) ρ = some (.ok (!b), ρ1) := by rw [bnd_ok h]; rfl
theorem or_f {m n : M Bool} {ρ ρ1 ρ2 : Env} {b : Bool} (h1 : m ρ = some (.ok false, ρ1)) (h2 : n ρ1 = some (.ok b, ρ2)) : orM m n ρ = some (.ok b, ρ2) := by unfold orM; rw [bnd_ok h1]; exact h2
theorem or_t {m n : M Bool} {ρ ρ1 : Env} (h1 : m ρ = some (.ok true, ρ1)) : orM m n ρ = some (.ok true, ρ1) := by unfold orM; rw [bnd_ok h1]; rfl
theorem and_t {m n : M Bool} {ρ ρ1 ρ2 : Env} {b : Bool} (h1 : m ρ = some (.ok true, ρ1)) (h2 : n ρ1 = some (.ok b, ρ2)) : andM m n ρ = some (.ok b, ρ2) := by unfold andM; rw [bnd_ok h1]; exact h2
theorem and_f {m n : M Bool} {ρ ρ1 : Env} (h1 : m ρ = some (.ok false, ρ1)) : andM m n ρ = some (.ok false, ρ1) := by unfold andM; rw [bnd_ok h1]; rfl
theorem andV_t {m n : M OV} {ρ ρ1 ρ2 : Env} {o : OV} (h1 : m ρ = some (.ok (.fz (.bl true)), ρ1)) (h2 : n ρ1 = some (.ok o, ρ2)) : andV m n ρ = some (.ok o, ρ2) := by unfold andV; rw [bnd_ok (tob_ok h1)]; exact h2
theorem andV_f {m n : M OV} {ρ ρ1 : Env} (h1 : m ρ = some (.ok (.fz (.bl false)), ρ1)) : andV m n ρ = some (.ok (.fz (.bl false)), ρ1) := by unfold andV; rw [bnd_ok (tob_ok h1)]; rfl
theorem ch_ok {f g : D → D → Option OV} {ma mb mc : M Opd} {ρ ρ1 ρ2 ρ3 : Env} {x y z : Opd} {dx dy dz dy' : D} {o : OV} (h1 : ma ρ = some (.ok x, ρ1)) (h2 : mb ρ1 = some (.ok y, ρ2)) (h3 : peek ρ2 x = some dx) (h4 : peek ρ2 y = some dy) (h5 : f dx dy = some (.fz (.bl true))) (h6 : mc ρ2 = some (.ok z, ρ3)) (h7 : peek ρ3 y = some dy') (h8 : peek ρ3 z = some dz) (h9 : g dy' dz = some o) : chM f g ma mb mc ρ = some (.ok o, ρ3) := by
  unfold chM
  rw [bnd_ok h1]
  show bnd mb _ ρ1 = _
  rw [bnd_ok h2]
  show bnd (pk x) _ ρ2 = _
  rw [bnd_ok (show pk x ρ2 = some (.ok dx, ρ2) by unfold pk; rw [h3]; rfl)]
  show bnd (pk y) _ ρ2 = _
  rw [bnd_ok (show pk y ρ2 = some (.ok dy, ρ2) by unfold pk; rw [h4]; rfl), h5]
  show bnd mc _ ρ2 = _
  rw [bnd_ok h6]
  show bnd (pk y) _ ρ3 = _
  rw [bnd_ok (show pk y ρ3 = some (.ok dy', ρ3) by unfold pk; rw [h7]; rfl)]
  show bnd (pk z) _ ρ3 = _
  rw [bnd_ok (show pk z ρ3 = some (.ok dz, ρ3) by unfold pk; rw [h8]; rfl), h9]
  rfl
theorem not_t {mc : M Bool} {ρ ρ1 : Env} (h : mc ρ = some (.ok true, ρ1)) : bnd mc (fun b => ret (!b)) ρ = some (.ok false, ρ1) := not_ok h
theorem not_f {mc : M Bool} {ρ ρ1 : Env} (h : mc ρ = some (.ok false, ρ1)) : bnd mc (fun b => ret (!b)) ρ = some (.ok true, ρ1) := not_ok h
theorem wipe_len (ρ : Env) (vs : List Nat) : (wipeE ρ vs).length = ρ.length := wipeE_len ρ vs
theorem allF_true (n : Nat) : allF (.lst (List.replicate n (D.bl true))) = some (.fz (.bl true)) := by
  have : blsD (List.replicate n (D.bl true)) = some (List.replicate n true) := by
    induction n with
    | zero => rfl
    | succ n ih => simp [List.replicate_succ, blsD, ih]
  simp [allF, this]
end Kv
/-! Membership and equality of pairs of texts, of lists of ints. -/
namespace Kv
open PySem L2
theorem py_pair (a b : Str) : py (.tup [.str a, .str b]) = some (.tuple [.str a, .str b]) := by simp [py, pys]
theorem pys_pairs : ∀ ps : List (Str × Str), pys (ps.map fun p => D.tup [.str p.1, .str p.2]) = some (ps.map fun p => PyData.tuple [.str p.1, .str p.2])
  | [] => by simp [pys]
  | p :: ps => by simp [pys, py_pair, pys_pairs ps]
theorem lay_pairs : ∀ ps : List (Str × Str), (∀ p ∈ ps, PyData.strOk p.1 = true ∧ PyData.strOk p.2 = true) → PyData.canLayAll0 (ps.map fun p => PyData.tuple [.str p.1, .str p.2]) = true
  | [], _ => by simp [PyData.canLayAll0]
  | p :: ps, h => by
    have h1 := h p List.mem_cons_self
    have h2 := lay_pairs ps fun q hq => h q (List.mem_cons_of_mem _ hq)
    simp [PyData.canLayAll0, PyData.canLay0, h1.1, h1.2, h2]
theorem depth_pairs : ∀ ps : List (Str × Str), PyData.depthAll (ps.map fun p => PyData.tuple [.str p.1, .str p.2]) ≤ 1
  | [] => by simp [PyData.depthAll]
  | p :: ps => by
    have := depth_pairs ps
    simp [PyData.depthAll, PyData.depth]
    omega
theorem eqv_pair (a b c d : Str) : PyData.eqv (.tuple [.str a, .str b]) (.tuple [.str c, .str d]) = (a == c && b == d) := by
  simp [PyData.eqv, PyData.eqvAll]
theorem nin_pairs {a b : Str} {ps : List (Str × Str)} (ha : PyData.strOk a = true) (hb : PyData.strOk b = true) (h : ∀ p ∈ ps, PyData.strOk p.1 = true ∧ PyData.strOk p.2 = true) :
    ninF (.tup [.str a, .str b]) (.lst (ps.map fun p => .tup [.str p.1, .str p.2])) = some (.fz (.bl (!decide ((a, b) ∈ ps)))) := by
  have e : (ps.map fun p => PyData.tuple [.str p.1, .str p.2]).any (fun z => PyData.eqv z (.tuple [.str a, .str b])) = decide ((a, b) ∈ ps) := by
    rw [List.any_map, Bool.eq_iff_iff, List.any_eq_true, decide_eq_true_iff]
    constructor
    · rintro ⟨p, hp, h⟩
      simp only [Function.comp_apply, eqv_pair, Bool.and_eq_true, beq_iff_eq] at h
      obtain ⟨h1, h2⟩ := h
      rw [← h1, ← h2]
      exact hp
    · intro h
      exact ⟨_, h, by simp [eqv_pair]⟩
  have s1 : SeqAt.shaped (.tuple [.str a, .str b]) = true := by simp [SeqAt.shaped, PyData.canLay0, PyData.canLayAll0, PyData.depth, PyData.depthAll, ha, hb]
  have s2 : SeqAt.shaped (.list (ps.map fun p => PyData.tuple [.str p.1, .str p.2])) = true := by
    have := depth_pairs ps
    simp [SeqAt.shaped, PyData.canLay0, PyData.depth, lay_pairs ps h]
    omega
  show inDeep true (.tup [.str a, .str b]) (.lst (ps.map fun p => .tup [.str p.1, .str p.2])) = _
  unfold inDeep
  simp only [py_pair, Option.bind_some, pys_pairs, s1, s2, Bool.and_self, if_true, e]
end Kv
namespace Kv
open PySem L2
theorem dVs_strs : ∀ zs : List Str, dVs (zs.map D.str) = some (zs.map V.str)
  | [] => rfl
  | z :: zs => by simp [dVs, dV, dVs_strs zs]
theorem in_strs (z : Str) (zs : List Str) : inF (.str z) (.tup (zs.map .str)) = some (.fz (.bl (decide (z ∈ zs)))) := by
  have h1 : (zs.map V.str).all flatV = true := by
    rw [List.all_eq_true]
    intro x hx
    obtain ⟨w, _, rfl⟩ := List.mem_map.mp hx
    rfl
  have h2 : inV (V.str z) (zs.map V.str) = decide (z ∈ zs) := by
    clear h1
    induction zs with
    | nil => rfl
    | cons w zs ih =>
      show ((w == z) || inV (V.str z) (zs.map V.str)) = _
      rw [ih]
      by_cases hz : w = z
      · subst hz
        rw [beq_self_eq_true, Bool.true_or, decide_eq_true List.mem_cons_self]
      · have hz' : ¬ z = w := fun e => hz e.symm
        rw [beq_eq_false_iff_ne.mpr hz, Bool.false_or]
        congr 1
        rw [List.mem_cons, or_iff_right hz']
  have h3 : inFlat false (.str z) (.tup (zs.map .str)) = some (.fz (.bl (decide (z ∈ zs)))) := by
    show (dVs (zs.map D.str)).bind (fun xs => if flatV (V.str z) && xs.all flatV then some (OV.fz (D.bl (inV (V.str z) xs))) else none) = _
    rw [dVs_strs]
    simp only [Option.bind_some, h1, h2]
    rfl
  show (inFlat false (.str z) (.tup (zs.map .str))).or _ = _
  rw [h3]
  rfl
theorem in_mem {z : Str} {zs : List Str} (h : z ∈ zs) : inF (.str z) (.tup (zs.map .str)) = some (.fz (.bl true)) := by rw [in_strs, decide_eq_true h]
theorem in_not {z : Str} {zs : List Str} (h : z ∉ zs) : inF (.str z) (.tup (zs.map .str)) = some (.fz (.bl false)) := by rw [in_strs, decide_eq_false h]
theorem eq_int (i j : Int) : eqF (.int i) (.int j) = some (.fz (.bl (decide (i = j)))) := by
  have : eqS (.int i) (.int j) = some (decide (i = j)) := by
    show (if scal (V.int i) (V.int j) then some (decide (V.int i = V.int j)) else none) = _
    have h : scal (V.int i) (V.int j) = true := rfl
    rw [h, if_pos rfl]
    congr 1
    by_cases e : i = j
    · subst e; simp
    · simp [e]
  show (blO (eqS (.int i) (.int j))).or (blO (eqP (.int i) (.int j))) = _
  rw [this]
  rfl
theorem eq_str (i j : Str) : eqF (.str i) (.str j) = some (.fz (.bl (decide (i = j)))) := by
  have : eqS (.str i) (.str j) = some (decide (i = j)) := by
    show (if scal (V.str i) (V.str j) then some (decide (V.str i = V.str j)) else none) = _
    have h : scal (V.str i) (V.str j) = true := rfl
    rw [h, if_pos rfl]
    congr 1
    by_cases e : i = j
    · subst e; simp
    · simp [e]
  show (blO (eqS (.str i) (.str j))).or (blO (eqP (.str i) (.str j))) = _
  rw [this]
  rfl
theorem ne_int (i j : Int) : neF (.int i) (.int j) = some (.fz (.bl (!decide (i = j)))) := by
  have : eqS (.int i) (.int j) = some (decide (i = j)) := by
    show (if scal (V.int i) (V.int j) then some (decide (V.int i = V.int j)) else none) = _
    have h : scal (V.int i) (V.int j) = true := rfl
    rw [h, if_pos rfl]
    congr 1
    by_cases e : i = j
    · subst e; simp
    · simp [e]
  show (blO ((eqS (.int i) (.int j)).map not)).or (blO ((eqP (.int i) (.int j)).map not)) = _
  rw [this]
  rfl
/-- a pair of texts as a key -/
def kp2 (p : Str × Str) : D := .tup [.str p.1, .str p.2]
theorem eqK_kp (p q : Str × Str) : eqK (kp2 p) (kp2 q) = decide (p = q) := by
  show (decide (p.1 = q.1) && (decide (p.2 = q.2) && true)) = _
  rw [Bool.and_true, Bool.eq_iff_iff]
  simp [Prod.ext_iff]
theorem getK_not {p : Str × Str} : ∀ {ps : List (Str × Str)} {vs : List D}, p ∉ ps → getK (ps.map kp2) vs (kp2 p) = none
  | [], [], _ => rfl
  | [], _ :: _, _ => rfl
  | q :: ps, [], _ => rfl
  | q :: ps, v :: vs, h => by
    show (if eqK (kp2 q) (kp2 p) then some v else getK (ps.map kp2) vs (kp2 p)) = none
    have hne : ¬ q = p := fun e => h (by rw [e]; exact List.mem_cons_self)
    rw [eqK_kp, decide_eq_false hne, if_neg Bool.false_ne_true]
    exact getK_not fun z => h (List.mem_cons_of_mem _ z)
theorem hasK_not {p : Str × Str} {ps : List (Str × Str)} (h : p ∉ ps) : hasK (ps.map kp2) (kp2 p) = false := by
  unfold hasK
  rw [List.any_map, List.any_eq_false]
  intro q hq
  simp only [Function.comp_apply, eqK_kp, decide_eq_true_eq]
  exact fun e => h (e ▸ hq)
theorem kp_in_not {p : Str × Str} {ps : List (Str × Str)} {vs : List D} (h : p ∉ ps) : inF (kp2 p) (.dct true (ps.map kp2) vs) = some (.fz (.bl false)) := by
  have e : inDict false (kp2 p) (.dct true (ps.map kp2) vs) = some (.fz (.bl false)) := by
    show (some (getK (ps.map kp2) vs (kp2 p))).map (fun o : Option D => OV.fz (.bl o.isSome)) = _
    rw [getK_not h]
    rfl
  unfold inF oe
  simp only [e, Option.some_or]
theorem kp_put {p : Str × Str} {ps : List (Str × Str)} {vs : List D} {v : D} (h : p ∉ ps) (hl : ps.length < 1000000) : putG (kp2 p) v (.od true (ps.map kp2) vs) = some (.od true ((ps ++ [p]).map kp2) (vs ++ [v])) := by
  show (if (ps.map kp2).length < 1000000 then (some _).map (fun _ => OV.od true (putKs (ps.map kp2) (kp2 p)) (putVs (ps.map kp2) vs (kp2 p) v)) else none) = _
  rw [List.length_map, if_pos hl]
  unfold putKs putVs
  rw [hasK_not h]
  simp
theorem pys_strs : ∀ zs : List Str, pys (zs.map D.str) = some (zs.map PyData.str)
  | [] => by simp [pys]
  | z :: zs => by simp [pys, py, pys_strs zs]
theorem lay_strs : ∀ zs : List Str, (∀ z ∈ zs, PyData.strOk z = true) → PyData.canLayAll0 (zs.map PyData.str) = true
  | [], _ => by simp [PyData.canLayAll0]
  | z :: zs, h => by simp [PyData.canLayAll0, PyData.canLay0, h z List.mem_cons_self, lay_strs zs fun w hw => h w (List.mem_cons_of_mem _ hw)]
theorem depth_strs : ∀ zs : List Str, PyData.depthAll (zs.map PyData.str) = 0
  | [] => by simp [PyData.depthAll]
  | z :: zs => by simp [PyData.depthAll, PyData.depth, depth_strs zs]
theorem eq_strs_nil {zs : List Str} (hne : zs ≠ []) (h : ∀ z ∈ zs, PyData.strOk z = true) : eqF (.tup (zs.map .str)) (.tup []) = some (.fz (.bl false)) := by
  have e : eqP (.tup (zs.map .str)) (.tup []) = some false := by
    unfold eqP
    have h1 : py (.tup (zs.map .str)) = some (.tuple (zs.map .str)) := by simp [py, pys_strs]
    have h2 : py (.tup []) = some (.tuple []) := by simp [py, pys]
    have s1 : SeqAt.shaped (.tuple (zs.map .str)) = true := by simp [SeqAt.shaped, PyData.canLay0, PyData.depth, lay_strs zs h, depth_strs]
    have s2 : SeqAt.shaped (.tuple []) = true := by simp [SeqAt.shaped, PyData.canLay0, PyData.canLayAll0, PyData.depth, PyData.depthAll]
    rw [h1, h2]
    simp only [Option.bind_some, s1, s2, Bool.and_self, if_true]
    cases zs with
    | nil => exact (hne rfl).elim
    | cons z zs => simp [PyData.eqv, PyData.eqvAll]
  show (none : Option OV).or (blO (eqP (.tup (zs.map .str)) (.tup []))) = _
  rw [e]
  rfl
theorem ifS_nx {mc : M Bool} {m1 : M Fl} {ρ ρ1 : Env} (h : mc ρ = some (.ok false, ρ1)) : ifS mc m1 (ret .nx) ρ = some (.ok .nx, ρ1) := by
  unfold ifS
  rw [bnd_ok h]
  rfl
theorem fld_ok {i c f : Nat} {m : M OV} {ρ ρ1 : Env} {o : OV} {fs : List OV} (h : m ρ = some (.ok o, ρ1)) (hn : o.isNo = false) (h2 : ρ1[i]? = some (.oi c fs)) : fldS i c f m ρ = some (.ok .nx, ρ1.set i (.oi c (fs.set f o))) := by
  unfold fldS
  rw [bnd_ok h]
  simp [hn, h2]
theorem put_ok2 {mv mk : M OV} {ma : M Opd} {ρ ρ1 ρ2 ρ3 ρ4 : Env} {ov ok : OV} {x : Opd} {d kd : D} (h1 : mv ρ = some (.ok ov, ρ1)) (h2 : froz ov = some d) (h3 : ma ρ1 = some (.ok x, ρ2)) (h4 : mk ρ2 = some (.ok ok, ρ3)) (h5 : froz ok = some kd) (h6 : mutO (putG kd d) x ρ3 = some ρ4) : putS mv ma mk ρ = some (.ok .nx, ρ4) := by
  unfold putS
  rw [bnd_ok h1, h2]
  show bnd ma _ ρ1 = _
  rw [bnd_ok h3, bnd_ok h4, h5]
  show bnd (mutM (putG kd d) x) _ ρ3 = _
  rw [bnd_ok (show mutM (putG kd d) x ρ3 = some (.ok (), ρ4) by unfold mutM; rw [h6])]
  rfl
theorem mut_pf {g : OV → Option OV} {i c f : Nat} {ρ : Env} {fs : List OV} {o o' : OV} (h : ρ[i]? = some (.oi c fs)) (h2 : fs[f]? = some o) (hn : o.isNo = false) (hg : g o = some o') : mutO g (.pf i c f) ρ = some (ρ.set i (.oi c (fs.set f o'))) := by
  simp [mutO, h, h2, hn, hg]
theorem mut_pl {g : OV → Option OV} {i : Nat} {ρ : Env} {o o' : OV} (h : ρ[i]? = some o) (hg : g o = some o') : mutO g (.pl i) ρ = some (ρ.set i o') := by
  simp [mutO, h, hg]
theorem new_ok {c n : Nat} {F : List OV → Res} {ms : M (List Opd)} {ρ ρ1 ρ2 ρ3 : Env} {ods : List Opd} {os us : List OV} {u : OV} (h1 : ms ρ = some (.ok ods, ρ1)) (h2 : takes ρ1 ods = some (os, ρ2)) (h3 : F (.oi c (List.replicate n .no) :: os) = some (.ok (.fz .non), u :: us)) (h4 : puts ods os us ρ2 = ρ3) : newM c n F ms ρ = some (.ok u, ρ3) := by
  unfold newM
  rw [bnd_ok h1]
  unfold newO
  rw [h2]
  simp only
  rw [h3, ← h4]
theorem prop_ok {c i : Nat} {F : List OV → Res} {ρ ρ' : Env} {fs : List OV} {o u : OV} (h : ρ[i]? = some (.oi c fs)) (h3 : F [.oi c fs] = some (.ok o, [u])) (h4 : (ρ.set i .no).set i u = ρ') : propM c F (opl i) ρ = some (.ok o, ρ') := by
  unfold propM
  rw [bnd_ok (show opl i ρ = some (.ok (.pl i), ρ) by unfold opl; rw [h]; rfl)]
  rw [bnd_ok (show pkC c (.pl i) ρ = some (.ok (), ρ) by
    unfold pkC
    have : peek ρ (.pl i) = some (.ins c (OV.dats fs)) := by show (ρ[i]?).bind odat = _; rw [h]; rfl
    rw [this]
    simp)]
  have : callO F [.pl i] ρ = some (.ok o, ρ') := by
    unfold callO takes
    rw [h]
    simp only [takes, Option.map_some]
    rw [h3]
    simp only [puts]
    rw [← h4]
  unfold noex
  rw [this]
theorem wp_cloop2 {vs vs1 : List Nat} {g g1 : D → Env → Option Env} {c c1 : M Bool} {it1 : M (List D)} {e : M OV} {I : List D → List D → Env → Prop} {Q : List D → Env → Prop} {E : Ex → Env → Prop}
    (step : ∀ d ds acc ρ, I (d :: ds) acc ρ → ∃ ρ1, g d (wipeE ρ vs) = some ρ1 ∧ wp c ρ1 (fun k ρ2 => match k with
      | true => wp it1 ρ2 (fun ds1 ρ3 => ds1.length ≤ 1000 ∧ wp (cloop vs1 g1 c1 e ds1 acc) ρ3 (fun acc' ρ4 => I ds acc' (wipeE ρ4 vs1)) (fun _ _ => False)) E
      | false => I ds acc ρ2) E)
    (fin : ∀ acc ρ, I [] acc ρ → Q acc ρ) : ∀ {ds acc : List D} {ρ : Env}, I ds acc ρ → wp (cloop2 vs vs1 g c it1 g1 c1 e ds acc) ρ Q E
  | [], acc, ρ, h => fin acc ρ h
  | d :: ds, acc, ρ, h => by
    obtain ⟨ρ1, e1, k⟩ := step d ds acc ρ h
    have : wp (bnd c fun k => match k with
      | true => bnd it1 fun ds1 => if ds1.length ≤ 1000 then bnd (unwipe vs1 (cloop vs1 g1 c1 e ds1 acc)) fun acc' => cloop2 vs vs1 g c it1 g1 c1 e ds acc' else bad
      | false => cloop2 vs vs1 g c it1 g1 c1 e ds acc) ρ1 Q E := by
      rw [wp_bnd]
      refine wp_mono k fun b ρ2 k => ?_
      cases b with
      | false => exact wp_cloop2 step fin k
      | true =>
        show wp (bnd it1 fun ds1 => if ds1.length ≤ 1000 then bnd (unwipe vs1 (cloop vs1 g1 c1 e ds1 acc)) fun acc' => cloop2 vs vs1 g c it1 g1 c1 e ds acc' else bad) ρ2 Q E
        rw [wp_bnd]
        refine wp_mono k fun ds1 ρ3 k => ?_
        rw [if_pos k.1]
        obtain ⟨acc', ρ4, e4, k4⟩ := wp_ex k.2
        exact w_bnd (show unwipe vs1 (cloop vs1 g1 c1 e ds1 acc) ρ3 = some (.ok acc', wipeE ρ4 vs1) by unfold unwipe; rw [e4]) (wp_cloop2 step fin k4)
    unfold wp cloop2
    rw [e1]
    exact this
theorem comp2_ex {vs vs1 : List Nat} {it it1 : M (List D)} {g g1 : D → Env → Option Env} {c c1 : M Bool} {e : M OV} {I : List D → List D → Env → Prop} {ds : List D} {ρ ρ1 : Env} (h : it ρ = some (.ok ds, ρ1)) (hl : ds.length ≤ 10000) (h0 : I ds [] ρ1)
    (step : ∀ d ds acc ρ, I (d :: ds) acc ρ → ∃ ρ1, g d (wipeE ρ vs) = some ρ1 ∧ wp c ρ1 (fun k ρ2 => match k with
      | true => wp it1 ρ2 (fun ds1 ρ3 => ds1.length ≤ 1000 ∧ wp (cloop vs1 g1 c1 e ds1 acc) ρ3 (fun acc' ρ4 => I ds acc' (wipeE ρ4 vs1)) (fun _ _ => False)) (fun _ _ => False)
      | false => I ds acc ρ2) (fun _ _ => False)) :
    ∃ xs ρ', comp2M vs vs1 it g c it1 g1 c1 e ρ = some (.ok (.ol xs), wipeE ρ' vs) ∧ I [] xs ρ' := by
  obtain ⟨xs, ρ', e1, k⟩ := wp_ex (wp_cloop2 (Q := fun xs ρ' => I [] xs ρ') step (fun _ _ h => h) h0)
  refine ⟨xs, ρ', ?_, k⟩
  unfold comp2M
  rw [bnd_ok h, if_pos hl, bnd_ok (show unwipe vs (noex (cloop2 vs vs1 g c it1 g1 c1 e ds [])) ρ1 = some (.ok xs, wipeE ρ' vs) by unfold unwipe noex; rw [e1])]
  rfl
theorem seq_ok' {m1 m2 : M Fl} {ρ ρ1 : Env} {r : Option (Except Ex Fl × Env)} (h : m1 ρ = some (.ok .nx, ρ1)) (k : m2 ρ1 = r) : seqM m1 m2 ρ = r := by
  unfold seqM
  rw [bnd_ok h]
  exact k
theorem wp_eq {α : Type} {m : M α} {ρ ρ' : Env} {a : α} {Q : α → Env → Prop} {E : Ex → Env → Prop} (h : m ρ = some (.ok a, ρ')) : wp m ρ Q E = Q a ρ' := by unfold wp; rw [h]
end Kv
/-! Dicts with int keys, as association lists. -/
namespace Kv
open PySem L2
abbrev AL := List (Nat × D)
def alK (l : AL) : List D := l.map fun p => .int (p.1 : Nat)
def alV (l : AL) : List D := l.map fun p => p.2
def alO (l : AL) : OV := .od false (alK l) (alV l)
def alD (l : AL) : D := .dct false (alK l) (alV l)
def alGet : AL → Nat → Option D
  | [], _ => none
  | p :: l, k => if p.1 = k then some p.2 else alGet l k
def alPut : AL → Nat → D → AL
  | [], k, d => [(k, d)]
  | p :: l, k, d => if p.1 = k then (p.1, d) :: l else p :: alPut l k d
theorem eqK_nat (a b : Nat) : eqK (.int (a : Nat)) (.int (b : Nat)) = decide (a = b) := by
  show decide ((a : Int) = (b : Int)) = _
  by_cases h : a = b
  · subst h; simp
  · rw [decide_eq_false h, decide_eq_false (by omega)]
theorem al_get (l : AL) (k : Nat) : getK (alK l) (alV l) (.int (k : Nat)) = alGet l k := by
  induction l with
  | nil => rfl
  | cons p l ih =>
    show (if eqK (.int (p.1 : Nat)) (.int (k : Nat)) then some p.2 else getK (alK l) (alV l) (.int (k : Nat))) = (if p.1 = k then some p.2 else alGet l k)
    rw [eqK_nat, ih]
    by_cases h : p.1 = k <;> simp [h]
theorem al_dg (l : AL) (k : Nat) : dgF (alD l) (.int (k : Nat)) = some (alGet l k) := by
  show (some (Sum.inl ((k : Nat) : Int) : Key)).map (fun _ => getK (alK l) (alV l) (.int (k : Nat))) = _
  rw [al_get]
  rfl
theorem al_in (l : AL) (k : Nat) : inF (.int (k : Nat)) (alD l) = some (.fz (.bl (alGet l k).isSome)) := by
  have e : inDict false (.int (k : Nat)) (alD l) = some (.fz (.bl (alGet l k).isSome)) := by
    unfold inDict
    rw [al_dg]
    rfl
  unfold inF oe
  simp only [e, Option.some_or]
theorem al_nin (l : AL) (k : Nat) : ninF (.int (k : Nat)) (alD l) = some (.fz (.bl (!(alGet l k).isSome))) := by
  have e : inDict true (.int (k : Nat)) (alD l) = some (.fz (.bl (!(alGet l k).isSome))) := by
    unfold inDict
    rw [al_dg]
    rfl
  unfold ninF oe
  simp only [e, Option.some_or]
theorem al_ix {l : AL} {k : Nat} {d : D} (h : alGet l k = some d) : oe ixF itemD (alD l) (.int (k : Nat)) = some (.fz d) := by
  show (none : Option OV).or (itemD (alD l) (.int (k : Nat))) = _
  unfold itemD
  rw [al_dg, h]
  rfl
theorem al_hasK (l : AL) (k : Nat) : hasK (alK l) (.int (k : Nat)) = (alGet l k).isSome := by
  induction l with
  | nil => rfl
  | cons p l ih =>
    show (eqK (.int (p.1 : Nat)) (.int (k : Nat)) || hasK (alK l) (.int (k : Nat))) = _
    rw [eqK_nat, ih]
    show _ = (if p.1 = k then some p.2 else alGet l k).isSome
    by_cases h : p.1 = k <;> simp [h]
theorem alPut_some {l : AL} {k : Nat} {d : D} (h : (alGet l k).isSome = true) : alK (alPut l k d) = alK l ∧ alV (alPut l k d) = setK (alK l) (alV l) (.int (k : Nat)) d := by
  induction l with
  | nil => cases h
  | cons p l ih =>
    have e1 : alPut (p :: l) k d = if p.1 = k then (p.1, d) :: l else p :: alPut l k d := rfl
    have e2 : setK (alK (p :: l)) (alV (p :: l)) (.int (k : Nat)) d = if eqK (.int (p.1 : Nat)) (.int (k : Nat)) then d :: alV l else p.2 :: setK (alK l) (alV l) (.int (k : Nat)) d := rfl
    rw [e1, e2, eqK_nat]
    by_cases hk : p.1 = k
    · simp only [hk, if_true, decide_true]
      constructor
      · show D.int (k : Nat) :: alK l = D.int (p.1 : Nat) :: alK l
        rw [hk]
      · rfl
    · have h' : (alGet l k).isSome = true := by
        have e3 : alGet (p :: l) k = alGet l k := by show (if p.1 = k then _ else _) = _; rw [if_neg hk]
        rwa [e3] at h
      obtain ⟨i1, i2⟩ := ih h'
      simp only [hk, if_false, decide_false, Bool.false_eq_true]
      constructor
      · show D.int (p.1 : Nat) :: alK (alPut l k d) = D.int (p.1 : Nat) :: alK l
        rw [i1]
      · show p.2 :: alV (alPut l k d) = _
        rw [i2]
theorem alPut_none {l : AL} {k : Nat} {d : D} (h : (alGet l k).isSome = false) : alPut l k d = l ++ [(k, d)] := by
  induction l with
  | nil => rfl
  | cons p l ih =>
    have e1 : alPut (p :: l) k d = if p.1 = k then (p.1, d) :: l else p :: alPut l k d := rfl
    have e3 : alGet (p :: l) k = if p.1 = k then some p.2 else alGet l k := rfl
    rw [e3] at h
    rw [e1]
    by_cases hk : p.1 = k
    · simp [hk] at h
    · rw [if_neg hk] at h ⊢
      rw [ih h]
      rfl
theorem al_put {l : AL} {k : Nat} {d : D} (hl : l.length < 1000000) : putG (.int (k : Nat)) d (alO l) = some (alO (alPut l k d)) := by
  show (if (alK l).length < 1000000 then (some (Sum.inl ((k : Nat) : Int) : Key)).map (fun _ => OV.od false (putKs (alK l) (.int (k : Nat))) (putVs (alK l) (alV l) (.int (k : Nat)) d)) else none) = _
  have hk : (alK l).length = l.length := by unfold alK; simp
  rw [hk, if_pos hl]
  unfold putKs putVs
  rw [al_hasK]
  cases h : (alGet l k).isSome with
  | true =>
    obtain ⟨h1, h2⟩ := alPut_some (d := d) h
    show some (OV.od false (alK l) (setK (alK l) (alV l) (.int (k : Nat)) d)) = _
    unfold alO
    rw [h1, h2]
  | false =>
    rw [alPut_none h]
    show some (OV.od false (alK l ++ [.int (k : Nat)]) (alV l ++ [d])) = _
    unfold alO alK alV
    rw [List.map_append, List.map_append]
    rfl
/-- keys apart, all entries of P -/
structure AOk (P : Nat → D → Prop) (l : AL) : Prop where
  nd : (l.map (·.1)).Nodup
  all : ∀ p ∈ l, P p.1 p.2
theorem alGet_mem {l : AL} {k : Nat} {d : D} (h : alGet l k = some d) : (k, d) ∈ l := by
  induction l with
  | nil => cases h
  | cons p l ih =>
    have e : alGet (p :: l) k = if p.1 = k then some p.2 else alGet l k := rfl
    rw [e] at h
    split at h
    · rename_i hk
      cases h
      rw [← hk]
      exact List.mem_cons_self
    · exact List.mem_cons_of_mem _ (ih h)
theorem alGet_none {l : AL} {k : Nat} (h : (alGet l k).isSome = false) : k ∉ l.map (·.1) := by
  induction l with
  | nil => simp
  | cons p l ih =>
    have e : alGet (p :: l) k = if p.1 = k then some p.2 else alGet l k := rfl
    rw [e] at h
    by_cases hk : p.1 = k
    · simp [hk] at h
    · rw [if_neg hk] at h
      rw [List.map_cons, List.mem_cons, not_or]
      exact ⟨fun z => hk z.symm, ih h⟩
theorem alPut_keys {k : Nat} {d : D} : ∀ {l : AL}, (alGet l k).isSome = true → (alPut l k d).map (·.1) = l.map (·.1) ∧ ∀ p ∈ alPut l k d, p ∈ l ∨ p = (k, d)
  | [], h => by cases h
  | q :: l, h => by
    have e1 : alPut (q :: l) k d = if q.1 = k then (q.1, d) :: l else q :: alPut l k d := rfl
    have e : alGet (q :: l) k = if q.1 = k then some q.2 else alGet l k := rfl
    rw [e1]
    rw [e] at h
    by_cases hk : q.1 = k
    · rw [if_pos hk]
      refine ⟨rfl, fun p hp => ?_⟩
      rcases List.mem_cons.mp hp with rfl | hp
      · exact .inr (by rw [hk])
      · exact .inl (List.mem_cons_of_mem _ hp)
    · rw [if_neg hk] at h ⊢
      obtain ⟨i1, i2⟩ := alPut_keys (d := d) h
      refine ⟨by rw [List.map_cons, List.map_cons, i1], fun p hp => ?_⟩
      rcases List.mem_cons.mp hp with rfl | hp
      · exact .inl List.mem_cons_self
      · rcases i2 p hp with hp | hp
        · exact .inl (List.mem_cons_of_mem _ hp)
        · exact .inr hp
theorem alPut_ok {P : Nat → D → Prop} {l : AL} {k : Nat} {d : D} (h : AOk P l) (hd : P k d) : AOk P (alPut l k d) ∧ l.length ≤ (alPut l k d).length ∧ ((alGet l k).isSome = false → (alPut l k d).length = l.length + 1) ∧ ∀ a ∈ (alPut l k d).map (·.1), a = k ∨ a ∈ l.map (·.1) := by
  cases hg : (alGet l k).isSome with
  | false =>
    rw [alPut_none hg]
    refine ⟨⟨?_, fun p hp => ?_⟩, by simp, fun _ => by simp, fun a ha => ?_⟩
    · rw [List.map_append, List.nodup_append]
      refine ⟨h.nd, by simp, fun a ha b hb e => ?_⟩
      simp at hb
      subst e
      rw [hb] at ha
      exact alGet_none hg ha
    · rcases List.mem_append.mp hp with hp | hp
      · exact h.all p hp
      · simp at hp; subst hp; exact hd
    · simp at ha
      rcases ha with ha | rfl
      · right; simpa using ha
      · exact .inl rfl
  | true =>
    obtain ⟨h1, h2⟩ := alPut_keys (d := d) hg
    refine ⟨⟨by rw [h1]; exact h.nd, fun p hp => ?_⟩, ?_, fun z => (by cases z), fun a ha => ?_⟩
    · rcases h2 p hp with hp | rfl
      · exact h.all p hp
      · exact hd
    · have := congrArg List.length h1
      simp at this
      omega
    · rw [h1] at ha
      exact .inr ha
theorem meth_ok {c i : Nat} {F : List OV → Res} {ms : M (List Opd)} {ρ ρ1 ρ2 ρ3 : Env} {fs : List OV} {ods : List Opd} {os outs : List OV} {o : OV} (h : ρ[i]? = some (.oi c fs)) (h1 : ms ρ = some (.ok ods, ρ1)) (h2 : takes ρ1 (.pl i :: ods) = some (os, ρ2)) (h3 : F os = some (.ok o, outs)) (h4 : puts (.pl i :: ods) os outs ρ2 = ρ3) : methM c F (opl i) ms ρ = some (.ok o, ρ3) := by
  unfold methM
  rw [bnd_ok (show opl i ρ = some (.ok (.pl i), ρ) by unfold opl; rw [h]; rfl)]
  rw [bnd_ok (show pkC c (.pl i) ρ = some (.ok (), ρ) by
    unfold pkC
    have : peek ρ (.pl i) = some (.ins c (OV.dats fs)) := by show (ρ[i]?).bind odat = _; rw [h]; rfl
    rw [this]
    simp)]
  rw [bnd_ok h1]
  unfold callO
  rw [h2]
  simp only
  rw [h3, ← h4]
def orG (o : Option D) (z : OV) : OV := match o with
  | some d => .fz d
  | none => z
theorem get_ok {mo : M Opd} {mk mx : M OV} {ρ ρ1 ρ2 ρ3 : Env} {x : Opd} {k z : OV} {tt : Bool} {ks vs : List D} {dx : D} {o : Option D} (h1 : mo ρ = some (.ok x, ρ1)) (h2 : peek ρ1 x = some (.dct tt ks vs)) (h3 : mk ρ1 = some (.ok k, ρ2)) (h4 : mx ρ2 = some (.ok z, ρ3)) (h5 : peek ρ3 x = some dx) (h6 : dgF dx k.dat = some o) : getM mo mk mx ρ = some (.ok (orG o z), ρ3) := by
  unfold getM
  rw [bnd_ok h1]
  show bnd (pkD x) _ ρ1 = _
  rw [bnd_ok (show pkD x ρ1 = some (.ok (), ρ1) by unfold pkD; rw [h2])]
  show bnd mk _ ρ1 = _
  rw [bnd_ok h3]
  show bnd mx _ ρ2 = _
  rw [bnd_ok h4]
  show bnd (pk x) _ ρ3 = _
  rw [bnd_ok (show pk x ρ3 = some (.ok dx, ρ3) by unfold pk; rw [h5]; rfl), h6]
  cases o <;> rfl
theorem it_ok {m : M OV} {ρ ρ1 : Env} {o : OV} {ds : List D} (h : m ρ = some (.ok o, ρ1)) (h2 : seqI o = some ds) : itM m ρ = some (.ok ds, ρ1) := by
  unfold itM
  rw [bnd_ok h, h2]
  rfl
theorem lt_len {l : List Nat} {n : Nat} (h : l.Nodup) (h2 : ∀ x ∈ l, x < n) : l.length ≤ n := by
  have := nodup_sub_len h (m := List.range n) fun x hx => List.mem_range.mpr (h2 x hx)
  simpa using this
theorem star_ok {m : M Opd} {ms : M (List D)} {ρ ρ1 ρ2 : Env} {x : Opd} {dx : D} {ds es : List D} (h1 : m ρ = some (.ok x, ρ1)) (h2 : peek ρ1 x = some dx) (h3 : seqD dx = some ds) (h4 : ms ρ1 = some (.ok es, ρ2)) : starD m ms ρ = some (.ok (ds ++ es), ρ2) := by
  unfold starD
  rw [bnd_ok h1]
  show bnd (pk x) _ ρ1 = _
  rw [bnd_ok (show pk x ρ1 = some (.ok dx, ρ1) by unfold pk; rw [h2]; rfl), h3]
  show bnd ms _ ρ1 = _
  rw [bnd_ok h4]
  rfl
end Kv
/-! Lists of ints compared; ranges. -/
namespace Kv
open PySem L2
theorem pys_ints : ∀ zs : List Int, pys (zs.map D.int) = some (zs.map PyData.int)
  | [] => by simp [pys]
  | z :: zs => by simp [pys, py, pys_ints zs]
theorem lay_ints : ∀ zs : List Int, PyData.canLayAll0 (zs.map PyData.int) = true
  | [] => by simp [PyData.canLayAll0]
  | z :: zs => by simp [PyData.canLayAll0, PyData.canLay0, lay_ints zs]
theorem depth_ints : ∀ zs : List Int, PyData.depthAll (zs.map PyData.int) = 0
  | [] => by simp [PyData.depthAll]
  | z :: zs => by simp [PyData.depthAll, PyData.depth, depth_ints zs]
theorem eqv_ints : ∀ as bs : List Int, PyData.eqvAll (as.map PyData.int) (bs.map PyData.int) = decide (as = bs)
  | [], [] => by simp [PyData.eqvAll]
  | [], _ :: _ => by simp [PyData.eqvAll]
  | _ :: _, [] => by simp [PyData.eqvAll]
  | a :: as, b :: bs => by
    have ih := eqv_ints as bs
    simp only [List.map_cons, PyData.eqvAll, PyData.eqv, ih]
    by_cases h : a = b
    · subst h; simp
    · simp [h]
theorem eqP_ints (as bs : List Int) : eqP (.lst (as.map .int)) (.lst (bs.map .int)) = some (decide (as = bs)) := by
  unfold eqP
  have h1 : ∀ l : List Int, py (.lst (l.map .int)) = some (.list (l.map .int)) := fun l => by simp [py, pys_ints]
  have s1 : ∀ l : List Int, SeqAt.shaped (.list (l.map .int)) = true := fun l => by simp [SeqAt.shaped, PyData.canLay0, PyData.depth, lay_ints, depth_ints]
  rw [h1, h1]
  simp only [Option.bind_some, s1, Bool.and_self, if_true]
  show some (PyData.eqvAll (as.map PyData.int) (bs.map PyData.int)) = _
  rw [eqv_ints]
theorem eq_ints (as bs : List Int) : eqF (.lst (as.map .int)) (.lst (bs.map .int)) = some (.fz (.bl (decide (as = bs)))) := by
  show (none : Option OV).or (blO (eqP (.lst (as.map .int)) (.lst (bs.map .int)))) = _
  rw [eqP_ints]
  rfl
theorem ne_ints (as bs : List Int) : neF (.lst (as.map .int)) (.lst (bs.map .int)) = some (.fz (.bl (!decide (as = bs)))) := by
  show (none : Option OV).or (blO ((eqP (.lst (as.map .int)) (.lst (bs.map .int))).map not)) = _
  rw [eqP_ints]
  rfl
theorem rng1_okZ {ms : M (List Opd)} {ρ ρ1 : Env} {ods : List Opd} {n : Int} (h : ms ρ = some (.ok ods, ρ1)) (h2 : peeks ρ1 ods = some [.int n]) (h3 : -1000000 < n) (h4 : n < 1000000) : rng1M ms ρ = some (.ok ((List.range n.toNat).map fun i => .int (i : Nat)), ρ1) := by
  unfold rng1M
  rw [bnd_ok h, bnd_ok (show pks ods ρ1 = some (.ok [.int n], ρ1) by unfold pks; rw [h2]; rfl)]
  show ofO (rngI 0 n) _ = _
  have e : rngI 0 n = some ((List.range n.toNat).map fun i => D.int (i : Nat)) := by
    unfold rngI
    have h62 : (2 : Int) ^ 62 = 4611686018427387904 := rfl
    split
    · simp
    · rename_i hneg
      refine absurd ⟨?_, ?_, ?_, ?_⟩ hneg
      · decide
      · decide
      · omega
      · omega
  rw [e]
  rfl
/-- a comprehension over known items that keeps the environment: items kept by a test, mapped -/
theorem comp_filter {vs : List Nat} {it : M (List D)} {g : D → Env → Option Env} {c : M Bool} {e : M OV} {α : Type} {dd : α → D} {p : α → Bool} {f : α → D} {ρ ρ1 ρ0 : Env} {l : List α} {E1 : α → Env} (h : it ρ = some (.ok (l.map dd), ρ1)) (hl : l.length ≤ 100000) (hw : wipeE ρ1 vs = ρ0)
    (hg : ∀ a, a ∈ l → g (dd a) ρ0 = some (E1 a)) (hc : ∀ a, a ∈ l → c (E1 a) = some (.ok (p a), E1 a)) (he : ∀ a, a ∈ l → p a = true → ∃ o, e (E1 a) = some (.ok o, E1 a) ∧ froz o = some (f a)) (hE : ∀ a, a ∈ l → wipeE (E1 a) vs = ρ0) :
    compM vs it g c e ρ = some (.ok (.ol ((l.filter p).map f)), ρ0) := by
  obtain ⟨xs, ρ', e2, ks, hds, hks, hxs, hρ⟩ := comp_ex (vs := vs) (it := it) (g := g) (c := c) (e := e) (I := fun ds acc ρ => ∃ ks : List α, ds = ks.map dd ∧ (∀ a ∈ ks, a ∈ l) ∧ acc ++ ((ks.filter p).map f) = (l.filter p).map f ∧ wipeE ρ vs = ρ0) h (by simpa using hl) ⟨l, rfl, fun a h => h, rfl, hw⟩ (fun d ds acc ρ hI => by
    obtain ⟨ks, hds, hks, hacc, hρ⟩ := hI
    cases ks with
    | nil => cases hds
    | cons a ks =>
      obtain ⟨rfl, rfl⟩ := List.cons.inj hds
      have ha := hks a List.mem_cons_self
      rw [hρ]
      refine ⟨E1 a, hg a ha, ?_⟩
      rw [wp_eq (hc a ha)]
      cases hp : p a with
      | false =>
        refine ⟨ks, rfl, fun b hb => hks b (List.mem_cons_of_mem _ hb), ?_, hE a ha⟩
        rw [← hacc, List.filter_cons_of_neg (by rw [hp]; decide)]
      | true =>
        obtain ⟨o, e1, e2⟩ := he a ha hp
        show wp e (E1 a) _ _
        rw [wp_eq e1]
        refine ⟨f a, e2, ks, rfl, fun b hb => hks b (List.mem_cons_of_mem _ hb), ?_, hE a ha⟩
        rw [← hacc, List.filter_cons_of_pos hp]
        simp)
  have : ks = [] := by cases ks with
    | nil => rfl
    | cons => cases hds
  subst this
  rw [e2, hρ]
  have : xs = (l.filter p).map f := by simpa using hxs
  rw [this]
/-- a for that ends: equations only -/
theorem for_ex {it : M (List D)} {g : D → Env → Option Env} {b : M Fl} {I : List D → Env → Prop} {ds : List D} {ρ ρ1 : Env} (h : it ρ = some (.ok ds, ρ1)) (h0 : I ds ρ1) (step : ∀ d ds ρ, I (d :: ds) ρ → ∃ ρ1 ρ2, g d ρ = some ρ1 ∧ b ρ1 = some (.ok .nx, ρ2) ∧ I ds ρ2) :
    ∃ ρ', Kv.forM it g b ρ = some (.ok .nx, ρ') ∧ I [] ρ' := by
  have hw : wp (Kv.forM it g b) ρ (fun f ρ' => f = .nx ∧ I [] ρ') (fun _ _ => False) := by
    refine w_for h h0 (fun d ds ρ hI => ?_) (fun ρ hI => ⟨rfl, hI⟩)
    obtain ⟨ρ1, ρ2, e1, e2, k⟩ := step d ds ρ hI
    refine ⟨ρ1, e1, ?_⟩
    rw [wp_eq e2]
    exact k
  obtain ⟨f, ρ', e, rfl, k⟩ := wp_ex hw
  exact ⟨ρ', e, k⟩
/-- a for that may return out of its body -/
theorem for_scan {it : M (List D)} {g : D → Env → Option Env} {b : M Fl} {I : List D → Env → Prop} {R : List D → OV → Env → Prop} {ds : List D} {ρ ρ1 : Env} (h : it ρ = some (.ok ds, ρ1)) (h0 : I ds ρ1)
    (step : ∀ d ds ρ, I (d :: ds) ρ → ∃ ρ1, g d ρ = some ρ1 ∧ ((∃ ρ2, b ρ1 = some (.ok .nx, ρ2) ∧ I ds ρ2) ∨ ∃ o ρ2, b ρ1 = some (.ok (.rt o), ρ2) ∧ R (d :: ds) o ρ2)) :
    (∃ ρ', Kv.forM it g b ρ = some (.ok .nx, ρ') ∧ I [] ρ') ∨ ∃ o ρ' ds', Kv.forM it g b ρ = some (.ok (.rt o), ρ') ∧ R ds' o ρ' := by
  have hw : wp (Kv.forM it g b) ρ (fun f ρ' => (f = .nx ∧ I [] ρ') ∨ ∃ o ds', f = .rt o ∧ R ds' o ρ') (fun _ _ => False) := by
    refine w_for h h0 (fun d ds ρ hI => ?_) (fun ρ hI => .inl ⟨rfl, hI⟩)
    obtain ⟨ρ1, e1, k⟩ := step d ds ρ hI
    refine ⟨ρ1, e1, ?_⟩
    rcases k with ⟨ρ2, e2, k⟩ | ⟨o, ρ2, e2, k⟩
    · rw [wp_eq e2]
      exact k
    · rw [wp_eq e2]
      exact .inr ⟨o, d :: ds, rfl, k⟩
  obtain ⟨f, ρ', e, k⟩ := wp_ex hw
  rcases k with ⟨rfl, k⟩ | ⟨o, ds', rfl, k⟩
  · exact .inl ⟨ρ', e, k⟩
  · exact .inr ⟨o, ρ', ds', e, k⟩
end Kv
/-! Matchings, plain: augmenting paths as a depth-first search finds them. -/
namespace Mt
abbrev MP := List (Nat × Nat)
def get : MP → Nat → Option Nat
  | [], _ => none
  | p :: l, k => if p.1 = k then some p.2 else get l k
def put : MP → Nat → Nat → MP
  | [], k, d => [(k, d)]
  | p :: l, k, d => if p.1 = k then (p.1, d) :: l else p :: put l k d
theorem get_put_self : ∀ (l : MP) (k d : Nat), get (put l k d) k = some d
  | [], k, d => by simp [put, get]
  | p :: l, k, d => by
    unfold put
    by_cases h : p.1 = k
    · rw [if_pos h]; simp [get, h]
    · rw [if_neg h]; simp [get, h, get_put_self l k d]
theorem get_put_ne : ∀ (l : MP) {k j : Nat} (d : Nat), j ≠ k → get (put l k d) j = get l j
  | [], k, j, d, h => by simp [put, get, Ne.symm h]
  | p :: l, k, j, d, h => by
    unfold put
    by_cases hk : p.1 = k
    · rw [if_pos hk]
      have : p.1 ≠ j := fun e => h (by rw [← e, hk])
      simp [get, this]
    · rw [if_neg hk]
      by_cases hj : p.1 = j
      · simp [get, hj]
      · simp [get, hj, get_put_ne l d h]
theorem len_put_none : ∀ (l : MP) (k d : Nat), get l k = none → (put l k d).length = l.length + 1
  | [], k, d, _ => rfl
  | p :: l, k, d, h => by
    unfold get at h
    unfold put
    by_cases hk : p.1 = k
    · rw [if_pos hk] at h; cases h
    · rw [if_neg hk] at h ⊢
      simp [len_put_none l k d h]
theorem len_put_some : ∀ (l : MP) (k d x : Nat), get l k = some x → (put l k d).length = l.length
  | [], k, d, x, h => by cases h
  | p :: l, k, d, x, h => by
    unfold get at h
    unfold put
    by_cases hk : p.1 = k
    · rw [if_pos hk]; rfl
    · rw [if_neg hk] at h ⊢
      simp [len_put_some l k d x h]
theorem keys_put_some : ∀ (l : MP) (k d x : Nat), get l k = some x → (put l k d).map (·.1) = l.map (·.1)
  | [], k, d, x, h => by cases h
  | p :: l, k, d, x, h => by
    unfold get at h
    unfold put
    by_cases hk : p.1 = k
    · rw [if_pos hk]; rfl
    · rw [if_neg hk] at h ⊢
      rw [List.map_cons, List.map_cons, keys_put_some l k d x h]
theorem put_none : ∀ (l : MP) (k d : Nat), get l k = none → put l k d = l ++ [(k, d)]
  | [], k, d, _ => rfl
  | p :: l, k, d, h => by
    unfold get at h
    unfold put
    by_cases hk : p.1 = k
    · rw [if_pos hk] at h; cases h
    · rw [if_neg hk] at h ⊢
      rw [put_none l k d h]
      rfl
theorem get_none_iff : ∀ (l : MP) (k : Nat), get l k = none ↔ k ∉ l.map (·.1)
  | [], k => by simp [get]
  | p :: l, k => by
    unfold get
    by_cases hk : p.1 = k
    · simp [hk]
    · rw [if_neg hk, get_none_iff l k, List.map_cons, List.mem_cons, not_or]
      exact ⟨fun h => ⟨fun e => hk e.symm, h⟩, fun h => h.2⟩
theorem get_mem {l : MP} {k x : Nat} (h : get l k = some x) : (k, x) ∈ l := by
  induction l with
  | nil => cases h
  | cons p l ih =>
    unfold get at h
    by_cases hk : p.1 = k
    · rw [if_pos hk] at h
      cases h
      rw [← hk]
      exact List.mem_cons_self
    · rw [if_neg hk] at h
      exact List.mem_cons_of_mem _ (ih h)
theorem mem_get {l : MP} (hn : (l.map (·.1)).Nodup) {k x : Nat} (h : (k, x) ∈ l) : get l k = some x := by
  induction l with
  | nil => cases h
  | cons p l ih =>
    rw [List.map_cons, List.nodup_cons] at hn
    unfold get
    rcases List.mem_cons.mp h with e | h
    · rw [← e]; simp
    · have : p.1 ≠ k := fun e => hn.1 (by rw [e]; exact List.mem_map.mpr ⟨_, h, rfl⟩)
      rw [if_neg this]
      exact ih hn.2 h
theorem keys_put {l : MP} {k d : Nat} (h : (l.map (·.1)).Nodup) : ((put l k d).map (·.1)).Nodup := by
  cases e : get l k with
  | some x => rw [keys_put_some l k d x e]; exact h
  | none =>
    rw [put_none l k d e, List.map_append, List.nodup_append]
    refine ⟨h, by simp, fun a ha b hb e2 => ?_⟩
    simp at hb
    subst e2 hb
    exact (get_none_iff l a).mp e ha
theorem nd_len : ∀ (l m : List Nat), l.Nodup → (∀ z ∈ l, z ∈ m) → l.length ≤ m.length := fun l => by
  induction l with
  | nil => intro m _ _; exact Nat.zero_le _
  | cons a l ih =>
    intro m hn hs
    rw [List.nodup_cons] at hn
    have ha : a ∈ m := hs a List.mem_cons_self
    have := ih (m.erase a) hn.2 fun z hz => (List.mem_erase_of_ne fun e => hn.1 (by rw [← e]; exact hz)).mpr (hs z (List.mem_cons_of_mem _ hz))
    rw [List.length_erase_of_mem ha] at this
    have := List.length_pos_of_mem ha
    simp only [List.length_cons]
    omega
/-! ### the search -/
def loopP (J : Nat → MP → List Nat → Option (Bool × MP × List Nat)) (i : Nat) : List Nat → MP → List Nat → Option (Bool × MP × List Nat)
  | [], inn, tr => some (false, inn, tr)
  | o :: os, inn, tr => if o ∈ tr then loopP J i os inn tr else match get inn o with
    | none => some (true, put inn o i, tr ++ [o])
    | some x => match J x inn (tr ++ [o]) with
      | none => none
      | some (true, inn', tr') => some (true, put inn' o i, tr')
      | some (false, inn', tr') => loopP J i os inn' tr'
def joinP (adj : Nat → List Nat) : Nat → Nat → MP → List Nat → Option (Bool × MP × List Nat)
  | 0, _, _, _ => none
  | k + 1, i, inn, tr => loopP (joinP adj k) i (adj i) inn tr
def Clo (adj : Nat → List Nat) (inn : MP) (C : Nat → Prop) : Prop := ∀ j, C j → ∃ x, get inn j = some x ∧ ∀ o ∈ adj x, C o
structure Pre (inn : MP) (tr : List Nat) (i : Nat) : Prop where
  inj : ∀ j j' x, j ∉ tr → j' ∉ tr → get inn j = some x → get inn j' = some x → j = j'
  fresh : ∀ j, j ∉ tr → get inn j ≠ some i
structure Fail (adj : Nat → List Nat) (i : Nat) (inn : MP) (tr : List Nat) (inn' : MP) (tr' : List Nat) : Prop where
  same : inn' = inn
  nb : ∀ o ∈ adj i, o ∈ tr'
  clo : ∀ o ∈ tr', o ∉ tr → ∃ x, get inn o = some x ∧ ∀ o' ∈ adj x, o' ∈ tr'
structure Succ (adj : Nat → List Nat) (i : Nat) (inn : MP) (tr : List Nat) (inn' : MP) : Prop where
  agree : ∀ j ∈ tr, get inn' j = get inn j
  inj : ∀ j j' x, j ∉ tr → j' ∉ tr → get inn' j = some x → get inn' j' = some x → j = j'
  rng : ∀ x, (∃ j, j ∉ tr ∧ get inn' j = some x) ↔ (x = i ∨ ∃ j, j ∉ tr ∧ get inn j = some x)
  len : inn'.length = inn.length + 1
  edges : (∀ j x, get inn j = some x → j ∈ adj x) → ∀ j x, get inn' j = some x → j ∈ adj x
  closed : ∀ C : Nat → Prop, Clo adj inn C → ∀ j, C j → get inn' j = get inn j
  keys : (inn.map (·.1)).Nodup → (inn'.map (·.1)).Nodup
structure Out (adj : Nat → List Nat) (n i : Nat) (inn : MP) (tr : List Nat) (b : Bool) (inn' : MP) (tr' : List Nat) : Prop where
  nd : tr'.Nodup
  lt : ∀ o ∈ tr', o < n
  sub : ∀ o ∈ tr, o ∈ tr'
  cl : ∀ C : Nat → Prop, Clo adj inn C → (∀ o ∈ adj i, C o) → b = false
  no : b = false → Fail adj i inn tr inn' tr'
  yes : b = true → Succ adj i inn tr inn'
theorem loop_spec {adj : Nat → List Nat} {n : Nat} (hadj : ∀ i, ∀ o ∈ adj i, o < n) {k : Nat}
    (J : ∀ (i : Nat) (inn : MP) (tr : List Nat), tr.Nodup → (∀ o ∈ tr, o < n) → n < k + tr.length → Pre inn tr i → ∃ b inn' tr', joinP adj k i inn tr = some (b, inn', tr') ∧ Out adj n i inn tr b inn' tr') {i : Nat} {tr0 : List Nat} :
    ∀ (os : List Nat) (inn : MP) (tr : List Nat), (∀ o ∈ os, o ∈ adj i) → tr.Nodup → (∀ o ∈ tr, o < n) → (∀ o ∈ tr0, o ∈ tr) → n < k + 1 + tr.length → Pre inn tr0 i →
      (∀ o ∈ adj i, o ∈ os ∨ o ∈ tr) → (∀ o ∈ tr, o ∉ tr0 → ∃ x, get inn o = some x ∧ ∀ o' ∈ adj x, o' ∈ tr) →
      ∃ b inn' tr', loopP (joinP adj k) i os inn tr = some (b, inn', tr') ∧ Out adj n i inn tr0 b inn' tr'
  | [], inn, tr, _, nd, lt, sub, _, pre, hall, hclo => by
    refine ⟨false, inn, tr, rfl, nd, lt, sub, fun _ _ _ => rfl, fun _ => ⟨rfl, fun o ho => ?_, hclo⟩, fun h => nomatch h⟩
    exact (hall o ho).elim (fun h => nomatch h) id
  | o :: os, inn, tr, hos, nd, lt, sub, hk, pre, hall, hclo => by
    unfold loopP
    by_cases hot : o ∈ tr
    · rw [if_pos hot]
      exact loop_spec hadj J os inn tr (fun x hx => hos x (List.mem_cons_of_mem _ hx)) nd lt sub hk pre (fun x hx => (hall x hx).elim (fun h => (List.mem_cons.mp h).elim (fun e => .inr (e ▸ hot)) .inl) .inr) hclo
    · rw [if_neg hot]
      have hoi : o ∈ adj i := hos o List.mem_cons_self
      have ho0 : o ∉ tr0 := fun h => hot (sub o h)
      have nd1 : (tr ++ [o]).Nodup := by
        rw [List.nodup_append]
        exact ⟨nd, by simp, fun a ha b hb e => by simp at hb; exact hot (hb ▸ e ▸ ha)⟩
      have lt1 : ∀ x ∈ tr ++ [o], x < n := fun x hx => (List.mem_append.mp hx).elim (lt x) fun h => by
        simp at h; rw [h]; exact hadj i o hoi
      cases hg : get inn o with
      | none =>
        refine ⟨true, put inn o i, tr ++ [o], rfl, nd1, lt1, fun x hx => List.mem_append_left _ (sub x hx), fun C hC hi => ?_, fun h => (nomatch h), fun _ => ⟨fun j hj => ?_, fun j j' x h1 h2 e1 e2 => ?_, fun x => ⟨?_, ?_⟩, len_put_none _ _ _ hg, fun he j x e => ?_, fun C hC j hj => ?_, keys_put⟩⟩
        · obtain ⟨x, e, _⟩ := hC o (hi o hoi)
          rw [hg] at e; cases e
        · exact get_put_ne _ _ fun (e : j = o) => ho0 (by rw [← e]; exact hj)
        · by_cases a1 : j = o
          · by_cases a2 : j' = o
            · rw [a1, a2]
            · rw [a1, get_put_self] at e1
              rw [get_put_ne _ _ a2] at e2
              cases e1
              exact absurd e2 (pre.fresh j' h2)
          · by_cases a2 : j' = o
            · rw [a2, get_put_self] at e2
              rw [get_put_ne _ _ a1] at e1
              cases e2
              exact absurd e1 (pre.fresh j h1)
            · rw [get_put_ne _ _ a1] at e1
              rw [get_put_ne _ _ a2] at e2
              exact pre.inj j j' x h1 h2 e1 e2
        · rintro ⟨j, hj, e⟩
          by_cases a : j = o
          · rw [a, get_put_self] at e
            cases e
            exact .inl rfl
          · rw [get_put_ne _ _ a] at e
            exact .inr ⟨j, hj, e⟩
        · rintro (rfl | ⟨j, hj, e⟩)
          · exact ⟨o, ho0, get_put_self _ _ _⟩
          · refine ⟨j, hj, ?_⟩
            rw [get_put_ne _ _ fun a => by rw [a, hg] at e; cases e]
            exact e
        · by_cases a : j = o
          · rw [a, get_put_self] at e
            cases e
            rw [a]; exact hoi
          · rw [get_put_ne _ _ a] at e
            exact he j x e
        · refine get_put_ne _ _ fun a => ?_
          obtain ⟨x, e, _⟩ := hC j hj
          rw [a, hg] at e; cases e
      | some x =>
        simp only
        have pre1 : Pre inn (tr ++ [o]) x := ⟨fun j j' y h1 h2 e1 e2 => pre.inj j j' y (fun h => h1 (List.mem_append_left _ (sub j h))) (fun h => h2 (List.mem_append_left _ (sub j' h))) e1 e2, fun j h e => by
          have := pre.inj j o x (fun h' => h (List.mem_append_left _ (sub j h'))) ho0 e hg
          exact h (List.mem_append_right _ (by rw [this]; exact List.mem_singleton.mpr rfl))⟩
        obtain ⟨b, inn', tr', ej, out⟩ := J x inn (tr ++ [o]) nd1 lt1 (by rw [List.length_append, List.length_singleton]; omega) pre1
        rw [ej]
        have hotr' : o ∈ tr' := out.sub o (by simp)
        cases b with
        | false =>
          simp only
          obtain ⟨rfl, nb, clo⟩ := out.no rfl
          refine loop_spec hadj J os inn' tr' (fun y hy => hos y (List.mem_cons_of_mem _ hy)) out.nd out.lt (fun y hy => out.sub y (List.mem_append_left _ (sub y hy))) ?_ pre ?_ ?_
          · have : (tr ++ [o]).length ≤ tr'.length := by
              exact nd_len _ _ nd1 out.sub
            rw [List.length_append, List.length_singleton] at this
            omega
          · intro y hy
            rcases hall y hy with h | h
            · rcases List.mem_cons.mp h with rfl | h
              · exact .inr hotr'
              · exact .inl h
            · exact .inr (out.sub y (List.mem_append_left _ h))
          · intro y hy hy0
            by_cases h1 : y ∈ tr ++ [o]
            · rcases List.mem_append.mp h1 with h2 | h2
              · obtain ⟨z, ez, hz⟩ := hclo y h2 hy0
                exact ⟨z, ez, fun q hq => out.sub q (List.mem_append_left _ (hz q hq))⟩
              · simp at h2
                subst h2
                exact ⟨x, hg, nb⟩
            · exact clo y hy h1
        | true =>
          simp only
          obtain ⟨ag, inj, rng, len, edges, closed, keys⟩ := out.yes rfl
          have hgo : get inn' o = some x := by rw [ag o (by simp)]; exact hg
          have agt : ∀ j ∈ tr, get inn' j = get inn j := fun j hj => ag j (List.mem_append_left _ hj)
          have nin1 : ∀ {j}, j ∉ tr → j ≠ o → j ∉ tr ++ [o] := fun h1 h2 h => (List.mem_append.mp h).elim h1 fun h => h2 (by simpa using h)
          have nin0 : ∀ {j}, j ∉ tr ++ [o] → j ∉ tr0 ∧ j ≠ o ∧ j ∉ tr := fun h => ⟨fun h' => h (List.mem_append_left _ (sub _ h')), fun e => h (by rw [e]; simp), fun h' => h (List.mem_append_left _ h')⟩
          -- no outer out of tr0, other than o, is i's
          have noi : ∀ j, j ∉ tr0 → j ≠ o → get inn' j ≠ some i := fun j hj hjo e => by
            by_cases ht : j ∈ tr
            · rw [agt j ht] at e
              exact pre.fresh j hj e
            · rcases (rng i).mp ⟨j, nin1 ht hjo, e⟩ with rfl | ⟨j2, h2, e2⟩
              · exact pre.fresh o ho0 hg
              · exact pre.fresh j2 (nin0 h2).1 e2
          refine ⟨true, put inn' o i, tr', rfl, out.nd, out.lt, fun y hy => out.sub y (List.mem_append_left _ (sub y hy)), fun C hC hi => ?_, fun h => (nomatch h), fun _ => ⟨fun j hj => ?_, fun j j' y h1 h2 e1 e2 => ?_, fun y => ⟨?_, ?_⟩, ?_, fun he j y e => ?_, fun C hC j hj => ?_, fun hn => keys_put (keys hn)⟩⟩
          · obtain ⟨z, ez, hz⟩ := hC o (hi o hoi)
            rw [hg] at ez
            cases ez
            have := out.cl C hC hz
            cases this
          · rw [get_put_ne _ _ fun (e : j = o) => ho0 (by rw [← e]; exact hj)]
            exact agt j (sub j hj)
          · by_cases a1 : j = o
            · by_cases a2 : j' = o
              · rw [a1, a2]
              · rw [a1, get_put_self] at e1
                rw [get_put_ne _ _ a2] at e2
                cases e1
                exact absurd e2 (noi j' h2 a2)
            · by_cases a2 : j' = o
              · rw [a2, get_put_self] at e2
                rw [get_put_ne _ _ a1] at e1
                cases e2
                exact absurd e1 (noi j h1 a1)
              · rw [get_put_ne _ _ a1] at e1
                rw [get_put_ne _ _ a2] at e2
                have mixed : ∀ u v, u ∉ tr → u ≠ o → v ∈ tr → v ∉ tr0 → get inn' u = some y → get inn' v = some y → False := fun u v hu huo hv hv0 eu ev => by
                  rw [agt v hv] at ev
                  rcases (rng y).mp ⟨u, nin1 hu huo, eu⟩ with rfl | ⟨j2, h2, e3⟩
                  · have := pre.inj v o y hv0 ho0 ev hg
                    exact hot (this ▸ hv)
                  · have := pre.inj v j2 y hv0 (nin0 h2).1 ev e3
                    exact (nin0 h2).2.2 (this ▸ hv)
                by_cases t1 : j ∈ tr
                · by_cases t2 : j' ∈ tr
                  · rw [agt j t1] at e1
                    rw [agt j' t2] at e2
                    exact pre.inj j j' y h1 h2 e1 e2
                  · exact (mixed j' j t2 a2 t1 h1 e2 e1).elim
                · by_cases t2 : j' ∈ tr
                  · exact (mixed j j' t1 a1 t2 h2 e1 e2).elim
                  · exact inj j j' y (nin1 t1 a1) (nin1 t2 a2) e1 e2
          · rintro ⟨j, hj, e⟩
            by_cases a : j = o
            · rw [a, get_put_self] at e
              cases e
              exact .inl rfl
            · rw [get_put_ne _ _ a] at e
              by_cases t1 : j ∈ tr
              · rw [agt j t1] at e
                exact .inr ⟨j, hj, e⟩
              · rcases (rng y).mp ⟨j, nin1 t1 a, e⟩ with rfl | ⟨j2, h2, e3⟩
                · exact .inr ⟨o, ho0, hg⟩
                · exact .inr ⟨j2, (nin0 h2).1, e3⟩
          · rintro (rfl | ⟨j, hj, e⟩)
            · exact ⟨o, ho0, get_put_self _ _ _⟩
            · by_cases t1 : j ∈ tr
              · refine ⟨j, hj, ?_⟩
                rw [get_put_ne _ _ fun (a : j = o) => hot (by rw [← a]; exact t1), agt j t1]
                exact e
              · have : ∃ j2, j2 ∉ tr ++ [o] ∧ get inn' j2 = some y := by
                  by_cases a : j = o
                  · rw [a, hg] at e
                    have e : x = y := Option.some.inj e
                    exact (rng y).mpr (.inl e.symm)
                  · exact (rng y).mpr (.inr ⟨j, nin1 t1 a, e⟩)
                obtain ⟨j2, h2, e2⟩ := this
                refine ⟨j2, (nin0 h2).1, ?_⟩
                rw [get_put_ne _ _ (nin0 h2).2.1]
                exact e2
          · rw [len_put_some _ _ _ _ hgo, len]
          · by_cases a : j = o
            · rw [a, get_put_self] at e
              cases e
              rw [a]; exact hoi
            · rw [get_put_ne _ _ a] at e
              exact edges he j y e
          · have hno : j ≠ o := fun a => by
              obtain ⟨z, ez, hz⟩ := hC j hj
              rw [a, hg] at ez
              cases ez
              have := out.cl C hC hz
              cases this
            rw [get_put_ne _ _ hno]
            exact closed C hC j hj
theorem join_spec {adj : Nat → List Nat} {n : Nat} (hadj : ∀ i, ∀ o ∈ adj i, o < n) : ∀ (k i : Nat) (inn : MP) (tr : List Nat), tr.Nodup → (∀ o ∈ tr, o < n) → n < k + tr.length → Pre inn tr i → ∃ b inn' tr', joinP adj k i inn tr = some (b, inn', tr') ∧ Out adj n i inn tr b inn' tr'
  | 0, i, inn, tr, nd, lt, hk, _ => by
    have : tr.length ≤ n := by
      have := nd_len tr (List.range n) nd fun z hz => List.mem_range.mpr (lt z hz)
      simpa using this
    omega
  | k + 1, i, inn, tr, nd, lt, hk, pre => loop_spec hadj (join_spec hadj k) (adj i) inn tr (fun _ h => h) nd lt (fun _ h => h) hk pre (fun _ h => .inl h) (fun o h h' => absurd h h')
end Mt
/-! The greatest matching and the fewest to drop. -/
namespace Mt
/-- all kept ones, one behind another -/
def runM (adj : Nat → List Nat) (k : Nat) : List Nat → MP → Option MP
  | [], inn => some inn
  | i :: is, inn => (joinP adj k i inn []).bind fun r => runM adj k is r.2.1
structure Res (adj : Nat → List Nat) (ks : List Nat) (M : MP) : Prop where
  keys : (M.map (·.1)).Nodup
  inj : ∀ j j' x, get M j = some x → get M j' = some x → j = j'
  edges : ∀ j x, get M j = some x → j ∈ adj x
  rng : ∀ j x, get M j = some x → x ∈ ks
  cov : ∃ C : List Nat, (∀ j ∈ C, ∃ x, get M j = some x ∧ ∀ o ∈ adj x, o ∈ C) ∧ ∀ x ∈ ks, (∀ j, get M j ≠ some x) → ∀ o ∈ adj x, o ∈ C
theorem run_spec {adj : Nat → List Nat} {n : Nat} (hadj : ∀ i, ∀ o ∈ adj i, o < n) {k : Nat} (hk : n < k) : ∀ (is done : List Nat) (inn : MP), (done ++ is).Nodup → Res adj done inn → ∃ M, runM adj k is inn = some M ∧ Res adj (done ++ is) M
  | [], done, inn, _, r => ⟨inn, rfl, by rw [List.append_nil]; exact r⟩
  | i :: is, done, inn, nd, r => by
    have hi : i ∉ done := fun h => by
      rw [List.nodup_append] at nd
      exact nd.2.2 i h i List.mem_cons_self rfl
    have pre : Pre inn [] i := ⟨fun j j' x _ _ e1 e2 => r.inj j j' x e1 e2, fun j _ e => hi (r.rng j i e)⟩
    obtain ⟨b, inn', tr', ej, out⟩ := join_spec hadj k i inn [] List.nodup_nil (fun _ h => nomatch h) (by simpa using hk) pre
    have nx : Res adj (done ++ [i]) inn' := by
      obtain ⟨C, c1, c2⟩ := r.cov
      cases b with
      | false =>
        obtain ⟨rfl, nb, clo⟩ := out.no rfl
        refine ⟨r.keys, r.inj, r.edges, fun j x e => List.mem_append_left _ (r.rng j x e), C ++ tr', fun j hj => ?_, fun x hx hno o ho => ?_⟩
        · rcases List.mem_append.mp hj with h | h
          · obtain ⟨x, e, hx⟩ := c1 j h
            exact ⟨x, e, fun o ho => List.mem_append_left _ (hx o ho)⟩
          · obtain ⟨x, e, hx⟩ := clo j h List.not_mem_nil
            exact ⟨x, e, fun o ho => List.mem_append_right _ (hx o ho)⟩
        · rcases List.mem_append.mp hx with h | h
          · exact List.mem_append_left _ (c2 x h hno o ho)
          · simp at h
            subst h
            exact List.mem_append_right _ (nb o ho)
      | true =>
        obtain ⟨_, inj, rng, _, edges, closed, keys⟩ := out.yes rfl
        have hC := closed (fun j => j ∈ C) c1
        refine ⟨keys r.keys, fun j j' x e1 e2 => inj j j' x List.not_mem_nil List.not_mem_nil e1 e2, edges r.edges, fun j x e => ?_, C, fun j hj => ?_, fun x hx hno o ho => ?_⟩
        · rcases (rng x).mp ⟨j, List.not_mem_nil, e⟩ with rfl | ⟨j2, _, e2⟩
          · simp
          · exact List.mem_append_left _ (r.rng j2 x e2)
        · obtain ⟨x, e, hx⟩ := c1 j hj
          exact ⟨x, by rw [hC j hj]; exact e, hx⟩
        · rcases List.mem_append.mp hx with h | h
          · refine c2 x h (fun j e => ?_) o ho
            obtain ⟨j2, _, e2⟩ := (rng x).mpr (.inr ⟨j, List.not_mem_nil, e⟩)
            exact hno j2 e2
          · simp at h
            subst h
            obtain ⟨j2, _, e2⟩ := (rng x).mpr (.inl rfl)
            exact absurd e2 (hno j2)
    have e0 : done ++ i :: is = (done ++ [i]) ++ is := by simp
    rw [e0] at nd ⊢
    obtain ⟨M, e, res⟩ := run_spec hadj hk is (done ++ [i]) inn' nd nx
    refine ⟨M, ?_, res⟩
    unfold runM
    rw [ej]
    exact e
theorem run_all {adj : Nat → List Nat} {n : Nat} (hadj : ∀ i, ∀ o ∈ adj i, o < n) {k : Nat} (hk : n < k) {ks : List Nat} (nd : ks.Nodup) : ∃ M, runM adj k ks [] = some M ∧ Res adj ks M := by
  have := run_spec hadj hk ks [] [] (by simpa using nd) ⟨List.nodup_nil, (fun j j' x e => nomatch e), (fun j x e => nomatch e), (fun j x e => nomatch e), [], (fun j h => nomatch h), (fun x h => nomatch h)⟩
  simpa using this
/-! ### late pairs -/
structure Late (late : Nat → Nat → Bool) (kl : Nat → Nat) : Prop where
  lt : ∀ x y, late x y = true → kl x < kl y
  tr : ∀ x y z, late x y = true → late y z = true → late x z = true
def Valid (late : Nat → Nat → Bool) (ks D : List Nat) : Prop := ∀ x ∈ ks, ∀ y ∈ ks, late x y = true → x ∈ D ∨ y ∈ D
/-- adjacency: the later ones among the kept ones -/
def AdjOk (late : Nat → Nat → Bool) (ks : List Nat) (adj : Nat → List Nat) : Prop := ∀ x o, x ∈ ks → (o ∈ adj x ↔ o ∈ ks ∧ late x o = true)
def IsNu (late : Nat → Nat → Bool) (ks : List Nat) (v : Nat) : Prop := (∀ D : List Nat, D.Nodup → (∀ d ∈ D, d ∈ ks) → Valid late ks D → v ≤ D.length) ∧ ∃ D : List Nat, D.Nodup ∧ (∀ d ∈ D, d ∈ ks) ∧ Valid late ks D ∧ D.length ≤ v
theorem nu_unique {late : Nat → Nat → Bool} {ks : List Nat} {v v' : Nat} (h : IsNu late ks v) (h' : IsNu late ks v') : v = v' := by
  obtain ⟨a, D, n, s, V, l⟩ := h
  obtain ⟨a', D', n', s', V', l'⟩ := h'
  have := a D' n' s' V'
  have := a' D n s V
  omega
/-- the chain below -/
def it (M : MP) : Nat → Nat → Option Nat
  | 0, o => some o
  | k + 1, o => (get M o).bind fun x => it M k x
theorem it_snoc (M : MP) : ∀ (k o x : Nat), it M (k + 1) o = some x ↔ ∃ y, it M k o = some y ∧ get M y = some x
  | 0, o, x => by simp [it, Option.bind_eq_some_iff]
  | k + 1, o, x => by
    constructor
    · intro h
      obtain ⟨z, e1, e2⟩ := Option.bind_eq_some_iff.mp (show (get M o).bind (fun x => it M (k + 1) x) = some x from h)
      obtain ⟨y, e3, e4⟩ := (it_snoc M k z x).mp e2
      refine ⟨y, ?_, e4⟩
      show (get M o).bind (fun x => it M k x) = some y
      rw [e1]; exact e3
    · rintro ⟨y, e1, e2⟩
      obtain ⟨z, e3, e4⟩ := Option.bind_eq_some_iff.mp (show (get M o).bind (fun x => it M k x) = some y from e1)
      show (get M o).bind (fun x => it M (k + 1) x) = some x
      rw [e3]
      exact (it_snoc M k z x).mpr ⟨y, e4, e2⟩
section
variable {late : Nat → Nat → Bool} {kl : Nat → Nat} {ks : List Nat} {adj : Nat → List Nat} {M : MP}
theorem edge_late (ha : AdjOk late ks adj) (r : Res adj ks M) {o x : Nat} (e : get M o = some x) : o ∈ ks ∧ x ∈ ks ∧ late x o = true := by
  have hx := r.rng o x e
  have := (ha x o hx).mp (r.edges o x e)
  exact ⟨this.1, hx, this.2⟩
theorem it_late (hl : Late late kl) (ha : AdjOk late ks adj) (r : Res adj ks M) : ∀ (k o x : Nat), it M (k + 1) o = some x → late x o = true ∧ x ∈ ks
  | 0, o, x, h => by
    obtain ⟨y, e1, e2⟩ := (it_snoc M 0 o x).mp h
    cases e1
    have := edge_late ha r e2
    exact ⟨this.2.2, this.2.1⟩
  | k + 1, o, x, h => by
    obtain ⟨y, e1, e2⟩ := (it_snoc M (k + 1) o x).mp h
    have h1 := (it_late hl ha r k o y e1).1
    have h2 := edge_late ha r e2
    exact ⟨hl.tr x y o h2.2.2 h1, h2.2.1⟩
/-- the bottom of the chain -/
theorem bot_ex (hl : Late late kl) (ha : AdjOk late ks adj) (r : Res adj ks M) : ∀ (f o : Nat), kl o < f → ∃ k b, it M k o = some b ∧ get M b = none
  | 0, o, h => by omega
  | f + 1, o, h => by
    cases e : get M o with
    | none => exact ⟨0, o, rfl, e⟩
    | some x =>
      have := hl.lt x o (edge_late ha r e).2.2
      obtain ⟨k, b, e1, e2⟩ := bot_ex hl ha r f x (by omega)
      refine ⟨k + 1, b, ?_, e2⟩
      show (get M o).bind (fun x => it M k x) = some b
      rw [e]; exact e1
theorem chain_one (r : Res adj ks M) {b : Nat} : ∀ (m m' o o' : Nat), it M m o = some b → it M m' o' = some b → m ≤ m' → it M (m' - m) o' = some o
  | 0, m', o, o', h, h', _ => by cases h; simpa using h'
  | m + 1, m', o, o', h, h', hm => by
    obtain ⟨x, e1, e2⟩ := Option.bind_eq_some_iff.mp (show (get M o).bind (fun x => it M m x) = some b from h)
    have ih := chain_one r m m' x o' e2 h' (by omega)
    obtain ⟨q, rfl⟩ : ∃ q, m' = m + 1 + q := ⟨m' - (m + 1), by omega⟩
    rw [show m + 1 + q - m = q + 1 by omega] at ih
    rw [show m + 1 + q - (m + 1) = q by omega]
    obtain ⟨y, e3, e4⟩ := (it_snoc M q o' x).mp ih
    have := r.inj y o x e4 e1
    subst this
    exact e3
theorem same_bot (hl : Late late kl) (ha : AdjOk late ks adj) (r : Res adj ks M) {m m' o o' b : Nat} (h : it M m o = some b) (h' : it M m' o' = some b) : o = o' ∨ late o o' = true ∨ late o' o = true := by
  have key : ∀ (m m' o o' : Nat), it M m o = some b → it M m' o' = some b → m ≤ m' → o = o' ∨ late o o' = true := fun m m' o o' h h' hm => by
    have := chain_one r m m' o o' h h' hm
    cases hk : m' - m with
    | zero => rw [hk] at this; cases this; exact .inl rfl
    | succ k => rw [hk] at this; exact .inr (it_late hl ha r k o' o this).1
  by_cases hm : m ≤ m'
  · exact (key m m' o o' h h' hm).elim .inl fun z => .inr (.inl z)
  · exact (key m' m o' o h' h (by omega)).elim (fun e => .inl e.symm) fun z => .inr (.inr z)
/-- at least as many as the matching has -/
theorem low (hl : Late late kl) (ha : AdjOk late ks adj) (r : Res adj ks M) {D : List Nat} (V : Valid late ks D) : M.length ≤ D.length := by
  have hbot : ∀ o, ∃ b, ∃ k, it M k o = some b ∧ get M b = none := fun o => by
    obtain ⟨k, b, e1, e2⟩ := bot_ex hl ha r (kl o + 1) o (by omega)
    exact ⟨b, k, e1, e2⟩
  -- o itself, or the bottom of its chain
  have hphi : ∀ o ∈ M.map (·.1), ∃ d ∈ D, (d = o ∨ (o ∉ D ∧ get M d = none ∧ ∃ k, it M (k + 1) o = some d)) := fun o ho => by
    by_cases hd : o ∈ D
    · exact ⟨o, hd, .inl rfl⟩
    · obtain ⟨b, k, e1, e2⟩ := hbot o
      cases k with
      | zero =>
        cases e1
        exact absurd ho ((get_none_iff M o).mp e2)
      | succ k =>
        have h1 := it_late hl ha r k o b e1
        have hok : o ∈ ks := by
          cases e : get M o with
          | none => exact absurd ho ((get_none_iff M o).mp e)
          | some x => exact (edge_late ha r e).1
        exact ⟨b, (V b h1.2 o hok h1.1).elim id fun h => absurd h hd, .inr ⟨hd, e2, k, e1⟩⟩
  have main : ∀ os : List Nat, os.Nodup → (∀ o ∈ os, o ∈ M.map (·.1)) → ∃ ds : List Nat, ds.length = os.length ∧ ds.Nodup ∧ (∀ d ∈ ds, d ∈ D ∧ ∃ o ∈ os, (d = o ∨ (o ∉ D ∧ get M d = none ∧ ∃ k, it M (k + 1) o = some d))) := fun os => by
    induction os with
    | nil => intro _ _; exact ⟨[], rfl, List.nodup_nil, fun d h => nomatch h⟩
    | cons o os ih =>
      intro nd hs
      rw [List.nodup_cons] at nd
      obtain ⟨ds, h1, h2, h3⟩ := ih nd.2 fun z hz => hs z (List.mem_cons_of_mem _ hz)
      obtain ⟨d, hd, hdo⟩ := hphi o (hs o List.mem_cons_self)
      refine ⟨d :: ds, by simp [h1], ?_, fun z hz => ?_⟩
      · rw [List.nodup_cons]
        refine ⟨fun hmem => ?_, h2⟩
        obtain ⟨_, o', ho', hdo'⟩ := h3 d hmem
        have hoo : o ≠ o' := fun e => nd.1 (e ▸ ho')
        have key : M.map (·.1) = M.map (·.1) := rfl
        have hdom : ∀ z ∈ M.map (·.1), get M z ≠ none := fun z hz e => (get_none_iff M z).mp e hz
        rcases hdo with rfl | ⟨hno, hb, k, e⟩
        · rcases hdo' with rfl | ⟨_, hb', _⟩
          · exact hoo rfl
          · exact hdom _ (hs d List.mem_cons_self) hb'
        · rcases hdo' with rfl | ⟨hno', hb', k', e'⟩
          · exact hdom _ (hs d (List.mem_cons_of_mem _ ho')) hb
          · have hko : ∀ z ∈ M.map (·.1), z ∈ ks := fun z hz => by
              cases ez : get M z with
              | none => exact absurd ez (hdom z hz)
              | some x => exact (edge_late ha r ez).1
            have k1 := hko o (hs o List.mem_cons_self)
            have k2 := hko o' (hs o' (List.mem_cons_of_mem _ ho'))
            rcases same_bot hl ha r e e' with h | h | h
            · exact hoo h
            · exact (V o k1 o' k2 h).elim hno hno'
            · exact (V o' k2 o k1 h).elim hno' hno
      · rcases List.mem_cons.mp hz with rfl | hz
        · exact ⟨hd, o, List.mem_cons_self, hdo⟩
        · obtain ⟨a, o', b, c⟩ := h3 z hz
          exact ⟨a, o', List.mem_cons_of_mem _ b, c⟩
  obtain ⟨ds, h1, h2, h3⟩ := main (M.map (·.1)) r.keys fun _ h => h
  have := nd_len ds D h2 fun d hd => (h3 d hd).1
  rw [h1, List.length_map] at this
  exact this
/-- and as many do -/
theorem high (ha : AdjOk late ks adj) (nd : ks.Nodup) (r : Res adj ks M) : ∃ D : List Nat, D.Nodup ∧ (∀ d ∈ D, d ∈ ks) ∧ Valid late ks D ∧ D.length ≤ M.length := by
  obtain ⟨C, c1, c2⟩ := r.cov
  let E : List Nat := M.map fun p => if p.1 ∈ C then p.1 else p.2
  refine ⟨ks.filter fun d => decide (d ∈ E), nd.filter _, fun d hd => (List.mem_filter.mp hd).1, fun x hx o ho hlate => ?_, ?_⟩
  · have hadj : o ∈ adj x := (ha x o hx).mpr ⟨ho, hlate⟩
    have inC : o ∈ C → o ∈ ks.filter fun d => decide (d ∈ E) := fun h => by
      obtain ⟨y, e, _⟩ := c1 o h
      refine List.mem_filter.mpr ⟨ho, decide_eq_true (List.mem_map.mpr ⟨(o, y), get_mem e, ?_⟩)⟩
      simp [h]
    by_cases hun : ∀ j, get M j ≠ some x
    · exact .inr (inC (c2 x hx hun o hadj))
    · have : ∃ j, get M j = some x := Classical.byContradiction fun hh => hun fun j e => hh ⟨j, e⟩
      obtain ⟨j, e⟩ := this
      by_cases hj : j ∈ C
      · obtain ⟨y, e2, hy⟩ := c1 j hj
        rw [e] at e2
        cases e2
        exact .inr (inC (hy o hadj))
      · refine .inl (List.mem_filter.mpr ⟨hx, decide_eq_true (List.mem_map.mpr ⟨(j, x), get_mem e, ?_⟩)⟩)
        simp [hj]
  · have := nd_len (ks.filter fun d => decide (d ∈ E)) E (nd.filter _) fun z hz => of_decide_eq_true (List.mem_filter.mp hz).2
    rw [show E.length = M.length from List.length_map _] at this
    exact this
theorem nu_of (hl : Late late kl) (ha : AdjOk late ks adj) (nd : ks.Nodup) (r : Res adj ks M) : IsNu late ks M.length := ⟨fun D _ _ V => low hl ha r V, high ha nd r⟩
end
end Mt
/-! The first of the fewest; chains. -/
namespace Mt
abbrev GS := List Nat × List Nat × Nat
def stepG (nu : List Nat → Nat) (s : GS) (k : Nat) : GS := if 0 < s.2.2 ∧ nu (s.2.1.filter fun x => decide (x ≠ k)) < s.2.2 then (s.1 ++ [k], s.2.1.filter fun x => decide (x ≠ k), s.2.2 - 1) else s
def Opt (late : Nat → Nat → Bool) (n v : Nat) (T : List Nat) : Prop := T.Nodup ∧ (∀ t ∈ T, t < n) ∧ Valid late (List.range n) T ∧ T.length = v
def Agree (T dr : List Nat) (k : Nat) : Prop := ∀ i, i < k → (i ∈ T ↔ i ∈ dr)
def First (T dr : List Nat) (k : Nat) : Prop := ∃ j, j < k ∧ Agree T dr j ∧ j ∈ dr ∧ j ∉ T
structure GI (late : Nat → Nat → Bool) (n v k : Nat) (s : GS) : Prop where
  lt : ∀ d ∈ s.1, d < k
  up : s.1.Pairwise (· < ·)
  kept : s.2.1 = (List.range n).filter fun x => decide (x ∉ s.1)
  size : s.2.2 + s.1.length = v
  first : ∀ T, Opt late n v T → First T s.1 k ∨ Agree T s.1 k
  ex : ∃ T, Opt late n v T ∧ Agree T s.1 k
theorem nodup_lt {l : List Nat} (h : l.Pairwise (· < ·)) : l.Nodup := h.imp fun {a b} (hab : a < b) => Nat.ne_of_lt hab
section
variable {late : Nat → Nat → Bool} {n v k : Nat} {s : GS}
theorem rest_mem (i : GI late n v k s) {x : Nat} : x ∈ s.2.1.filter (fun x => decide (x ≠ k)) ↔ x < n ∧ x ∉ s.1 ∧ x ≠ k := by
  rw [List.mem_filter, i.kept, List.mem_filter, List.mem_range]
  simp [and_assoc]
theorem stepA (i : GI late n v k s) {m : Nat} (hm : IsNu late (s.2.1.filter fun x => decide (x ≠ k)) m) {T : List Nat} (o : Opt late n v T) (a : Agree T s.1 k) (hk : k ∈ T) : 0 < s.2.2 ∧ m < s.2.2 := by
  obtain ⟨o1, o2, o3, o4⟩ := o
  let T' := T.filter fun t => decide (t ∉ s.1 ∧ t ≠ k)
  have hT' : ∀ t, t ∈ T' ↔ t ∈ T ∧ t ∉ s.1 ∧ t ≠ k := fun t => by simp [T', List.mem_filter]
  have nd : ((s.1 ++ [k]) ++ T').Nodup := by
    rw [List.nodup_append, List.nodup_append]
    refine ⟨⟨nodup_lt i.up, by simp, fun a ha b hb e => ?_⟩, o1.filter _, fun a ha b hb e => ?_⟩
    · simp at hb
      have := i.lt a ha
      omega
    · subst e
      have := (hT' a).mp hb
      rcases List.mem_append.mp ha with h | h
      · exact this.2.1 h
      · simp at h; exact this.2.2 h
  have sub : ∀ z ∈ (s.1 ++ [k]) ++ T', z ∈ T := fun z hz => by
    rcases List.mem_append.mp hz with h | h
    · rcases List.mem_append.mp h with h | h
      · exact (a z (i.lt z h)).mpr h
      · simp at h; rw [h]; exact hk
    · exact ((hT' z).mp h).1
  have hl := nd_len _ T nd sub
  simp only [List.length_append, List.length_singleton] at hl
  have hsz := i.size
  have hv : Valid late (s.2.1.filter fun x => decide (x ≠ k)) T' := fun x hx y hy hxy => by
    have h1 := (rest_mem i).mp hx
    have h2 := (rest_mem i).mp hy
    exact (o3 x (List.mem_range.mpr h1.1) y (List.mem_range.mpr h2.1) hxy).elim (fun h => .inl ((hT' x).mpr ⟨h, h1.2⟩)) fun h => .inr ((hT' y).mpr ⟨h, h2.2⟩)
  have := hm.1 T' (o1.filter _) (fun d hd => by
    have := (hT' d).mp hd
    exact (rest_mem i).mpr ⟨o2 d this.1, this.2⟩) hv
  omega
theorem stepB (i : GI late n v k s) (hkn : k < n) (hU : IsNu late (List.range n) v) {m : Nat} (hm : IsNu late (s.2.1.filter fun x => decide (x ≠ k)) m) (hs : m < s.2.2) : ∃ T, Opt late n v T ∧ (∀ d ∈ s.1, d ∈ T) ∧ k ∈ T := by
  obtain ⟨D, d1, d2, d3, d4⟩ := hm.2
  have hd : ∀ d ∈ D, d < n ∧ d ∉ s.1 ∧ d ≠ k := fun d hd => (rest_mem i).mp (d2 d hd)
  have nd : ((s.1 ++ [k]) ++ D).Nodup := by
    rw [List.nodup_append, List.nodup_append]
    refine ⟨⟨nodup_lt i.up, by simp, fun a ha b hb e => ?_⟩, d1, fun a ha b hb e => ?_⟩
    · simp at hb
      have := i.lt a ha
      omega
    · subst e
      rcases List.mem_append.mp ha with h | h
      · exact (hd a hb).2.1 h
      · simp at h; exact (hd a hb).2.2 h
  have lt : ∀ t ∈ (s.1 ++ [k]) ++ D, t < n := fun t ht => by
    rcases List.mem_append.mp ht with h | h
    · rcases List.mem_append.mp h with h | h
      · have := i.lt t h; omega
      · simp at h; omega
    · exact (hd t h).1
  have V : Valid late (List.range n) ((s.1 ++ [k]) ++ D) := fun x hx y hy hxy => by
    by_cases h1 : x ∈ s.1 ++ [k]
    · exact .inl (List.mem_append_left _ h1)
    · by_cases h2 : y ∈ s.1 ++ [k]
      · exact .inr (List.mem_append_left _ h2)
      · simp only [List.mem_append, List.mem_singleton, not_or] at h1 h2
        exact (d3 x ((rest_mem i).mpr ⟨List.mem_range.mp hx, h1⟩) y ((rest_mem i).mpr ⟨List.mem_range.mp hy, h2⟩) hxy).elim (fun h => .inl (List.mem_append_right _ h)) fun h => .inr (List.mem_append_right _ h)
  have h1 := hU.1 _ nd (fun d h => List.mem_range.mpr (lt d h)) V
  have hsz := i.size
  refine ⟨_, ⟨nd, lt, V, ?_⟩, fun d h => List.mem_append_left _ (List.mem_append_left _ h), by simp⟩
  simp only [List.length_append, List.length_singleton] at h1 ⊢
  omega
theorem stepG_ok (i : GI late n v k s) (hkn : k < n) (hU : IsNu late (List.range n) v) {nu : List Nat → Nat} (hnu : IsNu late (s.2.1.filter fun x => decide (x ≠ k)) (nu (s.2.1.filter fun x => decide (x ≠ k)))) : GI late n v (k + 1) (stepG nu s k) := by
  have agS : ∀ {T dr : List Nat}, Agree T dr k → (k ∈ T ↔ k ∈ dr) → Agree T dr (k + 1) := fun {T dr} a h j hj => by
    by_cases e : j = k
    · rw [e]; exact h
    · exact a j (by omega)
  have hknot : k ∉ s.1 := fun h => Nat.lt_irrefl _ (i.lt k h)
  unfold stepG
  by_cases hc : 0 < s.2.2 ∧ nu (s.2.1.filter fun x => decide (x ≠ k)) < s.2.2
  · rw [if_pos hc]
    have hag : ∀ {T : List Nat} {j : Nat}, j ≤ k → Agree T s.1 j → Agree T (s.1 ++ [k]) j := fun {T j} hj a z hz => by
      rw [a z hz, List.mem_append]
      exact ⟨.inl, fun h => h.elim id fun h => by simp at h; omega⟩
    refine ⟨fun d hd => ?_, ?_, ?_, ?_, fun T o => ?_, ?_⟩
    · rcases List.mem_append.mp hd with h | h
      · exact Nat.lt_succ_of_lt (i.lt d h)
      · simp at h; omega
    · rw [List.pairwise_append]
      refine ⟨i.up, List.pairwise_singleton _ _, fun a ha b hb => ?_⟩
      simp at hb
      rw [hb]
      exact i.lt a ha
    · show s.2.1.filter (fun x => decide (x ≠ k)) = _
      rw [i.kept, List.filter_filter]
      congr 1
      funext x
      simp only [List.mem_append, List.mem_singleton, not_or]
      rw [← Bool.decide_and]
      exact decide_eq_decide.mpr ⟨fun h => ⟨h.2, h.1⟩, fun h => ⟨h.2, h.1⟩⟩
    · show s.2.2 - 1 + (s.1 ++ [k]).length = v
      have := i.size
      simp only [List.length_append, List.length_singleton]
      omega
    · rcases i.first T o with ⟨j, hj, a, h1, h2⟩ | a
      · exact .inl ⟨j, by omega, hag (by omega) a, List.mem_append_left _ h1, h2⟩
      · by_cases hk : k ∈ T
        · exact .inr (agS (hag (Nat.le_refl _) a) ⟨fun _ => by simp, fun _ => hk⟩)
        · exact .inl ⟨k, by omega, hag (Nat.le_refl _) a, by simp, hk⟩
    · obtain ⟨T, o, h1, h2⟩ := stepB i hkn hU hnu hc.2
      refine ⟨T, o, ?_⟩
      rcases i.first T o with ⟨j, hj, a, h3, h4⟩ | a
      · exact absurd (h1 j h3) h4
      · exact agS (hag (Nat.le_refl _) a) ⟨fun _ => by simp, fun _ => h2⟩
  · rw [if_neg hc]
    have hno : ∀ T, Opt late n v T → Agree T s.1 k → k ∉ T := fun T o a hk => hc (stepA i hnu o a hk)
    refine ⟨fun d hd => Nat.lt_succ_of_lt (i.lt d hd), i.up, i.kept, i.size, fun T o => ?_, ?_⟩
    · rcases i.first T o with ⟨j, hj, a, h1, h2⟩ | a
      · exact .inl ⟨j, by omega, a, h1, h2⟩
      · exact .inr (agS a ⟨fun h => absurd h (hno T o a), fun h => absurd h hknot⟩)
    · obtain ⟨T, o, a⟩ := i.ex
      exact ⟨T, o, agS a ⟨fun h => absurd h (hno T o a), fun h => absurd h hknot⟩⟩
end
theorem gi_start {late : Nat → Nat → Bool} {n v : Nat} (hU : IsNu late (List.range n) v) : GI late n v 0 ([], List.range n, v) := by
  obtain ⟨D, d1, d2, d3, d4⟩ := hU.2
  have := hU.1 D d1 d2 d3
  refine ⟨fun d h => (nomatch h), List.Pairwise.nil, ?_, by simp, fun T _ => .inr fun i h => absurd h (Nat.not_lt_zero _), D, ⟨d1, fun t ht => List.mem_range.mp (d2 t ht), d3, by omega⟩, fun i h => absurd h (Nat.not_lt_zero _)⟩
  symm
  rw [List.filter_eq_self]
  intro a _
  simp
/-- what the end says -/
theorem gi_end {late : Nat → Nat → Bool} {n v : Nat} {s : GS} (i : GI late n v n s) : Opt late n v s.1 ∧ ∀ T, Opt late n v T → First T s.1 n ∨ ∀ x, x ∈ T ↔ x ∈ s.1 := by
  obtain ⟨T, ⟨o1, o2, o3, o4⟩, a⟩ := i.ex
  have key : ∀ {T : List Nat}, (∀ t ∈ T, t < n) → Agree T s.1 n → ∀ x, x ∈ T ↔ x ∈ s.1 := fun {T} h a x => by
    by_cases hx : x < n
    · exact a x hx
    · exact ⟨fun h' => absurd (h x h') hx, fun h' => absurd (i.lt x h') hx⟩
  have hk := key o2 a
  have nd := nodup_lt i.up
  refine ⟨⟨nd, i.lt, fun x hx y hy h => (o3 x hx y hy h).elim (fun z => .inl ((hk x).mp z)) fun z => .inr ((hk y).mp z), ?_⟩, fun T o => (i.first T o).elim .inl fun a => .inr (key o.2.1 a)⟩
  have h1 := nd_len s.1 T nd fun z hz => (hk z).mpr hz
  have h2 := nd_len T s.1 o1 fun z hz => (hk z).mp hz
  omega
theorem filt_two (p : Nat → Bool) : ∀ l : List Nat, (l.filter p).length + (l.filter fun x => !p x).length = l.length
  | [] => rfl
  | a :: l => by
    have ih := filt_two p l
    cases h : p a with
    | true => simp [List.filter_cons, h]; omega
    | false => simp [List.filter_cons, h]; omega
/-! ### chains -/
def up (S : Nat → Option Nat) : Nat → Nat → List Nat
  | 0, h => [h]
  | f + 1, h => match S h with
    | none => [h]
    | some o => h :: up S f o
theorem up_succ (S : Nat → Option Nat) (f h : Nat) : up S (f + 1) h = match S h with | none => [h] | some o => h :: up S f o := rfl
def adjs (cs : List Nat) : List (Nat × Nat) := cs.zip (cs.drop 1)
theorem up_head (S : Nat → Option Nat) : ∀ (f h : Nat), ∃ t, up S f h = h :: t
  | 0, h => ⟨[], rfl⟩
  | f + 1, h => by
    rw [up_succ]
    cases S h with
    | none => exact ⟨[], rfl⟩
    | some o => exact ⟨_, rfl⟩
theorem up_adj (S : Nat → Option Nat) : ∀ (f h : Nat), ∀ p ∈ adjs (up S f h), S p.1 = some p.2
  | 0, h, p, hp => by simp [adjs, up] at hp
  | f + 1, h, p, hp => by
    rw [up_succ] at hp
    cases e : S h with
    | none => rw [e] at hp; simp [adjs] at hp
    | some o =>
      rw [e] at hp
      simp only at hp
      obtain ⟨t, ht⟩ := up_head S f o
      have ih := up_adj S f o
      rw [ht] at hp ih
      have hp : p ∈ (h, o) :: adjs (o :: t) := hp
      rcases List.mem_cons.mp hp with rfl | hp
      · exact e
      · exact ih p hp
section
variable {late : Nat → Nat → Bool} {kl : Nat → Nat} {ks : List Nat} {adj : Nat → List Nat} {M : MP} {S : Nat → Option Nat}
theorem up_lt (hS : ∀ x o, S x = some o ↔ get M o = some x) (hl : Late late kl) (ha : AdjOk late ks adj) (r : Res adj ks M) : ∀ (f h x : Nat), x ∈ up S f h → x = h ∨ kl h < kl x
  | 0, h, x, hx => by simp [up] at hx; exact .inl hx
  | f + 1, h, x, hx => by
    rw [up_succ] at hx
    cases e : S h with
    | none => rw [e] at hx; simp at hx; exact .inl hx
    | some o =>
      rw [e] at hx
      have hlt := hl.lt h o (edge_late ha r ((hS h o).mp e)).2.2
      rcases List.mem_cons.mp hx with rfl | hx
      · exact .inl rfl
      · rcases up_lt hS hl ha r f o x hx with rfl | h2
        · exact .inr hlt
        · exact .inr (by omega)
theorem up_nodup (hS : ∀ x o, S x = some o ↔ get M o = some x) (hl : Late late kl) (ha : AdjOk late ks adj) (r : Res adj ks M) : ∀ (f h : Nat), (up S f h).Nodup
  | 0, h => by simp [up]
  | f + 1, h => by
    rw [up_succ]
    cases e : S h with
    | none => simp
    | some o =>
      have hlt := hl.lt h o (edge_late ha r ((hS h o).mp e)).2.2
      rw [List.nodup_cons]
      refine ⟨fun hm => ?_, up_nodup hS hl ha r f o⟩
      rcases up_lt hS hl ha r f o h hm with e2 | h2
      · rw [e2] at hlt; exact Nat.lt_irrefl _ hlt
      · omega
theorem up_it (hS : ∀ x o, S x = some o ↔ get M o = some x) : ∀ (f h x : Nat), x ∈ up S f h → ∃ k, it M k x = some h
  | 0, h, x, hx => by simp [up] at hx; subst hx; exact ⟨0, rfl⟩
  | f + 1, h, x, hx => by
    rw [up_succ] at hx
    cases e : S h with
    | none => rw [e] at hx; simp at hx; subst hx; exact ⟨0, rfl⟩
    | some o =>
      rw [e] at hx
      rcases List.mem_cons.mp hx with rfl | hx
      · exact ⟨0, rfl⟩
      · obtain ⟨k, ek⟩ := up_it hS f o x hx
        exact ⟨k + 1, (it_snoc M k x h).mpr ⟨o, ek, (hS h o).mp e⟩⟩
theorem it_up (hS : ∀ x o, S x = some o ↔ get M o = some x) (hl : Late late kl) (ha : AdjOk late ks adj) (r : Res adj ks M) {B : Nat} (hB : ∀ x, kl x ≤ B) : ∀ (k f h x : Nat), it M k x = some h → B < f + kl h → x ∈ up S f h
  | 0, f, h, x, e, _ => by
    cases e
    obtain ⟨t, ht⟩ := up_head S f h
    rw [ht]; exact List.mem_cons_self
  | k + 1, f, h, x, e, hf => by
    obtain ⟨y, e1, e2⟩ := (it_snoc M k x h).mp e
    have hlt := hl.lt h y (edge_late ha r e2).2.2
    cases f with
    | zero => have := hB h; omega
    | succ f =>
      rw [up_succ, (hS h y).mpr e2]
      exact List.mem_cons_of_mem _ (it_up hS hl ha r hB k f y x e1 (by omega))
theorem it_bot {b b' : Nat} : ∀ (k k' x : Nat), it M k x = some b → it M k' x = some b' → get M b = none → get M b' = none → b = b'
  | 0, 0, x, h, h', _, _ => by cases h; cases h'; rfl
  | 0, k' + 1, x, h, h', hb, _ => by
    have h : x = b := Option.some.inj h
    subst h
    obtain ⟨z, e, _⟩ := Option.bind_eq_some_iff.mp (show (get M x).bind (fun x => it M k' x) = some b' from h')
    rw [hb] at e; cases e
  | k + 1, 0, x, h, h', _, hb' => by
    have h' : x = b' := Option.some.inj h'
    subst h'
    obtain ⟨z, e, _⟩ := Option.bind_eq_some_iff.mp (show (get M x).bind (fun x => it M k x) = some b from h)
    rw [hb'] at e; cases e
  | k + 1, k' + 1, x, h, h', hb, hb' => by
    obtain ⟨z, e, e2⟩ := Option.bind_eq_some_iff.mp (show (get M x).bind (fun x => it M k x) = some b from h)
    obtain ⟨z', e3, e4⟩ := Option.bind_eq_some_iff.mp (show (get M x).bind (fun x => it M k' x) = some b' from h')
    rw [e] at e3
    cases e3
    exact it_bot k k' z e2 e4 hb hb'
/-- the chains from the heads hold each once -/
theorem chains_perm (hS : ∀ x o, S x = some o ↔ get M o = some x) (hl : Late late kl) {n : Nat} (ha : AdjOk late (List.range n) adj) (r : Res adj (List.range n) M) {B f : Nat} (hB : ∀ x, kl x ≤ B) (hf : B < f) :
    let hs := (List.range n).filter fun h => (get M h).isNone
    ((hs.map (up S f)).flatten).Nodup ∧ (∀ x, x ∈ (hs.map (up S f)).flatten ↔ x < n) ∧ hs.length + M.length = n := by
  intro hs
  have hhs : ∀ h, h ∈ hs ↔ h < n ∧ get M h = none := fun h => by simp [hs, List.mem_filter]
  refine ⟨?_, fun x => ⟨fun hx => ?_, fun hx => ?_⟩, ?_⟩
  · have main : ∀ l : List Nat, l.Nodup → (∀ h ∈ l, get M h = none) → ((l.map (up S f)).flatten).Nodup := fun l => by
      induction l with
      | nil => intro _ _; exact List.nodup_nil
      | cons h l ih =>
        intro nd hb
        rw [List.nodup_cons] at nd
        rw [List.map_cons, List.flatten_cons, List.nodup_append]
        refine ⟨up_nodup hS hl ha r f h, ih nd.2 fun z hz => hb z (List.mem_cons_of_mem _ hz), fun a h1 b h2 e => ?_⟩
        subst e
        obtain ⟨cs, hcs, hacs⟩ := List.mem_flatten.mp h2
        obtain ⟨h', hh', rfl⟩ := List.mem_map.mp hcs
        obtain ⟨k1, e1⟩ := up_it hS f h a h1
        obtain ⟨k2, e2⟩ := up_it hS f h' a hacs
        have := it_bot k1 k2 a e1 e2 (hb h List.mem_cons_self) (hb h' (List.mem_cons_of_mem _ hh'))
        exact nd.1 (this ▸ hh')
    exact main hs (List.nodup_range.filter _) fun h hh => ((hhs h).mp hh).2
  · obtain ⟨cs, hcs, hxcs⟩ := List.mem_flatten.mp hx
    obtain ⟨h, hh, rfl⟩ := List.mem_map.mp hcs
    obtain ⟨k, e⟩ := up_it hS f h x hxcs
    cases k with
    | zero => cases e; exact ((hhs x).mp hh).1
    | succ k =>
      obtain ⟨z, e1, _⟩ := Option.bind_eq_some_iff.mp (show (get M x).bind (fun x => it M k x) = some h from e)
      exact List.mem_range.mp (edge_late ha r e1).1
  · obtain ⟨k, b, e1, e2⟩ := bot_ex hl ha r (kl x + 1) x (by omega)
    have hbn : b < n := by
      cases k with
      | zero => cases e1; exact hx
      | succ k => exact List.mem_range.mp (it_late hl ha r k x b e1).2
    exact List.mem_flatten.mpr ⟨up S f b, List.mem_map.mpr ⟨b, (hhs b).mpr ⟨hbn, e2⟩, rfl⟩, it_up hS hl ha r hB k f b x e1 (by omega)⟩
  · have h1 : ((List.range n).filter fun h => (get M h).isNone).length + ((List.range n).filter fun h => !(get M h).isNone).length = n := by
      have := filt_two (fun h => (get M h).isNone) (List.range n)
      rw [List.length_range] at this
      exact this
    have hk : ∀ o ∈ M.map (·.1), o < n ∧ get M o ≠ none := fun o ho => by
      have hne : get M o ≠ none := fun e => (get_none_iff M o).mp e ho
      refine ⟨?_, hne⟩
      cases e : get M o with
      | none => exact absurd e hne
      | some x => exact List.mem_range.mp (edge_late ha r e).1
    have h2 : ((List.range n).filter fun h => !(get M h).isNone).length = M.length := by
      have a := nd_len ((List.range n).filter fun h => !(get M h).isNone) (M.map (·.1)) (List.nodup_range.filter _) fun z hz => by
        have := (List.mem_filter.mp hz).2
        refine Classical.byContradiction fun hh => ?_
        rw [(get_none_iff M z).mpr hh] at this
        cases this
      have b := nd_len (M.map (·.1)) ((List.range n).filter fun h => !(get M h).isNone) r.keys fun z hz => by
        have := hk z hz
        refine List.mem_filter.mpr ⟨List.mem_range.mpr this.1, ?_⟩
        cases e : get M z with
        | none => exact absurd e this.2
        | some x => rfl
      rw [List.length_map] at a b
      omega
    have h3 : hs.length = ((List.range n).filter fun h => (get M h).isNone).length := rfl
    show hs.length + M.length = n
    omega
end
end Mt
/-! The matching turned round. -/
namespace Mt
def inv (acc : MP) : MP → MP
  | [] => acc
  | p :: l => inv (put acc p.2 p.1) l
theorem inv_get : ∀ (l acc : MP) (x o : Nat), (l.map (·.2)).Nodup → (get (inv acc l) x = some o ↔ (o, x) ∈ l ∨ (x ∉ l.map (·.2) ∧ get acc x = some o))
  | [], acc, x, o, _ => by simp [inv]
  | p :: l, acc, x, o, nd => by
    rw [List.map_cons, List.nodup_cons] at nd
    unfold inv
    rw [inv_get l (put acc p.2 p.1) x o nd.2]
    by_cases hx : x = p.2
    · subst hx
      rw [get_put_self]
      have h1 : ∀ o, (o, p.2) ∉ l := fun o h => nd.1 (List.mem_map.mpr ⟨_, h, rfl⟩)
      constructor
      · rintro (h | ⟨_, h⟩)
        · exact absurd h (h1 o)
        · cases h; exact .inl List.mem_cons_self
      · rintro (h | ⟨h, _⟩)
        · rcases List.mem_cons.mp h with e | h
          · right
            refine ⟨nd.1, ?_⟩
            rw [← e]
          · exact absurd h (h1 o)
        · exact absurd (List.mem_cons_self) h
    · rw [get_put_ne _ _ hx]
      constructor
      · rintro (h | ⟨h, e⟩)
        · exact .inl (List.mem_cons_of_mem _ h)
        · refine .inr ⟨fun hm => ?_, e⟩
          rcases List.mem_cons.mp hm with h2 | h2
          · exact hx h2
          · exact h h2
      · rintro (h | ⟨h, e⟩)
        · rcases List.mem_cons.mp h with e | h
          · exact absurd (by rw [← e]) hx
          · exact .inl h
        · exact .inr ⟨fun hm => h (List.mem_cons_of_mem _ hm), e⟩
theorem vals_nd {adj : Nat → List Nat} {ks : List Nat} {M : MP} (r : Res adj ks M) : (M.map (·.2)).Nodup := by
  have h := r.keys
  unfold List.Nodup at h ⊢
  rw [List.pairwise_map] at h ⊢
  refine h.imp_of_mem fun {a b} ha hb hne e => hne ?_
  have e1 := mem_get r.keys (k := a.1) (x := a.2) ha
  have e2 := mem_get r.keys (k := b.1) (x := b.2) hb
  rw [← e] at e2
  exact r.inj _ _ _ e1 e2
theorem inv_iff {adj : Nat → List Nat} {ks : List Nat} {M : MP} (r : Res adj ks M) (x o : Nat) : get (inv [] M) x = some o ↔ get M o = some x := by
  rw [inv_get M [] x o (vals_nd r)]
  constructor
  · rintro (h | ⟨_, h⟩)
    · exact mem_get r.keys h
    · cases h
  · intro h
    exact .inl (get_mem h)
end Mt
/-! All choices, and the least of the good ones. -/
namespace Mt
def subs : Nat → List (List Nat)
  | 0 => [[]]
  | k + 1 => subs k ++ (subs k).map fun s => s ++ [k]
theorem subs_len : ∀ n, (subs n).length = 2 ^ n
  | 0 => rfl
  | n + 1 => by
    unfold subs
    rw [List.length_append, List.length_map, subs_len n, Nat.pow_succ]
    omega
abbrev Asc (l : List Nat) : Prop := l.Pairwise (· < ·)
theorem asc_split (j : Nat) : ∀ {l : List Nat}, Asc l → l = l.filter (fun x => decide (x < j)) ++ l.filter (fun x => !decide (x < j))
  | [], _ => rfl
  | a :: l, h => by
    have h' := List.pairwise_cons.mp h
    have ih := asc_split j h'.2
    by_cases ha : a < j
    · rw [List.filter_cons_of_pos (by simpa using ha), List.filter_cons_of_neg (by simpa using ha), List.cons_append, ← ih]
    · have e0 : l.filter (fun x => decide (x < j)) = [] := by
        rw [List.filter_eq_nil_iff]
        intro x hx
        have := h'.1 x hx
        simp
        omega
      rw [List.filter_cons_of_neg (by simpa using ha), List.filter_cons_of_pos (by simpa using ha), e0, List.nil_append]
      rw [e0, List.nil_append] at ih
      rw [← ih]
theorem asc_from {l : List Nat} (h : Asc l) {j : Nat} (hj : j ∈ l) : ∃ r, l.filter (fun x => !decide (x < j)) = j :: r ∧ ∀ x ∈ r, j < x := by
  have hp : Asc (l.filter fun x => !decide (x < j)) := h.filter _
  have hm : ∀ x ∈ l.filter (fun x => !decide (x < j)), j ≤ x := fun x hx => by
    have := (List.mem_filter.mp hx).2
    simp at this
    omega
  have hjm : j ∈ l.filter (fun x => !decide (x < j)) := List.mem_filter.mpr ⟨hj, by simp⟩
  generalize l.filter (fun x => !decide (x < j)) = l' at hp hm hjm
  cases l' with
  | nil => cases hjm
  | cons a r =>
    have hp' := List.pairwise_cons.mp hp
    rcases List.mem_cons.mp hjm with rfl | h2
    · exact ⟨r, rfl, hp'.1⟩
    · have := hp'.1 j h2
      have := hm a List.mem_cons_self
      omega
theorem subs_asc : ∀ (n : Nat) {T : List Nat}, T ∈ subs n → Asc T ∧ ∀ t ∈ T, t < n
  | 0, T, h => by
    have : T = [] := by simpa [subs] using h
    subst this
    exact ⟨List.Pairwise.nil, fun t h => nomatch h⟩
  | n + 1, T, h => by
    rcases List.mem_append.mp (show T ∈ subs n ++ (subs n).map fun s => s ++ [n] from h) with h | h
    · obtain ⟨a, b⟩ := subs_asc n h
      exact ⟨a, fun t ht => Nat.lt_succ_of_lt (b t ht)⟩
    · obtain ⟨s, hs, rfl⟩ := List.mem_map.mp h
      obtain ⟨a, b⟩ := subs_asc n hs
      refine ⟨?_, fun t ht => ?_⟩
      · unfold Asc
        rw [List.pairwise_append]
        refine ⟨a, List.pairwise_singleton _ _, fun x hx y hy => ?_⟩
        rw [List.mem_singleton] at hy
        subst hy
        exact b x hx
      · rcases List.mem_append.mp ht with h | h
        · exact Nat.lt_succ_of_lt (b t h)
        · rw [List.mem_singleton] at h; omega
theorem asc_subs : ∀ (n : Nat) {T : List Nat}, Asc T → (∀ t ∈ T, t < n) → T ∈ subs n
  | 0, T, _, h => by
    cases T with
    | nil => simp [subs]
    | cons a T => exact absurd (h a List.mem_cons_self) (Nat.not_lt_zero _)
  | n + 1, T, h, hl => by
    show T ∈ subs n ++ (subs n).map fun s => s ++ [n]
    by_cases hn : n ∈ T
    · refine List.mem_append_right _ (List.mem_map.mpr ⟨T.filter fun x => decide (x < n), asc_subs n (h.filter _) (fun t ht => by simpa using (List.mem_filter.mp ht).2), ?_⟩)
      obtain ⟨r, e, hr⟩ := asc_from h hn
      have : r = [] := by
        cases r with
        | nil => rfl
        | cons a r =>
          have h1 := hr a List.mem_cons_self
          have h2 : a ∈ T.filter (fun x => !decide (x < n)) := by rw [e]; simp
          have := hl a (List.mem_filter.mp h2).1
          omega
      subst this
      have := asc_split n h
      rw [e] at this
      exact this.symm
    · exact List.mem_append_left _ (asc_subs n h fun t ht => by
        have := hl t ht
        have : t ≠ n := fun e => hn (e ▸ ht)
        omega)
/-- R before T -/
def Bef (R T : List Nat) : Prop := R.length < T.length ∨ (R.length = T.length ∧ ∃ A j t R' T', R = A ++ j :: R' ∧ T = A ++ t :: T' ∧ j < t)
theorem asc_ext : ∀ {R T : List Nat}, Asc R → Asc T → (∀ x, x ∈ T ↔ x ∈ R) → R = T := fun {R T} hR hT h => by
  have hn : ∀ {l : List Nat}, Asc l → l.Nodup := fun h => h.imp fun {a b} (hab : a < b) => Nat.ne_of_lt hab
  have hp : R.Perm T := (List.perm_ext_iff_of_nodup (hn hR) (hn hT)).mpr fun x => (h x).symm
  exact hp.eq_of_pairwise (fun a b _ _ h1 h2 => absurd h1 (Nat.not_lt_of_lt h2)) hR hT
theorem first_bef {n : Nat} {R T : List Nat} (hR : Asc R) (hT : Asc T) (hl : R.length = T.length) (h : First T R n) : ∃ A j t R' T', R = A ++ j :: R' ∧ T = A ++ t :: T' ∧ j < t := by
  obtain ⟨j, _, ag, hj, hnj⟩ := h
  obtain ⟨R', e1, _⟩ := asc_from hR hj
  have eR := asc_split j hR
  have eT := asc_split j hT
  have eA : R.filter (fun x => decide (x < j)) = T.filter (fun x => decide (x < j)) := by
    refine asc_ext (hR.filter _) (hT.filter _) fun x => ?_
    rw [List.mem_filter, List.mem_filter]
    constructor
    · rintro ⟨a, b⟩
      exact ⟨(ag x (by simpa using b)).mp a, b⟩
    · rintro ⟨a, b⟩
      exact ⟨(ag x (by simpa using b)).mpr a, b⟩
  rw [e1] at eR
  rw [← eA] at eT
  cases e2 : T.filter (fun x => !decide (x < j)) with
  | nil =>
    rw [e2] at eT
    have h1 := congrArg List.length eR
    have h2 := congrArg List.length eT
    simp only [List.length_append, List.length_cons, List.length_nil] at h1 h2
    omega
  | cons t T' =>
    rw [e2] at eT
    have ht : t ∈ T.filter (fun x => !decide (x < j)) := by rw [e2]; simp
    have ht' := List.mem_filter.mp ht
    have h1 : j ≤ t := by
      have := ht'.2
      simp at this
      omega
    have h2 : t ≠ j := fun e => hnj (e ▸ ht'.1)
    exact ⟨_, j, t, R', T', eR, eT, by omega⟩
theorem least {late : Nat → Nat → Bool} {n v : Nat} {R T : List Nat} (hU : IsNu late (List.range n) v) (hR : Asc R) (hv : R.length = v) (hF : ∀ T, Opt late n v T → First T R n ∨ ∀ x, x ∈ T ↔ x ∈ R) (hT : Asc T) (hlt : ∀ t ∈ T, t < n) (hV : Valid late (List.range n) T) : T = R ∨ Bef R T := by
  have nd : T.Nodup := hT.imp fun {a b} (hab : a < b) => Nat.ne_of_lt hab
  have hge := hU.1 T nd (fun t ht => List.mem_range.mpr (hlt t ht)) hV
  by_cases hl : T.length = v
  · rcases hF T ⟨nd, hlt, hV, hl⟩ with h | h
    · exact .inr (.inr ⟨by omega, first_bef hR hT (by omega) h⟩)
    · exact .inl (asc_ext hR hT h).symm
  · exact .inr (.inl (by omega))
end Mt
namespace K3
open PySem L2 Kv
def top (i : Nat) : Stmt := PySem.Challenge.pw_keywaits_k63_whole_bindings_to_give_up_b.main.body.getD i (.Pass ⟨0, 0, 0, 0⟩)
def ct (K : PySem.W.Frag) (a : Nat → Addr) : CT := { ca := fun c => a (100 + c), fn := fun c => match c with | 0 => (["numbers", "mode_names", "wait_ticks", "rows"] : List Str) | 1 => (["pairs", "inners"] : List Str) | _ => [], K := K }
theorem ctnd {K : PySem.W.Frag} {a : Nat → Addr} : ∀ c, ((ct K a).fn c).Nodup := fun c => by
  show (match c with | 0 => (["numbers", "mode_names", "wait_ticks", "rows"] : List Str) | 1 => (["pairs", "inners"] : List Str) | _ => ([] : List Str)).Nodup
  split <;> decide +kernel
theorem ctlen {K : PySem.W.Frag} {a : Nat → Addr} : ∀ c, ((ct K a).fn c).length < 1000 := fun c => by
  show (match c with | 0 => (["numbers", "mode_names", "wait_ticks", "rows"] : List Str) | 1 => (["pairs", "inners"] : List Str) | _ => ([] : List Str)).length < 1000
  split <;> decide +kernel
abbrev xg0 : Ex → List (V × OV) → XK → Prop := fun _ _ _ => False
abbrev Fn (P : Program) (w : World) (K : PySem.W.Frag) (mg : Str → Option Value) (base : Heap) (a : Nat → Addr) (k i : Nat) (F : List OV → Res) : Prop := FnF P w K mg base CX0 k (ct K a) xg0 (a i) F
structure Txt (K : PySem.W.Frag) (mg : Str → Option Value) (a : Nat → Addr) : Prop where
  n_int : mg "int" = none
  n_isinstance : mg "isinstance" = none
  n_bool : mg "bool" = none
  k_LETTERS : ∃ tk, mg "LETTERS" = some (.str "abcdefghijklmnopqrstuvwxyz" tk)
  n_all : mg "all" = none
  n_str : mg "str" = none
  n_len : mg "len" = none
  n_tuple : mg "tuple" = none
  k_MAX_KEYS : ∃ tk, mg "MAX_KEYS" = some (.int 6 tk)
  f_is_word : mg "is_word" = some (.ref (a 1))
  k_MAX_NAME : ∃ tk, mg "MAX_NAME" = some (.int 8 tk)
  cl_KeyMap : Cls K (a 100)
  na_KeyMap_rows : NoAttr K (a 100) "rows"
  na_KeyMap_wait_ticks : NoAttr K (a 100) "wait_ticks"
  na_KeyMap_mode_names : NoAttr K (a 100) "mode_names"
  n_enumerate : mg "enumerate" = none
  na_KeyMap_numbers : NoAttr K (a 100) "numbers"
  k_MAX_BINDINGS : ∃ tk, mg "MAX_BINDINGS" = some (.int 30 tk)
  f_is_binding : mg "is_binding" = some (.ref (a 2))
  k_MAX_WAIT : ∃ tk, mg "MAX_WAIT" = some (.int 99 tk)
  f_is_integer : mg "is_integer" = some (.ref (a 0))
  k_MAX_MODES : ∃ tk, mg "MAX_MODES" = some (.int 4 tk)
  pr_KeyMap_bindings : ∃ x, PropOf K (a 100) "bindings" x (a 6)
  n_range : mg "range" = none
  f_makes_late : mg "makes_late" = some (.ref (a 8))
  cl_Matching : Cls K (a 101)
  na_Matching_pairs : NoAttr K (a 101) "pairs"
  na_Matching_inners : NoAttr K (a 101) "inners"
  mt_Matching_join : Meth K (a 101) "join" (a 10)
  mk_Matching : Mk K (a 101) (a 11)
  c_Matching : mg "Matching" = some (.ref (a 101))
  mt_Matching_size : Meth K (a 101) "size" (a 12)
  n_list : mg "list" = none
  f_late_pairs : mg "late_pairs" = some (.ref (a 9))
  n_zip : mg "zip" = none
  n_sorted : mg "sorted" = none
  pr_KeyMap_wait : ∃ x, PropOf K (a 100) "wait" x (a 5)
  pr_KeyMap_modes : ∃ x, PropOf K (a 100) "modes" x (a 4)
  mk_KeyMap : Mk K (a 100) (a 3)
  c_KeyMap : mg "KeyMap" = some (.ref (a 100))
  mt_KeyMap_check_binding : Meth K (a 100) "check_binding" (a 7)
  f__law_taken : mg "_law_taken" = some (.ref (a 17))
  f__law_keys : mg "_law_keys" = some (.ref (a 18))
  f_without_bindings : mg "without_bindings" = some (.ref (a 16))
  f_judge_chains : mg "judge_chains" = some (.ref (a 15))
  f_find_chains : mg "find_chains" = some (.ref (a 14))
  n_min : mg "min" = none
  f_fewest_to_drop : mg "fewest_to_drop" = some (.ref (a 13))
  f__law_is_late : mg "_law_is_late" = some (.ref (a 21))
  f__law_made : mg "_law_made" = some (.ref (a 20))
  f__law_parts : mg "_law_parts" = some (.ref (a 19))
abbrev s_is_integer : Stmt := (top 12)
abbrev N_is_integer : List Str := ["value", "low", "high"]
theorem sc_is_integer : FnScope N_is_integer ["value", "low", "high"] (defScope s_is_integer) := ⟨rfl, rfl, rfl, by decide +kernel, rfl, by decide +kernel, by decide +kernel⟩
noncomputable def m_is_integer : M Fl := (retM (andV (callP (n2 isiF) (consO (opl 0) (consO (tmp (co (.ty "int"))) (ret [])))) (andV (bnd (tob (callP (n2 isiF) (consO (opl 0) (consO (tmp (co (.ty "bool"))) (ret []))))) fun b => ret (.fz (.bl (!b)))) (chM leF leF (opl 1) (opl 0) (opl 2)))))
noncomputable def F_is_integer : List OV → Res := fnR 3 3 [0, 1, 2] (m_is_integer)
theorem ok_is_integer {P : Program} {w : World} {K : PySem.W.Frag} {mg : Str → Option Value} {base : Heap} {a : Nat → Addr} {fd : FuncData} (T : Txt K mg a) (F : Fun K "is_integer" "is_integer" s_is_integer (a 0) fd) (hb : Binds K fd ["value", "low", "high"] []) : Fn P w K mg base a 1 0 F_is_integer :=
  fn_ok F sc_is_integer hb (by decide) fun cdv A outer s H E hr =>
  (ss_one (ss_ret (se_and (c_isi T.n_isinstance (sa_cons (so_sl (pv 0)) (sa_cons (so_tmp (v_ty T.n_int PyProof.Rows.boot_int)) sa_nil))) (se_and (se_not (c_isi T.n_isinstance (sa_cons (so_sl (pv 0)) (sa_cons (so_tmp (v_ty T.n_bool PyProof.Rows.boot_bool)) sa_nil)))) (se_one (v_cmp3 cm_le cm_le (so_sl (pv 1)) (so_sl (pv 0)) (so_sl (pv 2))))))))
abbrev s_is_word : Stmt := (top 13)
abbrev N_is_word : List Str := ["value", "most", "letter"]
theorem sc_is_word : FnScope N_is_word ["value", "most"] (defScope s_is_word) := ⟨rfl, rfl, rfl, by decide +kernel, rfl, by decide +kernel, by decide +kernel⟩
noncomputable def m_is_word : M Fl := (seqM (ifS (orM (bnd (tob (callP (n2 isiF) (consO (opl 0) (consO (tmp (co (.ty "str"))) (ret []))))) fun b => ret (!b)) (bnd (tob (chM leF leF (tmp (co (.int 1))) (tmp (callP lenN (consO (opl 0) (ret [])))) (opl 1))) fun b => ret (!b))) (retM (co (.bl false))) (ret .nx))
    (retM (callP (n1 allF) (consO (tmp (compM [2] (itM (sl 0)) (tnm 2) (ret true) (bin2 inF (opl 2) (tmp (co (.str "abcdefghijklmnopqrstuvwxyz")))))) (ret [])))))
noncomputable def F_is_word : List OV → Res := fnR 3 2 [0, 1] (m_is_word)
theorem ok_is_word {P : Program} {w : World} {K : PySem.W.Frag} {mg : Str → Option Value} {base : Heap} {a : Nat → Addr} {fd : FuncData} (T : Txt K mg a) (F : Fun K "is_word" "is_word" s_is_word (a 1) fd) (hb : Binds K fd ["value", "most"] []) : Fn P w K mg base a 1 1 F_is_word :=
  fn_ok F sc_is_word hb (by decide) fun cdv A outer s H E hr =>
  (ss_cons (ss_if (sb_w (sw_or (sb_not (sb_val (c_isi T.n_isinstance (sa_cons (so_sl (pv 0)) (sa_cons (so_tmp (v_ty T.n_str PyProof.Rows.boot_str)) sa_nil))))) (sw_or1 (sb_not (t_cmp3 cm_le cm_le (so_tmp v_int) (so_tmp (c_len T.n_len (sa_cons (so_sl (pv 0)) sa_nil))) (so_sl (pv 1))))))) (ss_one (ss_ret v_bl)) ss_nil)
    (ss_one (ss_ret (c_all rfl T.n_all (sa_cons (so_tmp (se_lc (own := [("letter", 2)]) rfl sc_is_word.nd (si_seq (se_sl (pv 0))) (blkOk_by (N := N_is_word) (sc := defScope s_is_word) (by decide +kernel)) (fun _ _ _ _ _ => (sg_name (pg_name (i := 2) sc_is_word.nd rfl (.inl rfl)))) (fun _ _ _ _ _ => st_nil) (fun _ _ _ _ _ => (v_cmp (cm_in hr) (so_sl (pv 2)) (so_tmp (v_gs T.k_LETTERS.choose_spec)))) tnm_len (by decide))) sa_nil)))))
abbrev s_is_binding : Stmt := (top 14)
abbrev N_is_binding : List Str := ["modes", "binding", "mode", "keys", "command", "target"]
theorem sc_is_binding : FnScope N_is_binding ["modes", "binding"] (defScope s_is_binding) := ⟨rfl, rfl, rfl, by decide +kernel, rfl, by decide +kernel, by decide +kernel⟩
noncomputable def m_is_binding : M Fl := (matchM [2, 3, 4, 5] (sl 1) (tob (callP (n2 isiF) (consO (opl 1) (consO (tmp (co (.ty "tuple"))) (ret []))))) (retM (andV (bin2 inF (opl 2) (opl 0)) (andV (bin2 inF (opl 5) (opl 0)) (andV (callM F_is_word (consO (opl 3) (consO (tmp (co (.int 6))) (ret [])))) (callM F_is_word (consO (opl 4) (consO (tmp (co (.int 8))) (ret [])))))))))
noncomputable def F_is_binding : List OV → Res := fnR 6 2 [0, 1] (m_is_binding)
theorem ok_is_binding {P : Program} {w : World} {K : PySem.W.Frag} {mg : Str → Option Value} {base : Heap} {a : Nat → Addr} {fd : FuncData} (T : Txt K mg a) (F : Fun K "is_binding" "is_binding" s_is_binding (a 2) fd) (hb : Binds K fd ["modes", "binding"] []) (h_is_word : Fn P w K mg base a 1 1 F_is_word) : Fn P w K mg base a 2 2 F_is_binding :=
  fn_ok F sc_is_binding hb (by decide) fun cdv A outer s H E hr =>
  (ss_one (ss_match (xs := [("mode", ⟨33, 14, 33, 18⟩), ("keys", ⟨33, 20, 33, 24⟩), ("command", ⟨33, 26, 33, 33⟩), ("target", ⟨33, 35, 33, 41⟩)]) (is := [2, 3, 4, 5]) rfl sc_is_binding.nd (by exact ⟨rfl, rfl, rfl, rfl, rfl, rfl, rfl, rfl, trivial⟩) (by decide) rfl (se_sl (pv 1)) (sb_val (c_isi T.n_isinstance (sa_cons (so_sl (pv 1)) (sa_cons (so_tmp (v_ty T.n_tuple PyProof.Rows.boot_tuple)) sa_nil)))) (ss_one (ss_ret (se_and (v_cmp (cm_in hr) (so_sl (pv 2)) (so_sl (pv 0))) (se_and (v_cmp (cm_in hr) (so_sl (pv 5)) (so_sl (pv 0))) (se_and (se_call (cal0 h_is_word (fun _ _ h => h)) (hr.mono (by decide)) (by rfl) T.f_is_word (sa_cons (so_sl (pv 3)) (sa_cons (so_tmp (v_gi T.k_MAX_KEYS.choose_spec)) sa_nil))) (se_one (se_call (cal0 h_is_word (fun _ _ h => h)) (hr.mono (by decide)) (by rfl) T.f_is_word (sa_cons (so_sl (pv 4)) (sa_cons (so_tmp (v_gi T.k_MAX_NAME.choose_spec)) sa_nil)))))))))))
abbrev s_KeyMap___init__ : Stmt := (inClass (top 15) 0)
abbrev N_KeyMap___init__ : List Str := ["self", "modes", "wait", "bindings", "index", "mode", "binding"]
theorem sc_KeyMap___init__ : FnScope N_KeyMap___init__ ["self", "modes", "wait", "bindings"] (defScope s_KeyMap___init__) := ⟨rfl, rfl, rfl, by decide +kernel, rfl, by decide +kernel, by decide +kernel⟩
noncomputable def m_KeyMap___init__ : M Fl := (seqM (ifS (orM (bnd (tob (callP (n2 isiF) (consO (opl 1) (consO (tmp (co (.ty "tuple"))) (ret []))))) fun b => ret (!b)) (tob (bin2 eqF (opl 1) (tmp (tupM (ret [])))))) bad (ret .nx))
    (seqM (forM (enumM (consD (sl 1) (ret []))) (ttp [4, 5]) (ifS (orM (tob (bin2 eqF (opl 4) (tmp (co (.int 4))))) (orM (bnd (tob (callM F_is_word (consO (opl 5) (consO (tmp (co (.int 8))) (ret []))))) fun b => ret (!b)) (tob (bin2 inF (opl 5) (tmp (slM slF (opl 1) noP (intP (sl 4)))))))) bad (ret .nx)))
    (seqM (ifS (bnd (tob (callM F_is_integer (consO (opl 2) (consO (tmp (co (.int 1))) (consO (tmp (co (.int 99))) (ret [])))))) fun b => ret (!b)) bad (ret .nx))
    (seqM (ifS (bnd (tob (callP (n2 isiF) (consO (opl 3) (consO (tmp (co (.ty "tuple"))) (ret []))))) fun b => ret (!b)) bad (ret .nx))
    (seqM (fldS 0 0 0 (ret (.od true [] [])))
    (seqM (forM (enumM (consD (sl 3) (ret []))) (ttp [4, 6]) (seqM (ifS (orM (tob (bin2 eqF (opl 4) (tmp (co (.int 30))))) (orM (bnd (tob (callM F_is_binding (consO (opl 1) (consO (opl 6) (ret []))))) fun b => ret (!b)) (tob (bin2 inF (tmp (slM slF (opl 6) noP (intP (co (.int 2))))) (opf 0 0 0))))) bad (ret .nx))
    (putS (sl 4) (opf 0 0 0) (slM slF (opl 6) noP (intP (co (.int 2)))))))
    (seqM (fldS 0 0 1 (sl 1))
    (seqM (fldS 0 0 2 (sl 2))
    (fldS 0 0 3 (sl 3))))))))))
noncomputable def F_KeyMap___init__ : List OV → Res := fnR 7 4 [0, 1, 2, 3] (m_KeyMap___init__)
theorem ok_KeyMap___init__ {P : Program} {w : World} {K : PySem.W.Frag} {mg : Str → Option Value} {base : Heap} {a : Nat → Addr} {fd : FuncData} (T : Txt K mg a) (F : Fun K "__init__" "KeyMap.__init__" s_KeyMap___init__ (a 3) fd) (hb : Binds K fd ["self", "modes", "wait", "bindings"] []) (h_is_binding : Fn P w K mg base a 2 2 F_is_binding) (h_is_integer : Fn P w K mg base a 1 0 F_is_integer) (h_is_word : Fn P w K mg base a 1 1 F_is_word) : Fn P w K mg base a 3 3 F_KeyMap___init__ :=
  fn_ok F sc_KeyMap___init__ hb (by decide) fun cdv A outer s H E hr =>
  (ss_cons (ss_if (sb_w (sw_or (sb_not (sb_val (c_isi T.n_isinstance (sa_cons (so_sl (pv 1)) (sa_cons (so_tmp (v_ty T.n_tuple PyProof.Rows.boot_tuple)) sa_nil))))) (sw_or1 (t_cmp (cm_eq hr) (so_sl (pv 1)) (so_tmp (se_tup sd_nil)))))) (ss_one ss_never) ss_nil)
    (ss_cons (ss_for PassesOwn.never rfl (by decide) (si_enum (by rfl) T.n_enumerate (sd_cons (se_sl (pv 1)) sd_nil)) (sg_tup (is := [4, 5]) (pg_tup rfl (pgs_cons (pg_name (i := 4) sc_KeyMap___init__.nd rfl (.inl rfl)) (pgs_cons (pg_name (i := 5) sc_KeyMap___init__.nd rfl (.inl rfl)) pgs_nil)))) (ss_one (ss_if (sb_w (sw_or (t_cmp (cm_eq hr) (so_sl (pv 4)) (so_tmp (v_gi T.k_MAX_MODES.choose_spec))) (sw_or (sb_not (sb_val (se_call (cal0 h_is_word (fun _ _ h => h)) (hr.mono (by decide)) (by rfl) T.f_is_word (sa_cons (so_sl (pv 5)) (sa_cons (so_tmp (v_gi T.k_MAX_NAME.choose_spec)) sa_nil))))) (sw_or1 (t_cmp (cm_in hr) (so_sl (pv 5)) (so_tmp (v_slice (so_sl (pv 1)) sp_none (sp_some (se_sl (pv 4)))))))))) (ss_one ss_never) ss_nil)))
    (ss_cons (ss_if (sb_not (sb_val (se_call (cal0 h_is_integer (fun _ _ h => h)) (hr.mono (by decide)) (by rfl) T.f_is_integer (sa_cons (so_sl (pv 2)) (sa_cons (so_tmp v_int) (sa_cons (so_tmp (v_gi T.k_MAX_WAIT.choose_spec)) sa_nil)))))) (ss_one ss_never) ss_nil)
    (ss_cons (ss_if (sb_not (sb_val (c_isi T.n_isinstance (sa_cons (so_sl (pv 3)) (sa_cons (so_tmp (v_ty T.n_tuple PyProof.Rows.boot_tuple)) sa_nil))))) (ss_one ss_never) ss_nil)
    (ss_cons (ss_fld (c := 0) (f := 0) rfl (ctnd _) (ctlen _) (pv 0) T.cl_KeyMap T.na_KeyMap_numbers se_dnewT)
    (ss_cons (ss_for PassesOwn.never rfl (by decide) (si_enum (by rfl) T.n_enumerate (sd_cons (se_sl (pv 3)) sd_nil)) (sg_tup (is := [4, 6]) (pg_tup rfl (pgs_cons (pg_name (i := 4) sc_KeyMap___init__.nd rfl (.inl rfl)) (pgs_cons (pg_name (i := 6) sc_KeyMap___init__.nd rfl (.inl rfl)) pgs_nil)))) (ss_cons (ss_if (sb_w (sw_or (t_cmp (cm_eq hr) (so_sl (pv 4)) (so_tmp (v_gi T.k_MAX_BINDINGS.choose_spec))) (sw_or (sb_not (sb_val (se_call (cal0 h_is_binding (fun _ _ h => h)) (hr.mono (by decide)) (by rfl) T.f_is_binding (sa_cons (so_sl (pv 1)) (sa_cons (so_sl (pv 6)) sa_nil))))) (sw_or1 (t_cmp (cm_in hr) (so_tmp (v_slice (so_sl (pv 6)) sp_none (sp_some v_int))) (so_pf (c := 0) (f := 0) rfl (pv 0) T.cl_KeyMap T.na_KeyMap_numbers)))))) (ss_one ss_never) ss_nil)
    (ss_one (ss_put ctnd (hu_of hr) (se_sl (pv 4)) (so_pf (c := 0) (f := 0) rfl (pv 0) T.cl_KeyMap T.na_KeyMap_numbers) (v_slice (so_sl (pv 6)) sp_none (sp_some v_int))))))
    (ss_cons (ss_fld (c := 0) (f := 1) rfl (ctnd _) (ctlen _) (pv 0) T.cl_KeyMap T.na_KeyMap_mode_names (se_sl (pv 1)))
    (ss_cons (ss_fld (c := 0) (f := 2) rfl (ctnd _) (ctlen _) (pv 0) T.cl_KeyMap T.na_KeyMap_wait_ticks (se_sl (pv 2)))
    (ss_one (ss_fld (c := 0) (f := 3) rfl (ctnd _) (ctlen _) (pv 0) T.cl_KeyMap T.na_KeyMap_rows (se_sl (pv 3))))))))))))
abbrev s_KeyMap_modes : Stmt := (inClass (top 15) 2)
abbrev N_KeyMap_modes : List Str := ["self"]
theorem sc_KeyMap_modes : FnScope N_KeyMap_modes ["self"] (defScope s_KeyMap_modes) := ⟨rfl, rfl, rfl, by decide +kernel, rfl, by decide +kernel, by decide +kernel⟩
noncomputable def m_KeyMap_modes : M Fl := (retM (fldV 0 0 1))
noncomputable def F_KeyMap_modes : List OV → Res := fnR 1 1 [0] (m_KeyMap_modes)
theorem ok_KeyMap_modes {P : Program} {w : World} {K : PySem.W.Frag} {mg : Str → Option Value} {base : Heap} {a : Nat → Addr} {fd : FuncData} (T : Txt K mg a) (F : Fun K "modes" "KeyMap.modes" s_KeyMap_modes (a 4) fd) (hb : Binds K fd ["self"] []) : Fn P w K mg base a 1 4 F_KeyMap_modes :=
  fn_ok F sc_KeyMap_modes hb (by decide) fun cdv A outer s H E hr =>
  (ss_one (ss_ret (se_fld (c := 0) (f := 1) rfl (pv 0) T.cl_KeyMap T.na_KeyMap_mode_names)))
abbrev s_KeyMap_wait : Stmt := (inClass (top 15) 3)
abbrev N_KeyMap_wait : List Str := ["self"]
theorem sc_KeyMap_wait : FnScope N_KeyMap_wait ["self"] (defScope s_KeyMap_wait) := ⟨rfl, rfl, rfl, by decide +kernel, rfl, by decide +kernel, by decide +kernel⟩
noncomputable def m_KeyMap_wait : M Fl := (retM (fldV 0 0 2))
noncomputable def F_KeyMap_wait : List OV → Res := fnR 1 1 [0] (m_KeyMap_wait)
theorem ok_KeyMap_wait {P : Program} {w : World} {K : PySem.W.Frag} {mg : Str → Option Value} {base : Heap} {a : Nat → Addr} {fd : FuncData} (T : Txt K mg a) (F : Fun K "wait" "KeyMap.wait" s_KeyMap_wait (a 5) fd) (hb : Binds K fd ["self"] []) : Fn P w K mg base a 1 5 F_KeyMap_wait :=
  fn_ok F sc_KeyMap_wait hb (by decide) fun cdv A outer s H E hr =>
  (ss_one (ss_ret (se_fld (c := 0) (f := 2) rfl (pv 0) T.cl_KeyMap T.na_KeyMap_wait_ticks)))
abbrev s_KeyMap_bindings : Stmt := (inClass (top 15) 4)
abbrev N_KeyMap_bindings : List Str := ["self"]
theorem sc_KeyMap_bindings : FnScope N_KeyMap_bindings ["self"] (defScope s_KeyMap_bindings) := ⟨rfl, rfl, rfl, by decide +kernel, rfl, by decide +kernel, by decide +kernel⟩
noncomputable def m_KeyMap_bindings : M Fl := (retM (fldV 0 0 3))
noncomputable def F_KeyMap_bindings : List OV → Res := fnR 1 1 [0] (m_KeyMap_bindings)
theorem ok_KeyMap_bindings {P : Program} {w : World} {K : PySem.W.Frag} {mg : Str → Option Value} {base : Heap} {a : Nat → Addr} {fd : FuncData} (T : Txt K mg a) (F : Fun K "bindings" "KeyMap.bindings" s_KeyMap_bindings (a 6) fd) (hb : Binds K fd ["self"] []) : Fn P w K mg base a 1 6 F_KeyMap_bindings :=
  fn_ok F sc_KeyMap_bindings hb (by decide) fun cdv A outer s H E hr =>
  (ss_one (ss_ret (se_fld (c := 0) (f := 3) rfl (pv 0) T.cl_KeyMap T.na_KeyMap_rows)))
abbrev s_KeyMap_check_binding : Stmt := (inClass (top 15) 7)
abbrev N_KeyMap_check_binding : List Str := ["self", "index"]
theorem sc_KeyMap_check_binding : FnScope N_KeyMap_check_binding ["self", "index"] (defScope s_KeyMap_check_binding) := ⟨rfl, rfl, rfl, by decide +kernel, rfl, by decide +kernel, by decide +kernel⟩
noncomputable def m_KeyMap_check_binding : M Fl := (ifS (bnd (tob (callM F_is_integer (consO (opl 1) (consO (tmp (co (.int 0))) (consO (tmp (bin2 subF (tmp (callP lenN (consO (tmp (fldV 0 0 3)) (ret [])))) (tmp (co (.int 1))))) (ret [])))))) fun b => ret (!b)) bad (ret .nx))
noncomputable def F_KeyMap_check_binding : List OV → Res := fnR 2 2 [0, 1] (m_KeyMap_check_binding)
theorem ok_KeyMap_check_binding {P : Program} {w : World} {K : PySem.W.Frag} {mg : Str → Option Value} {base : Heap} {a : Nat → Addr} {fd : FuncData} (T : Txt K mg a) (F : Fun K "check_binding" "KeyMap.check_binding" s_KeyMap_check_binding (a 7) fd) (hb : Binds K fd ["self", "index"] []) (h_is_integer : Fn P w K mg base a 1 0 F_is_integer) : Fn P w K mg base a 2 7 F_KeyMap_check_binding :=
  fn_ok F sc_KeyMap_check_binding hb (by decide) fun cdv A outer s H E hr =>
  (ss_one (ss_if (sb_not (sb_val (se_call (cal0 h_is_integer (fun _ _ h => h)) (hr.mono (by decide)) (by rfl) T.f_is_integer (sa_cons (so_sl (pv 1)) (sa_cons (so_tmp v_int) (sa_cons (so_tmp (v_sub (so_tmp (c_len T.n_len (sa_cons (so_tmp (se_fld (c := 0) (f := 3) rfl (pv 0) T.cl_KeyMap T.na_KeyMap_rows)) sa_nil))) (so_tmp v_int))) sa_nil)))))) (ss_one ss_never) ss_nil))
abbrev s_makes_late : Stmt := (top 17)
abbrev N_makes_late : List Str := ["keymap", "inner", "outer", "one", "other"]
theorem sc_makes_late : FnScope N_makes_late ["keymap", "inner", "outer"] (defScope s_makes_late) := ⟨rfl, rfl, rfl, by decide +kernel, rfl, by decide +kernel, by decide +kernel⟩
noncomputable def m_makes_late : M Fl := (seqM (parM 3 4 (consO (tmp (bin2 (oe ixF itemD) (tmp (propM 0 F_KeyMap_bindings (opl 0))) (opl 1))) (consO (tmp (bin2 (oe ixF itemD) (tmp (propM 0 F_KeyMap_bindings (opl 0))) (opl 2))) (ret []))))
    (retM (andV (bin2 neF (opl 1) (opl 2)) (andV (bin2 eqF (tmp (bin2 (oe ixF itemD) (opl 3) (tmp (co (.int 0))))) (tmp (bin2 (oe ixF itemD) (opl 4) (tmp (co (.int 0)))))) (bin2 inF (tmp (bin2 (oe ixF itemD) (opl 3) (tmp (co (.int 1))))) (tmp (slM slF (tmp (bin2 (oe ixF itemD) (opl 4) (tmp (co (.int 1))))) noP (intP (co (.int (-1)))))))))))
noncomputable def F_makes_late : List OV → Res := fnR 5 3 [0, 1, 2] (m_makes_late)
theorem ok_makes_late {P : Program} {w : World} {K : PySem.W.Frag} {mg : Str → Option Value} {base : Heap} {a : Nat → Addr} {fd : FuncData} (T : Txt K mg a) (F : Fun K "makes_late" "makes_late" s_makes_late (a 8) fd) (hb : Binds K fd ["keymap", "inner", "outer"] []) (h_KeyMap_bindings : Fn P w K mg base a 1 6 F_KeyMap_bindings) : Fn P w K mg base a 3 8 F_makes_late :=
  fn_ok F sc_makes_late hb (by decide) fun cdv A outer s H E hr =>
  (ss_cons (ss_par (i := 3) (j := 4) rfl sc_makes_late.nd rfl rfl (by decide) (by decide) (by decide) rfl rfl (sa_cons (so_tmp (v_sub1 hr (so_tmp (se_prop (cl := 0) (cal0 h_KeyMap_bindings (fun _ _ h => h)) (hr.mono (by decide)) T.cl_KeyMap T.pr_KeyMap_bindings.choose_spec (so_sl (pv 0)))) (so_sl (pv 1)))) (sa_cons (so_tmp (v_sub1 hr (so_tmp (se_prop (cl := 0) (cal0 h_KeyMap_bindings (fun _ _ h => h)) (hr.mono (by decide)) T.cl_KeyMap T.pr_KeyMap_bindings.choose_spec (so_sl (pv 0)))) (so_sl (pv 2)))) sa_nil)))
    (ss_one (ss_ret (se_and (v_cmp (cm_ne hr) (so_sl (pv 1)) (so_sl (pv 2))) (se_and (v_cmp (cm_eq hr) (so_tmp (v_sub1 hr (so_sl (pv 3)) (so_tmp v_int))) (so_tmp (v_sub1 hr (so_sl (pv 4)) (so_tmp v_int)))) (se_one (v_cmp (cm_in hr) (so_tmp (v_sub1 hr (so_sl (pv 3)) (so_tmp v_int))) (so_tmp (v_slice (so_tmp (v_sub1 hr (so_sl (pv 4)) (so_tmp v_int))) sp_none (sp_some v_neg))))))))))
abbrev s_late_pairs : Stmt := (top 18)
abbrev N_late_pairs : List Str := ["keymap", "count", "inner", "outer"]
theorem sc_late_pairs : FnScope N_late_pairs ["keymap"] (defScope s_late_pairs) := ⟨rfl, rfl, rfl, by decide +kernel, rfl, by decide +kernel, by decide +kernel⟩
noncomputable def m_late_pairs : M Fl := (seqM (setN 1 (callP lenN (consO (tmp (propM 0 F_KeyMap_bindings (opl 0))) (ret []))))
    (retM (comp2M [2, 3] [3] (rng1M (consO (opl 1) (ret []))) (tnm 2) (ret true) (rng1M (consO (opl 1) (ret []))) (tnm 3) (tob (callM F_makes_late (consO (opl 0) (consO (opl 2) (consO (opl 3) (ret [])))))) (tupM (consD (sl 2) (consD (sl 3) (ret [])))))))
noncomputable def F_late_pairs : List OV → Res := fnR 4 1 [0] (m_late_pairs)
theorem ok_late_pairs {P : Program} {w : World} {K : PySem.W.Frag} {mg : Str → Option Value} {base : Heap} {a : Nat → Addr} {fd : FuncData} (T : Txt K mg a) (F : Fun K "late_pairs" "late_pairs" s_late_pairs (a 9) fd) (hb : Binds K fd ["keymap"] []) (h_makes_late : Fn P w K mg base a 3 8 F_makes_late) (h_KeyMap_bindings : Fn P w K mg base a 1 6 F_KeyMap_bindings) : Fn P w K mg base a 4 9 F_late_pairs :=
  fn_ok F sc_late_pairs hb (by decide) fun cdv A outer s H E hr =>
  (ss_cons (ss_set (i := 1) sc_late_pairs.nd rfl (.inr rfl) (by decide) (c_len T.n_len (sa_cons (so_tmp (se_prop (cl := 0) (cal0 h_KeyMap_bindings (fun _ _ h => h)) (hr.mono (by decide)) T.cl_KeyMap T.pr_KeyMap_bindings.choose_spec (so_sl (pv 0)))) sa_nil)))
    (ss_one (ss_ret (se_lc2 (own := [("inner", 2), ("outer", 3)]) (vs1 := [3]) rfl sc_late_pairs.nd (si_range1 (by rfl) T.n_range (sa_cons (so_sl (pv 1)) sa_nil)) (blkOk_by (N := N_late_pairs) (sc := defScope s_late_pairs) (by decide +kernel)) (by decide) (fun _ _ _ _ _ => (sg_name (pg_name (i := 2) sc_late_pairs.nd rfl (.inl rfl)))) (fun _ _ _ _ _ => st_nil) (fun _ _ _ _ _ => (si_range1 (by rfl) T.n_range (sa_cons (so_sl (pv 1)) sa_nil))) (fun _ _ _ _ _ => (sg_name (pg_name (i := 3) sc_late_pairs.nd rfl (.inl rfl)))) (fun _ _ _ _ _ => (st_one (sb_val (se_call (cal0 h_makes_late (fun _ _ h => h)) (hr.mono (by decide)) (by rfl) T.f_makes_late (sa_cons (so_sl (pv 0)) (sa_cons (so_sl (pv 2)) (sa_cons (so_sl (pv 3)) sa_nil))))))) (fun _ _ _ _ _ => (se_tup (sd_cons (se_sl (pv 2)) (sd_cons (se_sl (pv 3)) sd_nil)))) tnm_len tnm_len (by decide) (by decide)))))
abbrev s_Matching_join : Stmt := (inClass (top 19) 1)
abbrev N_Matching_join : List Str := ["self", "inner", "tried", "outer"]
theorem sc_Matching_join : FnScope N_Matching_join ["self", "inner", "tried"] (defScope s_Matching_join) := ⟨rfl, rfl, rfl, by decide +kernel, rfl, by decide +kernel, by decide +kernel⟩
noncomputable def m_Matching_join (Fr : List OV → Res) : M Fl := (seqM (forM (itM (getM (opf 0 1 0) (sl 1) (lstM (ret [])))) (tnm 3) (ifS (tob (bin2 ninF (opl 3) (opl 2))) (seqM (putS (co (.bl true)) (opl 2) (sl 3))
    (ifS (orM (tob (bin2 ninF (opl 3) (opf 0 1 1))) (tob (methM 1 Fr (opl 0) (consO (tmp (bin2 (oe ixF itemD) (opf 0 1 1) (opl 3))) (consO (opl 2) (ret [])))))) (seqM (putS (sl 1) (opf 0 1 1) (sl 3))
    (retM (co (.bl true)))) (ret .nx))) (ret .nx)))
    (retM (co (.bl false))))
noncomputable def F_Matching_join : Nat → List OV → Res
  | 0 => fun _ => none
  | k + 1 => fun os => fnR 4 3 [0, 1, 2] (m_Matching_join (F_Matching_join k)) os
theorem d_Matching_join {P : Program} {w : World} {K : PySem.W.Frag} {mg : Str → Option Value} {base : Heap} {a : Nat → Addr} {k : Nat} (T : Txt K mg a) {Fr : List OV → Res} (hrec : Fn P w K mg base a k 10 Fr) (cdv : Value) (A : Around) (outer : List PySem.Env) (s : Shared) (H : Hp) (E : XK) (hk : 0 ≤ k) (hr0 : Room k (A.deeper (PyProof.Rows.envOfC "Matching.join" (defScope s_Matching_join) s.heap.objs.size (a 10) cdv))) (hr : Room 0 (A.deeper (PyProof.Rows.envOfC "Matching.join" (defScope s_Matching_join) s.heap.objs.size (a 10) cdv))) :
    SSs (cxOf CX0 P w K mg base N_Matching_join "Matching.join" (defScope s_Matching_join) (a 10) cdv A outer s H E).nox (kxOf (ct K a)) [0, 1, 2] (defBody s_Matching_join) (m_Matching_join Fr) :=
  (ss_cons (ss_for PassesOwn.never rfl (by decide) (si_seq (se_get (hu_of hr) (so_pf (c := 1) (f := 0) rfl (pv 0) T.cl_Matching T.na_Matching_pairs) (se_sl (pv 1)) (se_lst sd_nil) ⟨rfl, rfl, rfl, rfl⟩)) (sg_name (pg_name (i := 3) sc_Matching_join.nd rfl (.inl rfl))) (ss_one (ss_if (t_cmp (cm_nin hr) (so_sl (pv 3)) (so_sl (pv 2))) (ss_cons (ss_put ctnd (hu_of hr) v_bl (so_sl (pv 2)) (se_sl (pv 3)))
    (ss_one (ss_if (sb_w (sw_or (t_cmp (cm_nin hr) (so_sl (pv 3)) (so_pf (c := 1) (f := 1) rfl (pv 0) T.cl_Matching T.na_Matching_inners)) (sw_or1 (sb_val (se_meth (cl := 1) (cal0 hrec (fun _ _ h => h)) hr0 T.cl_Matching T.mt_Matching_join (show ¬ (("join" : Str) ∈ (["pairs", "inners"] : List Str)) by decide +kernel) (so_sl (pv 0)) (sa_cons (so_tmp (v_sub1 hr (so_pf (c := 1) (f := 1) rfl (pv 0) T.cl_Matching T.na_Matching_inners) (so_sl (pv 3)))) (sa_cons (so_sl (pv 2)) sa_nil))))))) (ss_cons (ss_put ctnd (hu_of hr) (se_sl (pv 1)) (so_pf (c := 1) (f := 1) rfl (pv 0) T.cl_Matching T.na_Matching_inners) (se_sl (pv 3)))
    (ss_one (ss_ret v_bl))) ss_nil))) ss_nil)))
    (ss_one (ss_ret v_bl)))
theorem ok_Matching_join {P : Program} {w : World} {K : PySem.W.Frag} {mg : Str → Option Value} {base : Heap} {a : Nat → Addr} {fd : FuncData} (T : Txt K mg a) (F : Fun K "join" "Matching.join" s_Matching_join (a 10) fd) (hb : Binds K fd ["self", "inner", "tried"] []) : ∀ n, Fn P w K mg base a (0 + n) 10 (F_Matching_join n)
  | 0 => fn_none F hb
  | n + 1 => fn_ok F sc_Matching_join hb (by decide) fun cdv A outer s H E hr => d_Matching_join T (ok_Matching_join T F hb n) cdv A outer s H E (by omega) hr (hr.mono (by omega))
abbrev s_Matching___init__ : Stmt := (inClass (top 19) 0)
abbrev N_Matching___init__ : List Str := ["self", "pairs", "kept", "inner", "outer"]
theorem sc_Matching___init__ : FnScope N_Matching___init__ ["self", "pairs", "kept"] (defScope s_Matching___init__) := ⟨rfl, rfl, rfl, by decide +kernel, rfl, by decide +kernel, by decide +kernel⟩
noncomputable def m_Matching___init__ : M Fl := (seqM (fldS 0 1 0 (ret (.od false [] [])))
    (seqM (forM (itM (sl 1)) (ttp [3, 4]) (ifS (andM (tob (bin2 inF (opl 3) (opl 2))) (tob (bin2 inF (opl 4) (opl 2)))) (putS (lstM (starD (tmp (getM (opf 0 1 0) (sl 3) (lstM (ret [])))) (consD (sl 4) (ret [])))) (opf 0 1 0) (sl 3)) (ret .nx)))
    (seqM (fldS 0 1 1 (ret (.od false [] [])))
    (forM (itM (sl 2)) (tnm 3) (dropM (methM 1 (F_Matching_join 12) (opl 0) (consO (opl 3) (consO (tmp (ret (.od false [] []))) (ret [])))))))))
noncomputable def F_Matching___init__ : List OV → Res := fnR 5 3 [0, 1, 2] (m_Matching___init__)
theorem ok_Matching___init__ {P : Program} {w : World} {K : PySem.W.Frag} {mg : Str → Option Value} {base : Heap} {a : Nat → Addr} {fd : FuncData} (T : Txt K mg a) (F : Fun K "__init__" "Matching.__init__" s_Matching___init__ (a 11) fd) (hb : Binds K fd ["self", "pairs", "kept"] []) (h_Matching_join : Fn P w K mg base a 12 10 (F_Matching_join 12)) : Fn P w K mg base a 13 11 F_Matching___init__ :=
  fn_ok F sc_Matching___init__ hb (by decide) fun cdv A outer s H E hr =>
  (ss_cons (ss_fld (c := 1) (f := 0) rfl (ctnd _) (ctlen _) (pv 0) T.cl_Matching T.na_Matching_pairs se_dnewK)
    (ss_cons (ss_for PassesOwn.never rfl (by decide) (si_seq (se_sl (pv 1))) (sg_tup (is := [3, 4]) (pg_tup rfl (pgs_cons (pg_name (i := 3) sc_Matching___init__.nd rfl (.inl rfl)) (pgs_cons (pg_name (i := 4) sc_Matching___init__.nd rfl (.inl rfl)) pgs_nil)))) (ss_one (ss_if (sb_w (sw_and (t_cmp (cm_in hr) (so_sl (pv 3)) (so_sl (pv 2))) (sw_and1 (t_cmp (cm_in hr) (so_sl (pv 4)) (so_sl (pv 2)))))) (ss_one (ss_put ctnd (hu_of hr) (se_lst (sd_star (so_tmp (se_get (hu_of hr) (so_pf (c := 1) (f := 0) rfl (pv 0) T.cl_Matching T.na_Matching_pairs) (se_sl (pv 3)) (se_lst sd_nil) ⟨rfl, rfl, rfl, rfl⟩)) (sd_cons (se_sl (pv 4)) sd_nil))) (so_pf (c := 1) (f := 0) rfl (pv 0) T.cl_Matching T.na_Matching_pairs) (se_sl (pv 3)))) ss_nil)))
    (ss_cons (ss_fld (c := 1) (f := 1) rfl (ctnd _) (ctlen _) (pv 0) T.cl_Matching T.na_Matching_inners se_dnewK)
    (ss_one (ss_for PassesOwn.never rfl (by decide) (si_seq (se_sl (pv 2))) (sg_name (pg_name (i := 3) sc_Matching___init__.nd rfl (.inl rfl))) (ss_one (ss_expr (se_meth (cl := 1) (cal0 h_Matching_join (fun _ _ h => h)) (hr.mono (by decide)) T.cl_Matching T.mt_Matching_join (show ¬ (("join" : Str) ∈ (["pairs", "inners"] : List Str)) by decide +kernel) (so_sl (pv 0)) (sa_cons (so_sl (pv 3)) (sa_cons (so_tmp se_dnewK) sa_nil))))))))))
abbrev s_Matching_size : Stmt := (inClass (top 19) 2)
abbrev N_Matching_size : List Str := ["self"]
theorem sc_Matching_size : FnScope N_Matching_size ["self"] (defScope s_Matching_size) := ⟨rfl, rfl, rfl, by decide +kernel, rfl, by decide +kernel, by decide +kernel⟩
noncomputable def m_Matching_size : M Fl := (retM (callP lenN (consO (tmp (fldV 0 1 1)) (ret []))))
noncomputable def F_Matching_size : List OV → Res := fnR 1 1 [0] (m_Matching_size)
theorem ok_Matching_size {P : Program} {w : World} {K : PySem.W.Frag} {mg : Str → Option Value} {base : Heap} {a : Nat → Addr} {fd : FuncData} (T : Txt K mg a) (F : Fun K "size" "Matching.size" s_Matching_size (a 12) fd) (hb : Binds K fd ["self"] []) : Fn P w K mg base a 1 12 F_Matching_size :=
  fn_ok F sc_Matching_size hb (by decide) fun cdv A outer s H E hr =>
  (ss_one (ss_ret (c_len T.n_len (sa_cons (so_tmp (se_fld (c := 1) (f := 1) rfl (pv 0) T.cl_Matching T.na_Matching_inners)) sa_nil))))
abbrev s_fewest_to_drop : Stmt := (top 20)
abbrev N_fewest_to_drop : List Str := ["keymap", "pairs", "kept", "dropped", "size", "index", "rest", "other"]
theorem sc_fewest_to_drop : FnScope N_fewest_to_drop ["keymap"] (defScope s_fewest_to_drop) := ⟨rfl, rfl, rfl, by decide +kernel, rfl, by decide +kernel, by decide +kernel⟩
noncomputable def m_fewest_to_drop : M Fl := (seqM (parM 1 2 (consO (tmp (callM F_late_pairs (consO (opl 0) (ret [])))) (consO (tmp (lrgM (callP lenN (consO (tmp (propM 0 F_KeyMap_bindings (opl 0))) (ret []))))) (ret []))))
    (seqM (parM 3 4 (consO (tmp (lstM (ret []))) (consO (tmp (methM 1 F_Matching_size (tmp (newM 1 2 F_Matching___init__ (consO (opl 1) (consO (opl 2) (ret []))))) (ret []))) (ret []))))
    (seqM (forM (rng1M (consO (tmp (callP lenN (consO (tmp (propM 0 F_KeyMap_bindings (opl 0))) (ret [])))) (ret []))) (tnm 5) (seqM (setN 6 (compM [7] (itM (sl 2)) (tnm 7) (tob (bin2 neF (opl 7) (opl 5))) (sl 7)))
    (ifS (andM (tob (bin2 gtF (opl 4) (tmp (co (.int 0))))) (tob (bin2 ltF (tmp (methM 1 F_Matching_size (tmp (newM 1 2 F_Matching___init__ (consO (opl 1) (consO (opl 6) (ret []))))) (ret []))) (opl 4)))) (seqM (dropM (appM (opl 3) (consD (sl 5) (ret []))))
    (parM 2 4 (consO (tmp (sl 6)) (consO (tmp (bin2 subF (opl 4) (tmp (co (.int 1))))) (ret []))))) (ret .nx))))
    (retM (mvM 3)))))
noncomputable def F_fewest_to_drop : List OV → Res := fnR 8 1 [0] (m_fewest_to_drop)
theorem ok_fewest_to_drop {P : Program} {w : World} {K : PySem.W.Frag} {mg : Str → Option Value} {base : Heap} {a : Nat → Addr} {fd : FuncData} (T : Txt K mg a) (F : Fun K "fewest_to_drop" "fewest_to_drop" s_fewest_to_drop (a 13) fd) (hb : Binds K fd ["keymap"] []) (h_KeyMap_bindings : Fn P w K mg base a 1 6 F_KeyMap_bindings) (h_Matching_size : Fn P w K mg base a 1 12 F_Matching_size) (h_Matching___init__ : Fn P w K mg base a 13 11 F_Matching___init__) (h_late_pairs : Fn P w K mg base a 4 9 F_late_pairs) : Fn P w K mg base a 15 13 F_fewest_to_drop :=
  fn_ok F sc_fewest_to_drop hb (by decide) fun cdv A outer s H E hr =>
  (ss_cons (ss_par (i := 1) (j := 2) rfl sc_fewest_to_drop.nd rfl rfl (by decide) (by decide) (by decide) rfl rfl (sa_cons (so_tmp (se_call (cal0 h_late_pairs (fun _ _ h => h)) (hr.mono (by decide)) (by rfl) T.f_late_pairs (sa_cons (so_sl (pv 0)) sa_nil))) (sa_cons (so_tmp (se_lrg rfl (by rfl) T.n_list (by rfl) T.n_range (c_len T.n_len (sa_cons (so_tmp (se_prop (cl := 0) (cal0 h_KeyMap_bindings (fun _ _ h => h)) (hr.mono (by decide)) T.cl_KeyMap T.pr_KeyMap_bindings.choose_spec (so_sl (pv 0)))) sa_nil)))) sa_nil)))
    (ss_cons (ss_par (i := 3) (j := 4) rfl sc_fewest_to_drop.nd rfl rfl (by decide) (by decide) (by decide) rfl rfl (sa_cons (so_tmp (se_lst sd_nil)) (sa_cons (so_tmp (se_meth0 (cl := 1) (cal0 h_Matching_size (fun _ _ h => h)) (hr.mono (by decide)) T.cl_Matching T.mt_Matching_size (show ¬ (("size" : Str) ∈ (["pairs", "inners"] : List Str)) by decide +kernel) (so_tmp (se_new (cl := 1) (cal0 h_Matching___init__ (fun _ _ h => h)) (hr.mono (by decide)) T.mk_Matching (by rfl) T.c_Matching (sa_cons (so_sl (pv 1)) (sa_cons (so_sl (pv 2)) sa_nil)))))) sa_nil)))
    (ss_cons (ss_for PassesOwn.never rfl (by decide) (si_range1 (by rfl) T.n_range (sa_cons (so_tmp (c_len T.n_len (sa_cons (so_tmp (se_prop (cl := 0) (cal0 h_KeyMap_bindings (fun _ _ h => h)) (hr.mono (by decide)) T.cl_KeyMap T.pr_KeyMap_bindings.choose_spec (so_sl (pv 0)))) sa_nil))) sa_nil)) (sg_name (pg_name (i := 5) sc_fewest_to_drop.nd rfl (.inr rfl))) (ss_cons (ss_setLc (i := 6) (own := [("other", 7)]) rfl sc_fewest_to_drop.nd rfl rfl (by decide) (sw_true rfl rfl rfl (by decide +kernel)) (si_seq (se_sl (pv 2))) (blkOk_by (N := N_fewest_to_drop) (sc := defScope s_fewest_to_drop) (by decide +kernel)) (fun _ _ _ _ _ => (sg_name (pg_name (i := 7) sc_fewest_to_drop.nd rfl (.inl rfl)))) (fun _ _ _ _ _ => (st_one (t_cmp (cm_ne hr) (so_sl (pv 7)) (so_sl (pv 5))))) (fun _ _ _ _ _ => (se_sl (pv 7))) tnm_len (by decide))
    (ss_one (ss_if (sb_w (sw_and (t_cmp cm_gt (so_sl (pv 4)) (so_tmp v_int)) (sw_and1 (t_cmp cm_lt (so_tmp (se_meth0 (cl := 1) (cal0 h_Matching_size (fun _ _ h => h)) (hr.mono (by decide)) T.cl_Matching T.mt_Matching_size (show ¬ (("size" : Str) ∈ (["pairs", "inners"] : List Str)) by decide +kernel) (so_tmp (se_new (cl := 1) (cal0 h_Matching___init__ (fun _ _ h => h)) (hr.mono (by decide)) T.mk_Matching (by rfl) T.c_Matching (sa_cons (so_sl (pv 1)) (sa_cons (so_sl (pv 6)) sa_nil)))))) (so_sl (pv 4)))))) (ss_cons (ss_expr (se_app ctnd (so_sl (pv 3)) (sd_cons (se_sl (pv 5)) sd_nil)))
    (ss_one (ss_par (i := 2) (j := 4) rfl sc_fewest_to_drop.nd rfl rfl (by decide) (by decide) (by decide) rfl rfl (sa_cons (so_tmp (se_sl (pv 6))) (sa_cons (so_tmp (v_sub (so_sl (pv 4)) (so_tmp v_int))) sa_nil))))) ss_nil))))
    (ss_one (ss_ret (se_mv (pv 3)))))))
abbrev s_find_chains : Stmt := (top 21)
abbrev N_find_chains : List Str := ["keymap", "everything", "inners", "outers", "chains", "index", "chain", "inner", "outer"]
theorem sc_find_chains : FnScope N_find_chains ["keymap"] (defScope s_find_chains) := ⟨rfl, rfl, rfl, by decide +kernel, rfl, by decide +kernel, by decide +kernel⟩
noncomputable def m_find_chains : M Fl := (seqM (setN 1 (lrgM (callP lenN (consO (tmp (propM 0 F_KeyMap_bindings (opl 0))) (ret [])))))
    (seqM (setN 2 (fldE 1 1 (newM 1 2 F_Matching___init__ (consO (tmp (callM F_late_pairs (consO (opl 0) (ret [])))) (consO (opl 1) (ret []))))))
    (seqM (setN 3 (dcItM 2 [8, 7] (ttp [8, 7]) (ret true) (sl 7) (sl 8)))
    (seqM (setN 4 (lstM (ret [])))
    (seqM (forM (itM (sl 1)) (tnm 5) (ifS (tob (bin2 ninF (opl 5) (opl 2))) (seqM (setN 6 (lstM (consD (sl 5) (ret []))))
    (seqM (whileM (tob (bin2 inF (tmp (bin2 (oe ixF itemD) (opl 6) (tmp (co (.int (-1)))))) (opl 3))) (dropM (appM (opl 6) (consD (bin2 (oe ixF itemD) (opl 3) (tmp (bin2 (oe ixF itemD) (opl 6) (tmp (co (.int (-1))))))) (ret [])))))
    (dropM (appM (opl 4) (consD (sl 6) (ret [])))))) (ret .nx)))
    (retM (mvM 4)))))))
noncomputable def F_find_chains : List OV → Res := fnR 9 1 [0] (m_find_chains)
theorem ok_find_chains {P : Program} {w : World} {K : PySem.W.Frag} {mg : Str → Option Value} {base : Heap} {a : Nat → Addr} {fd : FuncData} (T : Txt K mg a) (F : Fun K "find_chains" "find_chains" s_find_chains (a 14) fd) (hb : Binds K fd ["keymap"] []) (h_Matching___init__ : Fn P w K mg base a 13 11 F_Matching___init__) (h_late_pairs : Fn P w K mg base a 4 9 F_late_pairs) (h_KeyMap_bindings : Fn P w K mg base a 1 6 F_KeyMap_bindings) : Fn P w K mg base a 15 14 F_find_chains :=
  fn_ok F sc_find_chains hb (by decide) fun cdv A outer s H E hr =>
  (ss_cons (ss_set (i := 1) sc_find_chains.nd rfl (.inl rfl) (by decide) (se_lrg rfl (by rfl) T.n_list (by rfl) T.n_range (c_len T.n_len (sa_cons (so_tmp (se_prop (cl := 0) (cal0 h_KeyMap_bindings (fun _ _ h => h)) (hr.mono (by decide)) T.cl_KeyMap T.pr_KeyMap_bindings.choose_spec (so_sl (pv 0)))) sa_nil))))
    (ss_cons (ss_set (i := 2) sc_find_chains.nd rfl (.inl rfl) (by decide) (se_fldE (c := 1) (f := 1) rfl (se_new (cl := 1) (cal0 h_Matching___init__ (fun _ _ h => h)) (hr.mono (by decide)) T.mk_Matching (by rfl) T.c_Matching (sa_cons (so_tmp (se_call (cal0 h_late_pairs (fun _ _ h => h)) (hr.mono (by decide)) (by rfl) T.f_late_pairs (sa_cons (so_sl (pv 0)) sa_nil))) (sa_cons (so_sl (pv 1)) sa_nil))) T.cl_Matching T.na_Matching_inners))
    (ss_cons (ss_setDcIt (j := 3) (own := [("outer", 8), ("inner", 7)]) rfl sc_find_chains.nd rfl rfl (by decide) (sw_trueD rfl rfl rfl (by decide +kernel)) (pv 2) (blkOk_by (N := N_find_chains) (sc := defScope s_find_chains) (by decide +kernel)) (fun _ _ _ _ _ => (sg_tup (is := [8, 7]) (pg_tup rfl (pgs_cons (pg_name (i := 8) sc_find_chains.nd rfl (.inl rfl)) (pgs_cons (pg_name (i := 7) sc_find_chains.nd rfl (.inl rfl)) pgs_nil))))) (fun _ _ _ _ _ => st_nil) (fun _ _ _ _ _ => (se_sl (pv 7))) (fun _ _ _ _ _ => (se_sl (pv 8))) ttp_len (by decide))
    (ss_cons (ss_set (i := 4) sc_find_chains.nd rfl (.inl rfl) (by decide) (se_lst sd_nil))
    (ss_cons (ss_for PassesOwn.never rfl (by decide) (si_seq (se_sl (pv 1))) (sg_name (pg_name (i := 5) sc_find_chains.nd rfl (.inl rfl))) (ss_one (ss_if (t_cmp (cm_nin hr) (so_sl (pv 5)) (so_sl (pv 2))) (ss_cons (ss_set (i := 6) sc_find_chains.nd rfl (.inl rfl) (by decide) (se_lst (sd_cons (se_sl (pv 5)) sd_nil)))
    (ss_cons (ss_while PassesOwn.never (t_cmp (cm_in hr) (so_tmp (v_sub1 hr (so_sl (pv 6)) (so_tmp v_neg))) (so_sl (pv 3))) (ss_one (ss_expr (se_app ctnd (so_sl (pv 6)) (sd_cons (v_sub1 hr (so_sl (pv 3)) (so_tmp (v_sub1 hr (so_sl (pv 6)) (so_tmp v_neg)))) sd_nil)))))
    (ss_one (ss_expr (se_app ctnd (so_sl (pv 4)) (sd_cons (se_sl (pv 6)) sd_nil)))))) ss_nil)))
    (ss_one (ss_ret (se_mv (pv 4)))))))))
abbrev s_judge_chains : Stmt := (top 22)
abbrev N_judge_chains : List Str := ["keymap", "chains", "members", "chain", "inner", "outer", "index"]
theorem sc_judge_chains : FnScope N_judge_chains ["keymap", "chains"] (defScope s_judge_chains) := ⟨rfl, rfl, rfl, by decide +kernel, rfl, by decide +kernel, by decide +kernel⟩
noncomputable def m_judge_chains : M Fl := (seqM (ifS (orM (bnd (tob (callP (n2 isiF) (consO (opl 1) (consO (tmp (co (.ty "list"))) (ret []))))) fun b => ret (!b)) (bnd (tob (callP (n1 allF) (consO (tmp (compM [3] (itM (sl 1)) (tnm 3) (ret true) (andV (callP (n2 isiF) (consO (opl 3) (consO (tmp (co (.ty "list"))) (ret [])))) (bin2 neF (opl 3) (tmp (lstM (ret []))))))) (ret [])))) fun b => ret (!b))) (retM (co .non)) (ret .nx))
    (seqM (setN 2 (comp2M [3, 6] [6] (itM (sl 1)) (tnm 3) (ret true) (itM (sl 3)) (tnm 6) (ret true) (sl 6)))
    (seqM (ifS (tob (bin2 neF (tmp (callP (n1 sortedF) (consO (opl 2) (ret [])))) (tmp (lrgM (callP lenN (consO (tmp (propM 0 F_KeyMap_bindings (opl 0))) (ret []))))))) (retM (co .non)) (ret .nx))
    (seqM (forM (itM (sl 1)) (tnm 3) (forM (zipM (consD (sl 3) (consD (slM slF (opl 3) (intP (co (.int 1))) noP) (ret [])))) (ttp [4, 5]) (ifS (bnd (tob (callM F_makes_late (consO (opl 0) (consO (opl 4) (consO (opl 5) (ret [])))))) fun b => ret (!b)) (retM (co .non)) (ret .nx))))
    (retM (bin2 subF (tmp (callP lenN (consO (opl 2) (ret [])))) (tmp (callP lenN (consO (opl 1) (ret []))))))))))
noncomputable def F_judge_chains : List OV → Res := fnR 7 2 [0, 1] (m_judge_chains)
theorem ok_judge_chains {P : Program} {w : World} {K : PySem.W.Frag} {mg : Str → Option Value} {base : Heap} {a : Nat → Addr} {fd : FuncData} (T : Txt K mg a) (F : Fun K "judge_chains" "judge_chains" s_judge_chains (a 15) fd) (hb : Binds K fd ["keymap", "chains"] []) (h_makes_late : Fn P w K mg base a 3 8 F_makes_late) (h_KeyMap_bindings : Fn P w K mg base a 1 6 F_KeyMap_bindings) : Fn P w K mg base a 4 15 F_judge_chains :=
  fn_ok F sc_judge_chains hb (by decide) fun cdv A outer s H E hr =>
  (ss_cons (ss_if (sb_w (sw_or (sb_not (sb_val (c_isi T.n_isinstance (sa_cons (so_sl (pv 1)) (sa_cons (so_tmp (v_ty T.n_list PyProof.Rows.boot_list)) sa_nil))))) (sw_or1 (sb_not (sb_val (c_all rfl T.n_all (sa_cons (so_tmp (se_lc (own := [("chain", 3)]) rfl sc_judge_chains.nd (si_seq (se_sl (pv 1))) (blkOk_by (N := N_judge_chains) (sc := defScope s_judge_chains) (by decide +kernel)) (fun _ _ _ _ _ => (sg_name (pg_name (i := 3) sc_judge_chains.nd rfl (.inl rfl)))) (fun _ _ _ _ _ => st_nil) (fun _ _ _ _ _ => (se_and (c_isi T.n_isinstance (sa_cons (so_sl (pv 3)) (sa_cons (so_tmp (v_ty T.n_list PyProof.Rows.boot_list)) sa_nil))) (se_one (v_cmp (cm_ne hr) (so_sl (pv 3)) (so_tmp (se_lst sd_nil)))))) tnm_len (by decide))) sa_nil))))))) (ss_one (ss_ret v_non)) ss_nil)
    (ss_cons (ss_setLc2 (i := 2) (own := [("chain", 3), ("index", 6)]) (vs1 := [6]) rfl sc_judge_chains.nd rfl rfl (by decide) (sw_true rfl rfl rfl (by decide +kernel)) (si_seq (se_sl (pv 1))) (blkOk_by (N := N_judge_chains) (sc := defScope s_judge_chains) (by decide +kernel)) (by decide) (fun _ _ _ _ _ => (sg_name (pg_name (i := 3) sc_judge_chains.nd rfl (.inl rfl)))) (fun _ _ _ _ _ => st_nil) (fun _ _ _ _ _ => (si_seq (se_sl (pv 3)))) (fun _ _ _ _ _ => (sg_name (pg_name (i := 6) sc_judge_chains.nd rfl (.inl rfl)))) (fun _ _ _ _ _ => st_nil) (fun _ _ _ _ _ => (se_sl (pv 6))) tnm_len tnm_len (by decide) (by decide))
    (ss_cons (ss_if (t_cmp (cm_ne hr) (so_tmp (c_sorted T.n_sorted (sa_cons (so_sl (pv 2)) sa_nil))) (so_tmp (se_lrg rfl (by rfl) T.n_list (by rfl) T.n_range (c_len T.n_len (sa_cons (so_tmp (se_prop (cl := 0) (cal0 h_KeyMap_bindings (fun _ _ h => h)) (hr.mono (by decide)) T.cl_KeyMap T.pr_KeyMap_bindings.choose_spec (so_sl (pv 0)))) sa_nil))))) (ss_one (ss_ret v_non)) ss_nil)
    (ss_cons (ss_for PassesOwn.never rfl (by decide) (si_seq (se_sl (pv 1))) (sg_name (pg_name (i := 3) sc_judge_chains.nd rfl (.inl rfl))) (ss_one (ss_for PassesOwn.never rfl (by decide) (si_zip (by rfl) T.n_zip (sd_cons (se_sl (pv 3)) (sd_cons (v_slice (so_sl (pv 3)) (sp_some v_int) sp_none) sd_nil))) (sg_tup (is := [4, 5]) (pg_tup rfl (pgs_cons (pg_name (i := 4) sc_judge_chains.nd rfl (.inl rfl)) (pgs_cons (pg_name (i := 5) sc_judge_chains.nd rfl (.inl rfl)) pgs_nil)))) (ss_one (ss_if (sb_not (sb_val (se_call (cal0 h_makes_late (fun _ _ h => h)) (hr.mono (by decide)) (by rfl) T.f_makes_late (sa_cons (so_sl (pv 0)) (sa_cons (so_sl (pv 4)) (sa_cons (so_sl (pv 5)) sa_nil)))))) (ss_one (ss_ret v_non)) ss_nil)))))
    (ss_one (ss_ret (v_sub (so_tmp (c_len T.n_len (sa_cons (so_sl (pv 2)) sa_nil))) (so_tmp (c_len T.n_len (sa_cons (so_sl (pv 1)) sa_nil))))))))))
abbrev s_without_bindings : Stmt := (top 23)
abbrev N_without_bindings : List Str := ["keymap", "indexes", "index", "rows", "row"]
theorem sc_without_bindings : FnScope N_without_bindings ["keymap", "indexes"] (defScope s_without_bindings) := ⟨rfl, rfl, rfl, by decide +kernel, rfl, by decide +kernel, by decide +kernel⟩
noncomputable def m_without_bindings : M Fl := (seqM (forM (itM (sl 1)) (tnm 2) (dropM (methM 0 F_KeyMap_check_binding (opl 0) (consO (opl 2) (ret [])))))
    (seqM (setN 3 (compM [2, 4] (enumM (consD (propM 0 F_KeyMap_bindings (opl 0)) (ret []))) (ttp [2, 4]) (tob (bin2 ninF (opl 2) (opl 1))) (sl 4)))
    (retM (newM 0 4 F_KeyMap___init__ (consO (tmp (propM 0 F_KeyMap_modes (opl 0))) (consO (tmp (propM 0 F_KeyMap_wait (opl 0))) (consO (tmp (callP (n1 tupF) (consO (opl 3) (ret [])))) (ret []))))))))
noncomputable def F_without_bindings : List OV → Res := starR 1 (fnR 5 2 [0, 1] (m_without_bindings))
theorem ok_without_bindings {P : Program} {w : World} {K : PySem.W.Frag} {mg : Str → Option Value} {base : Heap} {a : Nat → Addr} {fd : FuncData} (T : Txt K mg a) (F : Fun K "without_bindings" "without_bindings" s_without_bindings (a 16) fd) (hb : ∀ us rest : List Value, us.length = (["keymap"] : List Str).length → bindArgs fd ⟨us ++ rest, []⟩ = (newTuple rest >>= fun t => pure ((["keymap"] : List Str).zip us ++ [(("indexes" : Str), t)]))) (h_KeyMap___init__ : Fn P w K mg base a 3 3 F_KeyMap___init__) (h_KeyMap_wait : Fn P w K mg base a 1 5 F_KeyMap_wait) (h_KeyMap_modes : Fn P w K mg base a 1 4 F_KeyMap_modes) (h_KeyMap_bindings : Fn P w K mg base a 1 6 F_KeyMap_bindings) (h_KeyMap_check_binding : Fn P w K mg base a 2 7 F_KeyMap_check_binding) : FnS P w K mg base 5 (ct K a) (a 16) F_without_bindings :=
  fnS_ok (ps := ["keymap"]) (pv := "indexes") F sc_without_bindings hb fun cdv A outer s H E hr =>
  (ss_cons (ss_for PassesOwn.never rfl (by decide) (si_seq (se_sl (pv 1))) (sg_name (pg_name (i := 2) sc_without_bindings.nd rfl (.inl rfl))) (ss_one (ss_expr (se_meth (cl := 0) (cal0 h_KeyMap_check_binding (fun _ _ h => h)) (hr.mono (by decide)) T.cl_KeyMap T.mt_KeyMap_check_binding (show ¬ (("check_binding" : Str) ∈ (["numbers", "mode_names", "wait_ticks", "rows"] : List Str)) by decide +kernel) (so_sl (pv 0)) (sa_cons (so_sl (pv 2)) sa_nil)))))
    (ss_cons (ss_setLc (i := 3) (own := [("index", 2), ("row", 4)]) rfl sc_without_bindings.nd rfl rfl (by decide) (sw_true rfl rfl rfl (by decide +kernel)) (si_enum (by rfl) T.n_enumerate (sd_cons (se_prop (cl := 0) (cal0 h_KeyMap_bindings (fun _ _ h => h)) (hr.mono (by decide)) T.cl_KeyMap T.pr_KeyMap_bindings.choose_spec (so_sl (pv 0))) sd_nil)) (blkOk_by (N := N_without_bindings) (sc := defScope s_without_bindings) (by decide +kernel)) (fun _ _ _ _ _ => (sg_tup (is := [2, 4]) (pg_tup rfl (pgs_cons (pg_name (i := 2) sc_without_bindings.nd rfl (.inl rfl)) (pgs_cons (pg_name (i := 4) sc_without_bindings.nd rfl (.inl rfl)) pgs_nil))))) (fun _ _ _ _ _ => (st_one (t_cmp (cm_nin hr) (so_sl (pv 2)) (so_sl (pv 1))))) (fun _ _ _ _ _ => (se_sl (pv 4))) ttp_len (by decide))
    (ss_one (ss_ret (se_new (cl := 0) (cal0 h_KeyMap___init__ (fun _ _ h => h)) (hr.mono (by decide)) T.mk_KeyMap (by rfl) T.c_KeyMap (sa_cons (so_tmp (se_prop (cl := 0) (cal0 h_KeyMap_modes (fun _ _ h => h)) (hr.mono (by decide)) T.cl_KeyMap T.pr_KeyMap_modes.choose_spec (so_sl (pv 0)))) (sa_cons (so_tmp (se_prop (cl := 0) (cal0 h_KeyMap_wait (fun _ _ h => h)) (hr.mono (by decide)) T.cl_KeyMap T.pr_KeyMap_wait.choose_spec (so_sl (pv 0)))) (sa_cons (so_tmp (c_tuple T.n_tuple (sa_cons (so_sl (pv 3)) sa_nil))) sa_nil))))))))
abbrev s__law_taken : Stmt := (top 25)
abbrev N__law_taken : List Str := ["_law_row", "_law_many", "_law_found", "_law_cell"]
theorem sc__law_taken : FnScope N__law_taken ["_law_row", "_law_many"] (defScope s__law_taken) := ⟨rfl, rfl, rfl, by decide +kernel, rfl, by decide +kernel, by decide +kernel⟩
noncomputable def m__law_taken : M Fl := (seqM (ifS (tob (bin2 gtF (tmp (bin2 (oe ixF itemD) (opl 0) (tmp (co (.int 3))))) (tmp (co (.int 0))))) (seqM (setN 2 (bin2 modF (tmp (callP (n1 intF) (consO (tmp (bin2 (oe ixF itemD) (opl 0) (tmp (co (.int 3))))) (ret [])))) (opl 1)))
    (seqM (putLS (bin2 fdvF (tmp (bin2 (oe ixF itemD) (opl 0) (tmp (co (.int 3))))) (opl 1)) (opl 0) (co (.int 3)))
    (retM (mvM 2)))) (ret .nx))
    (seqM (putLS (bin2 addF (tmp (bin2 (oe ixF itemD) (opl 0) (tmp (co (.int 1))))) (tmp (co (.int 1)))) (opl 0) (co (.int 1)))
    (seqM (ifS (tob (bin2 gtF (tmp (bin2 (oe ixF itemD) (opl 0) (tmp (co (.int 1))))) (tmp (callP lenN (consO (tmp (bin2 (oe ixF itemD) (opl 0) (tmp (co (.int 0))))) (ret [])))))) (seqM (putLS (bin2 modF (tmp (callP (n1 intF) (consO (tmp (bin2 addF (tmp (bin2 mulF (tmp (bin2 (oe ixF itemD) (opl 0) (tmp (co (.int 2))))) (tmp (co (.int 48271))))) (tmp (co (.int 11))))) (ret [])))) (tmp (co (.int 2147483647)))) (opl 0) (co (.int 2)))
    (retM (bin2 modF (tmp (callP (n1 intF) (consO (tmp (bin2 fdvF (tmp (bin2 (oe ixF itemD) (opl 0) (tmp (co (.int 2))))) (tmp (co (.int 7))))) (ret [])))) (opl 1)))) (ret .nx))
    (seqM (setN 3 (bin2 (oe ixF itemD) (tmp (bin2 (oe ixF itemD) (opl 0) (tmp (co (.int 0))))) (tmp (bin2 subF (tmp (bin2 (oe ixF itemD) (opl 0) (tmp (co (.int 1))))) (tmp (co (.int 1)))))))
    (seqM (putLS (bin2 modF (tmp (callP (n1 intF) (consO (tmp (bin2 addF (tmp (bin2 addF (tmp (bin2 mulF (tmp (bin2 (oe ixF itemD) (opl 0) (tmp (co (.int 2))))) (tmp (co (.int 48271))))) (opl 3))) (tmp (co (.int 11))))) (ret [])))) (tmp (co (.int 2147483647)))) (opl 0) (co (.int 2)))
    (seqM (putLS (ifM (tob (bin2 geF (opl 3) (tmp (bin2 powF (tmp (co (.int 10))) (tmp (co (.int 18))))))) (bin2 fdvF (opl 3) (opl 1)) (co (.int 0))) (opl 0) (co (.int 3)))
    (retM (bin2 modF (tmp (callP (n1 intF) (consO (opl 3) (ret [])))) (opl 1)))))))))
noncomputable def F__law_taken : List OV → Res := fnR 4 2 [0, 1] (m__law_taken)
theorem ok__law_taken {P : Program} {w : World} {K : PySem.W.Frag} {mg : Str → Option Value} {base : Heap} {a : Nat → Addr} {fd : FuncData} (T : Txt K mg a) (F : Fun K "_law_taken" "_law_taken" s__law_taken (a 17) fd) (hb : Binds K fd ["_law_row", "_law_many"] []) : Fn P w K mg base a 1 17 F__law_taken :=
  fn_ok F sc__law_taken hb (by decide) fun cdv A outer s H E hr =>
  (ss_cons (ss_if (t_cmp cm_gt (so_tmp (v_sub1 hr (so_sl (pv 0)) (so_tmp v_int))) (so_tmp v_int)) (ss_cons (ss_set (i := 2) sc__law_taken.nd rfl (.inl rfl) (by decide) (v_mod (so_tmp (c_int T.n_int (sa_cons (so_tmp (v_sub1 hr (so_sl (pv 0)) (so_tmp v_int))) sa_nil))) (so_sl (pv 1))))
    (ss_cons (ss_putL ctnd (v_fdv (so_tmp (v_sub1 hr (so_sl (pv 0)) (so_tmp v_int))) (so_sl (pv 1))) (so_sl (pv 0)) v_int)
    (ss_one (ss_ret (se_mv (pv 2)))))) ss_nil)
    (ss_cons (ss_putL ctnd (v_add (so_tmp (v_sub1 hr (so_sl (pv 0)) (so_tmp v_int))) (so_tmp v_int)) (so_sl (pv 0)) v_int)
    (ss_cons (ss_if (t_cmp cm_gt (so_tmp (v_sub1 hr (so_sl (pv 0)) (so_tmp v_int))) (so_tmp (c_len T.n_len (sa_cons (so_tmp (v_sub1 hr (so_sl (pv 0)) (so_tmp v_int))) sa_nil)))) (ss_cons (ss_putL ctnd (v_mod (so_tmp (c_int T.n_int (sa_cons (so_tmp (v_add (so_tmp (v_mul (so_tmp (v_sub1 hr (so_sl (pv 0)) (so_tmp v_int))) (so_tmp v_int))) (so_tmp v_int))) sa_nil))) (so_tmp v_int)) (so_sl (pv 0)) v_int)
    (ss_one (ss_ret (v_mod (so_tmp (c_int T.n_int (sa_cons (so_tmp (v_fdv (so_tmp (v_sub1 hr (so_sl (pv 0)) (so_tmp v_int))) (so_tmp v_int))) sa_nil))) (so_sl (pv 1)))))) ss_nil)
    (ss_cons (ss_set (i := 3) sc__law_taken.nd rfl (.inl rfl) (by decide) (v_sub1 hr (so_tmp (v_sub1 hr (so_sl (pv 0)) (so_tmp v_int))) (so_tmp (v_sub (so_tmp (v_sub1 hr (so_sl (pv 0)) (so_tmp v_int))) (so_tmp v_int)))))
    (ss_cons (ss_putL ctnd (v_mod (so_tmp (c_int T.n_int (sa_cons (so_tmp (v_add (so_tmp (v_add (so_tmp (v_mul (so_tmp (v_sub1 hr (so_sl (pv 0)) (so_tmp v_int))) (so_tmp v_int))) (so_sl (pv 3)))) (so_tmp v_int))) sa_nil))) (so_tmp v_int)) (so_sl (pv 0)) v_int)
    (ss_cons (ss_putL ctnd (se_ife (t_cmp cm_ge (so_sl (pv 3)) (so_tmp (v_pow (so_tmp v_int) (so_tmp v_int)))) (v_fdv (so_sl (pv 3)) (so_sl (pv 1))) v_int) (so_sl (pv 0)) v_int)
    (ss_one (ss_ret (v_mod (so_tmp (c_int T.n_int (sa_cons (so_sl (pv 3)) sa_nil))) (so_sl (pv 1)))))))))))
abbrev s__law_keys : Stmt := (top 26)
abbrev N__law_keys : List Str := ["_law_row", "_law_letters", "_law_most", "_law_keys_here", "_law_k"]
theorem sc__law_keys : FnScope N__law_keys ["_law_row", "_law_letters", "_law_most"] (defScope s__law_keys) := ⟨rfl, rfl, rfl, by decide +kernel, rfl, by decide +kernel, by decide +kernel⟩
noncomputable def m__law_keys : M Fl := (seqM (setN 3 (co (.str "")))
    (seqM (forM (rng1M (consO (tmp (bin2 addF (tmp (co (.int 1))) (tmp (callM F__law_taken (consO (opl 0) (consO (opl 2) (ret []))))))) (ret []))) (tnm 4) (setN 3 (bin2 addF (opl 3) (tmp (bin2 (oe ixF itemD) (opl 1) (tmp (callM F__law_taken (consO (opl 0) (consO (tmp (callP lenN (consO (opl 1) (ret [])))) (ret []))))))))))
    (retM (mvM 3))))
noncomputable def F__law_keys : List OV → Res := fnR 5 3 [0, 1, 2] (m__law_keys)
theorem ok__law_keys {P : Program} {w : World} {K : PySem.W.Frag} {mg : Str → Option Value} {base : Heap} {a : Nat → Addr} {fd : FuncData} (T : Txt K mg a) (F : Fun K "_law_keys" "_law_keys" s__law_keys (a 18) fd) (hb : Binds K fd ["_law_row", "_law_letters", "_law_most"] []) (h__law_taken : Fn P w K mg base a 1 17 F__law_taken) : Fn P w K mg base a 2 18 F__law_keys :=
  fn_ok F sc__law_keys hb (by decide) fun cdv A outer s H E hr =>
  (ss_cons (ss_set (i := 3) sc__law_keys.nd rfl (.inl rfl) (by decide) v_str)
    (ss_cons (ss_for PassesOwn.never rfl (by decide) (si_range1 (by rfl) T.n_range (sa_cons (so_tmp (v_add (so_tmp v_int) (so_tmp (se_call (cal0 h__law_taken (fun _ _ h => h)) (hr.mono (by decide)) (by rfl) T.f__law_taken (sa_cons (so_sl (pv 0)) (sa_cons (so_sl (pv 2)) sa_nil)))))) sa_nil)) (sg_name (pg_name (i := 4) sc__law_keys.nd rfl (.inl rfl))) (ss_one (ss_set (i := 3) sc__law_keys.nd rfl (.inl rfl) (by decide) (v_add (so_sl (pv 3)) (so_tmp (v_sub1 hr (so_sl (pv 1)) (so_tmp (se_call (cal0 h__law_taken (fun _ _ h => h)) (hr.mono (by decide)) (by rfl) T.f__law_taken (sa_cons (so_sl (pv 0)) (sa_cons (so_tmp (c_len T.n_len (sa_cons (so_sl (pv 1)) sa_nil))) sa_nil))))))))))
    (ss_one (ss_ret (se_mv (pv 3))))))
abbrev s__law_parts : Stmt := (top 27)
abbrev N__law_parts : List Str := ["_law_row", "_law_letters", "_law_most", "_law_modes", "_law_wait", "_law_bindings", "_law_used", "_law_k", "_law_mode", "_law_keys_here", "_law_command"]
theorem sc__law_parts : FnScope N__law_parts ["_law_row", "_law_letters", "_law_most"] (defScope s__law_parts) := ⟨rfl, rfl, rfl, by decide +kernel, rfl, by decide +kernel, by decide +kernel⟩
noncomputable def m__law_parts : M Fl := (seqM (setN 3 (slM slF (tmp (tupM (consD (co (.str "main")) (consD (co (.str "edit")) (consD (co (.str "move")) (ret [])))))) noP (intP (bin2 addF (tmp (co (.int 1))) (tmp (callM F__law_taken (consO (opl 0) (consO (tmp (co (.int 3))) (ret [])))))))))
    (seqM (par3M 4 5 6 (consO (tmp (bin2 addF (tmp (co (.int 1))) (tmp (callM F__law_taken (consO (opl 0) (consO (tmp (bin2 (oe ixF itemD) (tmp (lstM (consD (co (.int 3)) (consD (co (.int 9)) (ret []))))) (tmp (callM F__law_taken (consO (opl 0) (consO (tmp (co (.int 2))) (ret []))))))) (ret []))))))) (consO (tmp (lstM (ret []))) (consO (tmp (lstM (ret []))) (ret [])))))
    (seqM (forM (rng1M (consO (tmp (callM F__law_taken (consO (opl 0) (consO (tmp (bin2 addF (opl 2) (tmp (co (.int 1))))) (ret []))))) (ret []))) (tnm 7) (seqM (parM 8 9 (consO (tmp (bin2 (oe ixF itemD) (opl 3) (tmp (callM F__law_taken (consO (opl 0) (consO (tmp (callP lenN (consO (opl 3) (ret [])))) (ret []))))))) (consO (tmp (callM F__law_keys (consO (opl 0) (consO (opl 1) (consO (tmp (co (.int 3))) (ret [])))))) (ret []))))
    (ifS (tob (bin2 ninF (tmp (tupM (consD (sl 8) (consD (sl 9) (ret []))))) (opl 6))) (seqM (dropM (appM (opl 6) (consD (tupM (consD (sl 8) (consD (sl 9) (ret [])))) (ret []))))
    (seqM (setN 10 (bin2 (oe ixF itemD) (tmp (lstM (consD (co (.str "go")) (consD (co (.str "cut")) (consD (co (.str "put")) (consD (co (.str "mark")) (consD (co (.str "join")) (ret [])))))))) (tmp (callM F__law_taken (consO (opl 0) (consO (tmp (co (.int 5))) (ret [])))))))
    (dropM (appM (opl 5) (consD (tupM (consD (sl 8) (consD (sl 9) (consD (sl 10) (consD (bin2 (oe ixF itemD) (opl 3) (tmp (callM F__law_taken (consO (opl 0) (consO (tmp (callP lenN (consO (opl 3) (ret [])))) (ret [])))))) (ret [])))))) (ret [])))))) (ret .nx))))
    (retM (tupM (consD (sl 3) (consD (sl 4) (consD (callP (n1 tupF) (consO (opl 5) (ret []))) (ret [])))))))))
noncomputable def F__law_parts : List OV → Res := fnR 11 3 [0, 1, 2] (m__law_parts)
theorem ok__law_parts {P : Program} {w : World} {K : PySem.W.Frag} {mg : Str → Option Value} {base : Heap} {a : Nat → Addr} {fd : FuncData} (T : Txt K mg a) (F : Fun K "_law_parts" "_law_parts" s__law_parts (a 19) fd) (hb : Binds K fd ["_law_row", "_law_letters", "_law_most"] []) (h__law_taken : Fn P w K mg base a 1 17 F__law_taken) (h__law_keys : Fn P w K mg base a 2 18 F__law_keys) : Fn P w K mg base a 3 19 F__law_parts :=
  fn_ok F sc__law_parts hb (by decide) fun cdv A outer s H E hr =>
  (ss_cons (ss_set (i := 3) sc__law_parts.nd rfl (.inl rfl) (by decide) (v_slice (so_tmp (se_tup (sd_cons v_str (sd_cons v_str (sd_cons v_str sd_nil))))) sp_none (sp_some (v_add (so_tmp v_int) (so_tmp (se_call (cal0 h__law_taken (fun _ _ h => h)) (hr.mono (by decide)) (by rfl) T.f__law_taken (sa_cons (so_sl (pv 0)) (sa_cons (so_tmp v_int) sa_nil))))))))
    (ss_cons (ss_par3 (i := 4) (j := 5) (l := 6) rfl sc__law_parts.nd rfl rfl rfl (by decide) (by decide) (by decide) (by decide) (by decide) (by decide) rfl rfl rfl (sa_cons (so_tmp (v_add (so_tmp v_int) (so_tmp (se_call (cal0 h__law_taken (fun _ _ h => h)) (hr.mono (by decide)) (by rfl) T.f__law_taken (sa_cons (so_sl (pv 0)) (sa_cons (so_tmp (v_sub1 hr (so_tmp (se_lst (sd_cons v_int (sd_cons v_int sd_nil)))) (so_tmp (se_call (cal0 h__law_taken (fun _ _ h => h)) (hr.mono (by decide)) (by rfl) T.f__law_taken (sa_cons (so_sl (pv 0)) (sa_cons (so_tmp v_int) sa_nil)))))) sa_nil)))))) (sa_cons (so_tmp (se_lst sd_nil)) (sa_cons (so_tmp (se_lst sd_nil)) sa_nil))))
    (ss_cons (ss_for PassesOwn.never rfl (by decide) (si_range1 (by rfl) T.n_range (sa_cons (so_tmp (se_call (cal0 h__law_taken (fun _ _ h => h)) (hr.mono (by decide)) (by rfl) T.f__law_taken (sa_cons (so_sl (pv 0)) (sa_cons (so_tmp (v_add (so_sl (pv 2)) (so_tmp v_int))) sa_nil)))) sa_nil)) (sg_name (pg_name (i := 7) sc__law_parts.nd rfl (.inl rfl))) (ss_cons (ss_par (i := 8) (j := 9) rfl sc__law_parts.nd rfl rfl (by decide) (by decide) (by decide) rfl rfl (sa_cons (so_tmp (v_sub1 hr (so_sl (pv 3)) (so_tmp (se_call (cal0 h__law_taken (fun _ _ h => h)) (hr.mono (by decide)) (by rfl) T.f__law_taken (sa_cons (so_sl (pv 0)) (sa_cons (so_tmp (c_len T.n_len (sa_cons (so_sl (pv 3)) sa_nil))) sa_nil)))))) (sa_cons (so_tmp (se_call (cal0 h__law_keys (fun _ _ h => h)) (hr.mono (by decide)) (by rfl) T.f__law_keys (sa_cons (so_sl (pv 0)) (sa_cons (so_sl (pv 1)) (sa_cons (so_tmp v_int) sa_nil))))) sa_nil)))
    (ss_one (ss_if (t_cmp (cm_nin hr) (so_tmp (se_tup (sd_cons (se_sl (pv 8)) (sd_cons (se_sl (pv 9)) sd_nil)))) (so_sl (pv 6))) (ss_cons (ss_expr (se_app ctnd (so_sl (pv 6)) (sd_cons (se_tup (sd_cons (se_sl (pv 8)) (sd_cons (se_sl (pv 9)) sd_nil))) sd_nil)))
    (ss_cons (ss_set (i := 10) sc__law_parts.nd rfl (.inl rfl) (by decide) (v_sub1 hr (so_tmp (se_lst (sd_cons v_str (sd_cons v_str (sd_cons v_str (sd_cons v_str (sd_cons v_str sd_nil))))))) (so_tmp (se_call (cal0 h__law_taken (fun _ _ h => h)) (hr.mono (by decide)) (by rfl) T.f__law_taken (sa_cons (so_sl (pv 0)) (sa_cons (so_tmp v_int) sa_nil))))))
    (ss_one (ss_expr (se_app ctnd (so_sl (pv 5)) (sd_cons (se_tup (sd_cons (se_sl (pv 8)) (sd_cons (se_sl (pv 9)) (sd_cons (se_sl (pv 10)) (sd_cons (v_sub1 hr (so_sl (pv 3)) (so_tmp (se_call (cal0 h__law_taken (fun _ _ h => h)) (hr.mono (by decide)) (by rfl) T.f__law_taken (sa_cons (so_sl (pv 0)) (sa_cons (so_tmp (c_len T.n_len (sa_cons (so_sl (pv 3)) sa_nil))) sa_nil))))) sd_nil))))) sd_nil)))))) ss_nil))))
    (ss_one (ss_ret (se_tup (sd_cons (se_sl (pv 3)) (sd_cons (se_sl (pv 4)) (sd_cons (c_tuple T.n_tuple (sa_cons (so_sl (pv 5)) sa_nil)) sd_nil)))))))))
abbrev s__law_made : Stmt := (top 28)
abbrev N__law_made : List Str := ["_law_parts_here"]
theorem sc__law_made : FnScope N__law_made ["_law_parts_here"] (defScope s__law_made) := ⟨rfl, rfl, rfl, by decide +kernel, rfl, by decide +kernel, by decide +kernel⟩
noncomputable def m__law_made : M Fl := (retM (newM 0 4 F_KeyMap___init__ (consO (tmp (bin2 (oe ixF itemD) (opl 0) (tmp (co (.int 0))))) (consO (tmp (bin2 (oe ixF itemD) (opl 0) (tmp (co (.int 1))))) (consO (tmp (bin2 (oe ixF itemD) (opl 0) (tmp (co (.int 2))))) (ret []))))))
noncomputable def F__law_made : List OV → Res := fnR 1 1 [0] (m__law_made)
theorem ok__law_made {P : Program} {w : World} {K : PySem.W.Frag} {mg : Str → Option Value} {base : Heap} {a : Nat → Addr} {fd : FuncData} (T : Txt K mg a) (F : Fun K "_law_made" "_law_made" s__law_made (a 20) fd) (hb : Binds K fd ["_law_parts_here"] []) (h_KeyMap___init__ : Fn P w K mg base a 3 3 F_KeyMap___init__) : Fn P w K mg base a 5 20 F__law_made :=
  fn_ok F sc__law_made hb (by decide) fun cdv A outer s H E hr =>
  (ss_one (ss_ret (se_new (cl := 0) (cal0 h_KeyMap___init__ (fun _ _ h => h)) (hr.mono (by decide)) T.mk_KeyMap (by rfl) T.c_KeyMap (sa_cons (so_tmp (v_sub1 hr (so_sl (pv 0)) (so_tmp v_int))) (sa_cons (so_tmp (v_sub1 hr (so_sl (pv 0)) (so_tmp v_int))) (sa_cons (so_tmp (v_sub1 hr (so_sl (pv 0)) (so_tmp v_int))) sa_nil))))))
abbrev s__law_is_late : Stmt := (top 29)
abbrev N__law_is_late : List Str := ["_law_one", "_law_other", "_law_keys_here"]
theorem sc__law_is_late : FnScope N__law_is_late ["_law_one", "_law_other"] (defScope s__law_is_late) := ⟨rfl, rfl, rfl, by decide +kernel, rfl, by decide +kernel, by decide +kernel⟩
noncomputable def m__law_is_late : M Fl := (seqM (setN 2 (slM slF (tmp (bin2 (oe ixF itemD) (opl 1) (tmp (co (.int 1))))) noP (intP (bin2 subF (tmp (callP lenN (consO (tmp (bin2 (oe ixF itemD) (opl 1) (tmp (co (.int 1))))) (ret [])))) (tmp (co (.int 1)))))))
    (retM (andV (bin2 neF (opl 0) (opl 1)) (andV (bin2 eqF (tmp (bin2 (oe ixF itemD) (opl 0) (tmp (co (.int 0))))) (tmp (bin2 (oe ixF itemD) (opl 1) (tmp (co (.int 0)))))) (bin2 inF (tmp (bin2 (oe ixF itemD) (opl 0) (tmp (co (.int 1))))) (opl 2))))))
noncomputable def F__law_is_late : List OV → Res := fnR 3 2 [0, 1] (m__law_is_late)
theorem ok__law_is_late {P : Program} {w : World} {K : PySem.W.Frag} {mg : Str → Option Value} {base : Heap} {a : Nat → Addr} {fd : FuncData} (T : Txt K mg a) (F : Fun K "_law_is_late" "_law_is_late" s__law_is_late (a 21) fd) (hb : Binds K fd ["_law_one", "_law_other"] []) : Fn P w K mg base a 1 21 F__law_is_late :=
  fn_ok F sc__law_is_late hb (by decide) fun cdv A outer s H E hr =>
  (ss_cons (ss_set (i := 2) sc__law_is_late.nd rfl (.inl rfl) (by decide) (v_slice (so_tmp (v_sub1 hr (so_sl (pv 1)) (so_tmp v_int))) sp_none (sp_some (v_sub (so_tmp (c_len T.n_len (sa_cons (so_tmp (v_sub1 hr (so_sl (pv 1)) (so_tmp v_int))) sa_nil))) (so_tmp v_int)))))
    (ss_one (ss_ret (se_and (v_cmp (cm_ne hr) (so_sl (pv 0)) (so_sl (pv 1))) (se_and (v_cmp (cm_eq hr) (so_tmp (v_sub1 hr (so_sl (pv 0)) (so_tmp v_int))) (so_tmp (v_sub1 hr (so_sl (pv 1)) (so_tmp v_int)))) (se_one (v_cmp (cm_in hr) (so_tmp (v_sub1 hr (so_sl (pv 0)) (so_tmp v_int))) (so_sl (pv 2)))))))))
abbrev s_law : Stmt := (top 30)
abbrev N_law : List Str := ["_law_script", "_law_row", "_law_parts_here", "_law_keymap", "_law_bindings", "_law_pairs", "_law_rows", "_law_many", "_law_k", "_law_good", "_law_some", "_law_found", "_law_chains", "_law_chain", "_law_j", "_law_pair"]
theorem sc_law : FnScope N_law ["_law_script"] (defScope s_law) := ⟨rfl, rfl, rfl, by decide +kernel, rfl, by decide +kernel, by decide +kernel⟩
noncomputable def m_law : M Fl := (seqM (setN 1 (lstM (consD (sl 0) (consD (co (.int 0)) (consD (co (.int 0)) (consD (co (.int 0)) (ret [])))))))
    (seqM (setN 2 (callM F__law_parts (consO (opl 1) (consO (tmp (bin2 (oe ixF itemD) (tmp (lstM (consD (co (.str "ab")) (consD (co (.str "abc")) (ret []))))) (tmp (callM F__law_taken (consO (opl 1) (consO (tmp (co (.int 2))) (ret []))))))) (consO (tmp (co (.int 7))) (ret []))))))
    (seqM (parsM [3, 4, 5, 6] (consO (tmp (callM F__law_made (consO (opl 2) (ret [])))) (consO (tmp (bin2 (oe ixF itemD) (opl 2) (tmp (co (.int 2))))) (consO (tmp (lstM (ret []))) (consO (tmp (lstM (consD (lstM (ret [])) (ret [])))) (ret []))))))
    (seqM (setN 7 (callP lenN (consO (opl 4) (ret []))))
    (seqM (forM (rng1M (consO (opl 7) (ret []))) (tnm 8) (seqM (setN 5 (bin2 addF (opl 5) (tmp (compM [14] (rng1M (consO (opl 7) (ret []))) (tnm 14) (tob (callM F__law_is_late (consO (tmp (bin2 (oe ixF itemD) (opl 4) (opl 8))) (consO (tmp (bin2 (oe ixF itemD) (opl 4) (opl 14))) (ret []))))) (tupM (consD (sl 8) (consD (sl 14) (ret []))))))))
    (setN 6 (bin2 addF (opl 6) (tmp (compM [10] (itM (sl 6)) (tnm 10) (ret true) (bin2 addF (opl 10) (tmp (lstM (consD (sl 8) (ret [])))))))))))
    (seqM (setN 9 (lstM (ret [])))
    (seqM (forM (itM (sl 6)) (tnm 10) (ifS (tob (bin2 eqF (tmp (compM [15] (itM (sl 5)) (tnm 15) (andM (tob (bin2 ninF (tmp (bin2 (oe ixF itemD) (opl 15) (tmp (co (.int 0))))) (opl 10))) (tob (bin2 ninF (tmp (bin2 (oe ixF itemD) (opl 15) (tmp (co (.int 1))))) (opl 10)))) (sl 15))) (tmp (lstM (ret []))))) (dropM (appM (opl 9) (consD (tupM (consD (callP lenN (consO (opl 10) (ret []))) (consD (sl 10) (ret [])))) (ret [])))) (ret .nx)))
    (seqM (setN 11 (callM F_fewest_to_drop (consO (opl 3) (ret []))))
    (seqM (ifS (orM (tob (bin2 neF (tmp (callM F_late_pairs (consO (opl 3) (ret [])))) (opl 5))) (tob (bin2 neF (opl 11) (tmp (bin2 (oe ixF itemD) (tmp (callP (n1 minDF) (consO (opl 9) (ret [])))) (tmp (co (.int 1)))))))) (retM (co (.bl false))) (ret .nx))
    (seqM (setN 12 (callM F_find_chains (consO (opl 3) (ret []))))
    (seqM (ifS (tob (bin2 neF (tmp (callM F_judge_chains (consO (opl 3) (consO (opl 12) (ret []))))) (tmp (callP lenN (consO (opl 11) (ret [])))))) (retM (co (.bl false))) (ret .nx))
    (seqM (ifS (tob (bin2 neF (tmp (callM F_judge_chains (consO (opl 3) (consO (tmp (compM [8] (rng1M (consO (opl 7) (ret []))) (tnm 8) (ret true) (lstM (consD (sl 8) (ret []))))) (ret []))))) (tmp (co (.int 0))))) (retM (co (.bl false))) (ret .nx))
    (seqM (forM (itM (sl 12)) (tnm 13) (ifS (tob (bin2 neF (tmp (compM [8] (rng1M (consO (tmp (bin2 subF (tmp (callP lenN (consO (opl 13) (ret [])))) (tmp (co (.int 1))))) (ret []))) (tnm 8) (tob (bin2 ninF (tmp (tupM (consD (bin2 (oe ixF itemD) (opl 13) (opl 8)) (consD (bin2 (oe ixF itemD) (opl 13) (tmp (bin2 addF (opl 8) (tmp (co (.int 1)))))) (ret []))))) (opl 5))) (sl 8))) (tmp (lstM (ret []))))) (retM (co (.bl false))) (ret .nx)))
    (seqM (ifS (tob (bin2 gtF (opl 7) (tmp (co (.int 0))))) (seqM (setN 8 (callM F__law_taken (consO (opl 1) (consO (opl 7) (ret [])))))
    (seqM (ifS (tob (bin2 (isN true) (tmp (callM F_judge_chains (consO (opl 3) (consO (tmp (compM [14] (rng1M (consO (opl 7) (ret []))) (tnm 14) (tob (bin2 neF (opl 14) (opl 8))) (lstM (consD (sl 14) (ret []))))) (ret []))))) (tmp (co .non)))) (retM (co (.bl false))) (ret .nx))
    (ifS (tob (bin2 neF (tmp (propM 0 F_KeyMap_bindings (tmp (callM F_without_bindings (consO (opl 3) (consO (opl 8) (ret []))))))) (tmp (bin2 addF (tmp (slM slF (opl 4) noP (intP (sl 8)))) (tmp (slM slF (opl 4) (intP (bin2 addF (opl 8) (tmp (co (.int 1))))) noP)))))) (retM (co (.bl false))) (ret .nx)))) (ret .nx))
    (retM (co (.bl true)))))))))))))))))
noncomputable def F_law : List OV → Res := fnR 16 1 [0] (m_law)
theorem ok_law {P : Program} {w : World} {K : PySem.W.Frag} {mg : Str → Option Value} {base : Heap} {a : Nat → Addr} {fd : FuncData} (T : Txt K mg a) (F : Fun K "law" "law" s_law (a 22) fd) (h_KeyMap_bindings : Fn P w K mg base a 1 6 F_KeyMap_bindings) (h_without_bindings : FnS P w K mg base 5 (ct K a) (a 16) F_without_bindings) (h_judge_chains : Fn P w K mg base a 4 15 F_judge_chains) (h__law_taken : Fn P w K mg base a 1 17 F__law_taken) (h_find_chains : Fn P w K mg base a 15 14 F_find_chains) (h_late_pairs : Fn P w K mg base a 4 9 F_late_pairs) (h_fewest_to_drop : Fn P w K mg base a 15 13 F_fewest_to_drop) (h__law_is_late : Fn P w K mg base a 1 21 F__law_is_late) (h__law_made : Fn P w K mg base a 5 20 F__law_made) (h__law_parts : Fn P w K mg base a 3 19 F__law_parts) : FnOk P w K mg base CX0 16 (a 22) fd ["_law_script"] (spF (ct K a) xg0 F_law) :=
  fn_ok1 F sc_law (by decide) fun cdv A outer s H E hr =>
  (ss_cons (ss_set (i := 1) sc_law.nd rfl (.inl rfl) (by decide) (se_lst (sd_cons (se_sl (pv 0)) (sd_cons v_int (sd_cons v_int (sd_cons v_int sd_nil))))))
    (ss_cons (ss_set (i := 2) sc_law.nd rfl (.inl rfl) (by decide) (se_call (cal0 h__law_parts (fun _ _ h => h)) (hr.mono (by decide)) (by rfl) T.f__law_parts (sa_cons (so_sl (pv 1)) (sa_cons (so_tmp (v_sub1 hr (so_tmp (se_lst (sd_cons v_str (sd_cons v_str sd_nil)))) (so_tmp (se_call (cal0 h__law_taken (fun _ _ h => h)) (hr.mono (by decide)) (by rfl) T.f__law_taken (sa_cons (so_sl (pv 1)) (sa_cons (so_tmp v_int) sa_nil)))))) (sa_cons (so_tmp v_int) sa_nil)))))
    (ss_cons (ss_pars (is := [3, 4, 5, 6]) rfl (by decide) (by decide) (pg_tup rfl (pgs_cons (pg_name (i := 3) sc_law.nd rfl (.inl rfl)) (pgs_cons (pg_name (i := 4) sc_law.nd rfl (.inr rfl)) (pgs_cons (pg_name (i := 5) sc_law.nd rfl (.inr rfl)) (pgs_cons (pg_name (i := 6) sc_law.nd rfl (.inl rfl)) pgs_nil))))) (sa_cons (so_tmp (se_call (cal0 h__law_made (fun _ _ h => h)) (hr.mono (by decide)) (by rfl) T.f__law_made (sa_cons (so_sl (pv 2)) sa_nil))) (sa_cons (so_tmp (v_sub1 hr (so_sl (pv 2)) (so_tmp v_int))) (sa_cons (so_tmp (se_lst sd_nil)) (sa_cons (so_tmp (se_lst (sd_cons (se_lst sd_nil) sd_nil))) sa_nil)))))
    (ss_cons (ss_set (i := 7) sc_law.nd rfl (.inl rfl) (by decide) (c_len T.n_len (sa_cons (so_sl (pv 4)) sa_nil)))
    (ss_cons (ss_for PassesOwn.never rfl (by decide) (si_range1 (by rfl) T.n_range (sa_cons (so_sl (pv 7)) sa_nil)) (sg_name (pg_name (i := 8) sc_law.nd rfl (.inr rfl))) (ss_cons (ss_set (i := 5) sc_law.nd rfl (.inr rfl) (by decide) (v_add (so_sl (pv 5)) (so_tmp (se_lc (own := [("_law_j", 14)]) rfl sc_law.nd (si_range1 (by rfl) T.n_range (sa_cons (so_sl (pv 7)) sa_nil)) (blkOk_by (N := N_law) (sc := defScope s_law) (by decide +kernel)) (fun _ _ _ _ _ => (sg_name (pg_name (i := 14) sc_law.nd rfl (.inl rfl)))) (fun _ _ _ _ _ => (st_one (sb_val (se_call (cal0 h__law_is_late (fun _ _ h => h)) (hr.mono (by decide)) (by rfl) T.f__law_is_late (sa_cons (so_tmp (v_sub1 hr (so_sl (pv 4)) (so_sl (pv 8)))) (sa_cons (so_tmp (v_sub1 hr (so_sl (pv 4)) (so_sl (pv 14)))) sa_nil)))))) (fun _ _ _ _ _ => (se_tup (sd_cons (se_sl (pv 8)) (sd_cons (se_sl (pv 14)) sd_nil)))) tnm_len (by decide)))))
    (ss_one (ss_set (i := 6) sc_law.nd rfl (.inl rfl) (by decide) (v_add (so_sl (pv 6)) (so_tmp (se_lc (own := [("_law_some", 10)]) rfl sc_law.nd (si_seq (se_sl (pv 6))) (blkOk_by (N := N_law) (sc := defScope s_law) (by decide +kernel)) (fun _ _ _ _ _ => (sg_name (pg_name (i := 10) sc_law.nd rfl (.inl rfl)))) (fun _ _ _ _ _ => st_nil) (fun _ _ _ _ _ => (v_add (so_sl (pv 10)) (so_tmp (se_lst (sd_cons (se_sl (pv 8)) sd_nil))))) tnm_len (by decide))))))))
    (ss_cons (ss_set (i := 9) sc_law.nd rfl (.inl rfl) (by decide) (se_lst sd_nil))
    (ss_cons (ss_for PassesOwn.never rfl (by decide) (si_seq (se_sl (pv 6))) (sg_name (pg_name (i := 10) sc_law.nd rfl (.inr rfl))) (ss_one (ss_if (t_cmp (cm_eq hr) (so_tmp (se_lc (own := [("_law_pair", 15)]) rfl sc_law.nd (si_seq (se_sl (pv 5))) (blkOk_by (N := N_law) (sc := defScope s_law) (by decide +kernel)) (fun _ _ _ _ _ => (sg_name (pg_name (i := 15) sc_law.nd rfl (.inl rfl)))) (fun _ _ _ _ _ => (st_one (sb_w (sw_and (t_cmp (cm_nin hr) (so_tmp (v_sub1 hr (so_sl (pv 15)) (so_tmp v_int))) (so_sl (pv 10))) (sw_and1 (t_cmp (cm_nin hr) (so_tmp (v_sub1 hr (so_sl (pv 15)) (so_tmp v_int))) (so_sl (pv 10)))))))) (fun _ _ _ _ _ => (se_sl (pv 15))) tnm_len (by decide))) (so_tmp (se_lst sd_nil))) (ss_one (ss_expr (se_app ctnd (so_sl (pv 9)) (sd_cons (se_tup (sd_cons (c_len T.n_len (sa_cons (so_sl (pv 10)) sa_nil)) (sd_cons (se_sl (pv 10)) sd_nil))) sd_nil)))) ss_nil)))
    (ss_cons (ss_set (i := 11) sc_law.nd rfl (.inl rfl) (by decide) (se_call (cal0 h_fewest_to_drop (fun _ _ h => h)) (hr.mono (by decide)) (by rfl) T.f_fewest_to_drop (sa_cons (so_sl (pv 3)) sa_nil)))
    (ss_cons (ss_if (sb_w (sw_or (t_cmp (cm_ne hr) (so_tmp (se_call (cal0 h_late_pairs (fun _ _ h => h)) (hr.mono (by decide)) (by rfl) T.f_late_pairs (sa_cons (so_sl (pv 3)) sa_nil))) (so_sl (pv 5))) (sw_or1 (t_cmp (cm_ne hr) (so_sl (pv 11)) (so_tmp (v_sub1 hr (so_tmp (c_minD hr rfl T.n_min (sa_cons (so_sl (pv 9)) sa_nil))) (so_tmp v_int))))))) (ss_one (ss_ret v_bl)) ss_nil)
    (ss_cons (ss_set (i := 12) sc_law.nd rfl (.inl rfl) (by decide) (se_call (cal0 h_find_chains (fun _ _ h => h)) (hr.mono (by decide)) (by rfl) T.f_find_chains (sa_cons (so_sl (pv 3)) sa_nil)))
    (ss_cons (ss_if (t_cmp (cm_ne hr) (so_tmp (se_call (cal0 h_judge_chains (fun _ _ h => h)) (hr.mono (by decide)) (by rfl) T.f_judge_chains (sa_cons (so_sl (pv 3)) (sa_cons (so_sl (pv 12)) sa_nil)))) (so_tmp (c_len T.n_len (sa_cons (so_sl (pv 11)) sa_nil)))) (ss_one (ss_ret v_bl)) ss_nil)
    (ss_cons (ss_if (t_cmp (cm_ne hr) (so_tmp (se_call (cal0 h_judge_chains (fun _ _ h => h)) (hr.mono (by decide)) (by rfl) T.f_judge_chains (sa_cons (so_sl (pv 3)) (sa_cons (so_tmp (se_lc (own := [("_law_k", 8)]) rfl sc_law.nd (si_range1 (by rfl) T.n_range (sa_cons (so_sl (pv 7)) sa_nil)) (blkOk_by (N := N_law) (sc := defScope s_law) (by decide +kernel)) (fun _ _ _ _ _ => (sg_name (pg_name (i := 8) sc_law.nd rfl (.inl rfl)))) (fun _ _ _ _ _ => st_nil) (fun _ _ _ _ _ => (se_lst (sd_cons (se_sl (pv 8)) sd_nil))) tnm_len (by decide))) sa_nil)))) (so_tmp v_int)) (ss_one (ss_ret v_bl)) ss_nil)
    (ss_cons (ss_for PassesOwn.never rfl (by decide) (si_seq (se_sl (pv 12))) (sg_name (pg_name (i := 13) sc_law.nd rfl (.inr rfl))) (ss_one (ss_if (t_cmp (cm_ne hr) (so_tmp (se_lc (own := [("_law_k", 8)]) rfl sc_law.nd (si_range1 (by rfl) T.n_range (sa_cons (so_tmp (v_sub (so_tmp (c_len T.n_len (sa_cons (so_sl (pv 13)) sa_nil))) (so_tmp v_int))) sa_nil)) (blkOk_by (N := N_law) (sc := defScope s_law) (by decide +kernel)) (fun _ _ _ _ _ => (sg_name (pg_name (i := 8) sc_law.nd rfl (.inl rfl)))) (fun _ _ _ _ _ => (st_one (t_cmp (cm_nin hr) (so_tmp (se_tup (sd_cons (v_sub1 hr (so_sl (pv 13)) (so_sl (pv 8))) (sd_cons (v_sub1 hr (so_sl (pv 13)) (so_tmp (v_add (so_sl (pv 8)) (so_tmp v_int)))) sd_nil)))) (so_sl (pv 5))))) (fun _ _ _ _ _ => (se_sl (pv 8))) tnm_len (by decide))) (so_tmp (se_lst sd_nil))) (ss_one (ss_ret v_bl)) ss_nil)))
    (ss_cons (ss_if (t_cmp cm_gt (so_sl (pv 7)) (so_tmp v_int)) (ss_cons (ss_set (i := 8) sc_law.nd rfl (.inr rfl) (by decide) (se_call (cal0 h__law_taken (fun _ _ h => h)) (hr.mono (by decide)) (by rfl) T.f__law_taken (sa_cons (so_sl (pv 1)) (sa_cons (so_sl (pv 7)) sa_nil))))
    (ss_cons (ss_if (t_cmp cm_isnt (so_tmp (se_call (cal0 h_judge_chains (fun _ _ h => h)) (hr.mono (by decide)) (by rfl) T.f_judge_chains (sa_cons (so_sl (pv 3)) (sa_cons (so_tmp (se_lc (own := [("_law_j", 14)]) rfl sc_law.nd (si_range1 (by rfl) T.n_range (sa_cons (so_sl (pv 7)) sa_nil)) (blkOk_by (N := N_law) (sc := defScope s_law) (by decide +kernel)) (fun _ _ _ _ _ => (sg_name (pg_name (i := 14) sc_law.nd rfl (.inl rfl)))) (fun _ _ _ _ _ => (st_one (t_cmp (cm_ne hr) (so_sl (pv 14)) (so_sl (pv 8))))) (fun _ _ _ _ _ => (se_lst (sd_cons (se_sl (pv 14)) sd_nil))) tnm_len (by decide))) sa_nil)))) (so_tmp v_non)) (ss_one (ss_ret v_bl)) ss_nil)
    (ss_one (ss_if (t_cmp (cm_ne hr) (so_tmp (se_prop (cl := 0) (cal0 h_KeyMap_bindings (fun _ _ h => h)) (hr.mono (by decide)) T.cl_KeyMap T.pr_KeyMap_bindings.choose_spec (so_tmp (se_callS (E := E0) h_without_bindings pass0 (fun _ _ h => h) (hr.mono (by decide)) (by rfl) T.f_without_bindings (sa_cons (so_sl (pv 3)) (sa_cons (so_sl (pv 8)) sa_nil)))))) (so_tmp (v_add (so_tmp (v_slice (so_sl (pv 4)) sp_none (sp_some (se_sl (pv 8))))) (so_tmp (v_slice (so_sl (pv 4)) (sp_some (v_add (so_sl (pv 8)) (so_tmp v_int))) sp_none))))) (ss_one (ss_ret v_bl)) ss_nil)))) ss_nil)
    (ss_one (ss_ret v_bl))))))))))))))))
end K3
namespace K3
open PySem hiding Env
open L2 Kv
/-! ### the dice -/
def dv (xs : List D) (p m c : Int) : OV := .ol [.frl xs, .int p, .int m, .int c]
theorem mul_m (m : Int) : mulF (.int m) (.int 48271) = some (.fz (.int (m * 48271))) := by
  have : mulB m 48271 = true := by unfold mulB; simp
  simp [mulF, oe, iiF, this]
theorem next_ok {ns : List Int} {p m c many : Int} (hp : 0 ≤ p) (hm : 0 < many) (hm2 : many < 1000000) : FO F__law_taken [dv (ns.map D.int) p m c, .fz (.int many)] fun o outs => ∃ n p' m' c', 0 ≤ n ∧ n < many ∧ 0 ≤ p' ∧ o = .fz (.int n) ∧ outs = [dv (ns.map D.int) p' m' c', .fz (.int many)] := by
  unfold F__law_taken
  refine fo_fnR rfl ?_
  unfold m__law_taken
  have hmr : ∀ z : Int, 0 ≤ z.fmod many ∧ z.fmod many < many := fun z => fmod_pos hm
  refine s_if rfl (fun hc => ?_) (fun hc => ?_)
  · refine s_set (bin2_ok rfl rfl rfl rfl (mod_ok hm)) rfl (by decide : 2 < 4) ?_
    refine s_nx (putL_ok (bin2_ok rfl rfl rfl rfl (fdv_ok hm hm2)) rfl rfl rfl rfl rfl) ?_
    refine w_ret rfl ⟨(by decide : 2 ≤ 4), _, p, m, _, (hmr c).1, (hmr c).2, hp, rfl, rfl⟩
  · refine wp_ok rfl ?_
    refine s_nx (putL_ok rfl rfl rfl rfl rfl rfl) ?_
    refine s_if rfl (fun hc2 => ?_) (fun hc2 => ?_)
    · refine s_nx (putL_ok (bin2_ok (tmp_ok (call1_ok (tmp_ok (bin2_ok (tmp_ok (bin2_ok rfl rfl rfl rfl (mul_m m))) rfl rfl rfl rfl)) rfl rfl)) rfl rfl rfl (mod_ok (by decide))) rfl rfl rfl rfl rfl) ?_
      refine w_ret (bin2_ok (tmp_ok (call1_ok (tmp_ok (bin2_ok rfl rfl rfl rfl (fdv_ok (by decide) (by decide)))) rfl rfl)) rfl rfl rfl (mod_ok hm)) ⟨(by decide : 2 ≤ 4), _, p + 1, _, c, (hmr _).1, (hmr _).2, by omega, rfl, rfl⟩
    · refine wp_ok rfl ?_
      have hc3 : ¬ (p + 1 > ((ns.map D.int).length : Int)) := of_decide_eq_false hc2
      obtain ⟨d, hd, e⟩ := ix_frl (xs := ns.map D.int) (i := p + 1 - 1) (by omega) (by omega)
      obtain ⟨v, _, rfl⟩ := List.mem_map.mp hd
      refine s_set (bin2_ok rfl rfl rfl rfl e) rfl (by decide : 3 < 4) ?_
      refine s_nx (putL_ok (bin2_ok (tmp_ok (call1_ok (tmp_ok (bin2_ok (tmp_ok (bin2_ok (tmp_ok (bin2_ok rfl rfl rfl rfl (mul_m m))) rfl rfl rfl rfl)) rfl rfl rfl rfl)) rfl rfl)) rfl rfl rfl (mod_ok (by decide))) rfl rfl rfl rfl rfl) ?_
      have key : ∃ z : Int, ∀ ρ : Env, ρ[3]? = some (.fz (.int v)) → ρ[1]? = some (.fz (.int many)) → ifM (tob (bin2 geF (opl 3) (tmp (bin2 powF (tmp (co (.int 10))) (tmp (co (.int 18))))))) (bin2 fdvF (opl 3) (opl 1)) (co (.int 0)) ρ = some (.ok (.fz (.int z)), ρ) := by
        by_cases hv : (1000000000000000000 : Int) ≤ v
        · refine ⟨v.fdiv many, fun ρ h3 h1 => ?_⟩
          have o3 : opl 3 ρ = some (.ok (.pl 3), ρ) := by unfold opl; rw [h3]; rfl
          have o1 : opl 1 ρ = some (.ok (.pl 1), ρ) := by unfold opl; rw [h1]; rfl
          have p3 : peek ρ (.pl 3) = some (.int v) := by show (ρ[3]?).bind odat = _; rw [h3]; rfl
          have p1 : peek ρ (.pl 1) = some (.int many) := by show (ρ[1]?).bind odat = _; rw [h1]; rfl
          have ht : tob (bin2 geF (opl 3) (tmp (bin2 powF (tmp (co (.int 10))) (tmp (co (.int 18)))))) ρ = some (.ok true, ρ) := by
            unfold tob
            rw [bnd_ok (bin2_ok (o := .fz (.bl true)) o3 (show tmp (bin2 powF (tmp (co (.int 10))) (tmp (co (.int 18)))) ρ = some (.ok (.tv (.fz (.int 1000000000000000000))), ρ) from rfl) p3 rfl (by show some (OV.fz (D.bl (decide ((1000000000000000000 : Int) ≤ v)))) = _; simp [hv]))]
            rfl
          rw [if_ok ht]
          exact bin2_ok o3 o1 p3 p1 (fdv_ok hm hm2)
        · refine ⟨0, fun ρ h3 h1 => ?_⟩
          have o3 : opl 3 ρ = some (.ok (.pl 3), ρ) := by unfold opl; rw [h3]; rfl
          have p3 : peek ρ (.pl 3) = some (.int v) := by show (ρ[3]?).bind odat = _; rw [h3]; rfl
          have ht : tob (bin2 geF (opl 3) (tmp (bin2 powF (tmp (co (.int 10))) (tmp (co (.int 18)))))) ρ = some (.ok false, ρ) := by
            unfold tob
            rw [bnd_ok (bin2_ok (o := .fz (.bl false)) o3 (show tmp (bin2 powF (tmp (co (.int 10))) (tmp (co (.int 18)))) ρ = some (.ok (.tv (.fz (.int 1000000000000000000))), ρ) from rfl) p3 rfl (by show some (OV.fz (D.bl (decide ((1000000000000000000 : Int) ≤ v)))) = _; simp [hv]))]
            rfl
          rw [if_ok ht]
          rfl
      obtain ⟨z, key⟩ := key
      refine s_nx (putL_ok (key _ rfl rfl) rfl rfl rfl rfl rfl) ?_
      refine w_ret (bin2_ok (tmp_ok (call1_ok rfl rfl rfl)) rfl rfl rfl (mod_ok hm)) ⟨(by decide : 2 ≤ 4), _, p + 1, _, z, (hmr v).1, (hmr v).2, by omega, rfl, rfl⟩
theorem next_ex {ns : List Int} {p m c many : Int} (hp : 0 ≤ p) (hm : 0 < many) (hm2 : many < 1000000) : ∃ n p' m' c', 0 ≤ n ∧ n < many ∧ 0 ≤ p' ∧ F__law_taken [dv (ns.map D.int) p m c, .fz (.int many)] = some (.ok (.fz (.int n)), [dv (ns.map D.int) p' m' c', .fz (.int many)]) := by
  obtain ⟨o, outs, e, n, p', m', c', h1, h2, h3, rfl, rfl⟩ := fo_ex (next_ok (ns := ns) (m := m) (c := c) hp hm hm2)
  exact ⟨n, p', m', c', h1, h2, h3, e⟩
theorem opl_ok {i : Nat} {ρ : Env} {o : OV} (h : ρ[i]? = some o) (hn : o.isNo = false) : opl i ρ = some (.ok (.pl i), ρ) := by
  unfold opl
  rw [h]
  simp [hn]
theorem peek_ok {i : Nat} {ρ : Env} {o : OV} (h : ρ[i]? = some o) (hn : o.isNo = false) : peek ρ (.pl i) = some o.dat := by
  show (ρ[i]?).bind odat = _
  rw [h]
  show odat o = _
  unfold odat
  rw [hn]
  rfl
/-- keys: a text of 1..most letters -/
def isKey (z : Str) (most : Nat) : Prop := 1 ≤ z.length ∧ z.length ≤ most ∧ ∀ c ∈ z.cps.toList, 97 ≤ c ∧ c ≤ 122
def letS : List Str := ["ab", "abc"]
theorem letS_ex {L : Str} (h : L ∈ letS) : ∃ n : Int, 0 < n ∧ n < 100 ∧ lenN [.str L] = some (.fz (.int n)) ∧ ∀ i : Int, 0 ≤ i → i < n → ∃ c : Nat, 97 ≤ c ∧ c ≤ 122 ∧ oe ixF itemD (.str L) (.int i) = some (.fz (.str ⟨#[c]⟩)) := by
  unfold letS at h
  simp only [List.mem_cons, List.not_mem_nil, or_false] at h
  have s2 : ∀ i : Int, 0 ≤ i → i < 2 → i = 0 ∨ i = 1 := by omega
  have s3 : ∀ i : Int, 0 ≤ i → i < 3 → i = 0 ∨ i = 1 ∨ i = 2 := by omega
  rcases h with rfl | rfl
  · exact ⟨2, by decide, by decide, rfl, fun i h1 h2 => by rcases s2 i h1 h2 with rfl | rfl <;> exact ⟨_, by decide, by decide, rfl⟩⟩
  · exact ⟨3, by decide, by decide, rfl, fun i h1 h2 => by rcases s3 i h1 h2 with rfl | rfl | rfl <;> exact ⟨_, by decide, by decide, rfl⟩⟩
def isK (k : Str) : Prop := k.length = 1 ∧ ∀ c ∈ k.cps.toList, 97 ≤ c ∧ c ≤ 122
/-- letters[taken(row, len(letters))], the row in slot 0, the letters in slot 1 -/
noncomputable abbrev pickL : M OV := bin2 (oe ixF itemD) (opl 1) (tmp (callM F__law_taken (consO (opl 0) (consO (tmp (callP lenN (consO (opl 1) (Kv.ret [])))) (Kv.ret [])))))
theorem pickL_ex {ns : List Int} {p m c : Int} {L : Str} {r : Env} (hL : L ∈ letS) (hp : 0 ≤ p) : ∃ (z : Str) (p' m' c' : Int), isK z ∧ 0 ≤ p' ∧ pickL (dv (ns.map D.int) p m c :: .fz (.str L) :: r) = some (.ok (.fz (.str z)), dv (ns.map D.int) p' m' c' :: .fz (.str L) :: r) := by
  obtain ⟨n, h1, h2, hl, hix⟩ := letS_ex hL
  obtain ⟨v, p', m', c', hv1, hv2, hp', e⟩ := next_ex (ns := ns) (m := m) (c := c) hp h1 (by omega)
  obtain ⟨cc, hc1, hc2, ec⟩ := hix v hv1 hv2
  refine ⟨⟨#[cc]⟩, p', m', c', ⟨rfl, by simp; exact ⟨hc1, hc2⟩⟩, hp', ?_⟩
  have k1 : callM F__law_taken (consO (opl 0) (consO (tmp (callP lenN (consO (opl 1) (Kv.ret [])))) (Kv.ret []))) (dv (ns.map D.int) p m c :: .fz (.str L) :: r) = some (.ok (.fz (.int v)), dv (ns.map D.int) p' m' c' :: .fz (.str L) :: r) :=
    call_ok' (ods := [.pl 0, .tv (.fz (.int n))]) (ρ1 := dv (ns.map D.int) p m c :: .fz (.str L) :: r) (os := [dv (ns.map D.int) p m c, .fz (.int n)]) (consO_ok rfl (consO_ok (tmp_ok (call1_ok rfl rfl hl)) rfl)) rfl e rfl
  exact bin2_ok (x := .pl 1) (y := .tv (.fz (.int v))) (ρ1 := dv (ns.map D.int) p m c :: .fz (.str L) :: r) rfl (tmp_ok k1) rfl rfl ec
theorem keys_ex {ns : List Int} {p m c : Int} {L : Str} (hL : L ∈ letS) (hp : 0 ≤ p) : ∃ (z : Str) (p' m' c' : Int), isKey z 5 ∧ 0 ≤ p' ∧ F__law_keys [dv (ns.map D.int) p m c, .fz (.str L), .fz (.int 3)] = some (.ok (.fz (.str z)), [dv (ns.map D.int) p' m' c', .fz (.str L), .fz (.int 3)]) := by
  obtain ⟨n, p1, m1, c1, h1, h2, h3, e⟩ := next_ex (ns := ns) (m := m) (c := c) hp (many := 3) (by decide) (by decide)
  have k1 : callM F__law_taken (consO (opl 0) (consO (opl 2) (Kv.ret []))) [dv (ns.map D.int) p m c, .fz (.str L), .fz (.int 3), .fz (.str ""), .no] = some (.ok (.fz (.int n)), [dv (ns.map D.int) p1 m1 c1, .fz (.str L), .fz (.int 3), .fz (.str ""), .no]) := call_ok' (ods := [.pl 0, .pl 2]) (ρ1 := [dv (ns.map D.int) p m c, .fz (.str L), .fz (.int 3), .fz (.str ""), .no]) rfl rfl e rfl
  have kt : tmp (bin2 addF (tmp (co (.int 1))) (tmp (callM F__law_taken (consO (opl 0) (consO (opl 2) (Kv.ret [])))))) [dv (ns.map D.int) p m c, .fz (.str L), .fz (.int 3), .fz (.str ""), .no] = some (.ok (.tv (.fz (.int (1 + n)))), [dv (ns.map D.int) p1 m1 c1, .fz (.str L), .fz (.int 3), .fz (.str ""), .no]) := tmp_ok (bin2_ok (x := .tv (.fz (.int 1))) (y := .tv (.fz (.int n))) rfl (tmp_ok k1) rfl rfl rfl)
  obtain ⟨ρ', ef, z, p', m', c', o4, hz1, hz2, hz3, hp', rfl⟩ := for_ex (it := rng1M (consO (tmp (bin2 addF (tmp (co (.int 1))) (tmp (callM F__law_taken (consO (opl 0) (consO (opl 2) (Kv.ret []))))))) (Kv.ret []))) (g := tnm 4) (b := setN 3 (bin2 addF (opl 3) (tmp pickL)))
    (I := fun ds ρ => ∃ (z : Str) (p m c : Int) (o4 : OV), z.length + ds.length = (1 + n).toNat ∧ z.length ≤ 5 ∧ (∀ c ∈ z.cps.toList, 97 ≤ c ∧ c ≤ 122) ∧ 0 ≤ p ∧ ρ = [dv (ns.map D.int) p m c, .fz (.str L), .fz (.int 3), .fz (.str z), o4])
    (rng1_ok (consO_ok kt rfl) rfl (by omega) (by omega)) ⟨"", p1, m1, c1, .no, by simp; exact (by decide : (("" : Str).length) = 0), by decide, by intro c hc; exact absurd hc (by simp [show ("" : Str).cps = #[] from rfl]), h3, rfl⟩ (fun d ds ρ hI => by
      obtain ⟨z, p, m, c, o4, hz1, hz2, hz3, hp, rfl⟩ := hI
      obtain ⟨k, p2, m2, c2, hk, hp2, e2⟩ := pickL_ex (ns := ns) (p := p) (m := m) (c := c) (r := [.fz (.int 3), .fz (.str z), .fz d]) hL hp
      have hlen : (z ++ k).length = z.length + 1 := by
        show (z.cps ++ k.cps).size = _
        rw [Array.size_append]
        exact congrArg (z.length + ·) hk.1
      simp at hz1
      refine ⟨[dv (ns.map D.int) p m c, .fz (.str L), .fz (.int 3), .fz (.str z), .fz d], [dv (ns.map D.int) p2 m2 c2, .fz (.str L), .fz (.int 3), .fz (.str (z ++ k)), .fz d], rfl, ?_, z ++ k, p2, m2, c2, .fz d, by omega, by omega, ?_, hp2, rfl⟩
      · refine w_set (i := 3) (ρ1 := [dv (ns.map D.int) p2 m2 c2, .fz (.str L), .fz (.int 3), .fz (.str z), .fz d]) (o := .fz (.str (z ++ k))) (bin2_ok (x := .pl 3) (y := .tv (.fz (.str k))) (ρ1 := [dv (ns.map D.int) p m c, .fz (.str L), .fz (.int 3), .fz (.str z), .fz d]) rfl (tmp_ok e2) rfl rfl ?_) rfl (by show 3 < 5; decide)
        have hcat : catS (.str z) (.str k) = some (.fz (.str (z ++ k))) := by
          show (if z.length + k.length ≤ 100000 then some (OV.fz (D.str (z ++ k))) else none) = _
          rw [if_pos (by have := hk.1; omega)]
        show addF (.str z) (.str k) = _
        simp [addF, oe, iiF, hcat]
      · intro x hx
        have hx : x ∈ (z.cps ++ k.cps).toList := hx
        rw [Array.toList_append] at hx
        rcases List.mem_append.mp hx with hx | hx
        · exact hz3 x hx
        · exact hk.2 x hx)
  simp at hz1
  refine ⟨z, p', m', c', ⟨by omega, hz2, hz3⟩, hp', ?_⟩
  unfold F__law_keys
  refine fnR_ok (np := 3) (kp := [0, 1, 2]) (ρ' := [dv (ns.map D.int) p' m' c', .fz (.str L), .fz (.int 3), .no, o4]) rfl ?_ (by show 3 ≤ 5; decide)
  unfold m__law_keys
  exact seq_ok' rfl (seq_ok' ef (ret_ok rfl))
end K3
/-! The maps that the law makes. -/
namespace K3
open PySem hiding Env
open L2 Kv
structure Row where
  mode : Str
  keys : Str
  cmd : Str
  tgt : Str
def Row.d (r : Row) : D := .tup [.str r.mode, .str r.keys, .str r.cmd, .str r.tgt]
def Row.pr (r : Row) : Str × Str := (r.mode, r.keys)
abbrev nm1 : List Str := ["main"]
abbrev nm2 : List Str := ["main", "edit"]
abbrev nm3 : List Str := ["main", "edit", "move"]
def Nm (names : List Str) : Prop := names = nm1 ∨ names = nm2 ∨ names = nm3
def cmds : List Str := ["go", "cut", "put", "mark", "join"]
structure RowOk (names : List Str) (r : Row) : Prop where
  mode : r.mode ∈ names
  keys : isKey r.keys 5
  cmd : r.cmd ∈ cmds
  tgt : r.tgt ∈ names
structure MapOk (names : List Str) (w : Int) (rows : List Row) : Prop where
  nm : Nm names
  w1 : 1 ≤ w
  w2 : w ≤ 99
  ok : ∀ r ∈ rows, RowOk names r
  nd : (rows.map Row.pr).Nodup
  len : rows.length ≤ 9
def partsD (names : List Str) (w : Int) (rows : List Row) : D := .tup [.tup (names.map .str), .int w, .tup (rows.map Row.d)]
theorem key_strOk {z : Str} {n : Nat} (h : isKey z n) : PyData.strOk z = true := by
  unfold PyData.strOk
  rw [Array.all_eq_true]
  intro i hi
  have := h.2.2 z.cps[i] (by simp)
  simp
  omega
theorem name_strOk {names : List Str} (h : Nm names) {z : Str} (hz : z ∈ names) : PyData.strOk z = true := by
  have all : ∀ z ∈ nm3, PyData.strOk z = true := by decide +kernel
  refine all z ?_
  rcases h with rfl | rfl | rfl
  · simp at hz; subst hz; simp
  · simp at hz; rcases hz with rfl | rfl <;> simp
  · exact hz
def pE (L : Str) (M : Int) (ns : List Int) (p m c : Int) (names : List Str) (w : Int) (found seen : List D) (u7 u8 u9 u10 : OV) : Env := [dv (ns.map D.int) p m c, .fz (.str L), .fz (.int M), .fz (.tup (names.map .str)), .fz (.int w), .ol found, .ol seen, u7, u8, u9, u10]
def seenD (rows : List Row) : List D := (rows.map Row.pr).map fun p => .tup [.str p.1, .str p.2]
/-- modes[taken(row, len(modes))] -/
noncomputable abbrev pickN : M OV := bin2 (oe ixF itemD) (opl 3) (tmp (callM F__law_taken (consO (opl 0) (consO (tmp (callP lenN (consO (opl 3) (Kv.ret [])))) (Kv.ret [])))))
theorem pickN_ex {L : Str} {M w : Int} {ns : List Int} {p m c : Int} {names : List Str} {found seen : List D} {u7 u8 u9 u10 : OV} (hp : 0 ≤ p) (h1 : 0 < names.length) (h2 : names.length < 100) : ∃ (z : Str) (p' m' c' : Int), z ∈ names ∧ 0 ≤ p' ∧
    pickN (pE L M ns p m c names w found seen u7 u8 u9 u10) = some (.ok (.fz (.str z)), pE L M ns p' m' c' names w found seen u7 u8 u9 u10) := by
  obtain ⟨v, p', m', c', hv1, hv2, hp', e⟩ := next_ex (ns := ns) (m := m) (c := c) (many := (names.length : Nat)) hp (by omega) (by omega)
  obtain ⟨d, _, hd, ed⟩ := ix_tup (xs := names.map D.str) hv1 (by simpa using hv2)
  obtain ⟨z, hz, rfl⟩ := List.mem_map.mp hd
  have hl : lenN [.tup (names.map D.str)] = some (.fz (.int names.length)) := (lenN_tup _).trans (by simp)
  have k1 : callM F__law_taken (consO (opl 0) (consO (tmp (callP lenN (consO (opl 3) (Kv.ret [])))) (Kv.ret []))) (pE L M ns p m c names w found seen u7 u8 u9 u10) = some (.ok (.fz (.int v)), pE L M ns p' m' c' names w found seen u7 u8 u9 u10) :=
    call_ok' (ods := [.pl 0, .tv (.fz (.int names.length))]) (ρ1 := pE L M ns p m c names w found seen u7 u8 u9 u10) (os := [dv (ns.map D.int) p m c, .fz (.int names.length)]) (consO_ok rfl (consO_ok (tmp_ok (call1_ok rfl rfl hl)) rfl)) rfl e rfl
  exact ⟨z, p', m', c', hz, hp', bin2_ok (x := .pl 3) (y := .tv (.fz (.int v))) (ρ1 := pE L M ns p m c names w found seen u7 u8 u9 u10) rfl (tmp_ok k1) rfl rfl ed⟩
noncomputable abbrev pickC : M OV := bin2 (oe ixF itemD) (tmp (lstM (consD (co (.str "go")) (consD (co (.str "cut")) (consD (co (.str "put")) (consD (co (.str "mark")) (consD (co (.str "join")) (Kv.ret [])))))))) (tmp (callM F__law_taken (consO (opl 0) (consO (tmp (co (.int 5))) (Kv.ret [])))))
theorem pickC_ex {L : Str} {M w : Int} {ns : List Int} {p m c : Int} {names : List Str} {found seen : List D} {u7 u8 u9 u10 : OV} (hp : 0 ≤ p) : ∃ (z : Str) (p' m' c' : Int), z ∈ cmds ∧ 0 ≤ p' ∧
    pickC (pE L M ns p m c names w found seen u7 u8 u9 u10) = some (.ok (.fz (.str z)), pE L M ns p' m' c' names w found seen u7 u8 u9 u10) := by
  obtain ⟨v, p', m', c', hv1, hv2, hp', e⟩ := next_ex (ns := ns) (m := m) (c := c) (many := 5) hp (by decide) (by decide)
  obtain ⟨d, _, hd, ed⟩ := ix_lst (xs := cmds.map D.str) hv1 (by show v < (5 : Nat); omega)
  obtain ⟨z, hz, rfl⟩ := List.mem_map.mp hd
  have k1 : callM F__law_taken (consO (opl 0) (consO (tmp (co (.int 5))) (Kv.ret []))) (pE L M ns p m c names w found seen u7 u8 u9 u10) = some (.ok (.fz (.int v)), pE L M ns p' m' c' names w found seen u7 u8 u9 u10) :=
    call_ok' (ods := [.pl 0, .tv (.fz (.int 5))]) (ρ1 := pE L M ns p m c names w found seen u7 u8 u9 u10) (os := [dv (ns.map D.int) p m c, .fz (.int 5)]) rfl rfl e rfl
  exact ⟨z, p', m', c', hz, hp', bin2_ok (x := .tv (.ol (cmds.map D.str))) (y := .tv (.fz (.int v))) (ρ1 := pE L M ns p m c names w found seen u7 u8 u9 u10) rfl (tmp_ok k1) rfl rfl ed⟩
theorem par3_ok {i j l : Nat} {ms : M (List Opd)} {ρ ρ1 : Env} {a b c : OV} (h : ms ρ = some (.ok [.tv a, .tv b, .tv c], ρ1)) (ha : a.isNo = false) (hb : b.isNo = false) (hc : c.isNo = false) (hi : i < ρ1.length) (hj : j < ρ1.length) (hl : l < ρ1.length) : par3M i j l ms ρ = some (.ok .nx, ((ρ1.set i a).set j b).set l c) := by
  unfold par3M
  rw [bnd_ok h]
  show setO3 i j l a b c ρ1 = _
  unfold setO3
  rw [if_neg (by simp [ha, hb, hc]; omega)]
noncomputable abbrev waitM : M OV := bin2 addF (tmp (co (.int 1))) (tmp (callM F__law_taken (consO (opl 0) (consO (tmp (bin2 (oe ixF itemD) (tmp (lstM (consD (co (.int 3)) (consD (co (.int 9)) (Kv.ret []))))) (tmp (callM F__law_taken (consO (opl 0) (consO (tmp (co (.int 2))) (Kv.ret []))))))) (Kv.ret [])))))
theorem wait_ex {ns : List Int} {p m c : Int} {r : Env} (hp : 0 ≤ p) : ∃ w p' m' c', 1 ≤ w ∧ w ≤ 99 ∧ 0 ≤ p' ∧ waitM (dv (ns.map D.int) p m c :: r) = some (.ok (.fz (.int w)), dv (ns.map D.int) p' m' c' :: r) := by
  obtain ⟨v, p1, m1, c1, hv1, hv2, hp1, e1⟩ := next_ex (ns := ns) (m := m) (c := c) (many := 2) hp (by decide) (by decide)
  obtain ⟨W, hW1, hW2, eW⟩ : ∃ W : Int, 0 < W ∧ W ≤ 9 ∧ oe ixF itemD (.lst [.int 3, .int 9]) (.int v) = some (.fz (.int W)) := by
    have : v = 0 ∨ v = 1 := by omega
    rcases this with rfl | rfl
    · exact ⟨3, by decide, by decide, rfl⟩
    · exact ⟨9, by decide, by decide, rfl⟩
  obtain ⟨n, p2, m2, c2, hn1, hn2, hp2, e2⟩ := next_ex (ns := ns) (m := m1) (c := c1) (many := W) hp1 hW1 (by omega)
  refine ⟨1 + n, p2, m2, c2, by omega, by omega, hp2, ?_⟩
  have k1 : callM F__law_taken (consO (opl 0) (consO (tmp (co (.int 2))) (Kv.ret []))) (dv (ns.map D.int) p m c :: r) = some (.ok (.fz (.int v)), dv (ns.map D.int) p1 m1 c1 :: r) :=
    call_ok' (ods := [.pl 0, .tv (.fz (.int 2))]) (ρ1 := dv (ns.map D.int) p m c :: r) (os := [dv (ns.map D.int) p m c, .fz (.int 2)]) rfl rfl e1 rfl
  have k2 : bin2 (oe ixF itemD) (tmp (lstM (consD (co (.int 3)) (consD (co (.int 9)) (Kv.ret []))))) (tmp (callM F__law_taken (consO (opl 0) (consO (tmp (co (.int 2))) (Kv.ret []))))) (dv (ns.map D.int) p m c :: r) = some (.ok (.fz (.int W)), dv (ns.map D.int) p1 m1 c1 :: r) :=
    bin2_ok (x := .tv (.ol [.int 3, .int 9])) (y := .tv (.fz (.int v))) (ρ1 := dv (ns.map D.int) p m c :: r) rfl (tmp_ok k1) rfl rfl eW
  have k3 : callM F__law_taken (consO (opl 0) (consO (tmp (bin2 (oe ixF itemD) (tmp (lstM (consD (co (.int 3)) (consD (co (.int 9)) (Kv.ret []))))) (tmp (callM F__law_taken (consO (opl 0) (consO (tmp (co (.int 2))) (Kv.ret []))))))) (Kv.ret []))) (dv (ns.map D.int) p m c :: r) = some (.ok (.fz (.int n)), dv (ns.map D.int) p2 m2 c2 :: r) :=
    call_ok' (ods := [.pl 0, .tv (.fz (.int W))]) (ρ1 := dv (ns.map D.int) p1 m1 c1 :: r) (os := [dv (ns.map D.int) p1 m1 c1, .fz (.int W)]) (consO_ok rfl (consO_ok (tmp_ok k2) rfl)) rfl e2 rfl
  exact bin2_ok (x := .tv (.fz (.int 1))) (y := .tv (.fz (.int n))) (ρ1 := dv (ns.map D.int) p m c :: r) rfl (tmp_ok k3) rfl rfl rfl
theorem parts_ex {ns : List Int} {p m c : Int} {L : Str} {M : Int} (hL : L ∈ letS) (hM1 : 0 ≤ M) (hM2 : M ≤ 9) (hp : 0 ≤ p) : ∃ (names : List Str) (w : Int) (rows : List Row) (p' m' c' : Int), MapOk names w rows ∧ 0 ≤ p' ∧
    F__law_parts [dv (ns.map D.int) p m c, .fz (.str L), .fz (.int M)] = some (.ok (.fz (partsD names w rows)), [dv (ns.map D.int) p' m' c', .fz (.str L), .fz (.int M)]) := by
  have main : FO F__law_parts [dv (ns.map D.int) p m c, .fz (.str L), .fz (.int M)] fun o outs => ∃ (names : List Str) (w : Int) (rows : List Row) (p' m' c' : Int), MapOk names w rows ∧ 0 ≤ p' ∧ o = .fz (partsD names w rows) ∧ outs = [dv (ns.map D.int) p' m' c', .fz (.str L), .fz (.int M)] := by
    unfold F__law_parts
    refine fo_fnR rfl ?_
    unfold m__law_parts
    obtain ⟨n1, p1, m1, c1, hn1, hn1', hp1, e1⟩ := next_ex (ns := ns) (m := m) (c := c) hp (many := 3) (by decide) (by decide)
    obtain ⟨names, hnm, en⟩ : ∃ names : List Str, Nm names ∧ ∀ ρ : Env, slF (.tup [.str "main", .str "edit", .str "move"]) none (some (1 + n1)) = some (.fz (.tup (names.map D.str))) := by
      have : n1 = 0 ∨ n1 = 1 ∨ n1 = 2 := by omega
      rcases this with rfl | rfl | rfl
      · exact ⟨nm1, .inl rfl, fun _ => rfl⟩
      · exact ⟨nm2, .inr (.inl rfl), fun _ => rfl⟩
      · exact ⟨nm3, .inr (.inr rfl), fun _ => rfl⟩
    have hlen : 0 < names.length ∧ names.length < 100 := by rcases hnm with rfl | rfl | rfl <;> decide
    refine s_set (sl_ok rfl rfl (intP_ok (bin2_ok rfl (tmp_ok (call_ok' (consO_ok rfl (consO_ok rfl rfl)) rfl e1 rfl)) rfl rfl rfl)) rfl (en [])) rfl (by decide : 3 < 11) ?_
    obtain ⟨w, p2, m2, c2, hw1, hw2, hp2, e2⟩ := wait_ex (ns := ns) (p := p1) (m := m1) (c := c1) (r := [.fz (.str L), .fz (.int M), .fz (.tup (names.map .str)), .no, .no, .no, .no, .no, .no, .no]) hp1
    refine s_nx (par3_ok (a := .fz (.int w)) (b := .ol []) (c := .ol []) (consO_ok (tmp_ok e2) (consO_ok rfl (consO_ok rfl rfl))) rfl rfl rfl (by decide : 4 < 11) (by decide : 5 < 11) (by decide : 6 < 11)) ?_
    show wp _ (pE L M ns p2 m2 c2 names w [] [] .no .no .no .no) _ _
    obtain ⟨n3, p3, m3, c3, hn3, hn3', hp3, e3⟩ := next_ex (ns := ns) (p := p2) (m := m2) (c := c2) hp2 (many := M + 1) (by omega) (by omega)
    have en3 : callM F__law_taken (consO (opl 0) (consO (tmp (bin2 addF (opl 2) (tmp (co (.int 1))))) (Kv.ret []))) (pE L M ns p2 m2 c2 names w [] [] .no .no .no .no) = some (.ok (.fz (.int n3)), pE L M ns p3 m3 c3 names w [] [] .no .no .no .no) := call_ok' (ods := [.pl 0, .tv (.fz (.int (M + 1)))]) (ρ1 := pE L M ns p2 m2 c2 names w [] [] .no .no .no .no) (os := [dv (ns.map D.int) p2 m2 c2, .fz (.int (M + 1))]) (consO_ok rfl (consO_ok rfl rfl)) rfl e3 rfl
    refine w_seq (w_for (I := fun ds ρ => ∃ (rows : List Row) (p m c : Int) (u7 u8 u9 u10 : OV), (∀ r ∈ rows, RowOk names r) ∧ (rows.map Row.pr).Nodup ∧ rows.length + ds.length ≤ 9 ∧ 0 ≤ p ∧ ρ = pE L M ns p m c names w (rows.map Row.d) (seenD rows) u7 u8 u9 u10)
      (rng1_ok (consO_ok (tmp_ok en3) rfl) rfl hn3 (by omega)) ⟨[], p3, m3, c3, .no, .no, .no, .no, by simp, by simp, by simp; omega, hp3, rfl⟩ (fun d ds ρ h => ?_) (fun ρ h => ?_))
    · obtain ⟨rows, p, m, c, u7, u8, u9, u10, hok, hnd, hl, hp, rfl⟩ := h
      refine ⟨pE L M ns p m c names w (rows.map Row.d) (seenD rows) (.fz d) u8 u9 u10, rfl, ?_⟩
      generalize hfo : rows.map Row.d = found
      generalize hse : seenD rows = seen
      obtain ⟨md, p3, m3, c3, hmd, hp3, k3⟩ := pickN_ex (L := L) (M := M) (w := w) (ns := ns) (m := m) (c := c) (found := found) (seen := seen) (u7 := .fz d) (u8 := u8) (u9 := u9) (u10 := u10) hp hlen.1 hlen.2
      obtain ⟨ky, p4, m4, c4, hky, hp4, e4⟩ := keys_ex (ns := ns) (m := m3) (c := c3) hL hp3
      have k4 : callM F__law_keys (consO (opl 0) (consO (opl 1) (consO (tmp (co (.int 3))) (Kv.ret [])))) (pE L M ns p3 m3 c3 names w found seen (.fz d) u8 u9 u10) = some (.ok (.fz (.str ky)), pE L M ns p4 m4 c4 names w found seen (.fz d) u8 u9 u10) := call_ok' (ods := [.pl 0, .pl 1, .tv (.fz (.int 3))]) (ρ1 := pE L M ns p3 m3 c3 names w found seen (.fz d) u8 u9 u10) (os := [dv (ns.map D.int) p3 m3 c3, .fz (.str L), .fz (.int 3)]) rfl rfl e4 rfl
      refine s_nx (par_ok k3 k4 rfl rfl (by decide : 8 < 11) (by decide : 9 < 11)) ?_
      show wp _ (pE L M ns p4 m4 c4 names w found seen (.fz d) (.fz (.str md)) (.fz (.str ky)) u10) _ _
      have hprs : ∀ p ∈ rows.map Row.pr, PyData.strOk p.1 = true ∧ PyData.strOk p.2 = true := fun p hp => by
        obtain ⟨r, hr, rfl⟩ := List.mem_map.mp hp
        exact ⟨name_strOk hnm (hok r hr).mode, key_strOk (hok r hr).keys⟩
      have hl9 : rows.length < 1000000 := by omega
      have hlf : found.length < 1000000 := by rw [← hfo]; simpa using hl9
      have hls : seen.length < 1000000 := by rw [← hse]; unfold seenD; simpa using hl9
      have k5 : tob (bin2 ninF (tmp (tupM (consD (sl 8) (consD (sl 9) (Kv.ret []))))) (opl 6)) (pE L M ns p4 m4 c4 names w found seen (.fz d) (.fz (.str md)) (.fz (.str ky)) u10) = some (.ok (!decide ((md, ky) ∈ rows.map Row.pr)), pE L M ns p4 m4 c4 names w found seen (.fz d) (.fz (.str md)) (.fz (.str ky)) u10) :=
        tob_ok (bin2_ok (tmp_ok (tup_ok (consD_ok rfl rfl (consD_ok rfl rfl rfl)) (by decide : 2 ≤ 100000))) rfl rfl rfl (by rw [← hse]; exact nin_pairs (name_strOk hnm hmd) (key_strOk hky) hprs))
      refine w_if k5 (fun hb => ?_) (fun hb => ?_)
      · have hnin : (md, ky) ∉ rows.map Row.pr := by simpa using hb
        have k6 : appM (opl 6) (consD (tupM (consD (sl 8) (consD (sl 9) (Kv.ret [])))) (Kv.ret [])) (pE L M ns p4 m4 c4 names w found seen (.fz d) (.fz (.str md)) (.fz (.str ky)) u10) = some (.ok (.fz .non), pE L M ns p4 m4 c4 names w found (seen ++ [.tup [.str md, .str ky]]) (.fz d) (.fz (.str md)) (.fz (.str ky)) u10) :=
          app_ok rfl rfl (consD_ok (tup_ok (consD_ok rfl rfl (consD_ok rfl rfl rfl)) (by decide : 2 ≤ 100000)) rfl rfl) (mut_app rfl hls)
        refine s_nx (drop_ok k6) ?_
        generalize hse2 : seen ++ [.tup [.str md, .str ky]] = seen2
        obtain ⟨cm, p5, m5, c5, hcm, hp5, k7⟩ := pickC_ex (L := L) (M := M) (w := w) (ns := ns) (m := m4) (c := c4) (names := names) (found := found) (seen := seen2) (u7 := .fz d) (u8 := .fz (.str md)) (u9 := .fz (.str ky)) (u10 := u10) hp4
        refine s_set k7 rfl (by decide : 10 < 11) ?_
        show wp _ (pE L M ns p5 m5 c5 names w found seen2 (.fz d) (.fz (.str md)) (.fz (.str ky)) (.fz (.str cm))) _ _
        obtain ⟨tg, p6, m6, c6, htg, hp6, k8⟩ := pickN_ex (L := L) (M := M) (w := w) (ns := ns) (m := m5) (c := c5) (found := found) (seen := seen2) (u7 := .fz d) (u8 := .fz (.str md)) (u9 := .fz (.str ky)) (u10 := .fz (.str cm)) hp5 hlen.1 hlen.2
        have k10 : appM (opl 5) (consD (tupM (consD (sl 8) (consD (sl 9) (consD (sl 10) (consD pickN (Kv.ret [])))))) (Kv.ret [])) (pE L M ns p5 m5 c5 names w found seen2 (.fz d) (.fz (.str md)) (.fz (.str ky)) (.fz (.str cm))) = some (.ok (.fz .non), pE L M ns p6 m6 c6 names w (found ++ [.tup [.str md, .str ky, .str cm, .str tg]]) seen2 (.fz d) (.fz (.str md)) (.fz (.str ky)) (.fz (.str cm))) :=
          app_ok (ρ2 := pE L M ns p6 m6 c6 names w found seen2 (.fz d) (.fz (.str md)) (.fz (.str ky)) (.fz (.str cm))) rfl rfl (consD_ok (tup_ok (consD_ok rfl rfl (consD_ok rfl rfl (consD_ok rfl rfl (consD_ok k8 rfl rfl)))) (by decide : 4 ≤ 100000)) rfl rfl) (mut_app rfl hlf)
        refine wp_ok (drop_ok k10) ?_
        refine ⟨rows ++ [⟨md, ky, cm, tg⟩], p6, m6, c6, .fz d, .fz (.str md), .fz (.str ky), .fz (.str cm), ?_, ?_, by simp at hl ⊢; omega, hp6, ?_⟩
        · intro r hr
          rcases List.mem_append.mp hr with hr | hr
          · exact hok r hr
          · simp at hr; subst hr; exact ⟨hmd, hky, hcm, htg⟩
        · rw [List.map_append, List.nodup_append]
          refine ⟨hnd, by simp, fun a ha b hb => ?_⟩
          simp at hb
          subst hb
          intro e
          have e : a = (md, ky) := e
          subst e
          exact hnin ha
        · rw [← hse2, ← hfo, ← hse]
          unfold seenD
          rw [List.map_append, List.map_append, List.map_append]
          rfl
      · exact wp_ok rfl ⟨rows, p4, m4, c4, .fz d, .fz (.str md), .fz (.str ky), u10, hok, hnd, by simp at hl ⊢; omega, hp4, by rw [hfo, hse]⟩
    · obtain ⟨rows, p, m, c, u7, u8, u9, u10, hok, hnd, hl, hp, rfl⟩ := h
      exact w_ret (ρ1 := pE L M ns p m c names w (rows.map Row.d) (seenD rows) u7 u8 u9 u10) (tup_ok (consD_ok rfl rfl (consD_ok rfl rfl (consD_ok (call1_ok rfl rfl rfl) rfl rfl))) (by decide : 3 ≤ 100000)) ⟨(by decide : 3 ≤ 11), names, w, rows, p, m, c, ⟨hnm, hw1, hw2, hok, hnd, by simpa using hl⟩, hp, rfl, rfl⟩
  obtain ⟨o, outs, e, names, w, rows, p', m', c', h1, h2, rfl, rfl⟩ := fo_ex main
  exact ⟨names, w, rows, p', m', c', h1, h2, e⟩
end K3
/-! The map object. -/
namespace K3
open PySem hiding Env
open L2 Kv
structure Word (z : Str) (most : Nat) : Prop where
  lo : 1 ≤ z.length
  hi : z.length ≤ most
  let_ : ∀ c ∈ z.cps.toList, 97 ≤ c ∧ c ≤ 122
abbrev alpha : Str := "abcdefghijklmnopqrstuvwxyz"
theorem alpha_all : ∀ c ∈ List.range' 97 26, (!(Builtin.Str.occurrences alpha ⟨#[c]⟩ 0 alpha.length 1).isEmpty) = true := by decide +kernel
theorem in_alpha {c : Nat} (h1 : 97 ≤ c) (h2 : c ≤ 122) : inF (.str ⟨#[c]⟩) (.str alpha) = some (.fz (.bl true)) := by
  have := alpha_all c (by rw [List.mem_range'_1]; omega)
  show some (OV.fz (D.bl (!(Builtin.Str.occurrences alpha ⟨#[c]⟩ 0 alpha.length 1).isEmpty))) = _
  rw [this]
theorem lenN_str {z : Str} (h : z.length ≤ 100000) : lenN [.str z] = some (.fz (.int z.length)) := by
  show (if z.length ≤ 100000 then some (OV.fz (D.int z.length)) else none).or _ = _
  rw [if_pos h]
  rfl
theorem word_ex {z : Str} {most : Nat} (h : Word z most) (hm : most ≤ 1000) : F_is_word [.fz (.str z), .fz (.int most)] = some (.ok (.fz (.bl true)), [.fz (.str z), .fz (.int most)]) := by
  have h1 := h.lo
  have h2 := h.hi
  have main : FO F_is_word [.fz (.str z), .fz (.int most)] fun o outs => o = .fz (.bl true) ∧ outs = [.fz (.str z), .fz (.int most)] := by
    unfold F_is_word
    refine fo_fnR rfl ?_
    unfold m_is_word
    have k1 : chM leF leF (tmp (co (.int 1))) (tmp (callP lenN (consO (opl 0) (Kv.ret [])))) (opl 1) [.fz (.str z), .fz (.int most), .no] = some (.ok (.fz (.bl true)), [.fz (.str z), .fz (.int most), .no]) := by
      refine ch_ok (y := .tv (.fz (.int z.length))) rfl (tmp_ok (call1_ok rfl rfl (lenN_str (by omega)))) rfl rfl (show leF (.int 1) (.int z.length) = some (.fz (.bl true)) from ?_) rfl rfl rfl (show leF (.int z.length) (.int most) = some (.fz (.bl true)) from ?_)
      · show some (OV.fz (D.bl (decide ((1 : Int) ≤ z.length)))) = _
        rw [decide_eq_true (by omega)]
      · show some (OV.fz (D.bl (decide ((z.length : Int) ≤ most)))) = _
        rw [decide_eq_true (by omega)]
    have k2 : orM (bnd (tob (callP (n2 isiF) (consO (opl 0) (consO (tmp (co (.ty "str"))) (Kv.ret []))))) fun b => Kv.ret (!b)) (bnd (tob (chM leF leF (tmp (co (.int 1))) (tmp (callP lenN (consO (opl 0) (Kv.ret [])))) (opl 1))) fun b => Kv.ret (!b)) [.fz (.str z), .fz (.int most), .no] = some (.ok false, [.fz (.str z), .fz (.int most), .no]) :=
      or_f (not_t (tob_ok (call2_ok rfl rfl rfl rfl rfl))) (not_t (tob_ok k1))
    refine s_if k2 (fun h => nomatch h) (fun _ => ?_)
    refine wp_ok rfl ?_
    obtain ⟨xs, ρ', e2, _, hxs, hρ'⟩ := comp_ex (vs := [2]) (it := itM (sl 0)) (g := tnm 2) (c := Kv.ret true) (e := bin2 inF (opl 2) (tmp (co (.str alpha)))) (ρ := [.fz (.str z), .fz (.int most), .no])
      (I := fun ds acc ρ => (∀ d ∈ ds, ∃ c, 97 ≤ c ∧ c ≤ 122 ∧ d = D.str ⟨#[c]⟩) ∧ acc ++ List.replicate ds.length (D.bl true) = List.replicate z.length (D.bl true) ∧ wipeE ρ [2] = [.fz (.str z), .fz (.int most), .no]) (ds := chars z) (ρ1 := [.fz (.str z), .fz (.int most), .no]) rfl
      (by unfold chars; simp; show z.length ≤ 100000; omega) ⟨fun d hd => by
        unfold chars at hd
        obtain ⟨c, hc, rfl⟩ := List.mem_map.mp hd
        exact ⟨c, (h.let_ c hc).1, (h.let_ c hc).2, rfl⟩, by unfold chars; simp; rfl, rfl⟩ (fun d ds acc ρ hI => by
        obtain ⟨hd, hacc, hρ⟩ := hI
        obtain ⟨c, hc1, hc2, rfl⟩ := hd _ List.mem_cons_self
        rw [hρ]
        refine ⟨[.fz (.str z), .fz (.int most), .fz (.str ⟨#[c]⟩)], rfl, wp_ok rfl ?_⟩
        refine wp_ok (bin2_ok rfl rfl rfl rfl (in_alpha hc1 hc2)) ⟨_, rfl, fun d h => hd d (List.mem_cons_of_mem _ h), ?_, rfl⟩
        rw [← hacc]
        simp [List.replicate_succ, OV.dat])
    rw [hρ'] at e2
    have hxs : xs = List.replicate z.length (D.bl true) := by simpa using hxs
    subst hxs
    exact w_ret (call1_ok (tmp_ok e2) rfl (allF_true _)) ⟨(by decide : 2 ≤ 3), rfl, rfl⟩
  obtain ⟨o, outs, e, rfl, rfl⟩ := fo_ex main
  exact e
theorem key_word {z : Str} (h : isKey z 5) : Word z 6 := ⟨h.1, by have := h.2.1; omega, h.2.2⟩
theorem word_of {z : Str} {most : Nat} (h : (decide (1 ≤ z.length) && decide (z.length ≤ most) && z.cps.toList.all fun c => decide (97 ≤ c) && decide (c ≤ 122)) = true) : Word z most := by
  simp only [Bool.and_eq_true, decide_eq_true_eq, List.all_eq_true] at h
  exact ⟨h.1.1, h.1.2, h.2⟩
theorem cmd_word {z : Str} (h : z ∈ cmds) : Word z 8 := by
  have all : ∀ z ∈ cmds, (decide (1 ≤ z.length) && decide (z.length ≤ 8) && z.cps.toList.all fun c => decide (97 ≤ c) && decide (c ≤ 122)) = true := by decide +kernel
  exact word_of (all z h)
theorem name_word {names : List Str} (hn : Nm names) {z : Str} (h : z ∈ names) : Word z 8 := by
  have all : ∀ z ∈ nm3, (decide (1 ≤ z.length) && decide (z.length ≤ 8) && z.cps.toList.all fun c => decide (97 ≤ c) && decide (c ≤ 122)) = true := by decide +kernel
  refine word_of (all z ?_)
  rcases hn with rfl | rfl | rfl
  · simp at h; subst h; simp
  · simp at h; rcases h with rfl | rfl <;> simp
  · exact h
theorem binding_ex {names : List Str} {r : Row} (h : RowOk names r) : F_is_binding [.fz (.tup (names.map .str)), .fz r.d] = some (.ok (.fz (.bl true)), [.fz (.tup (names.map .str)), .fz r.d]) := by
  have main : FO F_is_binding [.fz (.tup (names.map .str)), .fz r.d] fun o outs => o = .fz (.bl true) ∧ outs = [.fz (.tup (names.map .str)), .fz r.d] := by
    unfold F_is_binding
    refine fo_fnR rfl ?_
    unfold m_is_binding
    let ρ : Env := [.fz (.tup (names.map .str)), .fz r.d, .fz (.str r.mode), .fz (.str r.keys), .fz (.str r.cmd), .fz (.str r.tgt)]
    have k1 : bin2 inF (opl 2) (opl 0) ρ = some (.ok (.fz (.bl true)), ρ) := bin2_ok rfl rfl rfl rfl (in_mem h.mode)
    have k2 : bin2 inF (opl 5) (opl 0) ρ = some (.ok (.fz (.bl true)), ρ) := bin2_ok rfl rfl rfl rfl (in_mem h.tgt)
    have k3 : callM F_is_word (consO (opl 3) (consO (tmp (co (.int 6))) (Kv.ret []))) ρ = some (.ok (.fz (.bl true)), ρ) := call_ok' (ods := [.pl 3, .tv (.fz (.int 6))]) (ρ1 := ρ) (os := [.fz (.str r.keys), .fz (.int 6)]) (ρ2 := ρ) rfl rfl (word_ex (key_word h.keys) (by decide)) rfl
    have k4 : callM F_is_word (consO (opl 4) (consO (tmp (co (.int 8))) (Kv.ret []))) ρ = some (.ok (.fz (.bl true)), ρ) := call_ok' (ods := [.pl 4, .tv (.fz (.int 8))]) (ρ1 := ρ) (os := [.fz (.str r.cmd), .fz (.int 8)]) (ρ2 := ρ) rfl rfl (word_ex (cmd_word h.cmd) (by decide)) rfl
    have k5 : tob (callP (n2 isiF) (consO (opl 1) (consO (tmp (co (.ty "tuple"))) (Kv.ret [])))) ρ = some (.ok true, ρ) := tob_ok (call2_ok rfl rfl rfl rfl rfl)
    unfold matchM
    refine w_bnd (a := .fz r.d) (ρ' := [.fz (.tup (names.map .str)), .fz r.d, .no, .no, .no, .no]) rfl ?_
    show wp (bnd _ _) ρ _ _
    refine w_bnd k5 ?_
    exact w_ret (andV_t k1 (andV_t k2 (andV_t k3 k4))) ⟨(by decide : 2 ≤ 6), rfl, rfl⟩
  obtain ⟨o, outs, e, rfl, rfl⟩ := fo_ex main
  exact e
theorem integer_ex {w : Int} (h1 : 1 ≤ w) (h2 : w ≤ 99) : F_is_integer [.fz (.int w), .fz (.int 1), .fz (.int 99)] = some (.ok (.fz (.bl true)), [.fz (.int w), .fz (.int 1), .fz (.int 99)]) := by
  unfold F_is_integer
  refine fnR_ok (np := 3) (kp := [0, 1, 2]) (ρ' := [.fz (.int w), .fz (.int 1), .fz (.int 99)]) rfl ?_ (by decide : 3 ≤ 3)
  unfold m_is_integer
  have k2 : bnd (tob (callP (n2 isiF) (consO (opl 0) (consO (tmp (co (.ty "bool"))) (Kv.ret []))))) (fun b => Kv.ret (OV.fz (.bl (!b)))) [.fz (.int w), .fz (.int 1), .fz (.int 99)] = some (.ok (.fz (.bl true)), [.fz (.int w), .fz (.int 1), .fz (.int 99)]) := by
    rw [bnd_ok (tob_ok (call2_ok (o := .fz (.bl false)) rfl rfl rfl rfl rfl))]
    rfl
  have k3 : chM leF leF (opl 1) (opl 0) (opl 2) [.fz (.int w), .fz (.int 1), .fz (.int 99)] = some (.ok (.fz (.bl true)), [.fz (.int w), .fz (.int 1), .fz (.int 99)]) := by
    refine ch_ok (x := .pl 1) (y := .pl 0) (z := .pl 2) rfl rfl rfl rfl (show leF (.int 1) (.int w) = some (.fz (.bl true)) from ?_) rfl rfl rfl (show leF (.int w) (.int 99) = some (.fz (.bl true)) from ?_)
    · show some (OV.fz (D.bl (decide ((1 : Int) ≤ w)))) = _
      rw [decide_eq_true h1]
    · show some (OV.fz (D.bl (decide (w ≤ (99 : Int))))) = _
      rw [decide_eq_true h2]
  exact ret_ok (andV_t (call2_ok rfl rfl rfl rfl rfl) (andV_t k2 k3))
/-- the map object -/
def numsV (n : Nat) : List D := (List.range n).map fun i => .int (i : Nat)
def kmO (names : List Str) (w : Int) (rows : List Row) : OV := .oi 0 [.od true ((rows.map Row.pr).map kp2) (numsV rows.length), .fz (.tup (names.map .str)), .fz (.int w), .fz (.tup (rows.map Row.d))]
theorem fl_nx {g : D → Env → Option Env} {b : M Fl} {d : D} {ds : List D} {ρ ρ1 ρ2 : Env} {Q : Fl → Env → Prop} {E : Ex → Env → Prop} (h1 : g d ρ = some ρ1) (h2 : b ρ1 = some (.ok .nx, ρ2)) (k : wp (floop g b ds) ρ2 Q E) : wp (floop g b (d :: ds)) ρ Q E := by
  unfold wp floop
  rw [h1]
  simp only
  rw [bnd_ok h2]
  exact k
theorem init_ex {names : List Str} {w : Int} {rows : List Row} (h : MapOk names w rows) : F_KeyMap___init__ [.oi 0 [.no, .no, .no, .no], .fz (.tup (names.map .str)), .fz (.int w), .fz (.tup (rows.map Row.d))] = some (.ok (.fz .non), [kmO names w rows, .fz (.tup (names.map .str)), .fz (.int w), .fz (.tup (rows.map Row.d))]) := by
  have main : FO F_KeyMap___init__ [.oi 0 [.no, .no, .no, .no], .fz (.tup (names.map .str)), .fz (.int w), .fz (.tup (rows.map Row.d))] fun o outs => o = .fz .non ∧ outs = [kmO names w rows, .fz (.tup (names.map .str)), .fz (.int w), .fz (.tup (rows.map Row.d))] := by
    unfold F_KeyMap___init__
    refine fo_fnR rfl ?_
    unfold m_KeyMap___init__
    generalize hr : rows.map Row.d = rds
    -- the names: not empty
    have c1 : ∀ o4 o5 o6 : OV, orM (bnd (tob (callP (n2 isiF) (consO (opl 1) (consO (tmp (co (.ty "tuple"))) (Kv.ret []))))) fun b => Kv.ret (!b)) (tob (bin2 eqF (opl 1) (tmp (tupM (Kv.ret []))))) [.oi 0 [.no, .no, .no, .no], .fz (.tup (names.map .str)), .fz (.int w), .fz (.tup rds), o4, o5, o6] = some (.ok false, [.oi 0 [.no, .no, .no, .no], .fz (.tup (names.map .str)), .fz (.int w), .fz (.tup rds), o4, o5, o6]) := fun o4 o5 o6 => by
      refine or_f (not_t (tob_ok (call2_ok rfl rfl rfl rfl rfl))) (tob_ok (bin2_ok rfl rfl rfl rfl ?_))
      show eqF (.tup (names.map .str)) (.tup []) = some (.fz (.bl false))
      exact eq_strs_nil (by rcases h.nm with e | e | e <;> subst e <;> simp) fun z hz => name_strOk h.nm hz
    refine s_if (c1 _ _ _) (fun h => nomatch h) (fun _ => wp_ok rfl ?_)
    -- each name
    have body : ∀ (i : Int) (z : Str) (pre : List Str) (o6 : OV), 0 ≤ i → i < 4 → z ∈ names → z ∉ pre → slF (.tup (names.map .str)) none (some i) = some (.fz (.tup (pre.map .str))) →
        ifS (orM (tob (bin2 eqF (opl 4) (tmp (co (.int 4))))) (orM (bnd (tob (callM F_is_word (consO (opl 5) (consO (tmp (co (.int 8))) (Kv.ret []))))) fun b => Kv.ret (!b)) (tob (bin2 inF (opl 5) (tmp (slM slF (opl 1) noP (intP (sl 4)))))))) bad (Kv.ret .nx)
          [.oi 0 [.no, .no, .no, .no], .fz (.tup (names.map .str)), .fz (.int w), .fz (.tup rds), .fz (.int i), .fz (.str z), o6] = some (.ok .nx, [.oi 0 [.no, .no, .no, .no], .fz (.tup (names.map .str)), .fz (.int w), .fz (.tup rds), .fz (.int i), .fz (.str z), o6]) := fun i z pre o6 hi hi4 hz hpre hsl => by
      refine ifS_nx (or_f (tob_ok (bin2_ok rfl rfl rfl rfl ?_)) (or_f (not_t (tob_ok (call_ok' (ods := [.pl 5, .tv (.fz (.int 8))]) (os := [.fz (.str z), .fz (.int 8)]) rfl rfl (word_ex (name_word h.nm hz) (by decide)) rfl))) (tob_ok (bin2_ok rfl (tmp_ok (sl_ok rfl rfl rfl rfl hsl)) rfl rfl (in_not hpre)))))
      show eqF (.int i) (.int 4) = some (.fz (.bl false))
      rw [eq_int, decide_eq_false (by omega)]
    have loop1 : ∀ Q : Fl → Env → Prop, (∀ o4 o5, Q .nx [.oi 0 [.no, .no, .no, .no], .fz (.tup (names.map .str)), .fz (.int w), .fz (.tup rds), o4, o5, .no]) → wp (forM (enumM (consD (sl 1) (Kv.ret []))) (ttp [4, 5]) (ifS (orM (tob (bin2 eqF (opl 4) (tmp (co (.int 4))))) (orM (bnd (tob (callM F_is_word (consO (opl 5) (consO (tmp (co (.int 8))) (Kv.ret []))))) fun b => Kv.ret (!b)) (tob (bin2 inF (opl 5) (tmp (slM slF (opl 1) noP (intP (sl 4)))))))) bad (Kv.ret .nx)))
        [.oi 0 [.no, .no, .no, .no], .fz (.tup (names.map .str)), .fz (.int w), .fz (.tup rds), .no, .no, .no] Q (fun _ _ => False) := fun Q k => by
      unfold Kv.forM
      refine w_bnd (a := enumL (names.map .str)) (ρ' := [.oi 0 [.no, .no, .no, .no], .fz (.tup (names.map .str)), .fz (.int w), .fz (.tup rds), .no, .no, .no]) rfl ?_
      rcases h.nm with e | e | e
      · subst e
        exact fl_nx rfl (body 0 "main" [] .no (by decide) (by decide) (by simp) (by simp) rfl) (k _ _)
      · subst e
        exact fl_nx rfl (body 0 "main" [] .no (by decide) (by decide) (by simp) (by simp) rfl) (fl_nx rfl (body 1 "edit" ["main"] .no (by decide) (by decide) (by simp) (by decide +kernel) rfl) (k _ _))
      · subst e
        exact fl_nx rfl (body 0 "main" [] .no (by decide) (by decide) (by simp) (by simp) rfl) (fl_nx rfl (body 1 "edit" ["main"] .no (by decide) (by decide) (by simp) (by decide +kernel) rfl) (fl_nx rfl (body 2 "move" ["main", "edit"] .no (by decide) (by decide) (by simp) (by decide +kernel) rfl) (k _ _)))
    refine w_seq (loop1 _ fun o4 o5 => ?_)
    refine s_if (not_t (tob_ok (call_ok' (ods := [.pl 2, .tv (.fz (.int 1)), .tv (.fz (.int 99))]) (os := [.fz (.int w), .fz (.int 1), .fz (.int 99)]) rfl rfl (integer_ex h.w1 h.w2) rfl))) (fun h => nomatch h) (fun _ => wp_ok rfl ?_)
    refine s_if (not_t (tob_ok (call2_ok rfl rfl rfl rfl rfl))) (fun h => nomatch h) (fun _ => wp_ok rfl ?_)
    refine s_nx (fld_ok rfl rfl rfl) ?_
    refine w_seq (w_for (I := fun ds ρ => ∃ (done rest : List Row) (o4 o6 : OV), rows = done ++ rest ∧ ds = (List.zipWith (fun (i : Nat) (r : Row) => D.tup [.int (i : Nat), r.d]) (List.range' done.length rest.length) rest) ∧ ρ = [.oi 0 [.od true ((done.map Row.pr).map kp2) (numsV done.length), .no, .no, .no], .fz (.tup (names.map .str)), .fz (.int w), .fz (.tup rds), o4, o5, o6])
      (ds := enumL rds) rfl ⟨[], rows, o4, .no, rfl, ?_, rfl⟩ (fun d ds ρ hI => ?_) (fun ρ hI => ?_))
    · rw [← hr]
      unfold enumL
      rw [List.length_map, List.zipWith_map_right]
      simp [List.range_eq_range']
    · obtain ⟨done, rest, o4, o6, hrr, hds, rfl⟩ := hI
      cases rest with
      | nil => simp at hds
      | cons r rest =>
        rw [List.length_cons, List.range'_succ, List.zipWith_cons_cons] at hds
        obtain ⟨rfl, rfl⟩ := List.cons.inj hds
        have hok := h.ok r (by rw [hrr]; simp)
        have hnd : r.pr ∉ done.map Row.pr := by
          have := h.nd
          rw [hrr, List.map_append, List.nodup_append] at this
          exact fun hm => this.2.2 _ hm _ (by simp) rfl
        have hl : done.length < 30 := by have := h.len; rw [hrr] at this; simp at this; omega
        refine ⟨[.oi 0 [.od true ((done.map Row.pr).map kp2) (numsV done.length), .no, .no, .no], .fz (.tup (names.map .str)), .fz (.int w), .fz (.tup rds), .fz (.int (done.length : Nat)), o5, .fz r.d], rfl, ?_⟩
        refine s_nx (ifS_nx (or_f (tob_ok (bin2_ok rfl rfl rfl rfl (show eqF (.int (done.length : Nat)) (.int 30) = some (.fz (.bl false)) from ?_))) (or_f (not_t (tob_ok (call_ok' (ods := [.pl 1, .pl 6]) (os := [.fz (.tup (names.map .str)), .fz r.d]) rfl rfl (binding_ex hok) rfl))) (tob_ok (bin2_ok (tmp_ok (sl_ok rfl rfl rfl rfl (rfl : _ = some (OV.fz (kp2 r.pr))))) rfl rfl rfl (kp_in_not hnd)))))) ?_
        · rw [eq_int, decide_eq_false (by omega)]
        · refine wp_ok (put_ok2 rfl rfl rfl (sl_ok rfl rfl rfl rfl (rfl : _ = some (OV.fz (kp2 r.pr)))) rfl (mut_pf rfl rfl rfl (kp_put hnd (by simp; omega)))) ?_
          refine ⟨done ++ [r], rest, .fz (.int (done.length : Nat)), .fz r.d, by rw [hrr]; simp, by simp, ?_⟩
          have e1 : numsV done.length ++ [D.int (done.length : Nat)] = numsV (done ++ [r]).length := by
            unfold numsV
            rw [List.length_append, List.length_singleton, List.range_succ, List.map_append]
            rfl
          rw [← e1, show (done ++ [r]).map Row.pr = done.map Row.pr ++ [r.pr] by simp]
          rfl
    · obtain ⟨done, rest, o4, o6, hrr, hds, rfl⟩ := hI
      have : rest = [] := by
        cases rest with
        | nil => rfl
        | cons r rest => rw [List.length_cons, List.range'_succ, List.zipWith_cons_cons] at hds; cases hds
      subst this
      rw [List.append_nil] at hrr
      subst hrr
      refine s_nx (fld_ok rfl rfl rfl) (s_nx (fld_ok rfl rfl rfl) (wp_ok (fld_ok rfl rfl rfl) ⟨(by decide : 4 ≤ 7), rfl, ?_⟩))
      rw [← hr]
      rfl
  obtain ⟨o, outs, e, rfl, rfl⟩ := fo_ex main
  exact e
theorem made_ex {names : List Str} {w : Int} {rows : List Row} (h : MapOk names w rows) : F__law_made [.fz (partsD names w rows)] = some (.ok (kmO names w rows), [.fz (partsD names w rows)]) := by
  unfold F__law_made
  refine fnR_ok (np := 1) (kp := [0]) (ρ' := [.fz (partsD names w rows)]) rfl ?_ (by decide : 1 ≤ 1)
  unfold m__law_made
  refine ret_ok ?_
  exact new_ok (consO_ok rfl (consO_ok rfl (consO_ok rfl rfl))) rfl (init_ex h) rfl
end K3
/-! Late bindings. -/
namespace K3
open PySem hiding Env
open L2 Kv
/-- a text in another's all but its last -/
def subIn (a b : Str) : Bool := !(Builtin.Str.occurrences (cutS b none (some (-1))) a 0 (cutS b none (some (-1))).length 1).isEmpty
def lateB (rows : List Row) (i j : Nat) : Bool := match rows[i]?, rows[j]? with
  | some r, some s => !decide (i = j) && (decide (r.mode = s.mode) && subIn r.keys s.keys)
  | _, _ => false
theorem bind_ex (names : List Str) (w : Int) (rows : List Row) : F_KeyMap_bindings [kmO names w rows] = some (.ok (.fz (.tup (rows.map Row.d))), [kmO names w rows]) := rfl
theorem ix_row {rows : List Row} {i : Nat} {r : Row} (h : rows[i]? = some r) : oe ixF itemD (.tup (rows.map Row.d)) (.int (i : Nat)) = some (.fz r.d) := by
  have hi : i < rows.length := (List.getElem?_eq_some_iff.mp h).1
  obtain ⟨d, hd, _, e⟩ := ix_tup (xs := rows.map Row.d) (i := (i : Nat)) (by omega) (by simpa using hi)
  rw [e]
  rw [Int.toNat_natCast, List.getElem?_map, h] at hd
  cases hd
  rfl
theorem late_ex {names : List Str} {w : Int} {rows : List Row} (h : MapOk names w rows) {i j : Nat} (hi : i < rows.length) (hj : j < rows.length) : F_makes_late [kmO names w rows, .fz (.int (i : Nat)), .fz (.int (j : Nat))] = some (.ok (.fz (.bl (lateB rows i j))), [kmO names w rows, .fz (.int (i : Nat)), .fz (.int (j : Nat))]) := by
  have ei : rows[i]? = some rows[i] := List.getElem?_eq_getElem hi
  have ej : rows[j]? = some rows[j] := List.getElem?_eq_getElem hj
  generalize rows[i] = r at ei
  generalize rows[j] = s at ej
  have hs : s.keys.length ≤ 100000 := by
    have := (h.ok s (List.mem_of_getElem? ej)).keys.2.1
    omega
  unfold F_makes_late
  let ρ : Env := [kmO names w rows, .fz (.int (i : Nat)), .fz (.int (j : Nat)), .fz r.d, .fz s.d]
  have kb : propM 0 F_KeyMap_bindings (opl 0) [kmO names w rows, .fz (.int (i : Nat)), .fz (.int (j : Nat)), .no, .no] = some (.ok (.fz (.tup (rows.map Row.d))), [kmO names w rows, .fz (.int (i : Nat)), .fz (.int (j : Nat)), .no, .no]) := prop_ok rfl (bind_ex names w rows) rfl
  have k1 : bin2 neF (opl 1) (opl 2) ρ = some (.ok (.fz (.bl (!decide (i = j)))), ρ) := by
    refine bin2_ok rfl rfl rfl rfl ?_
    show neF (.int (i : Nat)) (.int (j : Nat)) = _
    rw [ne_int]
    simp
    omega
  have k2 : bin2 eqF (tmp (bin2 (oe ixF itemD) (opl 3) (tmp (co (.int 0))))) (tmp (bin2 (oe ixF itemD) (opl 4) (tmp (co (.int 0))))) ρ = some (.ok (.fz (.bl (decide (r.mode = s.mode)))), ρ) :=
    bin2_ok (tmp_ok (bin2_ok rfl rfl rfl rfl (rfl : _ = some (OV.fz (.str r.mode))))) (tmp_ok (bin2_ok rfl rfl rfl rfl (rfl : _ = some (OV.fz (.str s.mode))))) rfl rfl (eq_str _ _)
  have ksl : slF (.str s.keys) none (some (-1)) = some (.fz (.str (cutS s.keys none (some (-1))))) := by
    show (if s.keys.length ≤ 100000 then _ else none) = _
    rw [if_pos hs]
  have k3 : bin2 inF (tmp (bin2 (oe ixF itemD) (opl 3) (tmp (co (.int 1))))) (tmp (slM slF (tmp (bin2 (oe ixF itemD) (opl 4) (tmp (co (.int 1))))) noP (intP (co (.int (-1)))))) ρ = some (.ok (.fz (.bl (subIn r.keys s.keys))), ρ) :=
    bin2_ok (tmp_ok (bin2_ok rfl rfl rfl rfl (rfl : _ = some (OV.fz (.str r.keys))))) (tmp_ok (sl_ok (tmp_ok (bin2_ok rfl rfl rfl rfl (rfl : _ = some (OV.fz (.str s.keys))))) rfl rfl rfl ksl)) rfl rfl rfl
  have hv : lateB rows i j = (!decide (i = j) && (decide (r.mode = s.mode) && subIn r.keys s.keys)) := by unfold lateB; rw [ei, ej]
  refine fnR_ok (np := 3) (kp := [0, 1, 2]) (ρ' := ρ) rfl ?_ (by decide : 3 ≤ 5)
  unfold m_makes_late
  have kr1 : bin2 (oe ixF itemD) (tmp (propM 0 F_KeyMap_bindings (opl 0))) (opl 1) [kmO names w rows, .fz (.int (i : Nat)), .fz (.int (j : Nat)), .no, .no] = some (.ok (.fz r.d), [kmO names w rows, .fz (.int (i : Nat)), .fz (.int (j : Nat)), .no, .no]) := bin2_ok (tmp_ok kb) rfl rfl rfl (ix_row ei)
  have kr2 : bin2 (oe ixF itemD) (tmp (propM 0 F_KeyMap_bindings (opl 0))) (opl 2) [kmO names w rows, .fz (.int (i : Nat)), .fz (.int (j : Nat)), .no, .no] = some (.ok (.fz s.d), [kmO names w rows, .fz (.int (i : Nat)), .fz (.int (j : Nat)), .no, .no]) := bin2_ok (tmp_ok kb) rfl rfl rfl (ix_row ej)
  refine seq_ok' (ρ1 := ρ) (par_ok kr1 kr2 rfl rfl (by decide : 3 < 5) (by decide : 4 < 5)) ?_
  refine ret_ok ?_
  rw [hv]
  cases e1 : (!decide (i = j)) with
  | false => rw [e1] at k1; exact andV_f k1
  | true =>
    rw [e1] at k1
    refine andV_t k1 ?_
    rw [Bool.true_and]
    cases e2 : decide (r.mode = s.mode) with
    | false => rw [e2] at k2; exact andV_f k2
    | true => rw [e2] at k2; exact andV_t k2 k3
/-- the pairs that are late, in order -/
def latePs (rows : List Row) : List (Nat × Nat) := (List.range rows.length).flatMap fun i => ((List.range rows.length).filter fun j => lateB rows i j).map fun j => (i, j)
def prD (p : Nat × Nat) : D := .tup [.int (p.1 : Nat), .int (p.2 : Nat)]
theorem pairs_ex {names : List Str} {w : Int} {rows : List Row} (h : MapOk names w rows) : F_late_pairs [kmO names w rows] = some (.ok (.ol ((latePs rows).map prD)), [kmO names w rows]) := by
  have hl := h.len
  have kb : propM 0 F_KeyMap_bindings (opl 0) [kmO names w rows, .no, .no, .no] = some (.ok (.fz (.tup (rows.map Row.d))), [kmO names w rows, .no, .no, .no]) := prop_ok rfl (bind_ex names w rows) rfl
  let n := rows.length
  have rng : ∀ o2 o3 : OV, rng1M (consO (opl 1) (Kv.ret [])) [kmO names w rows, .fz (.int (rows.length : Nat)), o2, o3] = some (.ok ((List.range rows.length).map fun i => D.int (i : Nat)), [kmO names w rows, .fz (.int (rows.length : Nat)), o2, o3]) := fun o2 o3 => by
    have := rng1_ok (ms := consO (opl 1) (Kv.ret [])) (ρ := [kmO names w rows, .fz (.int (rows.length : Nat)), o2, o3]) (n := (rows.length : Nat)) rfl rfl (by omega) (by omega)
    rwa [Int.toNat_natCast] at this
  have keep : ∀ (i : Nat), i < rows.length → ∀ (js : List Nat) (acc : List D), (∀ j ∈ js, j < rows.length) → ∀ o3 : OV, wp (cloop [3] (tnm 3) (tob (callM F_makes_late (consO (opl 0) (consO (opl 2) (consO (opl 3) (Kv.ret [])))))) (tupM (consD (sl 2) (consD (sl 3) (Kv.ret [])))) (js.map fun j => D.int (j : Nat)) acc) [kmO names w rows, .fz (.int (rows.length : Nat)), .fz (.int (i : Nat)), o3]
      (fun acc' ρ => acc' = acc ++ ((js.filter fun j => lateB rows i j).map fun j => prD (i, j)) ∧ wipeE ρ [3] = [kmO names w rows, .fz (.int (rows.length : Nat)), .fz (.int (i : Nat)), .no]) (fun _ _ => False) := fun i hi js acc hjs o3 => by
    refine wp_cloop (I := fun ds acc' ρ => ∃ ks, ds = ks.map (fun j => D.int (j : Nat)) ∧ (∀ j ∈ ks, j < rows.length) ∧ acc' ++ ((ks.filter fun j => lateB rows i j).map fun j => prD (i, j)) = acc ++ ((js.filter fun j => lateB rows i j).map fun j => prD (i, j)) ∧ wipeE ρ [3] = [kmO names w rows, .fz (.int (rows.length : Nat)), .fz (.int (i : Nat)), .no]) (fun d ds acc' ρ hI => ?_) (fun acc' ρ hI => ?_) ⟨js, rfl, hjs, rfl, rfl⟩
    · obtain ⟨ks, hds, hks, hacc, hρ⟩ := hI
      cases ks with
      | nil => cases hds
      | cons j ks =>
        obtain ⟨rfl, rfl⟩ := List.cons.inj hds
        rw [hρ]
        refine ⟨[kmO names w rows, .fz (.int (rows.length : Nat)), .fz (.int (i : Nat)), .fz (.int (j : Nat))], rfl, ?_⟩
        refine wp_ok (tob_ok (call_ok' (ods := [.pl 0, .pl 2, .pl 3]) (os := [kmO names w rows, .fz (.int (i : Nat)), .fz (.int (j : Nat))]) rfl rfl (late_ex h hi (hks j List.mem_cons_self)) rfl)) ?_
        cases e : lateB rows i j with
        | true =>
          refine wp_ok (tup_ok (consD_ok rfl rfl (consD_ok rfl rfl rfl)) (by decide : 2 ≤ 100000)) ⟨_, rfl, ks, rfl, fun k hk => hks k (List.mem_cons_of_mem _ hk), ?_, rfl⟩
          rw [← hacc, List.filter_cons_of_pos e]
          simp [prD, OV.dat]
        | false =>
          refine ⟨ks, rfl, fun k hk => hks k (List.mem_cons_of_mem _ hk), ?_, rfl⟩
          rw [← hacc, List.filter_cons_of_neg (by rw [e]; decide)]
    · obtain ⟨ks, hds, hks, hacc, hρ⟩ := hI
      have : ks = [] := by cases ks with
        | nil => rfl
        | cons => cases hds
      subst this
      exact ⟨by simpa using hacc, hρ⟩
  obtain ⟨xs, ρ', e2, ks, hds, hks, hxs, hρ'⟩ := comp2_ex (vs := [2, 3]) (vs1 := [3]) (it := rng1M (consO (opl 1) (Kv.ret []))) (g := tnm 2) (c := Kv.ret true) (it1 := rng1M (consO (opl 1) (Kv.ret []))) (g1 := tnm 3) (c1 := tob (callM F_makes_late (consO (opl 0) (consO (opl 2) (consO (opl 3) (Kv.ret [])))))) (e := tupM (consD (sl 2) (consD (sl 3) (Kv.ret []))))
    (I := fun ds acc ρ => ∃ ks : List Nat, ds = ks.map (fun j => D.int (j : Nat)) ∧ (∀ j ∈ ks, j < rows.length) ∧ acc ++ (ks.flatMap fun i => ((List.range rows.length).filter fun j => lateB rows i j).map fun j => prD (i, j)) = (latePs rows).map prD ∧ wipeE ρ [2, 3] = [kmO names w rows, .fz (.int (rows.length : Nat)), .no, .no])
    (rng .no .no) (by simp; omega) ⟨List.range rows.length, rfl, fun j hj => List.mem_range.mp hj, by unfold latePs; simp [List.map_flatMap]; rfl, rfl⟩ (fun d ds acc ρ hI => by
      obtain ⟨ks, hds, hks, hacc, hρ⟩ := hI
      cases ks with
      | nil => cases hds
      | cons i ks =>
        obtain ⟨rfl, rfl⟩ := List.cons.inj hds
        rw [hρ]
        refine ⟨[kmO names w rows, .fz (.int (rows.length : Nat)), .fz (.int (i : Nat)), .no], rfl, ?_⟩
        rw [wp_ret]
        have hr := rng (.fz (.int (i : Nat))) .no
        show wp (rng1M (consO (opl 1) (Kv.ret []))) [kmO names w rows, .fz (.int (rows.length : Nat)), .fz (.int (i : Nat)), .no] _ _
        rw [wp_eq hr]
        refine And.intro ?_ ?_
        · rw [List.length_map, List.length_range]; omega
        refine wp_mono (keep i (hks i List.mem_cons_self) (List.range rows.length) acc (fun j hj => List.mem_range.mp hj) .no) fun acc' ρ4 h4 => ?_
        refine ⟨ks, rfl, fun k hk => hks k (List.mem_cons_of_mem _ hk), ?_, ?_⟩
        · rw [h4.1, ← hacc]
          simp [List.flatMap_cons]
        · rw [h4.2]
          rfl)
  have : ks = [] := by cases ks with
    | nil => rfl
    | cons => cases hds
  subst this
  rw [hρ'] at e2
  have hxs : xs = (latePs rows).map prD := by simpa using hxs
  subst hxs
  unfold F_late_pairs
  refine fnR_ok (np := 1) (kp := [0]) (ρ' := [kmO names w rows, .fz (.int (rows.length : Nat)), .no, .no]) rfl ?_ (by decide : 1 ≤ 4)
  unfold m_late_pairs
  refine seq_ok' (w_set (call1_ok (tmp_ok kb) rfl (lenN_tup _)) rfl (by decide : 1 < 4)) ?_
  rw [List.length_map]
  exact ret_ok e2
end K3
/-! Late: shorter; transitive. Helpers. -/
namespace K3
open PySem hiding Env
open L2 Kv
def natI (l : List Nat) : List Int := l.map fun i : Nat => (i : Int)
def natD (l : List Nat) : List D := l.map fun i : Nat => D.int (i : Int)
theorem natD_eq (l : List Nat) : natD l = (natI l).map .int := by
  unfold natD natI
  rw [List.map_map]
  rfl
def keptL (n : Nat) : List D := natD (List.range n)
theorem in_natD (i : Nat) (l : List Nat) : inF (.int (i : Nat)) (.lst (natD l)) = some (.fz (.bl (decide (i ∈ l)))) := by
  have hv : ∀ l : List Nat, dVs (l.map fun i => D.int (i : Nat)) = some (l.map fun i => V.int (i : Nat)) := fun l => by
    induction l with
    | nil => rfl
    | cons a l ih => simp [dVs, dV, ih]
  have h1 : (l.map fun i => V.int (i : Nat)).all flatV = true := by
    rw [List.all_eq_true]
    intro x hx
    obtain ⟨w, _, rfl⟩ := List.mem_map.mp hx
    rfl
  have h2 : inV (V.int (i : Nat)) (l.map fun i => V.int (i : Nat)) = decide (i ∈ l) := by
    unfold inV
    rw [Bool.eq_iff_iff, List.any_eq_true, decide_eq_true_iff]
    constructor
    · rintro ⟨x, hx, e⟩
      obtain ⟨j, hj, rfl⟩ := List.mem_map.mp hx
      simp [eqV] at e
      have : i = j := by omega
      rw [this]; exact hj
    · intro h
      exact ⟨_, List.mem_map.mpr ⟨i, h, rfl⟩, by simp [eqV]⟩
  have h3 : inFlat false (.int (i : Nat)) (.lst (natD l)) = some (.fz (.bl (decide (i ∈ l)))) := by
    show (dVs (natD l)).bind (fun xs => if flatV (V.int (i : Nat)) && xs.all flatV then some (OV.fz (D.bl (inV (V.int (i : Nat)) xs))) else none) = _
    unfold natD
    rw [hv]
    simp only [Option.bind_some, h1, h2]
    rfl
  show (inFlat false (.int (i : Nat)) (.lst (natD l))).or _ = _
  rw [h3]
  rfl
theorem late_lt {rows : List Row} {i j : Nat} (h : lateB rows i j = true) : i < rows.length ∧ j < rows.length := by
  unfold lateB at h
  cases e1 : rows[i]? with
  | none => rw [e1] at h; cases h
  | some r => cases e2 : rows[j]? with
    | none => rw [e1, e2] at h; cases h
    | some s => exact ⟨(List.getElem?_eq_some_iff.mp e1).1, (List.getElem?_eq_some_iff.mp e2).1⟩
theorem late_mem {rows : List Row} {p : Nat × Nat} : p ∈ latePs rows ↔ lateB rows p.1 p.2 = true := by
  unfold latePs
  constructor
  · intro h
    obtain ⟨i, _, h⟩ := List.mem_flatMap.mp h
    obtain ⟨j, hj, rfl⟩ := List.mem_map.mp h
    exact (List.mem_filter.mp hj).2
  · intro h
    have := late_lt h
    exact List.mem_flatMap.mpr ⟨p.1, List.mem_range.mpr this.1, List.mem_map.mpr ⟨p.2, List.mem_filter.mpr ⟨List.mem_range.mpr this.2, h⟩, rfl⟩⟩
theorem flat_len {α β : Type} {f : α → List β} {b : Nat} : ∀ {l : List α}, (∀ x ∈ l, (f x).length ≤ b) → (l.flatMap f).length ≤ l.length * b
  | [], _ => by simp
  | x :: l, h => by
    have h1 := h x List.mem_cons_self
    have h2 := flat_len (l := l) fun y hy => h y (List.mem_cons_of_mem _ hy)
    rw [List.flatMap_cons, List.length_append, List.length_cons, Nat.succ_mul]
    omega
theorem late_len {rows : List Row} (h9 : rows.length ≤ 9) : (latePs rows).length ≤ 81 := by
  have := flat_len (l := List.range rows.length) (f := fun i => ((List.range rows.length).filter fun j => lateB rows i j).map fun j => (i, j)) (b := 9) fun i _ => by
    rw [List.length_map]
    exact Nat.le_trans (List.length_filter_le _ _) (by rw [List.length_range]; exact h9)
  rw [List.length_range] at this
  exact Nat.le_trans this (by omega)
theorem cut_len (b : Str) : (cutS b none (some (-1))).length = b.length - 1 := by
  show (((b.cps.toList.drop (HT.sIx b.length 0 none)).take (HT.sIx b.length b.length (some (-1)) - HT.sIx b.length 0 none)).toArray).size = _
  have h1 : HT.sIx b.length 0 none = 0 := rfl
  have h2 : HT.sIx b.length b.length (some (-1)) = b.length - 1 := by
    show (if (-1 : Int) < 0 then ((-1 : Int) + (b.length : Int)).toNat else min (-1 : Int).toNat b.length) = _
    rw [if_pos (by decide)]
    omega
  rw [h1, h2]
  simp
  show min (b.length - 1) b.length = _
  omega
theorem sub_iff (a b : Str) : subIn a b = true ↔ ∃ i, i + a.length ≤ b.length - 1 ∧ Builtin.Str.subAt (cutS b none (some (-1))) a i = true := by
  unfold subIn
  rw [StrLaws.found_iff, cut_len]
theorem cut_last (b : Str) : cutS b none (some (-1)) = ⟨(b.cps.toList.take (b.length - 1)).toArray⟩ := by
  have s3 : HT.sIx b.length 0 none = 0 := rfl
  have s4 : HT.sIx b.length b.length (some (-1)) = b.length - 1 := by
    show (if (-1 : Int) < 0 then ((-1 : Int) + (b.length : Int)).toNat else min (-1 : Int).toNat b.length) = _
    rw [if_pos (by decide)]
    omega
  unfold cutS
  rw [s3, s4]
  simp
theorem sub_list {a b : Str} {k : Nat} (h : k + a.length ≤ b.length - 1) : Builtin.Str.subAt (cutS b none (some (-1))) a k = true ↔ (b.cps.toList.drop k).take a.length = a.cps.toList := by
  have e3 : ((b.cps.toList.take (b.length - 1)).toArray.extract k (k + a.length)).toList = (b.cps.toList.drop k).take a.length := by
    simp
    rw [List.drop_take, List.take_take]
    congr 1
    omega
  rw [cut_last]
  unfold Builtin.Str.subAt
  show ((b.cps.toList.take (b.length - 1)).toArray.extract k (k + a.length) == a.cps) = true ↔ _
  rw [beq_iff_eq, ← e3]
  exact ⟨fun h => congrArg Array.toList h, fun h => Array.toList_inj.mp h⟩
theorem sub_trans {a b c : Str} (h1 : subIn a b = true) (h2 : subIn b c = true) : subIn a c = true := by
  obtain ⟨i, hi, e1⟩ := (sub_iff a b).mp h1
  obtain ⟨k, hk, e2⟩ := (sub_iff b c).mp h2
  rw [sub_list hi] at e1
  rw [sub_list hk] at e2
  have hle : k + i + a.length ≤ c.length - 1 := by omega
  refine (sub_iff a c).mpr ⟨k + i, hle, (sub_list hle).mpr ?_⟩
  rw [← e2, List.drop_take, List.drop_drop, List.take_take] at e1
  rw [← e1]
  congr 1
  omega
def klen (rows : List Row) (i : Nat) : Nat := match rows[i]? with
  | some r => r.keys.length
  | none => 0
theorem klen_lt {names : List Str} {w : Int} {rows : List Row} (h : MapOk names w rows) {i j : Nat} (hl : lateB rows i j = true) : klen rows i < klen rows j := by
  obtain ⟨hi, hj⟩ := late_lt hl
  have ei : rows[i]? = some rows[i] := List.getElem?_eq_getElem hi
  have ej : rows[j]? = some rows[j] := List.getElem?_eq_getElem hj
  unfold lateB at hl
  unfold klen
  rw [ei, ej] at hl ⊢
  simp only [Bool.and_eq_true] at hl
  obtain ⟨k, hk, _⟩ := (sub_iff _ _).mp hl.2.2
  have := (h.ok rows[j] (List.getElem_mem hj)).keys.1
  show rows[i].keys.length < rows[j].keys.length
  omega
theorem klen_le {names : List Str} {w : Int} {rows : List Row} (h : MapOk names w rows) (i : Nat) : klen rows i ≤ 5 := by
  unfold klen
  cases e : rows[i]? with
  | none => simp
  | some r => exact (h.ok r (List.mem_of_getElem? e)).keys.2.1
theorem late_tr {names : List Str} {w : Int} {rows : List Row} (h : MapOk names w rows) {i j k : Nat} (h1 : lateB rows i j = true) (h2 : lateB rows j k = true) : lateB rows i k = true := by
  have l1 := klen_lt h h1
  have l2 := klen_lt h h2
  have hik : i ≠ k := fun e => by subst e; omega
  obtain ⟨hi, hj⟩ := late_lt h1
  obtain ⟨_, hk⟩ := late_lt h2
  have ei : rows[i]? = some rows[i] := List.getElem?_eq_getElem hi
  have ej : rows[j]? = some rows[j] := List.getElem?_eq_getElem hj
  have ek : rows[k]? = some rows[k] := List.getElem?_eq_getElem hk
  unfold lateB at h1 h2 ⊢
  rw [ei, ej] at h1
  rw [ej, ek] at h2
  rw [ei, ek]
  simp only [Bool.and_eq_true, decide_eq_true_eq, Bool.not_eq_true', decide_eq_false_iff_not] at h1 h2 ⊢
  exact ⟨hik, h1.2.1.trans h2.2.1, sub_trans h1.2.2 h2.2.2⟩
theorem late_ok {names : List Str} {w : Int} {rows : List Row} (h : MapOk names w rows) : Mt.Late (lateB rows) (klen rows) := ⟨fun _ _ => klen_lt h, fun _ _ _ => late_tr h⟩
theorem ix_last (cs : List Nat) (l : Nat) : oe ixF itemD (.lst ((cs ++ [l]).map fun i => .int (i : Nat))) (.int (-1)) = some (.fz (.int (l : Nat))) := by
  have e : atI ((cs ++ [l]).map fun i => D.int (i : Nat)) (-1) = some (.int (l : Nat)) := by
    unfold atI ixN
    rw [if_neg (by decide), if_pos (by simp; omega)]
    simp
    have : (-1 + ((cs.length : Int) + 1)).toNat = cs.length := by omega
    rw [this]
    simp
  show (((atI ((cs ++ [l]).map fun i => D.int (i : Nat)) (-1)).map OV.fz)).or _ = _
  rw [e]
  rfl
theorem wl_mono {c : M Bool} {b : M Fl} : ∀ {n : Nat} {ρ : Env} {r : Except Ex Fl × Env}, wloop c b n ρ = some r → wloop c b (n + 1) ρ = some r
  | 0, ρ, r, h => by cases h
  | n + 1, ρ, r, h => by
    unfold wloop at h ⊢
    unfold bnd at h ⊢
    cases hc : c ρ with
    | none => rw [hc] at h; cases h
    | some p =>
      obtain ⟨x, ρ1⟩ := p
      rw [hc] at h
      cases x with
      | error x => exact h
      | ok k =>
        cases k with
        | false => exact h
        | true =>
          simp only [if_true] at h ⊢
          cases hb : b ρ1 with
          | none => rw [hb] at h; cases h
          | some p =>
            obtain ⟨y, ρ2⟩ := p
            rw [hb] at h
            cases y with
            | error y => exact h
            | ok f =>
              cases f with
              | nx => exact wl_mono (n := n) h
              | ct => exact wl_mono (n := n) h
              | bk => exact h
              | rt o => exact h
theorem wl_le {c : M Bool} {b : M Fl} {n m : Nat} {ρ : Env} {r : Except Ex Fl × Env} (h : wloop c b n ρ = some r) (hm : n ≤ m) : wloop c b m ρ = some r := by
  induction hm with
  | refl => exact h
  | step _ ih => exact wl_mono ih
theorem while_ok {c : M Bool} {b : M Fl} {n : Nat} {ρ : Env} {r : Except Ex Fl × Env} (h : wloop c b n ρ = some r) : whileM c b ρ = some r := by
  unfold whileM
  have hex : ∃ n, (wloop c b n ρ).isSome = true := ⟨n, by rw [h]; rfl⟩
  rw [dif_pos hex]
  have hs := Classical.choose_spec hex
  obtain ⟨r', e⟩ := Option.isSome_iff_exists.mp hs
  rw [e]
  have h1 := wl_le h (Nat.le_max_left n (Classical.choose hex))
  have h2 := wl_le e (Nat.le_max_right n (Classical.choose hex))
  rw [h1] at h2
  exact h2.symm
theorem dl_ok {vs : List Nat} {g : D → Env → Option Env} {c : M Bool} {ek ev : M OV} {I : List D → AL → Env → Prop}
    (step : ∀ d ds al ρ, I (d :: ds) al ρ → ∃ (ρ1 : Env) (k : Nat) (v : D) (ρ2 ρ3 : Env) (ov : OV), g d (wipeE ρ vs) = some ρ1 ∧ c ρ1 = some (.ok true, ρ1) ∧ ek ρ1 = some (.ok (.fz (.int (k : Nat))), ρ2) ∧ ev ρ2 = some (.ok ov, ρ3) ∧ froz ov = some v ∧ I ds (alPut al k v) ρ3) :
    ∀ {ds : List D} {al : AL} {ρ : Env}, I ds al ρ → ∃ (al' : AL) (ρ' : Env), dloop vs g c ek ev ds (alK al) (alV al) ρ = some (.ok (alK al', alV al'), ρ') ∧ I [] al' ρ'
  | [], al, ρ, h => ⟨al, ρ, rfl, h⟩
  | d :: ds, al, ρ, h => by
    obtain ⟨ρ1, k, v, ρ2, ρ3, ov, e1, e2, e3, e4, e5, h'⟩ := step d ds al ρ h
    obtain ⟨al', ρ', e6, h6⟩ := dl_ok step h'
    refine ⟨al', ρ', ?_, h6⟩
    unfold dloop
    rw [e1]
    simp only
    rw [bnd_ok e2]
    show bnd ek _ ρ1 = _
    rw [bnd_ok e3]
    show bnd (ofO (some (D.int (k : Nat)))) _ ρ2 = _
    rw [bnd_ok (show ofO (some (D.int (k : Nat))) ρ2 = some (.ok (D.int (k : Nat)), ρ2) from rfl)]
    show bnd ev _ ρ2 = _
    rw [bnd_ok e4, e5]
    rw [bnd_ok (show ofO (some v) ρ3 = some (.ok v, ρ3) from rfl)]
    have hk : (toKey (D.int (k : Nat))).isSome = true := rfl
    rw [if_pos hk]
    have e7 : putKs (alK al) (.int (k : Nat)) = alK (alPut al k v) ∧ putVs (alK al) (alV al) (.int (k : Nat)) v = alV (alPut al k v) := by
      unfold putKs putVs
      rw [al_hasK]
      cases hg : (alGet al k).isSome with
      | true =>
        obtain ⟨h1, h2⟩ := alPut_some (d := v) hg
        exact ⟨h1.symm, h2.symm⟩
      | false =>
        rw [alPut_none hg]
        unfold alK alV
        rw [List.map_append, List.map_append]
        exact ⟨rfl, rfl⟩
    rw [e7.1, e7.2]
    exact e6
theorem itemL_al : ∀ l : AL, itemL (alK l) (alV l) = l.map fun p => D.tup [.int (p.1 : Nat), p.2]
  | [] => rfl
  | p :: l => by
    show D.tup [.int (p.1 : Nat), p.2] :: itemL (alK l) (alV l) = _
    rw [itemL_al l]
    rfl
theorem dcIt_ok {i : Nat} {vs : List Nat} {g : D → Env → Option Env} {c : M Bool} {ek ev : M OV} {ρ ρ' : Env} {ks es ks' es' : List D} (h : ρ[i]? = some (.od false ks es)) (hl : ks.length ≤ 1000000) (h2 : dloop vs g c ek ev (itemL ks es) [] [] (ρ.set i .no) = some (.ok (ks', es'), ρ')) : dcItM i vs g c ek ev ρ = some (.ok (.od false ks' es'), (wipeE ρ' vs).set i (.od false ks es)) := by
  unfold dcItM
  rw [h]
  simp only
  rw [if_pos hl, h2]
theorem lrg_ok {m : M OV} {ρ ρ1 : Env} {n : Nat} (h : m ρ = some (.ok (.fz (.int (n : Nat))), ρ1)) (hn : n ≤ 1000) : lrgM m ρ = some (.ok (.ol (keptL n)), ρ1) := by
  unfold lrgM
  rw [bnd_ok h]
  have e : rngO 0 ((n : Nat) : Int) = some (.ol (keptL n)) := by
    unfold rngO
    have h62 : (2 : Int) ^ 62 = 4611686018427387904 := rfl
    split
    · unfold keptL natD
      simp
    · rename_i hneg
      refine absurd ⟨?_, ?_, ?_, ?_, ?_⟩ hneg
      · decide
      · decide
      · omega
      · omega
      · omega
  show ofO (rngO 0 ((n : Nat) : Int)) ρ1 = _
  rw [e]
  rfl
def chD (css : List (List Nat)) : List D := css.map fun cs => D.lst (natD cs)
end K3
/-! judge_chains. -/
namespace K3
open PySem hiding Env
open L2 Kv
/-- bounds for what is judged -/
def CB (css : List (List Nat)) : Prop := css.length ≤ 20 ∧ ∀ cs ∈ css, cs.length ≤ 40
def jE (km : OV) (css : List (List Nat)) (o2 o3 o4 o5 o6 : OV) : Env := [km, .fz (.lst (chD css)), o2, o3, o4, o5, o6]
theorem allF_bls (bs : List Bool) : allF (.lst (bs.map .bl)) = some (.fz (.bl (bs.all id))) := by
  have : blsD (bs.map D.bl) = some bs := by
    induction bs with
    | nil => rfl
    | cons b bs ih => simp [blsD, ih]
  simp [allF, this]
theorem sorted_ints (zs : List Int) : sortedF (.lst (zs.map .int)) = some (.ol ((sortI zs).map .int)) := by
  have : intsD (zs.map D.int) = some zs := by
    induction zs with
    | nil => rfl
    | cons b bs ih => simp [intsD, ih]
  simp [sortedF, this]
theorem jall_ex {km K : OV} {css : List (List Nat)} (hb : CB css) (hK : K = .ol (chD css) ∨ K = .fz (.lst (chD css))) : compM [3] (itM (sl 1)) (tnm 3) (Kv.ret true) (andV (callP (n2 isiF) (consO (opl 3) (consO (tmp (co (.ty "list"))) (Kv.ret [])))) (bin2 neF (opl 3) (tmp (lstM (Kv.ret []))))) [km, K, .no, .no, .no, .no, .no] = some (.ok (.ol ((css.map fun cs => !decide (cs = [])).map .bl)), jE km css .no .no .no .no .no) := by
  have := comp_filter (vs := [3]) (it := itM (sl 1)) (g := tnm 3) (c := Kv.ret true) (e := andV (callP (n2 isiF) (consO (opl 3) (consO (tmp (co (.ty "list"))) (Kv.ret [])))) (bin2 neF (opl 3) (tmp (lstM (Kv.ret []))))) (dd := fun cs : List Nat => D.lst (natD cs)) (p := fun _ => true) (f := fun cs => D.bl (!decide (cs = []))) (l := css) (ρ := [km, K, .no, .no, .no, .no, .no]) (ρ1 := jE km css .no .no .no .no .no) (ρ0 := jE km css .no .no .no .no .no) (E1 := fun cs => jE km css .no (.fz (.lst (natD cs))) .no .no .no)
    (by rcases hK with rfl | rfl <;> rfl) (by have := hb.1; omega) rfl (fun a _ => rfl) (fun a _ => rfl) (fun cs hcs _ => by
      refine ⟨.fz (.bl (!decide (cs = []))), andV_t (call2_ok rfl rfl rfl rfl rfl) (bin2_ok rfl rfl rfl rfl ?_), rfl⟩
      have h := ne_ints (natI cs) []
      rw [← natD_eq] at h
      refine Eq.trans h ?_
      cases cs <;> rfl) (fun a _ => rfl)
  have ef : css.filter (fun _ => true) = css := by simp
  rw [this, ef, List.map_map]
  rfl
theorem jflat_ex {km : OV} {css : List (List Nat)} (hb : CB css) : comp2M [3, 6] [6] (itM (sl 1)) (tnm 3) (Kv.ret true) (itM (sl 3)) (tnm 6) (Kv.ret true) (sl 6) (jE km css .no .no .no .no .no) = some (.ok (.ol (natD css.flatten)), jE km css .no .no .no .no .no) := by
  have inner : ∀ (cs : List Nat) (acc : List D) (o3 : OV), wp (cloop [6] (tnm 6) (Kv.ret true) (sl 6) (natD cs) acc) (jE km css .no o3 .no .no .no) (fun acc' ρ => acc' = acc ++ natD cs ∧ wipeE ρ [6] = jE km css .no o3 .no .no .no) (fun _ _ => False) := fun cs acc o3 => by
    refine wp_cloop (I := fun ds acc' ρ => ∃ ks : List Nat, ds = natD ks ∧ acc' ++ natD ks = acc ++ natD cs ∧ wipeE ρ [6] = jE km css .no o3 .no .no .no) (fun d ds acc' ρ hI => ?_) (fun acc' ρ hI => ?_) ⟨cs, rfl, rfl, rfl⟩
    · obtain ⟨ks, hds, hacc, hρ⟩ := hI
      cases ks with
      | nil => cases hds
      | cons j ks =>
        obtain ⟨rfl, rfl⟩ := List.cons.inj hds
        rw [hρ]
        refine ⟨jE km css .no o3 .no .no (.fz (.int (j : Nat))), rfl, ?_⟩
        rw [wp_ret]
        show wp (sl 6) _ _ _
        rw [wp_eq (a := .fz (.int (j : Nat))) (ρ' := jE km css .no o3 .no .no (.fz (.int (j : Nat)))) rfl]
        refine ⟨.int (j : Nat), rfl, ks, rfl, ?_, rfl⟩
        rw [← hacc, List.append_assoc]
        rfl
    · obtain ⟨ks, hds, hacc, hρ⟩ := hI
      have : ks = [] := by cases ks with
        | nil => rfl
        | cons => cases hds
      subst this
      exact ⟨by simpa [natD] using hacc, hρ⟩
  obtain ⟨xs, ρ', e2, ks, hds, hks, hxs, hρ'⟩ := comp2_ex (vs := [3, 6]) (vs1 := [6]) (it := itM (sl 1)) (g := tnm 3) (c := Kv.ret true) (it1 := itM (sl 3)) (g1 := tnm 6) (c1 := Kv.ret true) (e := sl 6)
    (I := fun ds acc ρ => ∃ ks : List (List Nat), ds = chD ks ∧ (∀ cs ∈ ks, cs.length ≤ 40) ∧ acc ++ natD ks.flatten = natD css.flatten ∧ wipeE ρ [3, 6] = jE km css .no .no .no .no .no) (ds := chD css) (ρ := jE km css .no .no .no .no .no) (ρ1 := jE km css .no .no .no .no .no)
    rfl (by unfold chD; rw [List.length_map]; have := hb.1; omega) ⟨css, rfl, hb.2, rfl, rfl⟩ (fun d ds acc ρ hI => by
      obtain ⟨ks, hds, hks, hacc, hρ⟩ := hI
      cases ks with
      | nil => cases hds
      | cons cs ks =>
        obtain ⟨rfl, rfl⟩ := List.cons.inj hds
        rw [hρ]
        refine ⟨jE km css .no (.fz (.lst (natD cs))) .no .no .no, rfl, ?_⟩
        rw [wp_ret]
        show wp (itM (sl 3)) _ _ _
        rw [wp_eq (a := natD cs) (ρ' := jE km css .no (.fz (.lst (natD cs))) .no .no .no) rfl]
        refine And.intro ?_ ?_
        · unfold natD
          rw [List.length_map]
          have := hks cs List.mem_cons_self
          omega
        refine wp_mono (inner cs acc (.fz (.lst (natD cs)))) fun acc' ρ4 h4 => ?_
        refine ⟨ks, rfl, fun c hc => hks c (List.mem_cons_of_mem _ hc), ?_, ?_⟩
        · rw [h4.1, ← hacc, List.flatten_cons]
          unfold natD
          rw [List.map_append, List.append_assoc]
        · rw [h4.2]
          rfl)
  have : ks = [] := by cases ks with
    | nil => rfl
    | cons => cases hds
  subst this
  rw [hρ'] at e2
  have hxs : xs = natD css.flatten := by simpa [natD] using hxs
  rw [e2, hxs]
def okC (rows : List Row) (cs : List Nat) : Bool := (Mt.adjs cs).all fun p => lateB rows p.1 p.2
theorem zip_adj (cs : List Nat) : zipL (natD cs) (natD (cs.drop 1)) = (Mt.adjs cs).map prD := by
  unfold zipL natD Mt.adjs
  rw [List.zipWith_map, List.zip, List.map_zipWith]
  rfl
theorem cut1 (cs : List Nat) : cutA (natD cs) (some 1) none = natD (cs.drop 1) := by
  have e1 : HT.sIx (natD cs).length 0 (some 1) = min 1 (natD cs).length := HT.sIx_nat _ _ 1
  have e2 : HT.sIx (natD cs).length (natD cs).length none = (natD cs).length := rfl
  unfold cutA
  rw [e1, e2]
  cases cs with
  | nil => rfl
  | cons a cs =>
    show ((natD (a :: cs)).drop (min 1 (cs.map fun i : Nat => D.int (i : Int)).length.succ)).take _ = _
    have : min 1 (cs.map fun i : Nat => D.int (i : Int)).length.succ = 1 := by omega
    rw [this]
    show (natD cs).take ((natD cs).length + 1 - 1) = natD cs
    simp
noncomputable abbrev jIn : M Fl := Kv.forM (zipM (consD (sl 3) (consD (slM slF (opl 3) (intP (co (.int 1))) noP) (Kv.ret [])))) (ttp [4, 5]) (ifS (bnd (tob (callM F_makes_late (consO (opl 0) (consO (opl 4) (consO (opl 5) (Kv.ret [])))))) fun b => Kv.ret (!b)) (retM (co .non)) (Kv.ret .nx))
theorem jin_ex {names : List Str} {w : Int} {rows : List Row} (h : MapOk names w rows) {css : List (List Nat)} {o2 : OV} {cs : List Nat} (hcs : ∀ c ∈ cs, c < rows.length) (o4 o5 : OV) :
    (okC rows cs = true ∧ ∃ o4' o5', jIn (jE (kmO names w rows) css o2 (.fz (.lst (natD cs))) o4 o5 .no) = some (.ok .nx, jE (kmO names w rows) css o2 (.fz (.lst (natD cs))) o4' o5' .no)) ∨
    (okC rows cs = false ∧ ∃ o4' o5', jIn (jE (kmO names w rows) css o2 (.fz (.lst (natD cs))) o4 o5 .no) = some (.ok (.rt (.fz .non)), jE (kmO names w rows) css o2 (.fz (.lst (natD cs))) o4' o5' .no)) := by
  have hmem : ∀ p ∈ Mt.adjs cs, p.1 < rows.length ∧ p.2 < rows.length := fun p hp => by
    obtain ⟨a, b⟩ := p
    have := List.of_mem_zip hp
    exact ⟨hcs a this.1, hcs b (List.mem_of_mem_drop this.2)⟩
  have hit : zipM (consD (sl 3) (consD (slM slF (opl 3) (intP (co (.int 1))) noP) (Kv.ret []))) (jE (kmO names w rows) css o2 (.fz (.lst (natD cs))) o4 o5 .no) = some (.ok ((Mt.adjs cs).map prD), jE (kmO names w rows) css o2 (.fz (.lst (natD cs))) o4 o5 .no) := by
    unfold zipM
    have hsl : slF (.lst (natD cs)) (some 1) none = some (.ol (natD (cs.drop 1))) := by
      show some (OV.ol (cutA (natD cs) (some 1) none)) = _
      rw [cut1]
    rw [bnd_ok (consD_ok (ρ1 := jE (kmO names w rows) css o2 (.fz (.lst (natD cs))) o4 o5 .no) rfl rfl (consD_ok (sl_ok (x := .pl 3) (ρ1 := jE (kmO names w rows) css o2 (.fz (.lst (natD cs))) o4 o5 .no) (ρ2 := jE (kmO names w rows) css o2 (.fz (.lst (natD cs))) o4 o5 .no) (ρ3 := jE (kmO names w rows) css o2 (.fz (.lst (natD cs))) o4 o5 .no) rfl rfl rfl rfl hsl) rfl rfl))]
    show Kv.ret (zipL (natD cs) (natD (cs.drop 1))) _ = _
    rw [zip_adj]
    rfl
  rcases for_scan (g := ttp [4, 5]) (b := ifS (bnd (tob (callM F_makes_late (consO (opl 0) (consO (opl 4) (consO (opl 5) (Kv.ret [])))))) fun b => Kv.ret (!b)) (retM (co .non)) (Kv.ret .nx))
    (I := fun ds ρ => ∃ (pre ps : List (Nat × Nat)) (o4 o5 : OV), Mt.adjs cs = pre ++ ps ∧ ds = ps.map prD ∧ (∀ p ∈ pre, lateB rows p.1 p.2 = true) ∧ ρ = jE (kmO names w rows) css o2 (.fz (.lst (natD cs))) o4 o5 .no)
    (R := fun _ o ρ => o = .fz .non ∧ okC rows cs = false ∧ ∃ o4 o5 : OV, ρ = jE (kmO names w rows) css o2 (.fz (.lst (natD cs))) o4 o5 .no) hit ⟨[], Mt.adjs cs, o4, o5, rfl, rfl, by simp, rfl⟩ (fun d ds ρ hI => by
      obtain ⟨pre, ps, o4, o5, hadj, hds, hpre, rfl⟩ := hI
      cases ps with
      | nil => cases hds
      | cons p ps =>
        obtain ⟨rfl, rfl⟩ := List.cons.inj hds
        have hp : p ∈ Mt.adjs cs := by rw [hadj]; simp
        obtain ⟨h1, h2⟩ := hmem p hp
        refine ⟨jE (kmO names w rows) css o2 (.fz (.lst (natD cs))) (.fz (.int (p.1 : Nat))) (.fz (.int (p.2 : Nat))) .no, rfl, ?_⟩
        have hc : tob (callM F_makes_late (consO (opl 0) (consO (opl 4) (consO (opl 5) (Kv.ret []))))) (jE (kmO names w rows) css o2 (.fz (.lst (natD cs))) (.fz (.int (p.1 : Nat))) (.fz (.int (p.2 : Nat))) .no) = some (.ok (lateB rows p.1 p.2), jE (kmO names w rows) css o2 (.fz (.lst (natD cs))) (.fz (.int (p.1 : Nat))) (.fz (.int (p.2 : Nat))) .no) := tob_ok (call_ok' (ods := [.pl 0, .pl 4, .pl 5]) (os := [kmO names w rows, .fz (.int (p.1 : Nat)), .fz (.int (p.2 : Nat))]) rfl rfl (late_ex h h1 h2) rfl)
        cases e : lateB rows p.1 p.2 with
        | true =>
          rw [e] at hc
          refine .inl ⟨_, ifS_nx (not_t hc), pre ++ [p], ps, _, _, by rw [hadj]; simp, rfl, fun q hq => ?_, rfl⟩
          rcases List.mem_append.mp hq with hq | hq
          · exact hpre q hq
          · simp at hq; subst hq; exact e
        | false =>
          rw [e] at hc
          refine .inr ⟨.fz .non, jE (kmO names w rows) css o2 (.fz (.lst (natD cs))) (.fz (.int (p.1 : Nat))) (.fz (.int (p.2 : Nat))) .no, ?_, rfl, ?_, _, _, rfl⟩
          · unfold ifS
            rw [bnd_ok (not_f hc)]
            rfl
          · unfold okC
            rw [List.all_eq_false]
            exact ⟨p, hp, by rw [e]; decide⟩) with ⟨ρ', e, pre, ps, o4, o5, hadj, hds, hpre, rfl⟩ | ⟨o, ρ', ds', e, rfl, hok, o4, o5, rfl⟩
  · have : ps = [] := by cases ps with
      | nil => rfl
      | cons => cases hds
    subst this
    rw [List.append_nil] at hadj
    refine .inl ⟨?_, o4, o5, e⟩
    unfold okC
    rw [List.all_eq_true, hadj]
    exact hpre
  · exact .inr ⟨hok, o4, o5, e⟩
def judgeV (rows : List Row) (css : List (List Nat)) : D := if (css.map fun cs => !decide (cs = [])).all id = false then .non else if sortI (natI css.flatten) = natI (List.range rows.length) then (if css.all (okC rows) = true then .int ((css.flatten.length : Nat) - (css.length : Nat) : Int) else .non) else .non
theorem mem_range_of {css : List (List Nat)} {n : Nat} (h : sortI (natI css.flatten) = natI (List.range n)) : ∀ c ∈ css.flatten, c < n := fun c hc => by
  have h1 : (c : Int) ∈ natI css.flatten := List.mem_map.mpr ⟨c, hc, rfl⟩
  have h2 : (c : Int) ∈ sortI (natI css.flatten) := (sortI_perm _).mem_iff.mpr h1
  rw [h] at h2
  obtain ⟨k, hk, e⟩ := List.mem_map.mp h2
  have := List.mem_range.mp hk
  have e : (k : Int) = (c : Int) := e
  omega
theorem jloop_ex {names : List Str} {w : Int} {rows : List Row} (h : MapOk names w rows) {css : List (List Nat)} {o2 : OV} (hc : ∀ c ∈ css.flatten, c < rows.length) :
    (css.all (okC rows) = true ∧ ∃ o3 o4 o5, Kv.forM (itM (sl 1)) (tnm 3) jIn (jE (kmO names w rows) css o2 .no .no .no .no) = some (.ok .nx, jE (kmO names w rows) css o2 o3 o4 o5 .no)) ∨
    (css.all (okC rows) = false ∧ ∃ o3 o4 o5, Kv.forM (itM (sl 1)) (tnm 3) jIn (jE (kmO names w rows) css o2 .no .no .no .no) = some (.ok (.rt (.fz .non)), jE (kmO names w rows) css o2 o3 o4 o5 .no)) := by
  have hit : itM (sl 1) (jE (kmO names w rows) css o2 .no .no .no .no) = some (.ok (chD css), jE (kmO names w rows) css o2 .no .no .no .no) := rfl
  rcases for_scan (g := tnm 3) (b := jIn) (I := fun ds ρ => ∃ (pre ps : List (List Nat)) (o3 o4 o5 : OV), css = pre ++ ps ∧ ds = chD ps ∧ (∀ p ∈ pre, okC rows p = true) ∧ ρ = jE (kmO names w rows) css o2 o3 o4 o5 .no)
    (R := fun _ o ρ => o = .fz .non ∧ css.all (okC rows) = false ∧ ∃ o3 o4 o5 : OV, ρ = jE (kmO names w rows) css o2 o3 o4 o5 .no) hit ⟨[], css, .no, .no, .no, rfl, rfl, by simp, rfl⟩ (fun d ds ρ hI => by
      obtain ⟨pre, ps, o3, o4, o5, hcs, hds, hpre, rfl⟩ := hI
      cases ps with
      | nil => cases hds
      | cons cs ps =>
        obtain ⟨rfl, rfl⟩ := List.cons.inj hds
        have hmem : cs ∈ css := by rw [hcs]; simp
        refine ⟨jE (kmO names w rows) css o2 (.fz (.lst (natD cs))) o4 o5 .no, rfl, ?_⟩
        rcases jin_ex h (css := css) (o2 := o2) (cs := cs) (fun c hc' => hc c (List.mem_flatten.mpr ⟨cs, hmem, hc'⟩)) o4 o5 with ⟨hok, o4', o5', e⟩ | ⟨hok, o4', o5', e⟩
        · refine .inl ⟨_, e, pre ++ [cs], ps, _, _, _, by rw [hcs]; simp, rfl, fun q hq => ?_, rfl⟩
          rcases List.mem_append.mp hq with hq | hq
          · exact hpre q hq
          · simp at hq; subst hq; exact hok
        · refine .inr ⟨_, _, e, rfl, ?_, _, _, _, rfl⟩
          rw [List.all_eq_false]
          exact ⟨cs, hmem, by rw [hok]; decide⟩) with ⟨ρ', e, pre, ps, o3, o4, o5, hcs, hds, hpre, rfl⟩ | ⟨o, ρ', ds', e, rfl, hok, o3, o4, o5, rfl⟩
  · have : ps = [] := by cases ps with
      | nil => rfl
      | cons => cases hds
    subst this
    rw [List.append_nil] at hcs
    refine .inl ⟨?_, o3, o4, o5, e⟩
    rw [List.all_eq_true, hcs]
    exact hpre
  · exact .inr ⟨hok, o3, o4, o5, e⟩
theorem seq_rt {m1 m2 : M Fl} {ρ ρ1 : Env} {o : OV} (h : m1 ρ = some (.ok (.rt o), ρ1)) : seqM m1 m2 ρ = some (.ok (.rt o), ρ1) := by
  unfold seqM
  rw [bnd_ok h]
  rfl
theorem ifS_t {mc : M Bool} {m1 m2 : M Fl} {ρ ρ1 : Env} (h : mc ρ = some (.ok true, ρ1)) : ifS mc m1 m2 ρ = m1 ρ1 := by
  unfold ifS
  rw [bnd_ok h]
  rfl
theorem judge_ex {names : List Str} {w : Int} {rows : List Row} (h : MapOk names w rows) {css : List (List Nat)} (hb : CB css) {K : OV} (hK : K = .ol (chD css) ∨ K = .fz (.lst (chD css))) : F_judge_chains [kmO names w rows, K] = some (.ok (.fz (judgeV rows css)), [kmO names w rows, .fz (.lst (chD css))]) := by
  have h9 := h.len
  have c1 : Kv.orM (bnd (tob (callP (n2 isiF) (consO (opl 1) (consO (tmp (co (.ty "list"))) (Kv.ret []))))) fun b => Kv.ret (!b)) (bnd (tob (callP (n1 allF) (consO (tmp (compM [3] (itM (sl 1)) (tnm 3) (Kv.ret true) (andV (callP (n2 isiF) (consO (opl 3) (consO (tmp (co (.ty "list"))) (Kv.ret [])))) (bin2 neF (opl 3) (tmp (lstM (Kv.ret []))))))) (Kv.ret [])))) fun b => Kv.ret (!b)) [kmO names w rows, K, .no, .no, .no, .no, .no] = some (.ok (!(css.map fun cs => !decide (cs = [])).all id), jE (kmO names w rows) css .no .no .no .no .no) :=
    by
      have q : tob (callP (n2 isiF) (consO (opl 1) (consO (tmp (co (.ty "list"))) (Kv.ret [])))) [kmO names w rows, K, .no, .no, .no, .no, .no] = some (.ok true, [kmO names w rows, K, .no, .no, .no, .no, .no]) := by
        rcases hK with rfl | rfl <;> exact tob_ok (call2_ok rfl rfl rfl rfl rfl)
      exact or_f (not_t q) (not_ok (tob_ok (call1_ok (tmp_ok (jall_ex hb hK)) rfl (allF_bls _))))
  have kb : ∀ o2 : OV, propM 0 F_KeyMap_bindings (opl 0) (jE (kmO names w rows) css o2 .no .no .no .no) = some (.ok (.fz (.tup (rows.map Row.d))), jE (kmO names w rows) css o2 .no .no .no .no) := fun o2 => prop_ok rfl (bind_ex names w rows) rfl
  have kl : ∀ o2 : OV, lrgM (callP lenN (consO (tmp (propM 0 F_KeyMap_bindings (opl 0))) (Kv.ret []))) (jE (kmO names w rows) css o2 .no .no .no .no) = some (.ok (.ol (keptL rows.length)), jE (kmO names w rows) css o2 .no .no .no .no) := fun o2 => lrg_ok (call1_ok (tmp_ok (kb o2)) rfl (by rw [show lenN [(OV.fz (.tup (rows.map Row.d))).dat] = some (.fz (.int (rows.map Row.d).length)) from lenN_tup _, List.length_map])) (by omega)
  have s2 := w_set (i := 2) (jflat_ex (km := kmO names w rows) hb) rfl (by decide : 2 < 7)
  have c3 : tob (bin2 neF (tmp (callP (n1 sortedF) (consO (opl 2) (Kv.ret [])))) (tmp (lrgM (callP lenN (consO (tmp (propM 0 F_KeyMap_bindings (opl 0))) (Kv.ret [])))))) (jE (kmO names w rows) css (.ol (natD css.flatten)) .no .no .no .no) = some (.ok (!decide (sortI (natI css.flatten) = natI (List.range rows.length))), jE (kmO names w rows) css (.ol (natD css.flatten)) .no .no .no .no) := by
    have e1 : n1 sortedF [.lst (natD css.flatten)] = some (.ol ((sortI (natI css.flatten)).map .int)) := by
      show sortedF (.lst (natD css.flatten)) = _
      rw [natD_eq]
      exact sorted_ints _
    refine tob_ok (bin2_ok (tmp_ok (call1_ok rfl rfl e1)) (tmp_ok (kl _)) rfl rfl ?_)
    have := ne_ints (sortI (natI css.flatten)) (natI (List.range rows.length))
    rw [← natD_eq (List.range rows.length)] at this
    exact this
  have main : ∃ ρ', m_judge_chains [kmO names w rows, K, .no, .no, .no, .no, .no] = some (.ok (.rt (.fz (judgeV rows css))), ρ') ∧ 2 ≤ ρ'.length ∧ outsOf [0, 1] 2 ρ' = [kmO names w rows, .fz (.lst (chD css))] := by
    unfold m_judge_chains judgeV
    cases hB : (css.map fun cs => !decide (cs = [])).all id with
    | false =>
      rw [hB] at c1
      rw [if_pos rfl]
      exact ⟨_, seq_rt ((ifS_t c1).trans rfl), (by decide : 2 ≤ 7), rfl⟩
    | true =>
      rw [hB] at c1
      rw [if_neg (by decide)]
      by_cases hS : sortI (natI css.flatten) = natI (List.range rows.length)
      · rw [if_pos hS]
        rw [decide_eq_true hS] at c3
        rcases jloop_ex h (css := css) (o2 := .ol (natD css.flatten)) (mem_range_of hS) with ⟨hok, o3, o4, o5, e⟩ | ⟨hok, o3, o4, o5, e⟩
        · rw [if_pos hok]
          have kend : bin2 subF (tmp (callP lenN (consO (opl 2) (Kv.ret [])))) (tmp (callP lenN (consO (opl 1) (Kv.ret [])))) (jE (kmO names w rows) css (.ol (natD css.flatten)) o3 o4 o5 .no) = some (.ok (.fz (.int ((css.flatten.length : Nat) - (css.length : Nat) : Int))), jE (kmO names w rows) css (.ol (natD css.flatten)) o3 o4 o5 .no) := by
            have l1 : (natD css.flatten).length = css.flatten.length := by unfold natD; rw [List.length_map]
            have l2 : (chD css).length = css.length := by unfold chD; rw [List.length_map]
            have := bin2_ok (f := subF) (ma := tmp (callP lenN (consO (opl 2) (Kv.ret [])))) (mb := tmp (callP lenN (consO (opl 1) (Kv.ret [])))) (ρ := jE (kmO names w rows) css (.ol (natD css.flatten)) o3 o4 o5 .no) (ρ1 := jE (kmO names w rows) css (.ol (natD css.flatten)) o3 o4 o5 .no) (ρ2 := jE (kmO names w rows) css (.ol (natD css.flatten)) o3 o4 o5 .no) (tmp_ok (call1_ok rfl rfl (lenN_lst _))) (tmp_ok (call1_ok rfl rfl (lenN_lst _))) rfl rfl rfl
            rw [this, l1, l2]
          exact ⟨_, seq_ok' (ifS_nx c1) (seq_ok' s2 (seq_ok' (ifS_nx c3) (seq_ok' e (ret_ok kend)))), (by show 2 ≤ 7; decide), rfl⟩
        · rw [if_neg (by rw [hok]; decide)]
          exact ⟨_, seq_ok' (ifS_nx c1) (seq_ok' s2 (seq_ok' (ifS_nx c3) (seq_rt e))), (by show 2 ≤ 7; decide), rfl⟩
      · rw [if_neg hS]
        rw [decide_eq_false hS] at c3
        exact ⟨_, seq_ok' (ifS_nx c1) (seq_ok' s2 (seq_rt ((ifS_t c3).trans rfl))), (by show 2 ≤ 7; decide), rfl⟩
  obtain ⟨ρ', e, hl, ho⟩ := main
  unfold F_judge_chains
  exact (fnR_ok (np := 2) (kp := [0, 1]) rfl e hl).trans (by rw [ho])
theorem judge_not {names : List Str} {w : Int} {rows : List Row} {d : D} (hd : d = .non ∨ ∃ xs, d = .tup xs) : F_judge_chains [kmO names w rows, .fz d] = some (.ok (.fz .non), [kmO names w rows, .fz d]) := by
  have c0 : callP (n2 isiF) (consO (opl 1) (consO (tmp (co (.ty "list"))) (Kv.ret []))) [kmO names w rows, .fz d, .no, .no, .no, .no, .no] = some (.ok (.fz (.bl false)), [kmO names w rows, .fz d, .no, .no, .no, .no, .no]) := by
    rcases hd with rfl | ⟨xs, rfl⟩
    · exact call2_ok rfl rfl rfl rfl rfl
    · exact call2_ok rfl rfl rfl rfl rfl
  unfold F_judge_chains
  refine fnR_ok (np := 2) (kp := [0, 1]) (ρ' := [kmO names w rows, .fz d, .no, .no, .no, .no, .no]) rfl ?_ (by show 2 ≤ 7; decide)
  unfold m_judge_chains
  exact seq_rt ((ifS_t (or_t (not_f (tob_ok c0)))).trans rfl)
end K3
/-! The matching, as it is. -/
namespace K3
open PySem hiding Env
open L2 Kv
theorem fl_one {g : D → Env → Option Env} {b : M Fl} {d : D} {ds : List D} {ρ ρ1 ρ2 : Env} (h1 : g d ρ = some ρ1) (h2 : b ρ1 = some (.ok .nx, ρ2)) : floop g b (d :: ds) ρ = floop g b ds ρ2 := by
  unfold floop
  rw [h1]
  simp only
  rw [bnd_ok h2]
  cases ds <;> rfl
theorem fl_rt {g : D → Env → Option Env} {b : M Fl} {d : D} {ds : List D} {ρ ρ1 ρ2 : Env} {o : OV} (h1 : g d ρ = some ρ1) (h2 : b ρ1 = some (.ok (.rt o), ρ2)) : floop g b (d :: ds) ρ = some (.ok (.rt o), ρ2) := by
  unfold floop
  rw [h1]
  simp only
  rw [bnd_ok h2]
  rfl
theorem for_fl {it : M (List D)} {g : D → Env → Option Env} {b : M Fl} {ds : List D} {ρ ρ1 : Env} (h : it ρ = some (.ok ds, ρ1)) : Kv.forM it g b ρ = floop g b ds ρ1 := by
  unfold Kv.forM
  rw [bnd_ok h]
def selfO (pr inn : AL) : OV := .oi 1 [alO pr, alO inn]
def alI (m : Mt.MP) : AL := m.map fun p => (p.1, D.int (p.2 : Nat))
def trA (tr : List Nat) : AL := tr.map fun k => (k, D.bl true)
theorem alI_get (m : Mt.MP) (k : Nat) : alGet (alI m) k = (Mt.get m k).map fun x => D.int (x : Nat) := by
  induction m with
  | nil => rfl
  | cons p m ih =>
    show (if p.1 = k then some (D.int (p.2 : Nat)) else alGet (alI m) k) = _
    rw [ih]
    show _ = (if p.1 = k then some p.2 else Mt.get m k).map _
    by_cases h : p.1 = k <;> simp [h]
theorem alI_put (m : Mt.MP) (k x : Nat) : alPut (alI m) k (.int (x : Nat)) = alI (Mt.put m k x) := by
  induction m with
  | nil => rfl
  | cons p m ih =>
    show (if p.1 = k then (p.1, D.int (x : Nat)) :: alI m else (p.1, D.int (p.2 : Nat)) :: alPut (alI m) k (.int (x : Nat))) = alI (if p.1 = k then (p.1, x) :: m else p :: Mt.put m k x)
    rw [ih]
    by_cases h : p.1 = k <;> simp [h] <;> rfl
theorem trA_get (tr : List Nat) (k : Nat) : (alGet (trA tr) k).isSome = decide (k ∈ tr) := by
  induction tr with
  | nil => rfl
  | cons a tr ih =>
    show (if a = k then some (D.bl true) else alGet (trA tr) k).isSome = _
    by_cases h : a = k
    · simp [h]
    · have h' : ¬ k = a := fun e => h e.symm
      simp [h, h', ih]
theorem trA_put {tr : List Nat} {k : Nat} (h : k ∉ tr) : alPut (trA tr) k (.bl true) = trA (tr ++ [k]) := by
  have := alPut_none (l := trA tr) (k := k) (d := .bl true) (by rw [trA_get, decide_eq_false h])
  rw [this]
  unfold trA
  rw [List.map_append]
  rfl
theorem alGet_put (l : AL) (k j : Nat) (d : D) : alGet (alPut l k d) j = if j = k then some d else alGet l j := by
  induction l with
  | nil =>
    show (if k = j then some d else none) = _
    by_cases h : j = k
    · simp [h]
    · have h' : ¬ k = j := fun e => h e.symm
      simp [h, h']; rfl
  | cons p l ih =>
    show alGet (if p.1 = k then (p.1, d) :: l else p :: alPut l k d) j = if j = k then some d else (if p.1 = j then some p.2 else alGet l j)
    by_cases h : p.1 = k
    · rw [if_pos h]
      show (if p.1 = j then some d else alGet l j) = _
      by_cases hj : j = k
      · have : p.1 = j := by rw [h, hj]
        simp [this, hj]
      · have : ¬ p.1 = j := fun e => hj (by rw [← e, h])
        simp [this, hj]
    · rw [if_neg h]
      show (if p.1 = j then some p.2 else alGet (alPut l k d) j) = _
      rw [ih]
      by_cases hj : j = k
      · have : ¬ p.1 = j := fun e => h (by rw [e, hj])
        rw [if_neg this, if_pos hj, if_pos hj]
      · simp [hj]
/-- pr holds adj -/
def PrOk (adj : Nat → List Nat) (pr : AL) : Prop := ∀ i, (alGet pr i = none ∧ adj i = []) ∨ alGet pr i = some (.lst (natD (adj i)))
structure SI (n : Nat) (inn : Mt.MP) : Prop where
  nd : (inn.map (·.1)).Nodup
  lt : ∀ p ∈ inn, p.1 < n
structure ST (n : Nat) (tr : List Nat) : Prop where
  nd : tr.Nodup
  lt : ∀ x ∈ tr, x < n
theorem SI.len {n : Nat} {inn : Mt.MP} (h : SI n inn) : (alI inn).length ≤ n := by
  have := lt_len h.nd (n := n) fun x hx => by
    obtain ⟨p, hp, rfl⟩ := List.mem_map.mp hx
    exact h.lt p hp
  simpa [alI] using this
theorem ST.len {n : Nat} {tr : List Nat} (h : ST n tr) : (trA tr).length ≤ n := by
  have := lt_len h.nd h.lt
  simpa [trA] using this
theorem SI.put {n : Nat} {inn : Mt.MP} {o x : Nat} (h : SI n inn) (ho : o < n) : SI n (Mt.put inn o x) := by
  refine ⟨Mt.keys_put h.nd, ?_⟩
  have key : ∀ inn : Mt.MP, (∀ p ∈ inn, p.1 < n) → ∀ p ∈ Mt.put inn o x, p.1 < n := fun inn => by
    induction inn with
    | nil => intro _ p hp; simp [Mt.put] at hp; rw [hp]; exact ho
    | cons q inn ih =>
      intro h p hp
      unfold Mt.put at hp
      by_cases hk : q.1 = o
      · rw [if_pos hk] at hp
        rcases List.mem_cons.mp hp with rfl | hp
        · exact h q List.mem_cons_self
        · exact h p (List.mem_cons_of_mem _ hp)
      · rw [if_neg hk] at hp
        rcases List.mem_cons.mp hp with rfl | hp
        · exact h p List.mem_cons_self
        · exact ih (fun p hp => h p (List.mem_cons_of_mem _ hp)) p hp
  exact key inn h.lt
theorem ST.snoc {n : Nat} {tr : List Nat} {o : Nat} (h : ST n tr) (ho : o < n) (hn : o ∉ tr) : ST n (tr ++ [o]) := by
  refine ⟨?_, fun x hx => ?_⟩
  · rw [List.nodup_append]
    exact ⟨h.nd, by simp, fun a ha b hb e => by simp at hb; exact hn (hb ▸ e ▸ ha)⟩
  · rcases List.mem_append.mp hx with hx | hx
    · exact h.lt x hx
    · simp at hx; rw [hx]; exact ho
noncomputable abbrev JB (Fr : List OV → Res) : M Fl := ifS (tob (bin2 ninF (opl 3) (opl 2))) (seqM (putS (co (.bl true)) (opl 2) (sl 3)) (ifS (Kv.orM (tob (bin2 ninF (opl 3) (opf 0 1 1))) (tob (methM 1 Fr (opl 0) (consO (tmp (bin2 (oe ixF itemD) (opf 0 1 1) (opl 3))) (consO (opl 2) (Kv.ret [])))))) (seqM (putS (sl 1) (opf 0 1 1) (sl 3)) (retM (co (.bl true)))) (Kv.ret .nx))) (Kv.ret .nx)
def jV (pr : AL) (inn : Mt.MP) (i : Nat) (tr : List Nat) (o3 : OV) : Env := [selfO pr (alI inn), .fz (.int (i : Nat)), alO (trA tr), o3]
def jR (b : Bool) : Fl := if b then .rt (.fz (.bl true)) else .nx
def JSpec (adj : Nat → List Nat) (pr : AL) (n k : Nat) : Prop := ∀ (i : Nat) (inn : Mt.MP) (tr : List Nat) (r : Bool × Mt.MP × List Nat), SI n inn → ST n tr → Mt.joinP adj k i inn tr = some r →
  F_Matching_join k [selfO pr (alI inn), .fz (.int (i : Nat)), alO (trA tr)] = some (.ok (.fz (.bl r.1)), [selfO pr (alI r.2.1), .fz (.int (i : Nat)), alO (trA r.2.2)]) ∧ SI n r.2.1 ∧ ST n r.2.2
theorem jloop {adj : Nat → List Nat} {pr : AL} {n k : Nat} (hn : n ≤ 1000) (J : JSpec adj pr n k) {i : Nat} : ∀ (os : List Nat) (inn : Mt.MP) (tr : List Nat) (o3 : OV) (r : Bool × Mt.MP × List Nat), (∀ o ∈ os, o < n) → SI n inn → ST n tr → Mt.loopP (Mt.joinP adj k) i os inn tr = some r →
    (∃ o3', floop (tnm 3) (JB (F_Matching_join k)) (natD os) (jV pr inn i tr o3) = some (.ok (jR r.1), jV pr r.2.1 i r.2.2 o3')) ∧ SI n r.2.1 ∧ ST n r.2.2
  | [], inn, tr, o3, r, _, hs, ht, e => by
    cases e
    exact ⟨⟨o3, rfl⟩, hs, ht⟩
  | o :: os, inn, tr, o3, r, hos, hs, ht, e => by
    have ho := hos o List.mem_cons_self
    have hos' : ∀ x ∈ os, x < n := fun x hx => hos x (List.mem_cons_of_mem _ hx)
    have k1 : ∀ (inn : Mt.MP) (tr : List Nat), tob (bin2 ninF (opl 3) (opl 2)) (jV pr inn i tr (.fz (.int (o : Nat)))) = some (.ok (!decide (o ∈ tr)), jV pr inn i tr (.fz (.int (o : Nat)))) := fun inn tr => by
      rw [← trA_get]
      exact tob_ok (bin2_ok rfl rfl rfl rfl (al_nin (trA tr) o))
    have g1 : tnm 3 (D.int (o : Nat)) (jV pr inn i tr o3) = some (jV pr inn i tr (.fz (.int (o : Nat)))) := rfl
    show (∃ o3', floop (tnm 3) (JB (F_Matching_join k)) (D.int (o : Nat) :: natD os) (jV pr inn i tr o3) = _) ∧ _
    unfold Mt.loopP at e
    by_cases hot : o ∈ tr
    · rw [if_pos hot] at e
      have b1 : JB (F_Matching_join k) (jV pr inn i tr (.fz (.int (o : Nat)))) = some (.ok .nx, jV pr inn i tr (.fz (.int (o : Nat)))) := ifS_nx (by rw [k1, decide_eq_true hot]; rfl)
      rw [fl_one g1 b1]
      exact jloop hn J os inn tr _ r hos' hs ht e
    · rw [if_neg hot] at e
      have ht2 := ht.snoc ho hot
      have kc : tob (bin2 ninF (opl 3) (opl 2)) (jV pr inn i tr (.fz (.int (o : Nat)))) = some (.ok true, jV pr inn i tr (.fz (.int (o : Nat)))) := by rw [k1, decide_eq_false hot]; rfl
      have l1 := ht.len
      have k2 : putS (co (.bl true)) (opl 2) (sl 3) (jV pr inn i tr (.fz (.int (o : Nat)))) = some (.ok .nx, jV pr inn i (tr ++ [o]) (.fz (.int (o : Nat)))) := by
        have hp := al_put (l := trA tr) (k := o) (d := .bl true) (by omega)
        rw [trA_put hot] at hp
        exact put_ok2 rfl rfl rfl rfl rfl (mut_pl rfl hp)
      have fin : ∀ (inn3 : Mt.MP) (tr3 : List Nat), SI n inn3 → seqM (putS (sl 1) (opf 0 1 1) (sl 3)) (retM (co (.bl true))) (jV pr inn3 i tr3 (.fz (.int (o : Nat)))) = some (.ok (.rt (.fz (.bl true))), jV pr (Mt.put inn3 o i) i tr3 (.fz (.int (o : Nat)))) := fun inn3 tr3 h3 => by
        have := h3.len
        have hp := al_put (l := alI inn3) (k := o) (d := .int (i : Nat)) (by omega)
        rw [alI_put] at hp
        have hm : mutO (putG (.int (o : Nat)) (.int (i : Nat))) (.pf 0 1 1) (jV pr inn3 i tr3 (.fz (.int (o : Nat)))) = some (jV pr (Mt.put inn3 o i) i tr3 (.fz (.int (o : Nat)))) := mut_pf (fs := [alO pr, alO (alI inn3)]) (o := alO (alI inn3)) rfl rfl rfl hp
        exact seq_ok' (put_ok2 rfl rfl rfl rfl rfl hm) rfl
      have k3 : tob (bin2 ninF (opl 3) (opf 0 1 1)) (jV pr inn i (tr ++ [o]) (.fz (.int (o : Nat)))) = some (.ok (!(alGet (alI inn) o).isSome), jV pr inn i (tr ++ [o]) (.fz (.int (o : Nat)))) := tob_ok (bin2_ok rfl rfl rfl rfl (al_nin (alI inn) o))
      rw [alI_get] at k3
      cases hg : Mt.get inn o with
      | none =>
        rw [hg] at e k3
        simp only at e
        cases e
        have b1 : JB (F_Matching_join k) (jV pr inn i tr (.fz (.int (o : Nat)))) = some (.ok (.rt (.fz (.bl true))), jV pr (Mt.put inn o i) i (tr ++ [o]) (.fz (.int (o : Nat)))) := by
          refine (ifS_t kc).trans (seq_ok' k2 ?_)
          exact (ifS_t (or_t k3)).trans (fin _ _ hs)
        exact ⟨⟨_, fl_rt g1 b1⟩, hs.put ho, ht2⟩
      | some x =>
        rw [hg] at e k3
        simp only at e
        cases ej : Mt.joinP adj k x inn (tr ++ [o]) with
        | none => rw [ej] at e; cases e
        | some r1 =>
          obtain ⟨b, inn1, tr1⟩ := r1
          rw [ej] at e
          obtain ⟨ef, hs1, ht1⟩ := J x inn (tr ++ [o]) _ hs ht2 ej
          have ix : oe ixF itemD (alD (alI inn)) (.int (o : Nat)) = some (.fz (.int (x : Nat))) := al_ix (by rw [alI_get, hg]; rfl)
          have k4 : methM 1 (F_Matching_join k) (opl 0) (consO (tmp (bin2 (oe ixF itemD) (opf 0 1 1) (opl 3))) (consO (opl 2) (Kv.ret []))) (jV pr inn i (tr ++ [o]) (.fz (.int (o : Nat)))) = some (.ok (.fz (.bl b)), jV pr inn1 i tr1 (.fz (.int (o : Nat)))) :=
            meth_ok (ods := [.tv (.fz (.int (x : Nat))), .pl 2]) rfl (consO_ok (tmp_ok (bin2_ok rfl rfl rfl rfl ix)) (consO_ok rfl rfl)) rfl ef rfl
          cases b with
          | true =>
            simp only at e
            cases e
            have b1 : JB (F_Matching_join k) (jV pr inn i tr (.fz (.int (o : Nat)))) = some (.ok (.rt (.fz (.bl true))), jV pr (Mt.put inn1 o i) i tr1 (.fz (.int (o : Nat)))) := by
              refine (ifS_t kc).trans (seq_ok' k2 ?_)
              exact (ifS_t (or_f k3 (tob_ok k4))).trans (fin _ _ hs1)
            exact ⟨⟨_, fl_rt g1 b1⟩, hs1.put ho, ht1⟩
          | false =>
            simp only at e
            have b1 : JB (F_Matching_join k) (jV pr inn i tr (.fz (.int (o : Nat)))) = some (.ok .nx, jV pr inn1 i tr1 (.fz (.int (o : Nat)))) := by
              refine (ifS_t kc).trans (seq_ok' k2 ?_)
              exact ifS_nx (or_f k3 (tob_ok k4))
            rw [fl_one g1 b1]
            exact jloop hn J os inn1 tr1 _ r hos' hs1 ht1 e
theorem join_ex {adj : Nat → List Nat} {pr : AL} {n : Nat} (hn : n ≤ 1000) (hP : PrOk adj pr) (hadj : ∀ i, ∀ o ∈ adj i, o < n) : ∀ k, JSpec adj pr n k
  | 0 => fun i inn tr r _ _ e => by cases e
  | k + 1 => fun i inn tr r hs ht e => by
    obtain ⟨⟨o3', ef⟩, h1, h2⟩ := jloop hn (join_ex hn hP hadj k) (adj i) inn tr .no r (hadj i) hs ht e
    refine ⟨?_, h1, h2⟩
    have hit : itM (getM (opf 0 1 0) (sl 1) (lstM (Kv.ret []))) (jV pr inn i tr .no) = some (.ok (natD (adj i)), jV pr inn i tr .no) := by
      rcases hP i with ⟨hg, ha⟩ | hg
      · refine it_ok (get_ok (dx := alD pr) (o := none) rfl rfl rfl rfl rfl ?_) ?_
        · rw [← hg]; exact al_dg pr i
        · rw [ha]; rfl
      · refine it_ok (get_ok (dx := alD pr) (o := some (.lst (natD (adj i)))) rfl rfl rfl rfl rfl ?_) rfl
        rw [← hg]; exact al_dg pr i
    show fnR 4 3 [0, 1, 2] (m_Matching_join (F_Matching_join k)) _ = _
    have body : m_Matching_join (F_Matching_join k) (jV pr inn i tr .no) = some (.ok (.rt (.fz (.bl r.1))), jV pr r.2.1 i r.2.2 o3') := by
      have ef2 : Kv.forM (itM (getM (opf 0 1 0) (sl 1) (lstM (Kv.ret [])))) (tnm 3) (JB (F_Matching_join k)) (jV pr inn i tr .no) = some (.ok (jR r.1), jV pr r.2.1 i r.2.2 o3') := (for_fl hit).trans ef
      unfold m_Matching_join
      cases hb : r.1 with
      | true => rw [hb] at ef2; exact seq_rt ef2
      | false => rw [hb] at ef2; exact seq_ok' ef2 rfl
    exact (fnR_ok (np := 3) (kp := [0, 1, 2]) rfl body (by show 3 ≤ 4; decide)).trans rfl
end K3
/-! Matching(pairs, kept). -/
namespace K3
open PySem hiding Env
open L2 Kv
theorem fnR_nx {n np : Nat} {kp : List Nat} {m : M Fl} {os : List OV} {ρ' : Env} (hl : os.length = np) (h : m (os ++ List.replicate (n - np) .no) = some (.ok .nx, ρ')) (h2 : np ≤ ρ'.length) : fnR n np kp m os = some (.ok (.fz .non), outsOf kp np ρ') := by
  unfold fnR
  rw [if_pos hl, h]
  simp only
  rw [if_pos h2]
/-- the outers of i among the pairs -/
def outs (ps : List (Nat × Nat)) (ks : List Nat) (i : Nat) : List Nat := (ps.filter fun p => decide (p.1 = i) && (decide (p.1 ∈ ks) && decide (p.2 ∈ ks))).map (·.2)
theorem outs_snoc (ps : List (Nat × Nat)) (ks : List Nat) (p : Nat × Nat) (i : Nat) : outs (ps ++ [p]) ks i = if p.1 = i ∧ p.1 ∈ ks ∧ p.2 ∈ ks then outs ps ks i ++ [p.2] else outs ps ks i := by
  unfold outs
  rw [List.filter_append, List.map_append]
  by_cases h1 : p.1 = i <;> by_cases h2 : p.1 ∈ ks <;> by_cases h3 : p.2 ∈ ks <;> simp [h1, h2, h3, List.filter_cons]
  all_goals (first | (subst h1; simp [h2]) | skip)
theorem outs_len (ps : List (Nat × Nat)) (ks : List Nat) (i : Nat) : (outs ps ks i).length ≤ ps.length := by
  unfold outs
  rw [List.length_map]
  exact List.length_filter_le _ _
theorem outs_ok {rows : List Row} (ks : List Nat) : Mt.AdjOk (lateB rows) ks (outs (latePs rows) ks) := fun x o hx => by
  unfold outs
  constructor
  · intro h
    obtain ⟨p, hp, rfl⟩ := List.mem_map.mp h
    obtain ⟨h1, h2⟩ := List.mem_filter.mp hp
    simp only [Bool.and_eq_true, decide_eq_true_eq] at h2
    have := late_mem.mp h1
    rw [h2.1] at this
    exact ⟨h2.2.2, this⟩
  · rintro ⟨h1, h2⟩
    refine List.mem_map.mpr ⟨(x, o), List.mem_filter.mpr ⟨late_mem.mpr h2, ?_⟩, rfl⟩
    simp [hx, h1]
theorem outs_lt {rows : List Row} (ks : List Nat) (i : Nat) : ∀ o ∈ outs (latePs rows) ks i, o < rows.length := fun o ho => by
  unfold outs at ho
  obtain ⟨p, hp, rfl⟩ := List.mem_map.mp ho
  exact (late_lt (late_mem.mp (List.mem_filter.mp hp).1)).2
/-- a list, owned or not -/
def LO (K : OV) (ds : List D) : Prop := K = .ol ds ∨ K = .fz (.lst ds)
theorem runM_ex {adj : Nat → List Nat} {pr : AL} {n : Nat} (hn : n ≤ 1000) (hP : PrOk adj pr) (hadj : ∀ i, ∀ o ∈ adj i, o < n) {o1 o2 o4 : OV} : ∀ (ks : List Nat) (inn M : Mt.MP) (o3 : OV), SI n inn → Mt.runM adj 12 ks inn = some M →
    ∃ o3', floop (tnm 3) (dropM (methM 1 (F_Matching_join 12) (opl 0) (consO (opl 3) (consO (tmp (Kv.ret (.od false [] []))) (Kv.ret []))))) (natD ks) [selfO pr (alI inn), o1, o2, o3, o4] = some (.ok .nx, [selfO pr (alI M), o1, o2, o3', o4])
  | [], inn, M, o3, _, e => by
    cases e
    exact ⟨o3, rfl⟩
  | i :: ks, inn, M, o3, hs, e => by
    obtain ⟨r, ej, e⟩ := Option.bind_eq_some_iff.mp (show (Mt.joinP adj 12 i inn []).bind (fun r => Mt.runM adj 12 ks r.2.1) = some M from e)
    obtain ⟨ef, h1, _⟩ := join_ex hn hP hadj 12 i inn [] r hs ⟨List.nodup_nil, fun x h => nomatch h⟩ ej
    have k1 : methM 1 (F_Matching_join 12) (opl 0) (consO (opl 3) (consO (tmp (Kv.ret (.od false [] []))) (Kv.ret []))) [selfO pr (alI inn), o1, o2, .fz (.int (i : Nat)), o4] = some (.ok (.fz (.bl r.1)), [selfO pr (alI r.2.1), o1, o2, .fz (.int (i : Nat)), o4]) :=
      meth_ok (ods := [.pl 3, .tv (.od false [] [])]) (os := [selfO pr (alI inn), .fz (.int (i : Nat)), alO (trA [])]) rfl rfl rfl ef rfl
    obtain ⟨o3', e2⟩ := runM_ex hn hP hadj (o1 := o1) (o2 := o2) (o4 := o4) ks r.2.1 M (.fz (.int (i : Nat))) h1 e
    refine ⟨o3', ?_⟩
    have g1 : tnm 3 (D.int (i : Nat)) [selfO pr (alI inn), o1, o2, o3, o4] = some [selfO pr (alI inn), o1, o2, .fz (.int (i : Nat)), o4] := rfl
    show floop _ _ (D.int (i : Nat) :: natD ks) _ = _
    rw [fl_one g1 (drop_ok k1)]
    exact e2
theorem match_ex {names : List Str} {w : Int} {rows : List Row} (h : MapOk names w rows) {ks : List Nat} (nd : ks.Nodup) (hlt : ∀ x ∈ ks, x < rows.length) :
    ∃ (pr : AL) (M : Mt.MP), Mt.runM (outs (latePs rows) ks) 12 ks [] = some M ∧ Mt.Res (outs (latePs rows) ks) ks M ∧ M.length ≤ 9 ∧ ∀ P K : OV, LO P ((latePs rows).map prD) → LO K (natD ks) → F_Matching___init__ [.oi 1 [.no, .no], P, K] = some (.ok (.fz .non), [selfO pr (alI M), .fz (.lst ((latePs rows).map prD)), .fz (.lst (natD ks))]) := by
  have h9 := h.len
  obtain ⟨M, eM, res⟩ := Mt.run_all (adj := outs (latePs rows) ks) (n := rows.length) (outs_lt ks) (k := 12) (by omega) nd
  have hMl : M.length ≤ 9 := by
    have h1 : ∀ o ∈ M.map (·.1), o < rows.length := fun o ho => by
      cases e : Mt.get M o with
      | none => exact absurd ho ((Mt.get_none_iff M o).mp e)
      | some x => exact outs_lt ks x o (res.edges o x e)
    have := lt_len res.keys h1
    rw [List.length_map] at this
    omega
  obtain ⟨pr, hP, main⟩ : ∃ pr : AL, PrOk (outs (latePs rows) ks) pr ∧ ∀ P K : OV, LO P ((latePs rows).map prD) → LO K (natD ks) → ∃ o3 o4, Kv.forM (itM (sl 1)) (ttp [3, 4]) (ifS (andM (tob (bin2 inF (opl 3) (opl 2))) (tob (bin2 inF (opl 4) (opl 2)))) (putS (lstM (starD (tmp (getM (opf 0 1 0) (sl 3) (lstM (Kv.ret [])))) (consD (sl 4) (Kv.ret [])))) (opf 0 1 0) (sl 3)) (Kv.ret .nx)) [.oi 1 [alO [], .no], P, K, .no, .no] = some (.ok .nx, [.oi 1 [alO pr, .no], .fz (.lst ((latePs rows).map prD)), K, o3, o4]) := by
    have key : ∀ (ps done : List (Nat × Nat)) (pr : AL), latePs rows = done ++ ps → PrOk (outs done ks) pr → AOk (fun k _ => k < rows.length) pr → ∃ pr' : AL, PrOk (outs (latePs rows) ks) pr' ∧ ∀ (p1 K o3 o4 : OV), LO K (natD ks) → ∃ o3' o4', floop (ttp [3, 4]) (ifS (andM (tob (bin2 inF (opl 3) (opl 2))) (tob (bin2 inF (opl 4) (opl 2)))) (putS (lstM (starD (tmp (getM (opf 0 1 0) (sl 3) (lstM (Kv.ret [])))) (consD (sl 4) (Kv.ret [])))) (opf 0 1 0) (sl 3)) (Kv.ret .nx)) (ps.map prD) [.oi 1 [alO pr, .no], p1, K, o3, o4] = some (.ok .nx, [.oi 1 [alO pr', .no], p1, K, o3', o4']) := fun ps => by
      induction ps with
      | nil =>
        intro done pr e hP _
        rw [List.append_nil] at e
        rw [← e] at hP
        exact ⟨pr, hP, fun p1 K o3 o4 _ => ⟨o3, o4, rfl⟩⟩
      | cons p ps ih =>
        intro done pr e hP ha
        obtain ⟨i, j⟩ := p
        have hl : lateB rows i j = true := (late_mem (p := (i, j))).mp (by rw [e]; simp)
        have hi := (late_lt hl).1
        have hlen : pr.length ≤ rows.length := by
          have := lt_len ha.nd (n := rows.length) fun x hx => by
            obtain ⟨p, hp, rfl⟩ := List.mem_map.mp hx
            exact ha.all p hp
          simpa using this
        have hdl : done.length ≤ 81 := by
          have h1 := congrArg List.length e
          have := late_len h9
          rw [List.length_append] at h1
          omega
        have g1 : ∀ pr p1 K o3 o4, ttp [3, 4] (prD (i, j)) [.oi 1 [alO pr, .no], p1, K, o3, o4] = some [.oi 1 [alO pr, .no], p1, K, .fz (.int (i : Nat)), .fz (.int (j : Nat))] := fun _ _ _ _ _ => rfl
        have c1 : ∀ pr p1 K, LO K (natD ks) → tob (bin2 inF (opl 3) (opl 2)) [.oi 1 [alO pr, .no], p1, K, .fz (.int (i : Nat)), .fz (.int (j : Nat))] = some (.ok (decide (i ∈ ks)), [.oi 1 [alO pr, .no], p1, K, .fz (.int (i : Nat)), .fz (.int (j : Nat))]) := fun pr p1 K hK => by
          rcases hK with rfl | rfl <;> exact tob_ok (bin2_ok rfl rfl rfl rfl (in_natD i ks))
        have c2 : ∀ pr p1 K, LO K (natD ks) → tob (bin2 inF (opl 4) (opl 2)) [.oi 1 [alO pr, .no], p1, K, .fz (.int (i : Nat)), .fz (.int (j : Nat))] = some (.ok (decide (j ∈ ks)), [.oi 1 [alO pr, .no], p1, K, .fz (.int (i : Nat)), .fz (.int (j : Nat))]) := fun pr p1 K hK => by
          rcases hK with rfl | rfl <;> exact tob_ok (bin2_ok rfl rfl rfl rfl (in_natD j ks))
        have e' : latePs rows = (done ++ [(i, j)]) ++ ps := by rw [e]; simp
        by_cases hin : i ∈ ks ∧ j ∈ ks
        · have hit : ∀ p1 K, lstM (starD (tmp (getM (opf 0 1 0) (sl 3) (lstM (Kv.ret [])))) (consD (sl 4) (Kv.ret []))) [.oi 1 [alO pr, .no], p1, K, .fz (.int (i : Nat)), .fz (.int (j : Nat))] = some (.ok (.ol (natD (outs done ks i ++ [j]))), [.oi 1 [alO pr, .no], p1, K, .fz (.int (i : Nat)), .fz (.int (j : Nat))]) := fun p1 K => by
            have ol := outs_len done ks i
            have e3 : natD (outs done ks i ++ [j]) = natD (outs done ks i) ++ [D.int (j : Nat)] := by unfold natD; rw [List.map_append]; rfl
            have nl : (natD (outs done ks i)).length = (outs done ks i).length := by unfold natD; rw [List.length_map]
            rw [e3]
            rcases hP i with ⟨hg, h0⟩ | hg
            · have kg : getM (opf 0 1 0) (sl 3) (lstM (Kv.ret [])) [.oi 1 [alO pr, .no], p1, K, .fz (.int (i : Nat)), .fz (.int (j : Nat))] = some (.ok (.ol []), [.oi 1 [alO pr, .no], p1, K, .fz (.int (i : Nat)), .fz (.int (j : Nat))]) :=
                get_ok (dx := alD pr) (o := none) (z := .ol []) rfl rfl rfl rfl rfl (by rw [← hg]; exact al_dg pr i)
              rw [h0]
              exact lst_ok (star_ok (tmp_ok kg) rfl rfl (consD_ok rfl rfl rfl)) (by simp [natD])
            · have kg : getM (opf 0 1 0) (sl 3) (lstM (Kv.ret [])) [.oi 1 [alO pr, .no], p1, K, .fz (.int (i : Nat)), .fz (.int (j : Nat))] = some (.ok (.fz (.lst (natD (outs done ks i)))), [.oi 1 [alO pr, .no], p1, K, .fz (.int (i : Nat)), .fz (.int (j : Nat))]) :=
                get_ok (dx := alD pr) (o := some (.lst (natD (outs done ks i)))) (z := .ol []) rfl rfl rfl rfl rfl (by rw [← hg]; exact al_dg pr i)
              refine lst_ok (star_ok (tmp_ok kg) rfl rfl (consD_ok rfl rfl rfl)) ?_
              rw [List.length_append, nl]
              simp
              omega
          have hP2 : PrOk (outs (done ++ [(i, j)]) ks) (alPut pr i (.lst (natD (outs done ks i ++ [j])))) := fun x => by
            rw [alGet_put, outs_snoc]
            by_cases hx : x = i
            · subst hx
              right
              rw [if_pos rfl, if_pos ⟨rfl, hin.1, hin.2⟩]
            · rw [if_neg hx, if_neg (fun z => hx z.1.symm)]
              exact hP x
          obtain ⟨pr', q1, q2⟩ := ih (done ++ [(i, j)]) (alPut pr i (.lst (natD (outs done ks i ++ [j])))) e' hP2 (alPut_ok (P := fun k _ => k < rows.length) ha hi).1
          refine ⟨pr', q1, fun p1 K o3 o4 hK => ?_⟩
          obtain ⟨o3', o4', e4⟩ := q2 p1 K (.fz (.int (i : Nat))) (.fz (.int (j : Nat))) hK
          have hm : mutO (putG (.int (i : Nat)) (.lst (natD (outs done ks i ++ [j])))) (.pf 0 1 0) [.oi 1 [alO pr, .no], p1, K, .fz (.int (i : Nat)), .fz (.int (j : Nat))] = some [.oi 1 [alO (alPut pr i (.lst (natD (outs done ks i ++ [j])))), .no], p1, K, .fz (.int (i : Nat)), .fz (.int (j : Nat))] := mut_pf (fs := [alO pr, .no]) (o := alO pr) rfl rfl rfl (al_put (l := pr) (k := i) (by omega))
          have b1 : ifS (andM (tob (bin2 inF (opl 3) (opl 2))) (tob (bin2 inF (opl 4) (opl 2)))) (putS (lstM (starD (tmp (getM (opf 0 1 0) (sl 3) (lstM (Kv.ret [])))) (consD (sl 4) (Kv.ret [])))) (opf 0 1 0) (sl 3)) (Kv.ret .nx) [.oi 1 [alO pr, .no], p1, K, .fz (.int (i : Nat)), .fz (.int (j : Nat))] = some (.ok .nx, [.oi 1 [alO (alPut pr i (.lst (natD (outs done ks i ++ [j])))), .no], p1, K, .fz (.int (i : Nat)), .fz (.int (j : Nat))]) := by
            refine (ifS_t (and_t (by rw [c1 pr p1 K hK, decide_eq_true hin.1]) (by rw [c2 pr p1 K hK, decide_eq_true hin.2]))).trans ?_
            exact put_ok2 (hit p1 K) rfl rfl rfl rfl hm
          refine ⟨o3', o4', ?_⟩
          show floop _ _ (prD (i, j) :: ps.map prD) _ = _
          rw [fl_one (g1 pr p1 K o3 o4) b1]
          exact e4
        · have hP2 : PrOk (outs (done ++ [(i, j)]) ks) pr := fun x => by
            rw [outs_snoc, if_neg (fun z => hin z.2)]
            exact hP x
          obtain ⟨pr', q1, q2⟩ := ih (done ++ [(i, j)]) pr e' hP2 ha
          refine ⟨pr', q1, fun p1 K o3 o4 hK => ?_⟩
          obtain ⟨o3', o4', e4⟩ := q2 p1 K (.fz (.int (i : Nat))) (.fz (.int (j : Nat))) hK
          have b1 : ifS (andM (tob (bin2 inF (opl 3) (opl 2))) (tob (bin2 inF (opl 4) (opl 2)))) (putS (lstM (starD (tmp (getM (opf 0 1 0) (sl 3) (lstM (Kv.ret [])))) (consD (sl 4) (Kv.ret [])))) (opf 0 1 0) (sl 3)) (Kv.ret .nx) [.oi 1 [alO pr, .no], p1, K, .fz (.int (i : Nat)), .fz (.int (j : Nat))] = some (.ok .nx, [.oi 1 [alO pr, .no], p1, K, .fz (.int (i : Nat)), .fz (.int (j : Nat))]) := by
            refine ifS_nx ?_
            have d1 := c1 pr p1 K hK
            have d2 := c2 pr p1 K hK
            by_cases h1 : i ∈ ks
            · rw [decide_eq_true h1] at d1
              rw [decide_eq_false (fun z => hin ⟨h1, z⟩)] at d2
              exact and_t d1 d2
            · rw [decide_eq_false h1] at d1
              exact and_f d1
          refine ⟨o3', o4', ?_⟩
          show floop _ _ (prD (i, j) :: ps.map prD) _ = _
          rw [fl_one (g1 pr p1 K o3 o4) b1]
          exact e4
    obtain ⟨pr, q1, q2⟩ := key (latePs rows) [] [] rfl (fun i => .inl ⟨rfl, rfl⟩) ⟨List.nodup_nil, fun p hp => nomatch hp⟩
    refine ⟨pr, q1, fun P K hPo hK => ?_⟩
    obtain ⟨o3', o4', e⟩ := q2 (.fz (.lst ((latePs rows).map prD))) K .no .no hK
    refine ⟨o3', o4', ?_⟩
    rcases hPo with rfl | rfl
    · exact (for_fl (ds := (latePs rows).map prD) (ρ1 := [.oi 1 [alO [], .no], .fz (.lst ((latePs rows).map prD)), K, .no, .no]) rfl).trans e
    · exact (for_fl (ds := (latePs rows).map prD) (ρ1 := [.oi 1 [alO [], .no], .fz (.lst ((latePs rows).map prD)), K, .no, .no]) rfl).trans e
  refine ⟨pr, M, eM, res, hMl, fun P K hPo hK => ?_⟩
  obtain ⟨o3, o4, e1⟩ := main P K hPo hK
  obtain ⟨o3', e2⟩ := runM_ex (n := rows.length) (by omega) hP (outs_lt ks) (o1 := .fz (.lst ((latePs rows).map prD))) (o2 := .fz (.lst (natD ks))) (o4 := o4) ks [] M o3 ⟨List.nodup_nil, fun p hp => nomatch hp⟩ eM
  unfold F_Matching___init__
  have s1 : fldS 0 1 0 (Kv.ret (.od false [] [])) [.oi 1 [.no, .no], P, K, .no, .no] = some (.ok .nx, [.oi 1 [alO [], .no], P, K, .no, .no]) := fld_ok (i := 0) (c := 1) (f := 0) (ρ1 := [.oi 1 [.no, .no], P, K, .no, .no]) (o := alO []) (fs := [.no, .no]) rfl rfl rfl
  have s3 : fldS 0 1 1 (Kv.ret (.od false [] [])) [.oi 1 [alO pr, .no], .fz (.lst ((latePs rows).map prD)), K, o3, o4] = some (.ok .nx, [selfO pr (alI []), .fz (.lst ((latePs rows).map prD)), K, o3, o4]) := fld_ok (i := 0) (c := 1) (f := 1) (ρ1 := [.oi 1 [alO pr, .no], .fz (.lst ((latePs rows).map prD)), K, o3, o4]) (o := alO []) (fs := [alO pr, .no]) rfl rfl rfl
  have s4 : Kv.forM (itM (sl 2)) (tnm 3) (dropM (methM 1 (F_Matching_join 12) (opl 0) (consO (opl 3) (consO (tmp (Kv.ret (.od false [] []))) (Kv.ret []))))) [selfO pr (alI []), .fz (.lst ((latePs rows).map prD)), K, o3, o4] = some (.ok .nx, [selfO pr (alI M), .fz (.lst ((latePs rows).map prD)), .fz (.lst (natD ks)), o3', o4]) := by
    have hit : itM (sl 2) [selfO pr (alI []), .fz (.lst ((latePs rows).map prD)), K, o3, o4] = some (.ok (natD ks), [selfO pr (alI []), .fz (.lst ((latePs rows).map prD)), .fz (.lst (natD ks)), o3, o4]) := by
      rcases hK with rfl | rfl <;> rfl
    exact (for_fl hit).trans e2
  have body : m_Matching___init__ [.oi 1 [.no, .no], P, K, .no, .no] = some (.ok .nx, [selfO pr (alI M), .fz (.lst ((latePs rows).map prD)), .fz (.lst (natD ks)), o3', o4]) := by
    unfold m_Matching___init__
    exact seq_ok' s1 (seq_ok' e1 (seq_ok' s3 s4))
  exact fnR_nx (n := 5) (np := 3) (kp := [0, 1, 2]) (m := m_Matching___init__) (os := [.oi 1 [.no, .no], P, K]) (ρ' := [selfO pr (alI M), .fz (.lst ((latePs rows).map prD)), .fz (.lst (natD ks)), o3', o4]) rfl body (by show 3 ≤ 5; decide)
end K3
/-! fewest_to_drop. -/
namespace K3
open PySem hiding Env
open L2 Kv
def nuOf (rows : List Row) (ks : List Nat) : Nat := ((Mt.runM (outs (latePs rows) ks) 12 ks []).map List.length).getD 0
theorem nu_is {names : List Str} {w : Int} {rows : List Row} (h : MapOk names w rows) {ks : List Nat} (nd : ks.Nodup) (hlt : ∀ x ∈ ks, x < rows.length) : Mt.IsNu (lateB rows) ks (nuOf rows ks) := by
  obtain ⟨pr, M, e, res, _, _⟩ := match_ex h nd hlt
  have := Mt.nu_of (late_ok h) (outs_ok ks) nd res
  unfold nuOf
  rw [e]
  exact this
theorem size_ex (pr : AL) (M : Mt.MP) : F_Matching_size [selfO pr (alI M)] = some (.ok (.fz (.int (M.length : Nat))), [.oi 1 [alO pr, .fz (alD (alI M))]]) := by
  unfold F_Matching_size
  refine (fnR_ok (n := 1) (np := 1) (kp := [0]) (m := m_Matching_size) (os := [selfO pr (alI M)]) (ρ' := [.oi 1 [alO pr, .fz (alD (alI M))]]) (o := .fz (.int (M.length : Nat))) rfl ?_ (by decide : 1 ≤ 1)).trans rfl
  unfold m_Matching_size
  refine ret_ok (call1_ok (o := .fz (.int (M.length : Nat))) (tmp_ok (o := .fz (alD (alI M))) rfl) rfl ?_)
  show some (OV.fz (D.int ((alK (alI M)).length : Nat))) = _
  unfold alK alI
  rw [List.length_map, List.length_map]
theorem methT_ok {c : Nat} {F : List OV → Res} {ma : M OV} {ρ ρ1 : Env} {fs outs : List OV} {o : OV} (h : ma ρ = some (.ok (.oi c fs), ρ1)) (h3 : F [.oi c fs] = some (.ok o, outs)) : methM c F (tmp ma) (Kv.ret []) ρ = some (.ok o, ρ1) := by
  unfold methM
  rw [bnd_ok (tmp_ok h)]
  rw [bnd_ok (show pkC c (.tv (.oi c fs)) ρ1 = some (.ok (), ρ1) by
    unfold pkC
    have : peek ρ1 (.tv (.oi c fs)) = some (.ins c (OV.dats fs)) := rfl
    rw [this]
    simp)]
  rw [bnd_ok (show (Kv.ret [] : M (List Opd)) ρ1 = some (.ok [], ρ1) from rfl)]
  unfold callO
  have : takes ρ1 [.tv (.oi c fs)] = some ([.oi c fs], ρ1) := rfl
  rw [this]
  simp only
  rw [h3]
  cases outs <;> rfl
def fwE (km P K : OV) (dr : List Nat) (sz : Nat) (o5 o6 : OV) : Env := [km, P, K, .ol (natD dr), .fz (.int (sz : Nat)), o5, o6, .no]
noncomputable abbrev newS (j : Nat) : M OV := methM 1 F_Matching_size (tmp (newM 1 2 F_Matching___init__ (consO (opl 1) (consO (opl j) (Kv.ret []))))) (Kv.ret [])
noncomputable abbrev fwB : M Fl := seqM (setN 6 (compM [7] (itM (sl 2)) (tnm 7) (tob (bin2 neF (opl 7) (opl 5))) (sl 7))) (ifS (andM (tob (bin2 gtF (opl 4) (tmp (co (.int 0))))) (tob (bin2 ltF (tmp (newS 6)) (opl 4)))) (seqM (dropM (appM (opl 3) (consD (sl 5) (Kv.ret [])))) (parM 2 4 (consO (tmp (sl 6)) (consO (tmp (bin2 subF (opl 4) (tmp (co (.int 1))))) (Kv.ret []))))) (Kv.ret .nx))
theorem new2_ex {names : List Str} {w : Int} {rows : List Row} (h : MapOk names w rows) {ks : List Nat} (nd : ks.Nodup) (hlt : ∀ x ∈ ks, x < rows.length) {km P K o3 o4 o5 o6 o7 : OV} (hP : LO P ((latePs rows).map prD)) (hK : LO K (natD ks)) :
    newS 2 [km, P, K, o3, o4, o5, o6, o7] = some (.ok (.fz (.int (nuOf rows ks : Nat))), [km, .fz (.lst ((latePs rows).map prD)), .fz (.lst (natD ks)), o3, o4, o5, o6, o7]) := by
  obtain ⟨pr, M, e, res, _, em⟩ := match_ex h nd hlt
  have en : nuOf rows ks = M.length := by unfold nuOf; rw [e]; rfl
  rw [en]
  refine methT_ok (fs := [alO pr, alO (alI M)]) (o := .fz (.int (M.length : Nat))) ?_ (size_ex pr M)
  have := em P K hP hK
  rcases hP with rfl | rfl <;> rcases hK with rfl | rfl
  · exact new_ok (u := selfO pr (alI M)) (ods := [.pl 1, .pl 2]) rfl rfl this rfl
  · exact new_ok (u := selfO pr (alI M)) (ods := [.pl 1, .pl 2]) rfl rfl this rfl
  · exact new_ok (u := selfO pr (alI M)) (ods := [.pl 1, .pl 2]) rfl rfl this rfl
  · exact new_ok (u := selfO pr (alI M)) (ods := [.pl 1, .pl 2]) rfl rfl this rfl
theorem new6_ex {names : List Str} {w : Int} {rows : List Row} (h : MapOk names w rows) {ks : List Nat} (nd : ks.Nodup) (hlt : ∀ x ∈ ks, x < rows.length) {km P K o2 o3 o4 o5 o7 : OV} (hP : LO P ((latePs rows).map prD)) (hK : LO K (natD ks)) :
    newS 6 [km, P, o2, o3, o4, o5, K, o7] = some (.ok (.fz (.int (nuOf rows ks : Nat))), [km, .fz (.lst ((latePs rows).map prD)), o2, o3, o4, o5, .fz (.lst (natD ks)), o7]) := by
  obtain ⟨pr, M, e, res, _, em⟩ := match_ex h nd hlt
  have en : nuOf rows ks = M.length := by unfold nuOf; rw [e]; rfl
  rw [en]
  refine methT_ok (fs := [alO pr, alO (alI M)]) (o := .fz (.int (M.length : Nat))) ?_ (size_ex pr M)
  have := em P K hP hK
  rcases hP with rfl | rfl <;> rcases hK with rfl | rfl
  · exact new_ok (u := selfO pr (alI M)) (ods := [.pl 1, .pl 6]) rfl rfl this rfl
  · exact new_ok (u := selfO pr (alI M)) (ods := [.pl 1, .pl 6]) rfl rfl this rfl
  · exact new_ok (u := selfO pr (alI M)) (ods := [.pl 1, .pl 6]) rfl rfl this rfl
  · exact new_ok (u := selfO pr (alI M)) (ods := [.pl 1, .pl 6]) rfl rfl this rfl
theorem fstep_ex {names : List Str} {w : Int} {rows : List Row} (h : MapOk names w rows) {km P K o6 : OV} {s : Mt.GS} {k : Nat} (nd : s.2.1.Nodup) (hlt : ∀ x ∈ s.2.1, x < rows.length) (hdr : s.1.length ≤ 1000) (hP : LO P ((latePs rows).map prD)) (hK : LO K (natD s.2.1)) :
    ∃ P' K' o6', LO P' ((latePs rows).map prD) ∧ LO K' (natD (Mt.stepG (nuOf rows) s k).2.1) ∧ fwB (fwE km P K s.1 s.2.2 (.fz (.int (k : Nat))) o6) = some (.ok .nx, fwE km P' K' (Mt.stepG (nuOf rows) s k).1 (Mt.stepG (nuOf rows) s k).2.2 (.fz (.int (k : Nat))) o6') := by
  obtain ⟨dr, kp, sz⟩ := s
  simp only at nd hlt hdr hK ⊢
  let rest := kp.filter fun x => decide (x ≠ k)
  have hkl : kp.length ≤ 9 := by
    have := lt_len nd hlt
    have := h.len
    omega
  have hr1 : rest.Nodup := nd.filter _
  have hr2 : ∀ x ∈ rest, x < rows.length := fun x hx => hlt x (List.mem_filter.mp hx).1
  have c1 : compM [7] (itM (sl 2)) (tnm 7) (tob (bin2 neF (opl 7) (opl 5))) (sl 7) (fwE km P K dr sz (.fz (.int (k : Nat))) o6) = some (.ok (.ol (natD rest)), fwE km P (.fz (.lst (natD kp))) dr sz (.fz (.int (k : Nat))) o6) := by
    have hit : itM (sl 2) (fwE km P K dr sz (.fz (.int (k : Nat))) o6) = some (.ok (kp.map fun i => D.int (i : Nat)), fwE km P (.fz (.lst (natD kp))) dr sz (.fz (.int (k : Nat))) o6) := by
      rcases hK with rfl | rfl <;> rfl
    refine (comp_filter (p := fun x => decide (x ≠ k)) (f := fun x => D.int (x : Nat)) (E1 := fun j => [km, P, .fz (.lst (natD kp)), .ol (natD dr), .fz (.int (sz : Nat)), .fz (.int (k : Nat)), o6, .fz (.int (j : Nat))]) hit (by omega) rfl (fun j _ => rfl) (fun j _ => ?_) (fun j _ _ => ⟨_, rfl, rfl⟩) (fun j _ => rfl)).trans rfl
    refine tob_ok (bin2_ok rfl rfl rfl rfl ?_)
    show neF (.int (j : Nat)) (.int (k : Nat)) = _
    rw [ne_int]
    have : (!decide ((j : Int) = (k : Int))) = decide (j ≠ k) := by
      by_cases e : j = k
      · subst e; simp
      · have : ¬ (j : Int) = (k : Int) := by omega
        simp [e, this]
    rw [this]
  have s1 := w_set (i := 6) c1 rfl (by show 6 < 8; decide)
  let E1 : Env := [km, P, .fz (.lst (natD kp)), .ol (natD dr), .fz (.int (sz : Nat)), .fz (.int (k : Nat)), .ol (natD rest), .no]
  have s1 : setN 6 (compM [7] (itM (sl 2)) (tnm 7) (tob (bin2 neF (opl 7) (opl 5))) (sl 7)) (fwE km P K dr sz (.fz (.int (k : Nat))) o6) = some (.ok .nx, E1) := s1
  have g1 : tob (bin2 gtF (opl 4) (tmp (co (.int 0)))) E1 = some (.ok (decide (0 < sz)), E1) := by
    refine tob_ok (bin2_ok rfl rfl rfl rfl ?_)
    show some (OV.fz (D.bl (decide ((0 : Int) < (sz : Nat))))) = _
    have : decide ((0 : Int) < (sz : Nat)) = decide (0 < sz) := decide_eq_decide.mpr (by omega)
    rw [this]
  by_cases hz : 0 < sz
  · rw [decide_eq_true hz] at g1
    have g2 : tob (bin2 ltF (tmp (newS 6)) (opl 4)) E1 = some (.ok (decide (nuOf rows rest < sz)), [km, .fz (.lst ((latePs rows).map prD)), .fz (.lst (natD kp)), .ol (natD dr), .fz (.int (sz : Nat)), .fz (.int (k : Nat)), .fz (.lst (natD rest)), .no]) := by
      refine tob_ok (bin2_ok (tmp_ok (new6_ex h hr1 hr2 hP (.inl rfl))) rfl rfl rfl ?_)
      show some (OV.fz (D.bl (decide (((nuOf rows rest : Nat) : Int) < (sz : Nat))))) = _
      have : decide (((nuOf rows rest : Nat) : Int) < (sz : Nat)) = decide (nuOf rows rest < sz) := decide_eq_decide.mpr (by omega)
      rw [this]
    by_cases hs : nuOf rows rest < sz
    · have hst : Mt.stepG (nuOf rows) (dr, kp, sz) k = (dr ++ [k], rest, sz - 1) := by
        unfold Mt.stepG
        rw [if_pos ⟨hz, hs⟩]
      rw [hst]
      rw [decide_eq_true hs] at g2
      have hl : (natD dr).length < 1000000 := by unfold natD; rw [List.length_map]; omega
      have k3 : dropM (appM (opl 3) (consD (sl 5) (Kv.ret []))) [km, .fz (.lst ((latePs rows).map prD)), .fz (.lst (natD kp)), .ol (natD dr), .fz (.int (sz : Nat)), .fz (.int (k : Nat)), .fz (.lst (natD rest)), .no] = some (.ok .nx, [km, .fz (.lst ((latePs rows).map prD)), .fz (.lst (natD kp)), .ol (natD dr ++ [.int (k : Nat)]), .fz (.int (sz : Nat)), .fz (.int (k : Nat)), .fz (.lst (natD rest)), .no]) :=
        drop_ok (app_ok rfl rfl (consD_ok rfl rfl rfl) (mut_app rfl hl))
      have e1 : ((sz : Nat) : Int) - 1 = ((sz - 1 : Nat) : Int) := by omega
      have k4 : parM 2 4 (consO (tmp (sl 6)) (consO (tmp (bin2 subF (opl 4) (tmp (co (.int 1))))) (Kv.ret []))) [km, .fz (.lst ((latePs rows).map prD)), .fz (.lst (natD kp)), .ol (natD dr ++ [.int (k : Nat)]), .fz (.int (sz : Nat)), .fz (.int (k : Nat)), .fz (.lst (natD rest)), .no] = some (.ok .nx, [km, .fz (.lst ((latePs rows).map prD)), .fz (.lst (natD rest)), .ol (natD dr ++ [.int (k : Nat)]), .fz (.int ((sz : Nat) - 1 : Int)), .fz (.int (k : Nat)), .fz (.lst (natD rest)), .no]) :=
        par_ok (ρ2 := [km, .fz (.lst ((latePs rows).map prD)), .fz (.lst (natD kp)), .ol (natD dr ++ [.int (k : Nat)]), .fz (.int (sz : Nat)), .fz (.int (k : Nat)), .fz (.lst (natD rest)), .no]) (a := .fz (.lst (natD rest))) (b := .fz (.int ((sz : Nat) - 1 : Int))) rfl rfl rfl rfl (by show 2 < 8; decide) (by show 4 < 8; decide)
      rw [e1] at k4
      have ed : natD (dr ++ [k]) = natD dr ++ [.int (k : Nat)] := by unfold natD; rw [List.map_append]; rfl
      refine ⟨.fz (.lst ((latePs rows).map prD)), .fz (.lst (natD rest)), .fz (.lst (natD rest)), .inr rfl, .inr rfl, ?_⟩
      unfold fwE
      rw [ed]
      refine seq_ok' s1 ((ifS_t (and_t g1 g2)).trans (seq_ok' k3 k4))
    · have hst : Mt.stepG (nuOf rows) (dr, kp, sz) k = (dr, kp, sz) := by
        unfold Mt.stepG
        rw [if_neg (fun z => hs z.2)]
      rw [hst]
      rw [decide_eq_false hs] at g2
      exact ⟨_, _, _, .inr rfl, .inr rfl, seq_ok' s1 (ifS_nx (and_t g1 g2))⟩
  · have hst : Mt.stepG (nuOf rows) (dr, kp, sz) k = (dr, kp, sz) := by
      unfold Mt.stepG
      rw [if_neg (fun z => hz z.1)]
    rw [hst]
    rw [decide_eq_false hz] at g1
    exact ⟨_, _, _, hP, .inr rfl, seq_ok' s1 (ifS_nx (and_f g1))⟩
theorem step_keeps (nu : List Nat → Nat) (s : Mt.GS) (k : Nat) : (∀ x ∈ (Mt.stepG nu s k).2.1, x ∈ s.2.1) ∧ (s.2.1.Nodup → (Mt.stepG nu s k).2.1.Nodup) ∧ (Mt.stepG nu s k).1.length ≤ s.1.length + 1 := by
  unfold Mt.stepG
  split
  · exact ⟨fun x hx => (List.mem_filter.mp hx).1, fun h => h.filter _, by simp⟩
  · exact ⟨fun x hx => hx, fun h => h, by omega⟩
theorem floop_ex {names : List Str} {w : Int} {rows : List Row} (h : MapOk names w rows) {km : OV} : ∀ (is : List Nat) (s : Mt.GS) (P K o5 o6 : OV), s.2.1.Nodup → (∀ x ∈ s.2.1, x < rows.length) → s.1.length + is.length ≤ 1000 → LO P ((latePs rows).map prD) → LO K (natD s.2.1) →
    ∃ P' K' o5' o6', floop (tnm 5) fwB (natD is) (fwE km P K s.1 s.2.2 o5 o6) = some (.ok .nx, fwE km P' K' (is.foldl (Mt.stepG (nuOf rows)) s).1 (is.foldl (Mt.stepG (nuOf rows)) s).2.2 o5' o6')
  | [], s, P, K, o5, o6, _, _, _, _, _ => ⟨P, K, o5, o6, rfl⟩
  | k :: is, s, P, K, o5, o6, nd, hlt, hl, hP, hK => by
    rw [List.length_cons] at hl
    obtain ⟨P1, K1, o61, hP1, hK1, e1⟩ := fstep_ex h (km := km) (o6 := o6) (k := k) nd hlt (by omega) hP hK
    obtain ⟨k1, k2, k3⟩ := step_keeps (nuOf rows) s k
    obtain ⟨P2, K2, o5', o6', e2⟩ := floop_ex h (km := km) is (Mt.stepG (nuOf rows) s k) P1 K1 (.fz (.int (k : Nat))) o61 (k2 nd) (fun x hx => hlt x (k1 x hx)) (by omega) hP1 hK1
    refine ⟨P2, K2, o5', o6', ?_⟩
    have g1 : tnm 5 (D.int (k : Nat)) (fwE km P K s.1 s.2.2 o5 o6) = some (fwE km P K s.1 s.2.2 (.fz (.int (k : Nat))) o6) := rfl
    show floop _ _ (D.int (k : Nat) :: natD is) _ = _
    rw [fl_one g1 e1]
    exact e2
def gs0 (rows : List Row) : Mt.GS := ([], List.range rows.length, nuOf rows (List.range rows.length))
def gsEnd (rows : List Row) : Mt.GS := (List.range rows.length).foldl (Mt.stepG (nuOf rows)) (gs0 rows)
/-- the first of the fewest -/
def fwR (rows : List Row) : List Nat := (gsEnd rows).1
theorem fewest_ex {names : List Str} {w : Int} {rows : List Row} (h : MapOk names w rows) : F_fewest_to_drop [kmO names w rows] = some (.ok (.ol (natD (fwR rows))), [kmO names w rows]) := by
  have h9 := h.len
  have kb : ∀ o1 o2 o3 o4 o5 o6 o7 : OV, propM 0 F_KeyMap_bindings (opl 0) [kmO names w rows, o1, o2, o3, o4, o5, o6, o7] = some (.ok (.fz (.tup (rows.map Row.d))), [kmO names w rows, o1, o2, o3, o4, o5, o6, o7]) := fun _ _ _ _ _ _ _ => prop_ok rfl (bind_ex names w rows) rfl
  have kl : ∀ o1 o2 o3 o4 o5 o6 o7 : OV, callP lenN (consO (tmp (propM 0 F_KeyMap_bindings (opl 0))) (Kv.ret [])) [kmO names w rows, o1, o2, o3, o4, o5, o6, o7] = some (.ok (.fz (.int (rows.length : Nat))), [kmO names w rows, o1, o2, o3, o4, o5, o6, o7]) := fun _ _ _ _ _ _ _ => call1_ok (tmp_ok (kb _ _ _ _ _ _ _)) rfl (by rw [show lenN [(OV.fz (.tup (rows.map Row.d))).dat] = some (.fz (.int (rows.map Row.d).length)) from lenN_tup _, List.length_map])
  have kp : callM F_late_pairs (consO (opl 0) (Kv.ret [])) [kmO names w rows, .no, .no, .no, .no, .no, .no, .no] = some (.ok (.ol ((latePs rows).map prD)), [kmO names w rows, .no, .no, .no, .no, .no, .no, .no]) := call_ok' (ods := [.pl 0]) rfl rfl (pairs_ex h) rfl
  have s1 := par_ok (i := 1) (j := 2) kp (lrg_ok (kl _ _ _ _ _ _ _) (by omega)) rfl rfl (by show 1 < 8; decide) (by show 2 < 8; decide)
  have hnd : (List.range rows.length).Nodup := List.nodup_range
  have hlt : ∀ x ∈ List.range rows.length, x < rows.length := fun x hx => List.mem_range.mp hx
  have k2 : newS 2 [kmO names w rows, .ol ((latePs rows).map prD), .ol (keptL rows.length), .no, .no, .no, .no, .no] = _ := new2_ex h hnd hlt (.inl rfl) (.inl rfl)
  have s2 := par_ok (i := 3) (j := 4) (ma := lstM (Kv.ret [])) (a := .ol []) (ρ := [kmO names w rows, .ol ((latePs rows).map prD), .ol (keptL rows.length), .no, .no, .no, .no, .no]) rfl k2 rfl rfl (by show 3 < 8; decide) (by show 4 < 8; decide)
  obtain ⟨P', K', o5', o6', ef⟩ := floop_ex h (km := kmO names w rows) (List.range rows.length) (gs0 rows) (.fz (.lst ((latePs rows).map prD))) (.fz (.lst (keptL rows.length))) .no .no hnd hlt (by show 0 + _ ≤ _; rw [List.length_range]; omega) (.inr rfl) (.inr rfl)
  have hit : rng1M (consO (tmp (callP lenN (consO (tmp (propM 0 F_KeyMap_bindings (opl 0))) (Kv.ret [])))) (Kv.ret [])) (fwE (kmO names w rows) (.fz (.lst ((latePs rows).map prD))) (.fz (.lst (keptL rows.length))) [] (gs0 rows).2.2 .no .no) = some (.ok (natD (List.range rows.length)), fwE (kmO names w rows) (.fz (.lst ((latePs rows).map prD))) (.fz (.lst (keptL rows.length))) [] (gs0 rows).2.2 .no .no) := by
    have := rng1_ok (ms := consO (tmp (callP lenN (consO (tmp (propM 0 F_KeyMap_bindings (opl 0))) (Kv.ret [])))) (Kv.ret [])) (n := (rows.length : Nat)) (ods := [.tv (.fz (.int (rows.length : Nat)))]) (consO_ok (tmp_ok (kl (.fz (.lst ((latePs rows).map prD))) (.fz (.lst (keptL rows.length))) (.ol []) (.fz (.int ((gs0 rows).2.2 : Nat))) .no .no .no)) rfl) rfl (by omega) (by omega)
    rw [Int.toNat_natCast] at this
    exact this
  unfold F_fewest_to_drop
  have body : m_fewest_to_drop [kmO names w rows, .no, .no, .no, .no, .no, .no, .no] = some (.ok (.rt (.ol (natD (fwR rows)))), (fwE (kmO names w rows) P' K' (fwR rows) (gsEnd rows).2.2 o5' o6').set 3 .no) := by
    unfold m_fewest_to_drop
    refine seq_ok' s1 (seq_ok' s2 (seq_ok' ((for_fl hit).trans ef) (ret_ok rfl)))
  exact (fnR_ok (n := 8) (np := 1) (kp := [0]) (m := m_fewest_to_drop) (os := [kmO names w rows]) rfl body (by show 1 ≤ 8; decide)).trans rfl
theorem fw_opt {names : List Str} {w : Int} {rows : List Row} (h : MapOk names w rows) : (fwR rows).Pairwise (· < ·) ∧ Mt.Opt (lateB rows) rows.length (nuOf rows (List.range rows.length)) (fwR rows) ∧ ∀ T, Mt.Opt (lateB rows) rows.length (nuOf rows (List.range rows.length)) T → Mt.First T (fwR rows) rows.length ∨ ∀ x, x ∈ T ↔ x ∈ fwR rows := by
  have hU := nu_is h (List.nodup_range (n := rows.length)) (fun x hx => List.mem_range.mp hx)
  have key : ∀ k, k ≤ rows.length → Mt.GI (lateB rows) rows.length (nuOf rows (List.range rows.length)) k ((List.range k).foldl (Mt.stepG (nuOf rows)) (gs0 rows)) := fun k => by
    induction k with
    | zero => intro _; exact Mt.gi_start hU
    | succ k ih =>
      intro hk
      have i := ih (by omega)
      rw [List.range_succ, List.foldl_append]
      refine Mt.stepG_ok i (by omega) hU (nu_is h ?_ ?_)
      · rw [i.kept]; exact (List.nodup_range.filter _).filter _
      · intro x hx
        rw [i.kept] at hx
        exact List.mem_range.mp (List.mem_filter.mp (List.mem_filter.mp hx).1).1
  have i := key rows.length (Nat.le_refl _)
  have := Mt.gi_end i
  exact ⟨i.up, this.1, this.2⟩
end K3
/-! find_chains. -/
namespace K3
open PySem hiding Env
open L2 Kv
abbrev wC : M Bool := tob (bin2 inF (tmp (bin2 (oe ixF itemD) (opl 6) (tmp (co (.int (-1)))))) (opl 3))
abbrev wB : M Fl := dropM (appM (opl 6) (consD (bin2 (oe ixF itemD) (opl 3) (tmp (bin2 (oe ixF itemD) (opl 6) (tmp (co (.int (-1))))))) (Kv.ret [])))
def fE (km : OV) (kept : List D) (inn out : AL) (chains : List D) (o5 : OV) (chain : List D) (o7 o8 : OV) : Env := [km, .fz (.lst kept), alO inn, alO out, .ol chains, o5, .ol chain, o7, o8]
theorem chain_ex {names : List Str} {w : Int} {rows : List Row} (h : MapOk names w rows) {km : OV} {kept : List D} {inn : AL} {S : Mt.MP} (hS : ∀ x o, Mt.get S x = some o → lateB rows x o = true) {chains : List D} {o5 o7 o8 : OV} : ∀ (k : Nat) (cs : List Nat) (l : Nat), 6 ≤ k + klen rows l → cs.length + k ≤ 1000 →
    wloop wC wB (k + 1) (fE km kept inn (alI S) chains o5 (natD (cs ++ [l])) o7 o8) = some (.ok .nx, fE km kept inn (alI S) chains o5 (natD (cs ++ Mt.up (Mt.get S) k l)) o7 o8)
  | 0, cs, l, hk, _ => by
    have := klen_le h l
    omega
  | k + 1, cs, l, hk, hc => by
    have k1 : bin2 (oe ixF itemD) (opl 6) (tmp (co (.int (-1)))) (fE km kept inn (alI S) chains o5 (natD (cs ++ [l])) o7 o8) = some (.ok (.fz (.int (l : Nat))), fE km kept inn (alI S) chains o5 (natD (cs ++ [l])) o7 o8) := bin2_ok rfl rfl rfl rfl (ix_last cs l)
    have k2 : wC (fE km kept inn (alI S) chains o5 (natD (cs ++ [l])) o7 o8) = some (.ok (alGet (alI S) l).isSome, fE km kept inn (alI S) chains o5 (natD (cs ++ [l])) o7 o8) := tob_ok (bin2_ok (tmp_ok k1) rfl rfl rfl (al_in (alI S) l))
    rw [Mt.up_succ]
    rw [alI_get] at k2
    cases hg : Mt.get S l with
    | none =>
      rw [hg] at k2
      unfold wloop
      rw [bnd_ok k2]
      rfl
    | some j =>
      rw [hg] at k2
      have hlt : klen rows l < klen rows j := klen_lt h (hS l j hg)
      have e := chain_ex h (km := km) (kept := kept) (inn := inn) hS (chains := chains) (o5 := o5) (o7 := o7) (o8 := o8) k (cs ++ [l]) j (by omega) (by simp; omega)
      have k3 : wB (fE km kept inn (alI S) chains o5 (natD (cs ++ [l])) o7 o8) = some (.ok .nx, fE km kept inn (alI S) chains o5 (natD ((cs ++ [l]) ++ [j])) o7 o8) := by
        have hm : mutO (appG (.int (j : Nat))) (.pl 6) (fE km kept inn (alI S) chains o5 (natD (cs ++ [l])) o7 o8) = some (fE km kept inn (alI S) chains o5 (natD (cs ++ [l]) ++ [.int (j : Nat)]) o7 o8) := mut_app rfl (by unfold natD; simp; omega)
        have en : natD ((cs ++ [l]) ++ [j]) = natD (cs ++ [l]) ++ [.int (j : Nat)] := by unfold natD; rw [List.map_append]; rfl
        rw [en]
        exact drop_ok (app_ok rfl rfl (consD_ok (bin2_ok rfl (tmp_ok k1) rfl rfl (al_ix (by rw [alI_get, hg]; rfl))) rfl rfl) hm)
      unfold wloop
      rw [bnd_ok k2]
      simp only [Option.map_some, Option.isSome_some, if_true]
      rw [bnd_ok k3]
      refine Eq.trans e ?_
      simp
theorem outers_ex {km o4 o5 o6 : OV} {kept : List D} {M : Mt.MP} (hl : M.length ≤ 1000) : dcItM 2 [8, 7] (ttp [8, 7]) (Kv.ret true) (sl 7) (sl 8) [km, .fz (.lst kept), alO (alI M), .no, o4, o5, o6, .no, .no] = some (.ok (alO (alI (Mt.inv [] M))), [km, .fz (.lst kept), alO (alI M), .no, o4, o5, o6, .no, .no]) := by
  obtain ⟨out, ρ', e, l, acc, hds, hal, hinv, hρ⟩ := dl_ok (vs := [8, 7]) (g := ttp [8, 7]) (c := Kv.ret true) (ek := sl 7) (ev := sl 8)
    (I := fun ds al ρ => ∃ (l acc : Mt.MP), ds = (alI l).map (fun p => D.tup [.int (p.1 : Nat), p.2]) ∧ al = alI acc ∧ Mt.inv acc l = Mt.inv [] M ∧ wipeE ρ [8, 7] = [km, .fz (.lst kept), .no, .no, o4, o5, o6, .no, .no])
    (fun d ds al ρ hI => by
      obtain ⟨l, acc, hds, rfl, hinv, hρ⟩ := hI
      cases l with
      | nil => cases hds
      | cons p l =>
        obtain ⟨rfl, rfl⟩ := List.cons.inj hds
        obtain ⟨o, x⟩ := p
        rw [hρ]
        refine ⟨[km, .fz (.lst kept), .no, .no, o4, o5, o6, .fz (.int (x : Nat)), .fz (.int (o : Nat))], x, .int (o : Nat), _, _, _, rfl, rfl, rfl, rfl, rfl, l, Mt.put acc x o, rfl, ?_, hinv, rfl⟩
        exact alI_put acc x o)
    (ds := itemL (alK (alI M)) (alV (alI M))) (al := []) (ρ := [km, .fz (.lst kept), .no, .no, o4, o5, o6, .no, .no]) ⟨M, [], itemL_al (alI M), rfl, rfl, rfl⟩
  have hl0 : l = [] := by cases l with
    | nil => rfl
    | cons => cases hds
  subst hl0
  have hinv : acc = Mt.inv [] M := hinv
  subst hinv
  subst hal
  have := dcIt_ok (i := 2) (ρ := [km, .fz (.lst kept), alO (alI M), .no, o4, o5, o6, .no, .no]) (ks := alK (alI M)) (es := alV (alI M)) rfl (by unfold alK alI; rw [List.length_map, List.length_map]; omega) e
  rw [this, hρ]
  rfl
def headsOf (n : Nat) (M : Mt.MP) : List Nat := (List.range n).filter fun h => (Mt.get M h).isNone
def chainsOf (n : Nat) (M : Mt.MP) : List (List Nat) := (headsOf n M).map (Mt.up (Mt.get (Mt.inv [] M)) 6)
theorem up_len (S : Nat → Option Nat) : ∀ (f h : Nat), (Mt.up S f h).length ≤ f + 1
  | 0, h => by simp [Mt.up]
  | f + 1, h => by
    rw [Mt.up_succ]
    cases S h with
    | none => simp
    | some o => have := up_len S f o; simp; omega
theorem chains_ex {names : List Str} {w : Int} {rows : List Row} (h : MapOk names w rows) : ∃ M : Mt.MP, Mt.runM (outs (latePs rows) (List.range rows.length)) 12 (List.range rows.length) [] = some M ∧ Mt.Res (outs (latePs rows) (List.range rows.length)) (List.range rows.length) M ∧ F_find_chains [kmO names w rows] = some (.ok (.ol (chD (chainsOf rows.length M))), [kmO names w rows]) := by
  have h9 := h.len
  have hnd : (List.range rows.length).Nodup := List.nodup_range
  have hlt : ∀ x ∈ List.range rows.length, x < rows.length := fun x hx => List.mem_range.mp hx
  have kb : propM 0 F_KeyMap_bindings (opl 0) [kmO names w rows, .no, .no, .no, .no, .no, .no, .no, .no] = some (.ok (.fz (.tup (rows.map Row.d))), [kmO names w rows, .no, .no, .no, .no, .no, .no, .no, .no]) := prop_ok rfl (bind_ex names w rows) rfl
  have kl : callP lenN (consO (tmp (propM 0 F_KeyMap_bindings (opl 0))) (Kv.ret [])) [kmO names w rows, .no, .no, .no, .no, .no, .no, .no, .no] = some (.ok (.fz (.int (rows.length : Nat))), [kmO names w rows, .no, .no, .no, .no, .no, .no, .no, .no]) := call1_ok (tmp_ok kb) rfl (by rw [show lenN [(OV.fz (.tup (rows.map Row.d))).dat] = some (.fz (.int (rows.map Row.d).length)) from lenN_tup _, List.length_map])
  have k0 : lrgM (callP lenN (consO (tmp (propM 0 F_KeyMap_bindings (opl 0))) (Kv.ret []))) [kmO names w rows, .no, .no, .no, .no, .no, .no, .no, .no] = some (.ok (.ol (keptL rows.length)), [kmO names w rows, .no, .no, .no, .no, .no, .no, .no, .no]) := lrg_ok kl (by omega)
  obtain ⟨pr, M, eM, res, hM9, em⟩ := match_ex h hnd hlt
  refine ⟨M, eM, res, ?_⟩
  have hS : ∀ x o, Mt.get (Mt.inv [] M) x = some o → lateB rows x o = true := fun x o e => (Mt.edge_late (outs_ok (List.range rows.length)) res ((Mt.inv_iff res x o).mp e)).2.2
  have kp : callM F_late_pairs (consO (opl 0) (Kv.ret [])) [kmO names w rows, .ol (keptL rows.length), .no, .no, .no, .no, .no, .no, .no] = some (.ok (.ol ((latePs rows).map prD)), [kmO names w rows, .ol (keptL rows.length), .no, .no, .no, .no, .no, .no, .no]) := call_ok' (ods := [.pl 0]) rfl rfl (pairs_ex h) rfl
  have kn : newM 1 2 F_Matching___init__ (consO (tmp (callM F_late_pairs (consO (opl 0) (Kv.ret [])))) (consO (opl 1) (Kv.ret []))) [kmO names w rows, .ol (keptL rows.length), .no, .no, .no, .no, .no, .no, .no] = some (.ok (selfO pr (alI M)), [kmO names w rows, .fz (.lst (keptL rows.length)), .no, .no, .no, .no, .no, .no, .no]) := new_ok (ods := [.tv (.ol ((latePs rows).map prD)), .pl 1]) (consO_ok (tmp_ok kp) rfl) rfl (em _ _ (.inl rfl) (.inl rfl)) rfl
  have kf : fldE 1 1 (newM 1 2 F_Matching___init__ (consO (tmp (callM F_late_pairs (consO (opl 0) (Kv.ret [])))) (consO (opl 1) (Kv.ret [])))) [kmO names w rows, .ol (keptL rows.length), .no, .no, .no, .no, .no, .no, .no] = some (.ok (alO (alI M)), [kmO names w rows, .fz (.lst (keptL rows.length)), .no, .no, .no, .no, .no, .no, .no]) := by
    unfold fldE
    rw [bnd_ok kn]
    rfl
  have eo := outers_ex (km := kmO names w rows) (o4 := .no) (o5 := .no) (o6 := .no) (kept := keptL rows.length) (M := M) (by omega)
  generalize hSm : Mt.inv [] M = S at eo hS
  have hloop : ∃ (o5 o6 : OV), Kv.forM (itM (sl 1)) (tnm 5) (ifS (tob (bin2 ninF (opl 5) (opl 2))) (seqM (setN 6 (lstM (consD (sl 5) (Kv.ret [])))) (seqM (whileM wC wB) (dropM (appM (opl 4) (consD (sl 6) (Kv.ret [])))))) (Kv.ret .nx)) [kmO names w rows, .fz (.lst (keptL rows.length)), alO (alI M), alO (alI S), .ol [], .no, .no, .no, .no] = some (.ok .nx, [kmO names w rows, .fz (.lst (keptL rows.length)), alO (alI M), alO (alI S), .ol (chD ((headsOf rows.length M).map (Mt.up (Mt.get S) 6))), o5, o6, .no, .no]) := by
    generalize kmO names w rows = km
    have key : ∀ (ks : List Nat) (css : List (List Nat)) (o5 o6 : OV), css.length + ks.length ≤ 1000 → ∃ o5' o6', floop (tnm 5) (ifS (tob (bin2 ninF (opl 5) (opl 2))) (seqM (setN 6 (lstM (consD (sl 5) (Kv.ret [])))) (seqM (whileM wC wB) (dropM (appM (opl 4) (consD (sl 6) (Kv.ret [])))))) (Kv.ret .nx)) (natD ks) [km, .fz (.lst (keptL rows.length)), alO (alI M), alO (alI S), .ol (chD css), o5, o6, .no, .no] = some (.ok .nx, [km, .fz (.lst (keptL rows.length)), alO (alI M), alO (alI S), .ol (chD (css ++ (ks.filter fun h => (Mt.get M h).isNone).map (Mt.up (Mt.get S) 6))), o5', o6', .no, .no]) := fun ks => by
      induction ks with
      | nil => intro css o5 o6 _; exact ⟨o5, o6, by simp; rfl⟩
      | cons i ks ih =>
        intro css o5 o6 hl
        rw [List.length_cons] at hl
        have g1 : tnm 5 (D.int (i : Nat)) [km, .fz (.lst (keptL rows.length)), alO (alI M), alO (alI S), .ol (chD css), o5, o6, .no, .no] = some [km, .fz (.lst (keptL rows.length)), alO (alI M), alO (alI S), .ol (chD css), .fz (.int (i : Nat)), o6, .no, .no] := rfl
        have k1 : tob (bin2 ninF (opl 5) (opl 2)) [km, .fz (.lst (keptL rows.length)), alO (alI M), alO (alI S), .ol (chD css), .fz (.int (i : Nat)), o6, .no, .no] = some (.ok (Mt.get M i).isNone, [km, .fz (.lst (keptL rows.length)), alO (alI M), alO (alI S), .ol (chD css), .fz (.int (i : Nat)), o6, .no, .no]) := by
          have e : (Mt.get M i).isNone = !(alGet (alI M) i).isSome := by
            rw [alI_get]
            cases Mt.get M i <;> rfl
          rw [e]
          exact tob_ok (bin2_ok rfl rfl rfl rfl (al_nin (alI M) i))
        show ∃ o5' o6', floop _ _ (D.int (i : Nat) :: natD ks) _ = _
        cases hg : (Mt.get M i).isNone with
        | false =>
          rw [hg] at k1
          obtain ⟨o5', o6', e⟩ := ih css (.fz (.int (i : Nat))) o6 (by omega)
          refine ⟨o5', o6', ?_⟩
          rw [fl_one g1 (ifS_nx k1), List.filter_cons_of_neg (by rw [hg]; decide)]
          exact e
        | true =>
          rw [hg] at k1
          obtain ⟨o5', o6', e⟩ := ih (css ++ [Mt.up (Mt.get S) 6 i]) (.fz (.int (i : Nat))) (.fz (.lst (natD (Mt.up (Mt.get S) 6 i)))) (by simp; omega)
          refine ⟨o5', o6', ?_⟩
          have kl1 : lstM (consD (sl 5) (Kv.ret [])) [km, .fz (.lst (keptL rows.length)), alO (alI M), alO (alI S), .ol (chD css), .fz (.int (i : Nat)), o6, .no, .no] = some (.ok (.ol [.int (i : Nat)]), [km, .fz (.lst (keptL rows.length)), alO (alI M), alO (alI S), .ol (chD css), .fz (.int (i : Nat)), o6, .no, .no]) := lst_ok (consD_ok rfl rfl rfl) (by decide : 1 ≤ 100000)
          have ew := chain_ex h (km := km) (kept := keptL rows.length) (inn := alI M) hS (chains := chD css) (o5 := .fz (.int (i : Nat))) (o7 := .no) (o8 := .no) 6 [] i (by omega) (by simp)
          have ew2 : whileM wC wB [km, .fz (.lst (keptL rows.length)), alO (alI M), alO (alI S), .ol (chD css), .fz (.int (i : Nat)), .ol [.int (i : Nat)], .no, .no] = some (.ok .nx, fE km (keptL rows.length) (alI M) (alI S) (chD css) (.fz (.int (i : Nat))) (natD (Mt.up (Mt.get S) 6 i)) .no .no) := while_ok ew
          have hcl : (chD css).length < 1000000 := by unfold chD; rw [List.length_map]; omega
          have hm : mutO (appG (.lst (natD (Mt.up (Mt.get S) 6 i)))) (.pl 4) [km, .fz (.lst (keptL rows.length)), alO (alI M), alO (alI S), .ol (chD css), .fz (.int (i : Nat)), .fz (.lst (natD (Mt.up (Mt.get S) 6 i))), .no, .no] = some [km, .fz (.lst (keptL rows.length)), alO (alI M), alO (alI S), .ol (chD css ++ [.lst (natD (Mt.up (Mt.get S) 6 i))]), .fz (.int (i : Nat)), .fz (.lst (natD (Mt.up (Mt.get S) 6 i))), .no, .no] := mut_app rfl hcl
          have k5 : appM (opl 4) (consD (sl 6) (Kv.ret [])) (fE km (keptL rows.length) (alI M) (alI S) (chD css) (.fz (.int (i : Nat))) (natD (Mt.up (Mt.get S) 6 i)) .no .no) = some (.ok (.fz .non), [km, .fz (.lst (keptL rows.length)), alO (alI M), alO (alI S), .ol (chD css ++ [.lst (natD (Mt.up (Mt.get S) 6 i))]), .fz (.int (i : Nat)), .fz (.lst (natD (Mt.up (Mt.get S) 6 i))), .no, .no]) := app_ok rfl rfl (consD_ok rfl rfl rfl) hm
          have ec : chD (css ++ [Mt.up (Mt.get S) 6 i]) = chD css ++ [.lst (natD (Mt.up (Mt.get S) 6 i))] := by unfold chD; rw [List.map_append]; rfl
          have b1 := (ifS_t (m1 := seqM (setN 6 (lstM (consD (sl 5) (Kv.ret [])))) (seqM (whileM wC wB) (dropM (appM (opl 4) (consD (sl 6) (Kv.ret [])))))) (m2 := Kv.ret .nx) k1).trans (seq_ok' (w_set (i := 6) kl1 rfl (by show 6 < 9; decide)) (seq_ok' ew2 (drop_ok k5)))
          rw [fl_one g1 b1, List.filter_cons_of_pos (p := fun h => (Mt.get M h).isNone) (a := i) hg, List.map_cons]
          rw [ec] at e
          rw [List.append_assoc] at e
          exact e
    obtain ⟨o5', o6', e⟩ := key (List.range rows.length) [] .no .no (by rw [List.length_range]; simp; omega)
    refine ⟨o5', o6', ?_⟩
    exact (for_fl (ds := natD (List.range rows.length)) rfl).trans e
  obtain ⟨o5, o6, efor⟩ := hloop
  have s1 := w_set (i := 1) k0 rfl (by decide : 1 < 9)
  have s2 := w_set (i := 2) kf rfl (by decide : 2 < 9)
  have s3 := w_set (i := 3) eo rfl (by decide : 3 < 9)
  unfold F_find_chains
  have body : m_find_chains [kmO names w rows, .no, .no, .no, .no, .no, .no, .no, .no] = some (.ok (.rt (.ol (chD (chainsOf rows.length M)))), [kmO names w rows, .fz (.lst (keptL rows.length)), alO (alI M), alO (alI S), .no, o5, o6, .no, .no]) := by
    unfold m_find_chains chainsOf
    rw [hSm]
    exact seq_ok' s1 (seq_ok' s2 (seq_ok' s3 (seq_ok' rfl (seq_ok' efor (ret_ok rfl)))))
  exact (fnR_ok (n := 9) (np := 1) (kp := [0]) (m := m_find_chains) (os := [kmO names w rows]) rfl body (by show 1 ≤ 9; decide)).trans rfl
end K3
/-! What the judge says. -/
namespace K3
open PySem hiding Env
open L2 Kv
theorem sort_range {l : List Nat} {n : Nat} (nd : l.Nodup) (hm : ∀ x, x ∈ l ↔ x < n) : sortI (natI l) = natI (List.range n) ∧ l.length = n := by
  have hp : l.Perm (List.range n) := (List.perm_ext_iff_of_nodup nd List.nodup_range).mpr fun x => by rw [hm, List.mem_range]
  refine ⟨?_, by rw [hp.length_eq, List.length_range]⟩
  have h1 : (sortI (natI l)).Perm (natI (List.range n)) := (sortI_perm _).trans (hp.map _)
  refine PySem.W.ksm_same h1 (sortI_rise _) ?_
  unfold natI
  rw [List.pairwise_map]
  refine List.pairwise_lt_range.imp fun {a b} h => ?_
  omega
theorem judge_good {rows : List Row} {css : List (List Nat)} (hne : ∀ cs ∈ css, cs ≠ []) (nd : css.flatten.Nodup) (hm : ∀ x, x ∈ css.flatten ↔ x < rows.length) (hok : ∀ cs ∈ css, okC rows cs = true) : judgeV rows css = .int ((rows.length : Nat) - (css.length : Nat) : Int) := by
  obtain ⟨h1, h2⟩ := sort_range nd hm
  unfold judgeV
  have e0 : (css.map fun cs => !decide (cs = [])).all id = true := by
    rw [List.all_eq_true]
    intro b hb
    obtain ⟨cs, hcs, rfl⟩ := List.mem_map.mp hb
    simp [hne cs hcs]
  rw [e0, if_neg (by decide), if_pos h1, if_pos (List.all_eq_true.mpr hok), h2]
def ones (ks : List Nat) : List (List Nat) := ks.map fun k => [k]
theorem ones_flat (ks : List Nat) : (ones ks).flatten = ks := by
  unfold ones
  induction ks with
  | nil => rfl
  | cons a ks ih => rw [List.map_cons, List.flatten_cons, ih]; rfl
theorem ones_ok (rows : List Row) (ks : List Nat) : (∀ cs ∈ ones ks, cs ≠ []) ∧ ∀ cs ∈ ones ks, okC rows cs = true := by
  refine ⟨fun cs h => ?_, fun cs h => ?_⟩ <;> (obtain ⟨k, _, rfl⟩ := List.mem_map.mp h)
  · simp
  · rfl
theorem judge_ones (rows : List Row) : judgeV rows (ones (List.range rows.length)) = .int 0 := by
  rw [judge_good (ones_ok rows _).1 (by rw [ones_flat]; exact List.nodup_range) (by rw [ones_flat]; intro x; exact List.mem_range) (ones_ok rows _).2]
  have : (ones (List.range rows.length)).length = rows.length := by unfold ones; rw [List.length_map, List.length_range]
  rw [this, Int.sub_self]
theorem judge_miss {rows : List Row} {ks : List Nat} (h : ks.length ≠ rows.length) : judgeV rows (ones ks) = .non := by
  unfold judgeV
  split
  · rfl
  · rw [if_neg]
    intro e
    rw [ones_flat] at e
    have h1 := congrArg List.length e
    have h2 := (sortI_perm (natI ks)).length_eq
    rw [h1] at h2
    unfold natI at h2
    rw [List.length_map, List.length_map, List.length_range] at h2
    exact h h2.symm
theorem chains_good {names : List Str} {w : Int} {rows : List Row} (h : MapOk names w rows) {M : Mt.MP} (e : Mt.runM (outs (latePs rows) (List.range rows.length)) 12 (List.range rows.length) [] = some M) (res : Mt.Res (outs (latePs rows) (List.range rows.length)) (List.range rows.length) M) :
    judgeV rows (chainsOf rows.length M) = .int ((fwR rows).length : Nat) ∧ CB (chainsOf rows.length M) ∧ ∀ cs ∈ chainsOf rows.length M, okC rows cs = true := by
  have h9 := h.len
  obtain ⟨p1, p2, p3⟩ := Mt.chains_perm (S := Mt.get (Mt.inv [] M)) (Mt.inv_iff res) (late_ok h) (outs_ok (List.range rows.length)) res (B := 5) (f := 6) (klen_le h) (by decide)
  have hok : ∀ cs ∈ chainsOf rows.length M, okC rows cs = true := fun cs hcs => by
    obtain ⟨b, hb, rfl⟩ := List.mem_map.mp hcs
    unfold okC
    rw [List.all_eq_true]
    intro p hp
    have := Mt.up_adj (Mt.get (Mt.inv [] M)) 6 b p hp
    exact (Mt.edge_late (outs_ok (List.range rows.length)) res ((Mt.inv_iff res p.1 p.2).mp this)).2.2
  have hne : ∀ cs ∈ chainsOf rows.length M, cs ≠ [] := fun cs hcs => by
    obtain ⟨b, hb, rfl⟩ := List.mem_map.mp hcs
    obtain ⟨t, ht⟩ := Mt.up_head (Mt.get (Mt.inv [] M)) 6 b
    rw [ht]
    simp
  have hlen : (chainsOf rows.length M).length + M.length = rows.length := by
    unfold chainsOf headsOf
    rw [List.length_map]
    exact p3
  refine ⟨?_, ⟨by omega, fun cs hcs => ?_⟩, hok⟩
  · rw [judge_good hne p1 p2 hok]
    have h4 := (fw_opt h).2.1.2.2.2
    have h5 : nuOf rows (List.range rows.length) = M.length := by unfold nuOf; rw [e]; rfl
    have : ((rows.length : Nat) - ((chainsOf rows.length M).length : Nat) : Int) = ((fwR rows).length : Nat) := by omega
    rw [this]
  · obtain ⟨b, hb, rfl⟩ := List.mem_map.mp hcs
    have := up_len (Mt.get (Mt.inv [] M)) 6 b
    omega
end K3
/-! Equality; the law's own late. -/
namespace K3
open PySem hiding Env
open L2 Kv
inductive SL : Nat → D → Prop
  | str (n : Nat) {z : Str} (h : PyData.strOk z = true) : SL n (.str z)
  | int (n : Nat) (i : Int) : SL n (.int i)
  | lst {n : Nat} {xs : List D} (h : ∀ d ∈ xs, SL n d) : SL (n + 1) (.lst xs)
  | tup {n : Nat} {xs : List D} (h : ∀ d ∈ xs, SL n d) : SL (n + 1) (.tup xs)
def SLp (n : Nat) (d : D) : Prop := ∃ p, py d = some p ∧ p.canLay0 = true ∧ p.depth ≤ n ∧ PyData.eqv p p = true
theorem sls : ∀ {n : Nat} {xs : List D}, (∀ d ∈ xs, SLp n d) → ∃ ps, pys xs = some ps ∧ PyData.canLayAll0 ps = true ∧ PyData.depthAll ps ≤ n ∧ PyData.eqvAll ps ps = true
  | n, [], _ => ⟨[], by simp [pys], by simp [PyData.canLayAll0], by simp [PyData.depthAll], by simp [PyData.eqvAll]⟩
  | n, d :: xs, h => by
    obtain ⟨p, e1, e2, e3, e4⟩ := h d List.mem_cons_self
    obtain ⟨ps, f1, f2, f3, f4⟩ := sls (n := n) fun x hx => h x (List.mem_cons_of_mem _ hx)
    refine ⟨p :: ps, by simp [pys, e1, f1], by simp [PyData.canLayAll0, e2, f2], ?_, by simp [PyData.eqvAll, e4, f4]⟩
    simp only [PyData.depthAll]
    omega
theorem sl_py : ∀ (n : Nat) (d : D), SL n d → SLp n d := by
  intro n
  induction n with
  | zero =>
    intro d h
    cases h with
    | @str _ z h => exact ⟨.str z, by simp [py], by simpa [PyData.canLay0] using h, by simp [PyData.depth], by simp [PyData.eqv]⟩
    | int _ i => exact ⟨.int i, by simp [py], by simp [PyData.canLay0], by simp [PyData.depth], by simp [PyData.eqv]⟩
  | succ n ih =>
    intro d h
    cases h with
    | @str _ z h => exact ⟨.str z, by simp [py], by simpa [PyData.canLay0] using h, by simp [PyData.depth], by simp [PyData.eqv]⟩
    | int _ i => exact ⟨.int i, by simp [py], by simp [PyData.canLay0], by simp [PyData.depth], by simp [PyData.eqv]⟩
    | lst h =>
      obtain ⟨ps, f1, f2, f3, f4⟩ := sls fun x hx => ih x (h x hx)
      exact ⟨.list ps, by simp [py, f1], by simpa [PyData.canLay0] using f2, by simp only [PyData.depth]; omega, by simpa [PyData.eqv] using f4⟩
    | tup h =>
      obtain ⟨ps, f1, f2, f3, f4⟩ := sls fun x hx => ih x (h x hx)
      exact ⟨.tuple ps, by simp [py, f1], by simpa [PyData.canLay0] using f2, by simp only [PyData.depth]; omega, by simpa [PyData.eqv] using f4⟩
theorem eqP_same {d : D} (h : SL 10 d) : eqP d d = some true := by
  obtain ⟨p, e1, e2, e3, e4⟩ := sl_py 10 d h
  unfold eqP
  have s1 : SeqAt.shaped p = true := by
    simp [SeqAt.shaped, e2]
    omega
  rw [e1]
  simp only [Option.bind_some, s1, Bool.and_self, if_true, e4]
theorem ne_lst {xs : List D} (h : SL 10 (.lst xs)) : neF (.lst xs) (.lst xs) = some (.fz (.bl false)) := by
  show (none : Option OV).or (blO ((eqP (.lst xs) (.lst xs)).map not)) = _
  rw [eqP_same h]
  rfl
theorem ne_tup {xs : List D} (h : SL 10 (.tup xs)) : neF (.tup xs) (.tup xs) = some (.fz (.bl false)) := by
  show (none : Option OV).or (blO ((eqP (.tup xs) (.tup xs)).map not)) = _
  rw [eqP_same h]
  rfl
theorem eqP_nil {xs : List D} {ps : List PyData} (h : pys xs = some ps) (h1 : PyData.canLayAll0 ps = true) (h2 : PyData.depthAll ps ≤ 1) : eqP (.lst xs) (.lst []) = some (decide (xs = [])) := by
  unfold eqP
  have e1 : py (.lst xs) = some (.list ps) := by simp [py, h]
  have e2 : py (.lst []) = some (.list []) := by simp [py, pys]
  have s1 : SeqAt.shaped (.list ps) = true := by
    simp [SeqAt.shaped, PyData.canLay0, PyData.depth, h1]
    omega
  have s2 : SeqAt.shaped (.list []) = true := by simp [SeqAt.shaped, PyData.canLay0, PyData.depth, PyData.canLayAll0, PyData.depthAll]
  rw [e1, e2]
  simp only [Option.bind_some, s1, s2, Bool.and_self, if_true]
  cases xs with
  | nil =>
    simp [pys] at h
    subst h
    simp [PyData.eqv, PyData.eqvAll]
  | cons x xs =>
    cases ps with
    | nil =>
      simp only [pys] at h
      cases ex : py x with
      | none => simp [ex] at h
      | some p =>
        cases es : pys xs with
        | none => simp [ex, es] at h
        | some ps' => simp [ex, es] at h
    | cons p ps => simp [PyData.eqv, PyData.eqvAll]
theorem ne_nil {xs : List D} (h : ∀ d ∈ xs, SL 1 d) : neF (.lst xs) (.lst []) = some (.fz (.bl (!decide (xs = [])))) := by
  obtain ⟨ps, f1, f2, f3, _⟩ := sls fun x hx => sl_py 1 x (h x hx)
  show (none : Option OV).or (blO ((eqP (.lst xs) (.lst [])).map not)) = _
  rw [eqP_nil f1 f2 f3]
  rfl
theorem py_prD (p : Nat × Nat) : py (prD p) = some (.tuple [.int p.1, .int p.2]) := by simp [prD, py, pys]
theorem pys_prD : ∀ ps : List (Nat × Nat), pys (ps.map prD) = some (ps.map fun p => PyData.tuple [.int p.1, .int p.2])
  | [] => by simp [pys]
  | p :: ps => by simp [pys, py_prD, pys_prD ps]
theorem lay_prD : ∀ ps : List (Nat × Nat), PyData.canLayAll0 (ps.map fun p => PyData.tuple [.int p.1, .int p.2]) = true
  | [] => by simp [PyData.canLayAll0]
  | p :: ps => by
    have h2 := lay_prD ps
    simp [PyData.canLayAll0, PyData.canLay0, h2]
theorem depth_prD : ∀ ps : List (Nat × Nat), PyData.depthAll (ps.map fun p => PyData.tuple [.int p.1, .int p.2]) ≤ 1
  | [] => by simp [PyData.depthAll]
  | p :: ps => by
    have := depth_prD ps
    simp [PyData.depthAll, PyData.depth]
    omega
theorem nin_prD (a b : Nat) (ps : List (Nat × Nat)) : ninF (.tup [.int (a : Nat), .int (b : Nat)]) (.lst (ps.map prD)) = some (.fz (.bl (!decide ((a, b) ∈ ps)))) := by
  have e : (ps.map fun p => PyData.tuple [.int p.1, .int p.2]).any (fun z => PyData.eqv z (.tuple [.int a, .int b])) = decide ((a, b) ∈ ps) := by
    rw [List.any_map, Bool.eq_iff_iff, List.any_eq_true, decide_eq_true_iff]
    constructor
    · rintro ⟨p, hp, h⟩
      simp [PyData.eqv, PyData.eqvAll] at h
      obtain ⟨h1, h2⟩ := h
      have h1 : p.1 = a := by omega
      have h2 : p.2 = b := by omega
      rw [← h1, ← h2]
      exact hp
    · intro h
      exact ⟨_, h, by simp [PyData.eqv, PyData.eqvAll]⟩
  have s1 : SeqAt.shaped (.tuple [.int a, .int b]) = true := by simp [SeqAt.shaped, PyData.canLay0, PyData.canLayAll0, PyData.depth, PyData.depthAll]
  have s2 : SeqAt.shaped (.list (ps.map fun p => PyData.tuple [.int p.1, .int p.2])) = true := by
    have := depth_prD ps
    simp [SeqAt.shaped, PyData.canLay0, PyData.depth, lay_prD ps]
    omega
  have := py_prD (a, b)
  show inDeep true (prD (a, b)) (.lst (ps.map prD)) = _
  unfold inDeep
  simp only [this, Option.bind_some, pys_prD, s1, s2, Bool.and_self, if_true, e]
theorem eq_nil {xs : List D} (h : ∀ d ∈ xs, SL 1 d) : eqF (.lst xs) (.lst []) = some (.fz (.bl (decide (xs = [])))) := by
  obtain ⟨ps, f1, f2, f3, _⟩ := sls fun x hx => sl_py 1 x (h x hx)
  show (none : Option OV).or (blO (eqP (.lst xs) (.lst []))) = _
  rw [eqP_nil f1 f2 f3]
  rfl
theorem sl_prD (p : Nat × Nat) : SL 1 (prD p) := .tup fun d hd => by
  simp at hd
  rcases hd with rfl | rfl
  · exact .int _ _
  · exact .int _ _
theorem sl_prs (ps : List (Nat × Nat)) : SL 10 (.lst (ps.map prD)) := .lst fun d hd => by
  obtain ⟨p, _, rfl⟩ := List.mem_map.mp hd
  refine .tup fun d hd => ?_
  simp at hd
  rcases hd with rfl | rfl
  · exact .int _ _
  · exact .int _ _
theorem kstrOk {z : Str} (h : Word z 8) : PyData.strOk z = true := by
  unfold PyData.strOk
  rw [Array.all_eq_true]
  intro i hi
  have := h.let_ z.cps[i] (by simp)
  simp
  omega
theorem sl_row {names : List Str} (hn : Nm names) {r : Row} (h : RowOk names r) {n : Nat} : SL (n + 1) r.d := .tup fun d hd => by
  simp at hd
  rcases hd with rfl | rfl | rfl | rfl
  · exact .str _ (name_strOk hn h.mode)
  · exact .str _ (key_strOk h.keys)
  · exact .str _ (kstrOk (cmd_word h.cmd))
  · exact .str _ (name_strOk hn h.tgt)
theorem sl_rows {names : List Str} (hn : Nm names) {rs : List Row} (h : ∀ r ∈ rs, RowOk names r) : SL 10 (.tup (rs.map Row.d)) := .tup fun d hd => by
  obtain ⟨r, hr, rfl⟩ := List.mem_map.mp hd
  exact sl_row hn (h r hr)
theorem row_py (r : Row) : py r.d = some (.tuple [.str r.mode, .str r.keys, .str r.cmd, .str r.tgt]) := by simp [Row.d, py, pys]
theorem ne_row {names : List Str} (hn : Nm names) {r s : Row} (hr : RowOk names r) (hs : RowOk names s) : neF r.d s.d = some (.fz (.bl (!decide (r.mode = s.mode ∧ r.keys = s.keys ∧ r.cmd = s.cmd ∧ r.tgt = s.tgt)))) := by
  have a1 := name_strOk hn hr.mode
  have a2 := key_strOk hr.keys
  have a3 := kstrOk (cmd_word hr.cmd)
  have a4 := name_strOk hn hr.tgt
  have b1 := name_strOk hn hs.mode
  have b2 := key_strOk hs.keys
  have b3 := kstrOk (cmd_word hs.cmd)
  have b4 := name_strOk hn hs.tgt
  have e : eqP r.d s.d = some (decide (r.mode = s.mode ∧ r.keys = s.keys ∧ r.cmd = s.cmd ∧ r.tgt = s.tgt)) := by
    unfold eqP
    rw [row_py, row_py]
    have s1 : SeqAt.shaped (.tuple [.str r.mode, .str r.keys, .str r.cmd, .str r.tgt]) = true := by simp [SeqAt.shaped, PyData.canLay0, PyData.canLayAll0, PyData.depth, PyData.depthAll, a1, a2, a3, a4]
    have s2 : SeqAt.shaped (.tuple [.str s.mode, .str s.keys, .str s.cmd, .str s.tgt]) = true := by simp [SeqAt.shaped, PyData.canLay0, PyData.canLayAll0, PyData.depth, PyData.depthAll, b1, b2, b3, b4]
    simp only [Option.bind_some, s1, s2, Bool.and_self, if_true]
    congr 1
    rw [Bool.eq_iff_iff, decide_eq_true_iff]
    simp [PyData.eqv, PyData.eqvAll, and_assoc]
  show (none : Option OV).or (blO ((eqP r.d s.d).map not)) = _
  rw [e]
  rfl
theorem cut_to {b : Str} (h : 1 ≤ b.length) : cutS b none (some ((b.length : Nat) - 1 : Int)) = cutS b none (some (-1)) := by
  have e : ((b.length : Nat) - 1 : Int) = ((b.length - 1 : Nat) : Int) := by omega
  have s2 : HT.sIx b.length b.length (some ((b.length - 1 : Nat) : Int)) = b.length - 1 := by
    rw [HT.sIx_nat]
    omega
  have s4 : HT.sIx b.length b.length (some (-1)) = b.length - 1 := by
    show (if (-1 : Int) < 0 then ((-1 : Int) + (b.length : Int)).toNat else min (-1 : Int).toNat b.length) = _
    rw [if_pos (by decide)]
    omega
  rw [e]
  unfold cutS
  rw [s2, s4]
theorem islate_ex {names : List Str} {w : Int} {rows : List Row} (h : MapOk names w rows) {i j : Nat} {r s : Row} (ei : rows[i]? = some r) (ej : rows[j]? = some s) : F__law_is_late [.fz r.d, .fz s.d] = some (.ok (.fz (.bl (lateB rows i j))), [.fz r.d, .fz s.d]) := by
  have hr := h.ok r (List.mem_of_getElem? ei)
  have hs := h.ok s (List.mem_of_getElem? ej)
  have hk := hs.keys
  have ks : ∀ o2 : OV, bin2 (oe ixF itemD) (opl 1) (tmp (co (.int 1))) [.fz r.d, .fz s.d, o2] = some (.ok (.fz (.str s.keys)), [.fz r.d, .fz s.d, o2]) := fun o2 => bin2_ok rfl rfl rfl rfl rfl
  let ρ : Env := [.fz r.d, .fz s.d, .fz (.str (cutS s.keys none (some (-1))))]
  have ksl : slF (.str s.keys) none (some ((s.keys.length : Nat) - 1 : Int)) = some (.fz (.str (cutS s.keys none (some (-1))))) := by
    show (if s.keys.length ≤ 100000 then some (OV.fz (.str (cutS s.keys none (some ((s.keys.length : Nat) - 1 : Int))))) else none) = _
    rw [if_pos (by have := hk.2.1; omega), cut_to hk.1]
  have kl : callP lenN (consO (tmp (bin2 (oe ixF itemD) (opl 1) (tmp (co (.int 1))))) (Kv.ret [])) [.fz r.d, .fz s.d, .no] = some (.ok (.fz (.int (s.keys.length : Nat))), [.fz r.d, .fz s.d, .no]) := by
    refine call1_ok (tmp_ok (ks .no)) rfl ?_
    have hl : lenF (.str s.keys) = some (.fz (.int (s.keys.length : Nat))) := by
      show (if s.keys.length ≤ 100000 then _ else none) = _
      rw [if_pos (by have := hk.2.1; omega)]
    show (lenF (.str s.keys)).or _ = _
    rw [hl]
    rfl
  have s2 : setN 2 (slM slF (tmp (bin2 (oe ixF itemD) (opl 1) (tmp (co (.int 1))))) noP (intP (bin2 subF (tmp (callP lenN (consO (tmp (bin2 (oe ixF itemD) (opl 1) (tmp (co (.int 1))))) (Kv.ret [])))) (tmp (co (.int 1)))))) [.fz r.d, .fz s.d, .no] = some (.ok .nx, ρ) :=
    w_set (ρ1 := [.fz r.d, .fz s.d, .no]) (sl_ok (tmp_ok (ks .no)) rfl (intP_ok (bin2_ok (tmp_ok kl) rfl rfl rfl rfl)) rfl ksl) rfl (by show 2 < 3; decide)
  have k1 : bin2 neF (opl 0) (opl 1) ρ = some (.ok (.fz (.bl (!decide (i = j)))), ρ) := by
    refine bin2_ok rfl rfl rfl rfl ?_
    rw [show (OV.fz r.d).dat = r.d from rfl, show (OV.fz s.d).dat = s.d from rfl, ne_row h.nm hr hs]
    have : decide (r.mode = s.mode ∧ r.keys = s.keys ∧ r.cmd = s.cmd ∧ r.tgt = s.tgt) = decide (i = j) := by
      refine decide_eq_decide.mpr ⟨fun e => ?_, fun e => ?_⟩
      · have hp : r.pr = s.pr := by unfold Row.pr; rw [e.1, e.2.1]
        have hi := (List.getElem?_eq_some_iff.mp ei)
        have hj := (List.getElem?_eq_some_iff.mp ej)
        obtain ⟨hi, ei'⟩ := hi
        obtain ⟨hj, ej'⟩ := hj
        have nd := h.nd
        have := (List.getElem_inj (h₀ := by simpa using hi) (h₁ := by simpa using hj) nd).mp (by rw [List.getElem_map, List.getElem_map, ei', ej']; exact hp)
        exact this
      · subst e
        rw [ei] at ej
        cases ej
        exact ⟨rfl, rfl, rfl, rfl⟩
    rw [this]
  have k2 : bin2 eqF (tmp (bin2 (oe ixF itemD) (opl 0) (tmp (co (.int 0))))) (tmp (bin2 (oe ixF itemD) (opl 1) (tmp (co (.int 0))))) ρ = some (.ok (.fz (.bl (decide (r.mode = s.mode)))), ρ) :=
    bin2_ok (tmp_ok (bin2_ok rfl rfl rfl rfl (rfl : _ = some (OV.fz (.str r.mode))))) (tmp_ok (bin2_ok rfl rfl rfl rfl (rfl : _ = some (OV.fz (.str s.mode))))) rfl rfl (eq_str _ _)
  have k3 : bin2 inF (tmp (bin2 (oe ixF itemD) (opl 0) (tmp (co (.int 1))))) (opl 2) ρ = some (.ok (.fz (.bl (subIn r.keys s.keys))), ρ) :=
    bin2_ok (tmp_ok (bin2_ok rfl rfl rfl rfl (rfl : _ = some (OV.fz (.str r.keys))))) rfl rfl rfl rfl
  have hv : lateB rows i j = (!decide (i = j) && (decide (r.mode = s.mode) && subIn r.keys s.keys)) := by unfold lateB; rw [ei, ej]
  have kr : andV (bin2 neF (opl 0) (opl 1)) (andV (bin2 eqF (tmp (bin2 (oe ixF itemD) (opl 0) (tmp (co (.int 0))))) (tmp (bin2 (oe ixF itemD) (opl 1) (tmp (co (.int 0)))))) (bin2 inF (tmp (bin2 (oe ixF itemD) (opl 0) (tmp (co (.int 1))))) (opl 2))) ρ = some (.ok (.fz (.bl (lateB rows i j))), ρ) := by
    rw [hv]
    cases e1 : (!decide (i = j)) with
    | false => rw [e1] at k1; exact andV_f k1
    | true =>
      rw [e1] at k1
      refine andV_t k1 ?_
      rw [Bool.true_and]
      cases e2 : decide (r.mode = s.mode) with
      | false => rw [e2] at k2; exact andV_f k2
      | true => rw [e2] at k2; exact andV_t k2 k3
  unfold F__law_is_late
  refine fnR_ok (np := 2) (kp := [0, 1]) (ρ' := ρ) rfl ?_ (by show 2 ≤ 3; decide)
  unfold m__law_is_late
  exact seq_ok' s2 (ret_ok kr)
end K3
/-! without_bindings. -/
namespace K3
open PySem hiding Env
open L2 Kv
theorem zip_cut {α : Type} : ∀ (rows : List α) (s k : Nat), (((List.range' s rows.length).zip rows).filter (fun p => decide (p.1 ≠ s + k))).map (·.2) = rows.take k ++ rows.drop (k + 1)
  | [], s, k => by simp
  | r :: rows, s, 0 => by
    rw [List.length_cons, List.range'_succ, List.zip_cons_cons, List.filter_cons_of_neg (by simp)]
    have e : ((List.range' (s + 1) rows.length).zip rows).filter (fun p => decide (p.1 ≠ s + 0)) = (List.range' (s + 1) rows.length).zip rows := by
      rw [List.filter_eq_self]
      intro p hp
      obtain ⟨a, b⟩ := p
      have := (List.of_mem_zip hp).1
      rw [List.mem_range'_1] at this
      simp
      omega
    rw [e, List.map_snd_zip (by rw [List.length_range']; exact Nat.le_refl _)]
    simp
  | r :: rows, s, k + 1 => by
    rw [List.length_cons, List.range'_succ, List.zip_cons_cons, List.filter_cons_of_pos (by simp)]
    have ih := zip_cut rows (s + 1) k
    have e : s + 1 + k = s + (k + 1) := by omega
    rw [e] at ih
    rw [List.map_cons, ih]
    simp
def cutR (rows : List Row) (k : Nat) : List Row := rows.take k ++ rows.drop (k + 1)
theorem cut_ok {names : List Str} {w : Int} {rows : List Row} (h : MapOk names w rows) (k : Nat) : MapOk names w (cutR rows k) := by
  have hsub : (cutR rows k).Sublist rows := by
    have h1 : (rows.drop (k + 1)).Sublist (rows.drop k) := by
      rw [show k + 1 = k + 1 from rfl, ← List.drop_drop]
      exact List.drop_sublist _ _
    have := (List.Sublist.refl (rows.take k)).append h1
    rwa [List.take_append_drop] at this
  exact ⟨h.nm, h.w1, h.w2, fun r hr => h.ok r (hsub.subset hr), h.nd.sublist (hsub.map _), Nat.le_trans hsub.length_le h.len⟩
theorem integer_ok {v lo hi : Int} (h1 : lo ≤ v) (h2 : v ≤ hi) : F_is_integer [.fz (.int v), .fz (.int lo), .fz (.int hi)] = some (.ok (.fz (.bl true)), [.fz (.int v), .fz (.int lo), .fz (.int hi)]) := by
  unfold F_is_integer
  refine fnR_ok (np := 3) (kp := [0, 1, 2]) (ρ' := [.fz (.int v), .fz (.int lo), .fz (.int hi)]) rfl ?_ (by decide : 3 ≤ 3)
  unfold m_is_integer
  have k2 : bnd (tob (callP (n2 isiF) (consO (opl 0) (consO (tmp (co (.ty "bool"))) (Kv.ret []))))) (fun b => Kv.ret (OV.fz (.bl (!b)))) [.fz (.int v), .fz (.int lo), .fz (.int hi)] = some (.ok (.fz (.bl true)), [.fz (.int v), .fz (.int lo), .fz (.int hi)]) := by
    rw [bnd_ok (tob_ok (call2_ok (o := .fz (.bl false)) rfl rfl rfl rfl rfl))]
    rfl
  have k3 : chM leF leF (opl 1) (opl 0) (opl 2) [.fz (.int v), .fz (.int lo), .fz (.int hi)] = some (.ok (.fz (.bl true)), [.fz (.int v), .fz (.int lo), .fz (.int hi)]) := by
    refine ch_ok (x := .pl 1) (y := .pl 0) (z := .pl 2) rfl rfl rfl rfl (show leF (.int lo) (.int v) = some (.fz (.bl true)) from ?_) rfl rfl rfl (show leF (.int v) (.int hi) = some (.fz (.bl true)) from ?_)
    · show some (OV.fz (D.bl (decide (lo ≤ v)))) = _
      rw [decide_eq_true h1]
    · show some (OV.fz (D.bl (decide (v ≤ hi)))) = _
      rw [decide_eq_true h2]
  exact ret_ok (andV_t (call2_ok rfl rfl rfl rfl rfl) (andV_t k2 k3))
theorem check_ex {names : List Str} {w : Int} {rows : List Row} {k : Nat} (hk : k < rows.length) : F_KeyMap_check_binding [kmO names w rows, .fz (.int (k : Nat))] = some (.ok (.fz .non), [kmO names w rows, .fz (.int (k : Nat))]) := by
  let ρ : Env := [kmO names w rows, .fz (.int (k : Nat))]
  have kf : fldV 0 0 3 ρ = some (.ok (.fz (.tup (rows.map Row.d))), ρ) := rfl
  have kl : callP lenN (consO (tmp (fldV 0 0 3)) (Kv.ret [])) ρ = some (.ok (.fz (.int (rows.length : Nat))), ρ) := call1_ok (tmp_ok kf) rfl (by rw [show lenN [(OV.fz (.tup (rows.map Row.d))).dat] = some (.fz (.int (rows.map Row.d).length)) from lenN_tup _, List.length_map])
  have ks : bin2 subF (tmp (callP lenN (consO (tmp (fldV 0 0 3)) (Kv.ret [])))) (tmp (co (.int 1))) ρ = some (.ok (.fz (.int ((rows.length : Nat) - 1 : Int))), ρ) := bin2_ok (tmp_ok kl) rfl rfl rfl rfl
  have kc : callM F_is_integer (consO (opl 1) (consO (tmp (co (.int 0))) (consO (tmp (bin2 subF (tmp (callP lenN (consO (tmp (fldV 0 0 3)) (Kv.ret [])))) (tmp (co (.int 1))))) (Kv.ret [])))) ρ = some (.ok (.fz (.bl true)), ρ) :=
    call_ok' (ods := [.pl 1, .tv (.fz (.int 0)), .tv (.fz (.int ((rows.length : Nat) - 1 : Int)))]) (ρ1 := ρ) (ρ2 := ρ) (os := [.fz (.int (k : Nat)), .fz (.int 0), .fz (.int ((rows.length : Nat) - 1 : Int))]) (consO_ok rfl (consO_ok rfl (consO_ok (tmp_ok ks) rfl))) rfl (integer_ok (by omega) (by omega)) rfl
  have body : m_KeyMap_check_binding ρ = some (.ok .nx, ρ) := by
    unfold m_KeyMap_check_binding
    exact ifS_nx (not_t (tob_ok kc))
  exact (fnR_nx (n := 2) (np := 2) (kp := [0, 1]) (m := m_KeyMap_check_binding) (os := ρ) (ρ' := ρ) rfl body (by show 2 ≤ 2; decide)).trans rfl
theorem nin_one (j k : Nat) : ninF (.int (j : Nat)) (.tup [.int (k : Nat)]) = some (.fz (.bl (decide (j ≠ k)))) := by
  have h2 : inV (V.int (j : Nat)) [V.int (k : Nat)] = decide (j = k) := by
    unfold inV
    rw [Bool.eq_iff_iff, List.any_eq_true, decide_eq_true_iff]
    constructor
    · rintro ⟨x, hx, e⟩
      rw [List.mem_singleton] at hx
      subst hx
      simp [eqV] at e
      omega
    · intro e
      subst e
      exact ⟨_, List.mem_singleton.mpr rfl, by simp [eqV]⟩
  have h3 : inFlat true (.int (j : Nat)) (.tup [.int (k : Nat)]) = some (.fz (.bl (decide (j ≠ k)))) := by
    show some (OV.fz (D.bl (!inV (V.int (j : Nat)) [V.int (k : Nat)]))) = _
    rw [h2]
    simp
  unfold ninF oe
  simp only [h3, Option.some_or]
  rfl
theorem without_ex {names : List Str} {w : Int} {rows : List Row} (h : MapOk names w rows) {k : Nat} (hk : k < rows.length) : F_without_bindings [kmO names w rows, .fz (.int (k : Nat))] = some (.ok (kmO names w (cutR rows k)), [kmO names w rows, .fz (.int (k : Nat))]) := by
  have h9 := h.len
  let T : OV := .fz (.tup [.int (k : Nat)])
  have s1 : Kv.forM (itM (sl 1)) (tnm 2) (dropM (methM 0 F_KeyMap_check_binding (opl 0) (consO (opl 2) (Kv.ret [])))) [kmO names w rows, T, .no, .no, .no] = some (.ok .nx, [kmO names w rows, T, .fz (.int (k : Nat)), .no, .no]) := by
    refine (for_fl (ds := [.int (k : Nat)]) (ρ1 := [kmO names w rows, T, .no, .no, .no]) rfl).trans ?_
    have kc : methM 0 F_KeyMap_check_binding (opl 0) (consO (opl 2) (Kv.ret [])) [kmO names w rows, T, .fz (.int (k : Nat)), .no, .no] = some (.ok (.fz .non), [kmO names w rows, T, .fz (.int (k : Nat)), .no, .no]) := meth_ok (ods := [.pl 2]) rfl rfl rfl (check_ex hk) rfl
    rw [fl_one (ρ1 := [kmO names w rows, T, .fz (.int (k : Nat)), .no, .no]) rfl (drop_ok kc)]
    rfl
  have kb : propM 0 F_KeyMap_bindings (opl 0) [kmO names w rows, T, .fz (.int (k : Nat)), .no, .no] = some (.ok (.fz (.tup (rows.map Row.d))), [kmO names w rows, T, .fz (.int (k : Nat)), .no, .no]) := prop_ok rfl (bind_ex names w rows) rfl
  have hit : enumM (consD (propM 0 F_KeyMap_bindings (opl 0)) (Kv.ret [])) [kmO names w rows, T, .fz (.int (k : Nat)), .no, .no] = some (.ok (((List.range' 0 rows.length).zip rows).map fun p => D.tup [.int (p.1 : Nat), p.2.d]), [kmO names w rows, T, .fz (.int (k : Nat)), .no, .no]) := by
    unfold enumM
    rw [bnd_ok (consD_ok kb rfl rfl)]
    show some (Except.ok (enumL (rows.map Row.d)), _) = _
    have : enumL (rows.map Row.d) = ((List.range' 0 rows.length).zip rows).map fun p => D.tup [.int (p.1 : Nat), p.2.d] := by
      unfold enumL
      rw [List.length_map, List.zipWith_map_right, List.zip, List.map_zipWith, List.range_eq_range']
    rw [this]
  have k3 : compM [2, 4] (enumM (consD (propM 0 F_KeyMap_bindings (opl 0)) (Kv.ret []))) (ttp [2, 4]) (tob (bin2 ninF (opl 2) (opl 1))) (sl 4) [kmO names w rows, T, .fz (.int (k : Nat)), .no, .no] = some (.ok (.ol ((cutR rows k).map Row.d)), [kmO names w rows, T, .no, .no, .no]) := by
    have := comp_filter (vs := [2, 4]) (it := enumM (consD (propM 0 F_KeyMap_bindings (opl 0)) (Kv.ret []))) (g := ttp [2, 4]) (c := tob (bin2 ninF (opl 2) (opl 1))) (e := sl 4) (p := fun p : Nat × Row => decide (p.1 ≠ k)) (f := fun p : Nat × Row => p.2.d) (E1 := fun p : Nat × Row => [kmO names w rows, T, .fz (.int (p.1 : Nat)), .no, .fz p.2.d]) (ρ0 := [kmO names w rows, T, .no, .no, .no]) hit (by rw [List.length_zip, List.length_range']; omega) rfl (fun p _ => rfl) (fun p _ => tob_ok (bin2_ok rfl rfl rfl rfl (nin_one p.1 k))) (fun p _ _ => ⟨_, rfl, rfl⟩) (fun p _ => rfl)
    rw [this]
    have e := zip_cut rows 0 k
    rw [Nat.zero_add] at e
    have e2 : (((List.range' 0 rows.length).zip rows).filter fun p : Nat × Row => decide (p.1 ≠ k)).map (fun p : Nat × Row => p.2.d) = (cutR rows k).map Row.d := by
      unfold cutR
      rw [← e, List.map_map]
      rfl
    rw [e2]
  have s2 := w_set (i := 3) k3 rfl (by show 3 < 5; decide)
  let E3 : Env := [kmO names w rows, T, .no, .ol ((cutR rows k).map Row.d), .no]
  have km1 : propM 0 F_KeyMap_modes (opl 0) E3 = some (.ok (.fz (.tup (names.map .str))), E3) := prop_ok rfl (rfl : F_KeyMap_modes [kmO names w rows] = some (.ok (.fz (.tup (names.map .str))), [kmO names w rows])) rfl
  have kw1 : propM 0 F_KeyMap_wait (opl 0) E3 = some (.ok (.fz (.int w)), E3) := prop_ok rfl (rfl : F_KeyMap_wait [kmO names w rows] = some (.ok (.fz (.int w)), [kmO names w rows])) rfl
  have kt1 : callP (n1 tupF) (consO (opl 3) (Kv.ret [])) E3 = some (.ok (.fz (.tup ((cutR rows k).map Row.d))), E3) := call1_ok rfl rfl rfl
  have kn : newM 0 4 F_KeyMap___init__ (consO (tmp (propM 0 F_KeyMap_modes (opl 0))) (consO (tmp (propM 0 F_KeyMap_wait (opl 0))) (consO (tmp (callP (n1 tupF) (consO (opl 3) (Kv.ret [])))) (Kv.ret [])))) E3 = some (.ok (kmO names w (cutR rows k)), E3) :=
    new_ok (ods := [.tv (.fz (.tup (names.map .str))), .tv (.fz (.int w)), .tv (.fz (.tup ((cutR rows k).map Row.d)))]) (consO_ok (tmp_ok km1) (consO_ok (tmp_ok kw1) (consO_ok (tmp_ok kt1) rfl))) rfl (init_ex (cut_ok h k)) rfl
  have body : m_without_bindings [kmO names w rows, T, .no, .no, .no] = some (.ok (.rt (kmO names w (cutR rows k))), E3) := by
    unfold m_without_bindings
    exact seq_ok' s1 (seq_ok' s2 (ret_ok kn))
  have ef : fnR 5 2 [0, 1] m_without_bindings [kmO names w rows, T] = some (.ok (kmO names w (cutR rows k)), [kmO names w rows, T]) := (fnR_ok (n := 5) (np := 2) (kp := [0, 1]) (m := m_without_bindings) (os := [kmO names w rows, T]) (ρ' := E3) rfl body (by show 2 ≤ 5; decide)).trans rfl
  unfold F_without_bindings starR
  show (if 1 ≤ 2 ∧ 1 ≤ 1000 then match fnR 5 2 [0, 1] m_without_bindings [kmO names w rows, T] with
    | some (.ok o, outs) => if 1 ≤ outs.length then some (Except.ok o, outs.take 1 ++ [OV.fz (.int (k : Nat))]) else none
    | _ => none
    else none) = _
  rw [if_pos (by decide), ef]
  rfl
end K3
/-! The law's parts (printed by mkT.py). -/
namespace K3
open PySem hiding Env
open L2 Kv
noncomputable abbrev lB4_0 : M Fl := setN 5 (bin2 addF (opl 5) (tmp (compM [14] (rng1M (consO (opl 7) (Kv.ret []))) (tnm 14) (tob (callM F__law_is_late (consO (tmp (bin2 (oe ixF itemD) (opl 4) (opl 8))) (consO (tmp (bin2 (oe ixF itemD) (opl 4) (opl 14))) (Kv.ret []))))) (tupM (consD (sl 8) (consD (sl 14) (Kv.ret [])))))))
noncomputable abbrev lB4_1 : M Fl := setN 6 (bin2 addF (opl 6) (tmp (compM [10] (itM (sl 6)) (tnm 10) (Kv.ret true) (bin2 addF (opl 10) (tmp (lstM (consD (sl 8) (Kv.ret []))))))))
noncomputable abbrev lB4 : M Fl := seqM lB4_0 (lB4_1)
noncomputable abbrev lH4 : M Fl := Kv.forM (rng1M (consO (opl 7) (Kv.ret []))) (tnm 8) lB4
noncomputable abbrev lB6_0 : M Fl := ifS (tob (bin2 eqF (tmp (compM [15] (itM (sl 5)) (tnm 15) (andM (tob (bin2 ninF (tmp (bin2 (oe ixF itemD) (opl 15) (tmp (co (.int 0))))) (opl 10))) (tob (bin2 ninF (tmp (bin2 (oe ixF itemD) (opl 15) (tmp (co (.int 1))))) (opl 10)))) (sl 15))) (tmp (lstM (Kv.ret []))))) (dropM (appM (opl 9) (consD (tupM (consD (callP lenN (consO (opl 10) (Kv.ret []))) (consD (sl 10) (Kv.ret [])))) (Kv.ret [])))) (Kv.ret .nx)
noncomputable abbrev lB6 : M Fl := lB6_0
noncomputable abbrev lH6 : M Fl := Kv.forM (itM (sl 6)) (tnm 10) lB6
noncomputable abbrev lB12_0 : M Fl := ifS (tob (bin2 neF (tmp (compM [8] (rng1M (consO (tmp (bin2 subF (tmp (callP lenN (consO (opl 13) (Kv.ret [])))) (tmp (co (.int 1))))) (Kv.ret []))) (tnm 8) (tob (bin2 ninF (tmp (tupM (consD (bin2 (oe ixF itemD) (opl 13) (opl 8)) (consD (bin2 (oe ixF itemD) (opl 13) (tmp (bin2 addF (opl 8) (tmp (co (.int 1)))))) (Kv.ret []))))) (opl 5))) (sl 8))) (tmp (lstM (Kv.ret []))))) (retM (co (.bl false))) (Kv.ret .nx)
noncomputable abbrev lB12 : M Fl := lB12_0
noncomputable abbrev lH12 : M Fl := Kv.forM (itM (sl 12)) (tnm 13) lB12
noncomputable abbrev lH0 : M Fl := setN 1 (lstM (consD (sl 0) (consD (co (.int 0)) (consD (co (.int 0)) (consD (co (.int 0)) (Kv.ret []))))))
noncomputable abbrev lH1 : M Fl := setN 2 (callM F__law_parts (consO (opl 1) (consO (tmp (bin2 (oe ixF itemD) (tmp (lstM (consD (co (.str "ab")) (consD (co (.str "abc")) (Kv.ret []))))) (tmp (callM F__law_taken (consO (opl 1) (consO (tmp (co (.int 2))) (Kv.ret []))))))) (consO (tmp (co (.int 7))) (Kv.ret [])))))
noncomputable abbrev lH2 : M Fl := parsM [3, 4, 5, 6] (consO (tmp (callM F__law_made (consO (opl 2) (Kv.ret [])))) (consO (tmp (bin2 (oe ixF itemD) (opl 2) (tmp (co (.int 2))))) (consO (tmp (lstM (Kv.ret []))) (consO (tmp (lstM (consD (lstM (Kv.ret [])) (Kv.ret [])))) (Kv.ret [])))))
noncomputable abbrev lH3 : M Fl := setN 7 (callP lenN (consO (opl 4) (Kv.ret [])))
noncomputable abbrev lH5 : M Fl := setN 9 (lstM (Kv.ret []))
noncomputable abbrev lH7 : M Fl := setN 11 (callM F_fewest_to_drop (consO (opl 3) (Kv.ret [])))
noncomputable abbrev lH8 : M Fl := ifS (Kv.orM (tob (bin2 neF (tmp (callM F_late_pairs (consO (opl 3) (Kv.ret [])))) (opl 5))) (tob (bin2 neF (opl 11) (tmp (bin2 (oe ixF itemD) (tmp (callP (n1 minDF) (consO (opl 9) (Kv.ret [])))) (tmp (co (.int 1)))))))) (retM (co (.bl false))) (Kv.ret .nx)
noncomputable abbrev lH9 : M Fl := setN 12 (callM F_find_chains (consO (opl 3) (Kv.ret [])))
noncomputable abbrev lH10 : M Fl := ifS (tob (bin2 neF (tmp (callM F_judge_chains (consO (opl 3) (consO (opl 12) (Kv.ret []))))) (tmp (callP lenN (consO (opl 11) (Kv.ret [])))))) (retM (co (.bl false))) (Kv.ret .nx)
noncomputable abbrev lH11 : M Fl := ifS (tob (bin2 neF (tmp (callM F_judge_chains (consO (opl 3) (consO (tmp (compM [8] (rng1M (consO (opl 7) (Kv.ret []))) (tnm 8) (Kv.ret true) (lstM (consD (sl 8) (Kv.ret []))))) (Kv.ret []))))) (tmp (co (.int 0))))) (retM (co (.bl false))) (Kv.ret .nx)
noncomputable abbrev lH13 : M Fl := ifS (tob (bin2 gtF (opl 7) (tmp (co (.int 0))))) (seqM (setN 8 (callM F__law_taken (consO (opl 1) (consO (opl 7) (Kv.ret []))))) (seqM (ifS (tob (bin2 (isN true) (tmp (callM F_judge_chains (consO (opl 3) (consO (tmp (compM [14] (rng1M (consO (opl 7) (Kv.ret []))) (tnm 14) (tob (bin2 neF (opl 14) (opl 8))) (lstM (consD (sl 14) (Kv.ret []))))) (Kv.ret []))))) (tmp (co .non)))) (retM (co (.bl false))) (Kv.ret .nx)) (ifS (tob (bin2 neF (tmp (propM 0 F_KeyMap_bindings (tmp (callM F_without_bindings (consO (opl 3) (consO (opl 8) (Kv.ret []))))))) (tmp (bin2 addF (tmp (slM slF (opl 4) noP (intP (sl 8)))) (tmp (slM slF (opl 4) (intP (bin2 addF (opl 8) (tmp (co (.int 1))))) noP)))))) (retM (co (.bl false))) (Kv.ret .nx)))) (Kv.ret .nx)
noncomputable abbrev lH14 : M Fl := retM (co (.bl true))
theorem m_law_eq : m_law = (seqM lH0 (seqM lH1 (seqM lH2 (seqM lH3 (seqM lH4 (seqM lH5 (seqM lH6 (seqM lH7 (seqM lH8 (seqM lH9 (seqM lH10 (seqM lH11 (seqM lH12 (seqM lH13 lH14)))))))))))))) := rfl
end K3
/-! The least of the good choices. -/
namespace K3
open PySem hiding Env
open L2 Kv
open PySem.W (dataLt minD alike alikeAll)
def enc (T : List Nat) : PyData := .tuple [.int (T.length : Nat), .list ((natI T).map .int)]
def gD (T : List Nat) : D := .tup [.int (T.length : Nat), .lst (natD T)]
theorem py_gD (T : List Nat) : py (gD T) = some (enc T) := by simp [gD, enc, py, pys, natD_eq, pys_ints]
theorem pys_gD : ∀ Ts : List (List Nat), pys (Ts.map gD) = some (Ts.map enc)
  | [] => by simp [pys]
  | T :: Ts => by simp [pys, py_gD, pys_gD Ts]
theorem enc_alike (R T : List Nat) : alike (enc R) (enc T) = true := by simp [enc, alike, alikeAll, PySem.W.alike_ints]
theorem natI_inj {a b : List Nat} (h : natI a = natI b) : a = b := by
  unfold natI at h
  exact List.map_inj_right (fun x y h => Int.ofNat.inj h) |>.mp h
theorem enc_lt (R T : List Nat) : dataLt (enc R) (enc T) = if R.length = T.length then (if R = T then false else decide (natI R < natI T)) else decide (R.length < T.length) := by
  unfold enc
  rw [PySem.W.dataLt_pair (by simp [alike]) (by simp [alike, PySem.W.alike_ints]), PySem.W.dataLt_int, PySem.W.dataLt_list]
  have e := PySem.W.dataLt_ints (natI R) (natI T)
  unfold PySem.W.rowLt at e
  rw [e]
  simp only [PyData.eqv, eqv_ints, beq_iff_eq, decide_eq_true_eq]
  by_cases h : R.length = T.length
  · rw [if_pos (by omega), if_pos h]
    by_cases h2 : R = T
    · rw [if_pos h2, if_pos (by rw [h2])]
    · rw [if_neg h2, if_neg (fun e => h2 (natI_inj e))]
  · rw [if_neg (by omega), if_neg h, decide_eq_decide]
    omega
theorem lex_lt {j t : Nat} (h : j < t) (R' T' : List Nat) : ∀ A : List Nat, natI (A ++ j :: R') < natI (A ++ t :: T') ∧ ¬ natI (A ++ t :: T') < natI (A ++ j :: R')
  | [] => by
    refine ⟨?_, ?_⟩
    · show ((j : Int) :: natI R') < ((t : Int) :: natI T')
      rw [List.cons_lt_cons_iff]
      exact .inl (by omega)
    · show ¬ ((t : Int) :: natI T') < ((j : Int) :: natI R')
      rw [List.cons_lt_cons_iff]
      rintro (h2 | ⟨h2, _⟩) <;> omega
  | a :: A => by
    obtain ⟨h1, h2⟩ := lex_lt h R' T' A
    refine ⟨?_, ?_⟩
    · show ((a : Int) :: natI (A ++ j :: R')) < ((a : Int) :: natI (A ++ t :: T'))
      rw [List.cons_lt_cons_iff]
      exact .inr ⟨rfl, h1⟩
    · show ¬ ((a : Int) :: natI (A ++ t :: T')) < ((a : Int) :: natI (A ++ j :: R'))
      rw [List.cons_lt_cons_iff]
      rintro (h3 | ⟨_, h3⟩)
      · omega
      · exact h2 h3
theorem bef_lt {R T : List Nat} (h : Mt.Bef R T) : dataLt (enc R) (enc T) = true ∧ dataLt (enc T) (enc R) = false := by
  rcases h with h | ⟨h, A, j, t, R', T', rfl, rfl, hjt⟩
  · rw [enc_lt, enc_lt, if_neg (by omega), if_neg (by omega)]
    exact ⟨decide_eq_true h, decide_eq_false (by omega)⟩
  · have hne : A ++ j :: R' ≠ A ++ t :: T' := fun e => by
      have := List.append_cancel_left e
      have := (List.cons.inj this).1
      omega
    obtain ⟨h1, h2⟩ := lex_lt hjt R' T' A
    rw [enc_lt, enc_lt, if_pos h, if_neg hne, if_pos h.symm, if_neg (fun e => hne e.symm)]
    exact ⟨decide_eq_true h1, decide_eq_false h2⟩
theorem min_of {R : List Nat} : ∀ (Ts : List (List Nat)) (a : List Nat), (∀ T ∈ a :: Ts, T = R ∨ Mt.Bef R T) → R ∈ a :: Ts → minD (enc a) (Ts.map enc) = enc R
  | [], a, h, m => by
    rw [List.mem_singleton] at m
    subst m
    rfl
  | T :: Ts, a, h, m => by
    show minD (if dataLt (enc T) (enc a) = true then enc T else enc a) (Ts.map enc) = _
    rcases h a List.mem_cons_self with ha | ha
    · subst ha
      have e : dataLt (enc T) (enc a) = false := by
        rcases h T (List.mem_cons_of_mem _ List.mem_cons_self) with e | e
        · subst e; exact PySem.W.dataLt_self _
        · exact (bef_lt e).2
      rw [e, if_neg (by decide)]
      exact min_of Ts a (fun x hx => h x (by rcases List.mem_cons.mp hx with h | h <;> simp [h])) List.mem_cons_self
    · have hRa : R ≠ a := fun e => by
        subst e
        have := (bef_lt ha).1
        rw [PySem.W.dataLt_self] at this
        cases this
      have hm : R ∈ T :: Ts := by
        rcases List.mem_cons.mp m with e | e
        · exact absurd e hRa
        · exact e
      by_cases c : dataLt (enc T) (enc a) = true
      · rw [if_pos c]
        exact min_of Ts T (fun x hx => h x (List.mem_cons_of_mem _ hx)) hm
      · rw [if_neg c]
        refine min_of Ts a (fun x hx => h x (by rcases List.mem_cons.mp hx with h | h <;> simp [h])) ?_
        rcases List.mem_cons.mp hm with e | e
        · subst e
          exact absurd (bef_lt ha).1 c
        · exact List.mem_cons_of_mem _ e
theorem depth_enc : ∀ Ts : List (List Nat), PyData.depthAll (Ts.map enc) ≤ 2
  | [] => by simp [PyData.depthAll]
  | T :: Ts => by
    have := depth_enc Ts
    simp [PyData.depthAll, enc, PyData.depth, depth_ints]
    omega
theorem min_good {R : List Nat} {Ts : List (List Nat)} (h : ∀ T ∈ Ts, T = R ∨ Mt.Bef R T) (m : R ∈ Ts) : minDF (.lst (Ts.map gD)) = some (.fz (gD R)) := by
  cases Ts with
  | nil => cases m
  | cons a Ts =>
    have e := min_of Ts a h m
    have ep := pys_gD (a :: Ts)
    unfold minDF
    simp only [ep]
    simp only [List.map_cons]
    have hal : alikeAllB (enc a :: Ts.map enc) = true := by
      unfold alikeAllB
      rw [← List.map_cons (f := enc), Bool.and_eq_true, List.all_eq_true, List.all_eq_true]
      refine ⟨fun x hx => ?_, fun x hx => ?_⟩
      · obtain ⟨X, _, rfl⟩ := List.mem_map.mp hx
        rw [List.all_eq_true]
        intro y hy
        obtain ⟨Y, _, rfl⟩ := List.mem_map.mp hy
        exact enc_alike X Y
      · obtain ⟨X, _, rfl⟩ := List.mem_map.mp hx
        rfl
    have hd : PyData.depthAll (enc a :: Ts.map enc) ≤ 60 := Nat.le_trans (depth_enc (a :: Ts)) (by decide)
    rw [if_pos ⟨hal, hd⟩, e, unpy_py _ _ (py_gD R)]
/-- the pairs that a choice leaves -/
def leftP (rows : List Row) (T : List Nat) : List (Nat × Nat) := (latePs rows).filter fun p => !decide (p.1 ∈ T) && !decide (p.2 ∈ T)
def goodB (rows : List Row) (T : List Nat) : Bool := decide (leftP rows T = [])
def goodL (rows : List Row) : List (List Nat) := (Mt.subs rows.length).filter (goodB rows)
theorem good_valid {rows : List Row} {T : List Nat} : goodB rows T = true ↔ Mt.Valid (lateB rows) (List.range rows.length) T := by
  unfold goodB leftP
  rw [decide_eq_true_eq, List.filter_eq_nil_iff]
  constructor
  · intro h x _ y _ hl
    have := h (x, y) (late_mem.mpr hl)
    simp at this
    by_cases hx : x ∈ T
    · exact .inl hx
    · exact .inr (this hx)
  · intro h p hp
    have hl := late_mem.mp hp
    obtain ⟨h1, h2⟩ := late_lt hl
    rcases h p.1 (List.mem_range.mpr h1) p.2 (List.mem_range.mpr h2) hl with h | h <;> simp [h]
theorem goodL_min {names : List Str} {w : Int} {rows : List Row} (h : MapOk names w rows) : minDF (.lst ((goodL rows).map gD)) = some (.fz (gD (fwR rows))) := by
  obtain ⟨ha, ho, hf⟩ := fw_opt h
  have hU := nu_is h (ks := List.range rows.length) List.nodup_range (fun x hx => List.mem_range.mp hx)
  refine min_good (fun T hT => ?_) ?_
  · obtain ⟨h1, h2⟩ := List.mem_filter.mp hT
    obtain ⟨h3, h4⟩ := Mt.subs_asc _ h1
    exact Mt.least hU ha ho.2.2.2 hf h3 h4 (good_valid.mp h2)
  · exact List.mem_filter.mpr ⟨Mt.asc_subs _ ha ho.2.1, good_valid.mpr ho.2.2.1⟩
end K3
/-! The law's pairs, choices and good ones. -/
namespace K3
open PySem hiding Env
open L2 Kv
def lE (s dd pt km bd pr rw mn k gd sm fd cs ch j p : OV) : Env := [s, dd, pt, km, bd, pr, rw, mn, k, gd, sm, fd, cs, ch, j, p]
theorem itc_ok {m : M OV} {ρ ρ1 : Env} {ds : List D} (h : m ρ = some (.ok (.ol ds), ρ1)) : itM m ρ = some (.ok ds, ρ1) := by
  unfold itM
  rw [bnd_ok h]
  rfl
theorem cat_ok {a b : List D} (h : a.length + b.length ≤ 100000) : addF (.lst a) (.lst b) = some (.ol (a ++ b)) := by
  show ((none : Option OV).or ((catL (.lst a) (.lst b)).or (catT (.lst a) (.lst b)))) = _
  unfold catL
  simp only
  rw [if_pos h]
  rfl
def rowP (rows : List Row) (k : Nat) : List (Nat × Nat) := ((List.range rows.length).filter fun j => lateB rows k j).map fun j => (k, j)
def upTo (rows : List Row) (k : Nat) : List (Nat × Nat) := (List.range k).flatMap (rowP rows)
theorem upTo_succ (rows : List Row) (k : Nat) : upTo rows (k + 1) = upTo rows k ++ rowP rows k := by
  unfold upTo
  rw [List.range_succ, List.flatMap_append]
  simp
theorem rowP_len (rows : List Row) (k : Nat) : (rowP rows k).length ≤ rows.length := by
  unfold rowP
  rw [List.length_map]
  exact Nat.le_trans (List.length_filter_le _ _) (by rw [List.length_range]; exact Nat.le_refl _)
theorem upTo_len (rows : List Row) : ∀ k, (upTo rows k).length ≤ k * rows.length
  | 0 => by simp [upTo]
  | k + 1 => by
    rw [upTo_succ, List.length_append, Nat.succ_mul]
    have := upTo_len rows k
    have := rowP_len rows k
    omega
section
variable {s dd pt km gd sm fd cs ch j p : OV} {names : List Str} {w : Int} {rows : List Row}
abbrev bdO (rows : List Row) : OV := .fz (.tup (rows.map Row.d))
theorem row_at {k : Nat} (hk : k < rows.length) : ∃ r, rows[k]? = some r := ⟨rows[k], List.getElem?_eq_getElem hk⟩
theorem b40_ex (h : MapOk names w rows) {k : Nat} (hk : k < rows.length) {rw_ : OV} : lB4_0 (lE s dd pt km (bdO rows) (.ol ((upTo rows k).map prD)) rw_ (.fz (.int (rows.length : Nat))) (.fz (.int (k : Nat))) gd sm fd cs ch j p) = some (.ok .nx, lE s dd pt km (bdO rows) (.ol ((upTo rows (k + 1)).map prD)) rw_ (.fz (.int (rows.length : Nat))) (.fz (.int (k : Nat))) gd sm fd cs ch .no p) := by
  have h9 := h.len
  let ρ : Env := lE s dd pt km (bdO rows) (.ol ((upTo rows k).map prD)) rw_ (.fz (.int (rows.length : Nat))) (.fz (.int (k : Nat))) gd sm fd cs ch j p
  let ρj : OV → Env := fun x => lE s dd pt km (bdO rows) (.ol ((upTo rows k).map prD)) rw_ (.fz (.int (rows.length : Nat))) (.fz (.int (k : Nat))) gd sm fd cs ch x p
  obtain ⟨r, er⟩ := row_at hk
  have ec := comp_filter (vs := [14]) (it := rng1M (consO (opl 7) (Kv.ret []))) (g := tnm 14) (c := tob (callM F__law_is_late (consO (tmp (bin2 (oe ixF itemD) (opl 4) (opl 8))) (consO (tmp (bin2 (oe ixF itemD) (opl 4) (opl 14))) (Kv.ret []))))) (e := tupM (consD (sl 8) (consD (sl 14) (Kv.ret []))))
    (dd := fun x : Nat => D.int (x : Nat)) (p := fun x => lateB rows k x) (f := fun x => prD (k, x)) (ρ := ρ) (ρ1 := ρ) (ρ0 := ρj .no) (l := List.range rows.length) (E1 := fun x => ρj (.fz (.int (x : Nat))))
    (rng1_ok (n := (rows.length : Nat)) rfl rfl (by omega) (by omega)) (by rw [List.length_range]; omega) rfl (fun a _ => rfl)
    (fun a ha => by
      obtain ⟨t, et⟩ := row_at (List.mem_range.mp ha)
      have i1 : bin2 (oe ixF itemD) (opl 4) (opl 8) (ρj (.fz (.int (a : Nat)))) = some (.ok (.fz r.d), ρj (.fz (.int (a : Nat)))) := bin2_ok (x := .pl 4) (y := .pl 8) (ρ1 := ρj (.fz (.int (a : Nat)))) rfl rfl rfl rfl (ix_row er)
      have i2 : bin2 (oe ixF itemD) (opl 4) (opl 14) (ρj (.fz (.int (a : Nat)))) = some (.ok (.fz t.d), ρj (.fz (.int (a : Nat)))) := bin2_ok (x := .pl 4) (y := .pl 14) (ρ1 := ρj (.fz (.int (a : Nat)))) rfl rfl rfl rfl (ix_row et)
      exact tob_ok (call_ok' (ods := [.tv (.fz r.d), .tv (.fz t.d)]) (ρ1 := ρj (.fz (.int (a : Nat)))) (consO_ok (tmp_ok i1) (consO_ok (tmp_ok i2) rfl)) rfl (islate_ex h er et) rfl))
    (fun a _ _ => ⟨_, rfl, rfl⟩) (fun a _ => rfl)
  have ef : ((List.range rows.length).filter fun x => lateB rows k x).map (fun x => prD (k, x)) = (rowP rows k).map prD := by
    unfold rowP
    rw [List.map_map]
    rfl
  rw [ef] at ec
  have hl : ((upTo rows k).map prD).length + ((rowP rows k).map prD).length ≤ 100000 := by
    rw [List.length_map, List.length_map]
    have h1 := upTo_len rows k
    have h2 := rowP_len rows k
    have : k * rows.length ≤ 9 * 9 := Nat.mul_le_mul (by omega) h9
    omega
  have ea : bin2 addF (opl 5) (tmp (compM [14] (rng1M (consO (opl 7) (Kv.ret []))) (tnm 14) (tob (callM F__law_is_late (consO (tmp (bin2 (oe ixF itemD) (opl 4) (opl 8))) (consO (tmp (bin2 (oe ixF itemD) (opl 4) (opl 14))) (Kv.ret []))))) (tupM (consD (sl 8) (consD (sl 14) (Kv.ret [])))))) ρ = some (.ok (.ol ((upTo rows (k + 1)).map prD)), ρj .no) := by
    rw [upTo_succ, List.map_append]
    exact bin2_ok (x := .pl 5) (ρ1 := ρ) rfl (tmp_ok ec) rfl rfl (cat_ok hl)
  exact w_set (i := 5) (ρ1 := ρj .no) ea rfl (by show 5 < 16; decide)
def chO (Ts : List (List Nat)) : OV := .ol (chD Ts)
theorem app1 (T : List Nat) (k : Nat) : natD (T ++ [k]) = natD T ++ [.int (k : Nat)] := by
  unfold natD
  rw [List.map_append]
  rfl
theorem subs_in : ∀ (n : Nat) (T : List Nat), T ∈ Mt.subs n → T.length ≤ n
  | 0, T, h => by
    have : T = [] := by simpa [Mt.subs] using h
    subst this
    exact Nat.le_refl _
  | n + 1, T, h => by
    rcases List.mem_append.mp (show T ∈ Mt.subs n ++ (Mt.subs n).map fun s => s ++ [n] from h) with h | h
    · exact Nat.le_succ_of_le (subs_in n T h)
    · obtain ⟨s, hs, rfl⟩ := List.mem_map.mp h
      have := subs_in n s hs
      simp
      exact this
theorem pow9 {k : Nat} (h : k ≤ 9) : 2 ^ k ≤ 512 := Nat.le_trans (Nat.pow_le_pow_right (by decide) h) (by decide)
theorem b41_ex {bd pr mn : OV} {k : Nat} (hk : k < 9) : lB4_1 (lE s dd pt km bd pr (chO (Mt.subs k)) mn (.fz (.int (k : Nat))) gd sm fd cs ch j p) = some (.ok .nx, lE s dd pt km bd pr (chO (Mt.subs (k + 1))) mn (.fz (.int (k : Nat))) gd .no fd cs ch j p) := by
  let ρ : Env := lE s dd pt km bd pr (chO (Mt.subs k)) mn (.fz (.int (k : Nat))) gd sm fd cs ch j p
  let ρj : OV → Env := fun x => lE s dd pt km bd pr (.fz (.lst (chD (Mt.subs k)))) mn (.fz (.int (k : Nat))) gd x fd cs ch j p
  have hs := Mt.subs_len k
  have hp := pow9 (k := k) (by omega)
  have ec := comp_filter (vs := [10]) (it := itM (sl 6)) (g := tnm 10) (c := Kv.ret true) (e := bin2 addF (opl 10) (tmp (lstM (consD (sl 8) (Kv.ret []))))) (dd := fun T : List Nat => D.lst (natD T)) (p := fun _ => true) (f := fun T => D.lst (natD (T ++ [k]))) (ρ := ρ) (ρ1 := ρj sm) (ρ0 := ρj .no) (l := Mt.subs k) (E1 := fun T => ρj (.fz (.lst (natD T))))
    rfl (by omega) rfl (fun a _ => rfl) (fun a _ => rfl)
    (fun a ha _ => by
      have hla := subs_in k a ha
      refine ⟨.ol (natD (a ++ [k])), ?_, rfl⟩
      rw [app1]
      exact bin2_ok (x := .pl 10) (y := .tv (.ol [.int (k : Nat)])) (ρ1 := ρj (.fz (.lst (natD a)))) rfl rfl rfl rfl (cat_ok (by unfold natD; rw [List.length_map]; simp; omega)))
    (fun a _ => rfl)
  have ef : ((Mt.subs k).filter fun _ => true).map (fun T => D.lst (natD (T ++ [k]))) = chD ((Mt.subs k).map fun T => T ++ [k]) := by
    unfold chD
    rw [List.map_map, List.filter_eq_self.mpr (fun _ _ => rfl)]
    rfl
  rw [ef] at ec
  have hl : (chD (Mt.subs k)).length + (chD ((Mt.subs k).map fun T => T ++ [k])).length ≤ 100000 := by
    unfold chD
    rw [List.length_map, List.length_map, List.length_map]
    omega
  have e1 : chD (Mt.subs (k + 1)) = chD (Mt.subs k) ++ chD ((Mt.subs k).map fun T => T ++ [k]) := by
    show chD (Mt.subs k ++ (Mt.subs k).map fun T => T ++ [k]) = _
    unfold chD
    rw [List.map_append]
  have ea : bin2 addF (opl 6) (tmp (compM [10] (itM (sl 6)) (tnm 10) (Kv.ret true) (bin2 addF (opl 10) (tmp (lstM (consD (sl 8) (Kv.ret []))))))) ρ = some (.ok (chO (Mt.subs (k + 1))), ρj .no) := by
    unfold chO
    rw [e1]
    exact bin2_ok (x := .pl 6) (ρ1 := ρ) rfl (tmp_ok ec) rfl rfl (cat_ok hl)
  exact w_set (i := 6) (ρ1 := ρj .no) ea rfl (by show 6 < 16; decide)
theorem h4_ex (h : MapOk names w rows) : ∃ k' sm' j', lH4 (lE s dd pt km (bdO rows) (.ol []) (chO [[]]) (.fz (.int (rows.length : Nat))) .no gd sm fd cs ch j p) = some (.ok .nx, lE s dd pt km (bdO rows) (.ol ((latePs rows).map prD)) (chO (Mt.subs rows.length)) (.fz (.int (rows.length : Nat))) k' gd sm' fd cs ch j' p) := by
  have h9 := h.len
  obtain ⟨ρ', e, k, k', sm', j', hds, hk, rfl⟩ := for_ex (it := rng1M (consO (opl 7) (Kv.ret []))) (g := tnm 8) (b := lB4)
    (I := fun ds ρ => ∃ (k : Nat) (k' sm' j' : OV), ds = (List.range' k (rows.length - k)).map (fun i => D.int (i : Nat)) ∧ k ≤ rows.length ∧ ρ = lE s dd pt km (bdO rows) (.ol ((upTo rows k).map prD)) (chO (Mt.subs k)) (.fz (.int (rows.length : Nat))) k' gd sm' fd cs ch j' p)
    (ρ := lE s dd pt km (bdO rows) (.ol []) (chO [[]]) (.fz (.int (rows.length : Nat))) .no gd sm fd cs ch j p) (ρ1 := lE s dd pt km (bdO rows) (.ol []) (chO [[]]) (.fz (.int (rows.length : Nat))) .no gd sm fd cs ch j p)
    (rng1_ok (n := (rows.length : Nat)) rfl rfl (by omega) (by omega)) ⟨0, .no, sm, j, by rw [List.range_eq_range']; simp, by omega, rfl⟩ (fun d ds ρ hI => by
    obtain ⟨k, k', sm', j', hds, hk, rfl⟩ := hI
    have hlt : k < rows.length := by
      rcases Nat.lt_or_ge k rows.length with h | h
      · exact h
      · rw [show rows.length - k = 0 by omega] at hds
        cases hds
    rw [show rows.length - k = (rows.length - (k + 1)) + 1 by omega, List.range'_succ, List.map_cons] at hds
    obtain ⟨rfl, rfl⟩ := List.cons.inj hds
    exact ⟨_, _, rfl, seq_ok' (b40_ex h hlt) (b41_ex (by omega)), k + 1, _, _, _, rfl, by omega, rfl⟩)
  have hkn : k = rows.length := by
    have := congrArg List.length hds
    simp at this
    omega
  subst hkn
  exact ⟨k', sm', j', e⟩
theorem and2 {m n : M Bool} {ρ : Env} {a b : Bool} (h1 : m ρ = some (.ok a, ρ)) (h2 : n ρ = some (.ok b, ρ)) : andM m n ρ = some (.ok (a && b), ρ) := by
  cases a with
  | true => exact and_t h1 h2
  | false => exact and_f h1
theorem nin_natD (i : Nat) (l : List Nat) : ninF (.int (i : Nat)) (.lst (natD l)) = some (.fz (.bl (!decide (i ∈ l)))) := by
  have h := in_natD i l
  have h1 : inFlat false (.int (i : Nat)) (.lst (natD l)) = some (.fz (.bl (inV (V.int (i : Nat)) ((natI l).map V.int)))) := by
    have e : dVs (natD l) = some ((natI l).map V.int) := by
      rw [natD_eq]
      generalize natI l = zs
      induction zs with
      | nil => rfl
      | cons z zs ih => simp [dVs, dV, ih]
    unfold inFlat
    simp only [dV, Option.bind_some, seqD, e]
    rw [if_pos (by simp [flatV])]
    rfl
  have h2 : inFlat true (.int (i : Nat)) (.lst (natD l)) = some (.fz (.bl (!inV (V.int (i : Nat)) ((natI l).map V.int)))) := by
    have e : dVs (natD l) = some ((natI l).map V.int) := by
      rw [natD_eq]
      generalize natI l = zs
      induction zs with
      | nil => rfl
      | cons z zs ih => simp [dVs, dV, ih]
    unfold inFlat
    simp only [dV, Option.bind_some, seqD, e]
    rw [if_pos (by simp [flatV])]
    rfl
  have h3 : inF (.int (i : Nat)) (.lst (natD l)) = some (.fz (.bl (inV (V.int (i : Nat)) ((natI l).map V.int)))) := by
    show ((none : Option OV).or ((inFlat false (.int (i : Nat)) (.lst (natD l))).or _)) = _
    rw [h1]
    rfl
  rw [h3] at h
  have h4 : inV (V.int (i : Nat)) ((natI l).map V.int) = decide (i ∈ l) := by simpa using h
  show ((none : Option OV).or ((inFlat true (.int (i : Nat)) (.lst (natD l))).or _)) = _
  rw [h2, h4]
  rfl
theorem len_nat (l : List Nat) : (natD l).length = l.length := by unfold natD; rw [List.length_map]
theorem sl1_left (rows : List Row) (T : List Nat) : ∀ d ∈ (leftP rows T).map prD, SL 1 d := fun d hd => by
  obtain ⟨q, _, rfl⟩ := List.mem_map.mp hd
  exact sl_prD q
theorem b6_ex (h : MapOk names w rows) {bd rw_ mn k : OV} {P : OV} (hP : P = .ol ((latePs rows).map prD) ∨ P = .fz (.lst ((latePs rows).map prD))) {T : List Nat} {acc : List (List Nat)} (hacc : acc.length ≤ 1000) : lB6 (lE s dd pt km bd P rw_ mn k (.ol (acc.map gD)) (.fz (.lst (natD T))) fd cs ch j p) = some (.ok .nx, lE s dd pt km bd (.fz (.lst ((latePs rows).map prD))) rw_ mn k (.ol ((if goodB rows T = true then acc ++ [T] else acc).map gD)) (.fz (.lst (natD T))) fd cs ch j .no) := by
  have h9 := late_len h.len
  let ρ : Env := lE s dd pt km bd P rw_ mn k (.ol (acc.map gD)) (.fz (.lst (natD T))) fd cs ch j p
  let ρj : OV → Env := fun x => lE s dd pt km bd (.fz (.lst ((latePs rows).map prD))) rw_ mn k (.ol (acc.map gD)) (.fz (.lst (natD T))) fd cs ch j x
  have eit : itM (sl 5) ρ = some (.ok ((latePs rows).map prD), ρj p) := by
    rcases hP with rfl | rfl <;> rfl
  have ec := comp_filter (vs := [15]) (it := itM (sl 5)) (g := tnm 15) (c := andM (tob (bin2 ninF (tmp (bin2 (oe ixF itemD) (opl 15) (tmp (co (.int 0))))) (opl 10))) (tob (bin2 ninF (tmp (bin2 (oe ixF itemD) (opl 15) (tmp (co (.int 1))))) (opl 10)))) (e := sl 15) (dd := prD) (p := fun q : Nat × Nat => !decide (q.1 ∈ T) && !decide (q.2 ∈ T)) (f := prD) (ρ := ρ) (ρ1 := ρj p) (ρ0 := ρj .no) (l := latePs rows) (E1 := fun q => ρj (.fz (prD q)))
    eit (by omega) rfl (fun a _ => rfl) (fun a _ => by
      have i0 : bin2 (oe ixF itemD) (opl 15) (tmp (co (.int 0))) (ρj (.fz (prD a))) = some (.ok (.fz (.int (a.1 : Nat))), ρj (.fz (prD a))) := bin2_ok (x := .pl 15) (y := .tv (.fz (.int 0))) (ρ1 := ρj (.fz (prD a))) rfl rfl rfl rfl rfl
      have i1 : bin2 (oe ixF itemD) (opl 15) (tmp (co (.int 1))) (ρj (.fz (prD a))) = some (.ok (.fz (.int (a.2 : Nat))), ρj (.fz (prD a))) := bin2_ok (x := .pl 15) (y := .tv (.fz (.int 1))) (ρ1 := ρj (.fz (prD a))) rfl rfl rfl rfl rfl
      exact and2 (tob_ok (bin2_ok (tmp_ok i0) (y := .pl 10) rfl rfl rfl (nin_natD _ _))) (tob_ok (bin2_ok (tmp_ok i1) (y := .pl 10) rfl rfl rfl (nin_natD _ _))))
    (fun a _ _ => ⟨_, rfl, rfl⟩) (fun a _ => rfl)
  rw [show ((latePs rows).filter fun q : Nat × Nat => !decide (q.1 ∈ T) && !decide (q.2 ∈ T)) = leftP rows T from rfl] at ec
  have et := tob_ok (bin2_ok (f := eqF) (tmp_ok ec) (y := .tv (.ol [])) (mb := tmp (lstM (Kv.ret []))) rfl rfl rfl (eq_nil (sl1_left rows T)))
  by_cases hg : goodB rows T = true
  · rw [if_pos hg]
    have et' : _ = some (Except.ok true, ρj .no) := et.trans (by rw [show decide ((leftP rows T).map prD = []) = true by simpa [goodB] using hg])
    refine (ifS_t et').trans ?_
    have el : callP lenN (consO (opl 10) (Kv.ret [])) (ρj .no) = some (.ok (.fz (.int (T.length : Nat))), ρj .no) := by
      have := call1_ok (ma := opl 10) (x := .pl 10) (ρ := ρj .no) (ρ1 := ρj .no) rfl rfl (lenN_lst (natD T))
      rw [len_nat] at this
      exact this
    have ed : consD (tupM (consD (callP lenN (consO (opl 10) (Kv.ret []))) (consD (sl 10) (Kv.ret [])))) (Kv.ret []) (ρj .no) = some (.ok [gD T], ρj .no) := consD_ok (tup_ok (consD_ok el rfl (consD_ok (m := sl 10) (o := .fz (.lst (natD T))) (d := .lst (natD T)) (ρ1 := ρj .no) rfl rfl rfl)) (by show 2 ≤ 100000; decide)) rfl rfl
    have ea := drop_ok (app_ok (mo := opl 9) (x := .pl 9) (ρ := ρj .no) (ρ1 := ρj .no) rfl rfl ed (mut_app (i := 9) (d := gD T) rfl (by rw [List.length_map]; omega)))
    rw [List.map_append]
    exact ea
  · rw [if_neg hg]
    have et' : _ = some (Except.ok false, ρj .no) := et.trans (by rw [show decide ((leftP rows T).map prD = []) = false by simpa [goodB] using hg])
    exact ifS_nx et'
theorem h6_ex (h : MapOk names w rows) {bd mn k : OV} : ∃ P sm' p', lH6 (lE s dd pt km bd (.ol ((latePs rows).map prD)) (chO (Mt.subs rows.length)) mn k (.ol []) sm fd cs ch j p) = some (.ok .nx, lE s dd pt km bd P (.fz (.lst (chD (Mt.subs rows.length)))) mn k (.ol ((goodL rows).map gD)) sm' fd cs ch j p') ∧ (P = .ol ((latePs rows).map prD) ∨ P = .fz (.lst ((latePs rows).map prD))) := by
  have h9 := h.len
  have hsl := Mt.subs_len rows.length
  have hp9 := pow9 h9
  obtain ⟨ρ', e, Ts, acc, P, sm', p', hds, happ, hP, rfl⟩ := for_ex (it := itM (sl 6)) (g := tnm 10) (b := lB6)
    (I := fun ds ρ => ∃ (Ts acc : List (List Nat)) (P sm' p' : OV), ds = Ts.map (fun T => D.lst (natD T)) ∧ (acc ++ Ts.filter (goodB rows) = goodL rows ∧ acc.length + Ts.length ≤ 512) ∧ (P = .ol ((latePs rows).map prD) ∨ P = .fz (.lst ((latePs rows).map prD))) ∧ ρ = lE s dd pt km bd P (.fz (.lst (chD (Mt.subs rows.length)))) mn k (.ol (acc.map gD)) sm' fd cs ch j p')
    (ρ := lE s dd pt km bd (.ol ((latePs rows).map prD)) (chO (Mt.subs rows.length)) mn k (.ol []) sm fd cs ch j p) (ρ1 := lE s dd pt km bd (.ol ((latePs rows).map prD)) (.fz (.lst (chD (Mt.subs rows.length)))) mn k (.ol []) sm fd cs ch j p)
    rfl ⟨Mt.subs rows.length, [], .ol ((latePs rows).map prD), sm, p, rfl, ⟨rfl, by simp; omega⟩, .inl rfl, rfl⟩ (fun d ds ρ hI => by
    obtain ⟨Ts, acc, P, sm', p', hds, ⟨happ, hlen⟩, hP, rfl⟩ := hI
    cases Ts with
    | nil => cases hds
    | cons T Ts =>
      rw [List.map_cons] at hds
      obtain ⟨rfl, rfl⟩ := List.cons.inj hds
      rw [List.length_cons] at hlen
      refine ⟨_, _, rfl, b6_ex h hP (by omega), Ts, _, _, _, _, rfl, ⟨?_, ?_⟩, .inr rfl, rfl⟩
      · rw [← happ]
        by_cases hg : goodB rows T = true
        · rw [if_pos hg, List.filter_cons_of_pos hg, List.append_assoc]; rfl
        · rw [if_neg hg, List.filter_cons_of_neg hg]
      · split
        · rw [List.length_append]; simp; omega
        · omega)
  have hT : Ts = [] := by
    have := congrArg List.length hds
    simp at this
    exact List.eq_nil_of_length_eq_zero this.symm
  subst hT
  have := happ.1
  simp at this
  subst this
  exact ⟨P, sm', p', e, hP⟩
end
end K3
/-! The law's comparisons. -/
namespace K3
open PySem hiding Env
open L2 Kv
section
variable {s dd pt bd rw_ mn k gd sm fd cs ch j p : OV} {names : List Str} {w : Int} {rows : List Row}
theorem h7_ex (h : MapOk names w rows) {P : OV} : lH7 (lE s dd pt (kmO names w rows) bd P rw_ mn k gd sm fd cs ch j p) = some (.ok .nx, lE s dd pt (kmO names w rows) bd P rw_ mn k gd sm (.ol (natD (fwR rows))) cs ch j p) := by
  let ρ : Env := lE s dd pt (kmO names w rows) bd P rw_ mn k gd sm fd cs ch j p
  exact w_set (i := 11) (ρ1 := ρ) (call_ok' (ods := [.pl 3]) (ρ1 := ρ) rfl rfl (fewest_ex h) rfl) rfl (by show 11 < 16; decide)
theorem ne_same (i : Int) : neF (.int i) (.int i) = some (.fz (.bl false)) := by
  rw [ne_int, decide_eq_true rfl]
  rfl
theorem ne_nat (a : List Nat) : neF (.lst (natD a)) (.lst (natD a)) = some (.fz (.bl false)) := by
  rw [natD_eq, ne_ints, decide_eq_true rfl]
  rfl
theorem h8_ex (h : MapOk names w rows) {P : OV} (hP : P = .ol ((latePs rows).map prD) ∨ P = .fz (.lst ((latePs rows).map prD))) : lH8 (lE s dd pt (kmO names w rows) bd P rw_ mn k (.ol ((goodL rows).map gD)) sm (.ol (natD (fwR rows))) cs ch j p) = some (.ok .nx, lE s dd pt (kmO names w rows) bd P rw_ mn k (.ol ((goodL rows).map gD)) sm (.ol (natD (fwR rows))) cs ch j p) := by
  let ρ : Env := lE s dd pt (kmO names w rows) bd P rw_ mn k (.ol ((goodL rows).map gD)) sm (.ol (natD (fwR rows))) cs ch j p
  have ep : callM F_late_pairs (consO (opl 3) (Kv.ret [])) ρ = some (.ok (.ol ((latePs rows).map prD)), ρ) := call_ok' (ods := [.pl 3]) (ρ1 := ρ) rfl rfl (pairs_ex h) rfl
  have e1 : tob (bin2 neF (tmp (callM F_late_pairs (consO (opl 3) (Kv.ret [])))) (opl 5)) ρ = some (.ok false, ρ) := by
    refine tob_ok (bin2_ok (tmp_ok ep) (y := .pl 5) (ρ2 := ρ) (dy := .lst ((latePs rows).map prD)) ?_ rfl ?_ (ne_lst (sl_prs _)))
    · rcases hP with rfl | rfl <;> rfl
    · rcases hP with rfl | rfl <;> rfl
  have em : callP (n1 minDF) (consO (opl 9) (Kv.ret [])) ρ = some (.ok (.fz (gD (fwR rows))), ρ) := call1_ok (x := .pl 9) (d := .lst ((goodL rows).map gD)) rfl rfl (goodL_min h)
  have ei : bin2 (oe ixF itemD) (tmp (callP (n1 minDF) (consO (opl 9) (Kv.ret [])))) (tmp (co (.int 1))) ρ = some (.ok (.fz (.lst (natD (fwR rows)))), ρ) := bin2_ok (tmp_ok em) (y := .tv (.fz (.int 1))) rfl rfl rfl rfl
  have e2 : tob (bin2 neF (opl 11) (tmp (bin2 (oe ixF itemD) (tmp (callP (n1 minDF) (consO (opl 9) (Kv.ret [])))) (tmp (co (.int 1)))))) ρ = some (.ok false, ρ) := tob_ok (bin2_ok (x := .pl 11) (ρ1 := ρ) rfl (tmp_ok ei) rfl rfl (ne_nat _))
  exact ifS_nx (or_f e1 e2)
theorem h9_ex (h : MapOk names w rows) {P fd : OV} : ∃ css, judgeV rows css = .int ((fwR rows).length : Nat) ∧ CB css ∧ (∀ c ∈ css, okC rows c = true) ∧ lH9 (lE s dd pt (kmO names w rows) bd P rw_ mn k gd sm fd cs ch j p) = some (.ok .nx, lE s dd pt (kmO names w rows) bd P rw_ mn k gd sm fd (.ol (chD css)) ch j p) := by
  obtain ⟨M, e1, res, e⟩ := chains_ex h
  obtain ⟨h1, h2, h3⟩ := chains_good h e1 res
  let ρ : Env := lE s dd pt (kmO names w rows) bd P rw_ mn k gd sm fd cs ch j p
  exact ⟨_, h1, h2, h3, w_set (i := 12) (ρ1 := ρ) (call_ok' (ods := [.pl 3]) (ρ1 := ρ) rfl rfl e rfl) rfl (by show 12 < 16; decide)⟩
theorem h10_ex (h : MapOk names w rows) {P : OV} {css : List (List Nat)} (hj : judgeV rows css = .int ((fwR rows).length : Nat)) (hb : CB css) : lH10 (lE s dd pt (kmO names w rows) bd P rw_ mn k gd sm (.ol (natD (fwR rows))) (.ol (chD css)) ch j p) = some (.ok .nx, lE s dd pt (kmO names w rows) bd P rw_ mn k gd sm (.ol (natD (fwR rows))) (.fz (.lst (chD css))) ch j p) := by
  let ρ : Env := lE s dd pt (kmO names w rows) bd P rw_ mn k gd sm (.ol (natD (fwR rows))) (.ol (chD css)) ch j p
  let ρ1 : Env := lE s dd pt (kmO names w rows) bd P rw_ mn k gd sm (.ol (natD (fwR rows))) (.fz (.lst (chD css))) ch j p
  have ej : callM F_judge_chains (consO (opl 3) (consO (opl 12) (Kv.ret []))) ρ = some (.ok (.fz (.int ((fwR rows).length : Nat))), ρ1) := by
    have := call_ok' (ms := consO (opl 3) (consO (opl 12) (Kv.ret []))) (ods := [.pl 3, .pl 12]) (ρ := ρ) (ρ1 := ρ) (ρ3 := ρ1) rfl rfl (judge_ex h hb (K := .ol (chD css)) (.inl rfl)) rfl
    rw [hj] at this
    exact this
  have el : callP lenN (consO (opl 11) (Kv.ret [])) ρ1 = some (.ok (.fz (.int ((fwR rows).length : Nat))), ρ1) := by
    have := call1_ok (ma := opl 11) (x := .pl 11) (ρ := ρ1) (ρ1 := ρ1) rfl rfl (lenN_lst (natD (fwR rows)))
    rw [len_nat] at this
    exact this
  exact ifS_nx (tob_ok (bin2_ok (tmp_ok ej) (tmp_ok el) rfl rfl (ne_same _)))
theorem cb_ones {ks : List Nat} (h : ks.length ≤ 20) : CB (ones ks) := by
  refine ⟨by unfold ones; rw [List.length_map]; exact h, fun cs hc => ?_⟩
  obtain ⟨x, _, rfl⟩ := List.mem_map.mp hc
  show 1 ≤ 40
  decide
theorem h11_ex (h : MapOk names w rows) {P : OV} : ∃ k', lH11 (lE s dd pt (kmO names w rows) bd P rw_ (.fz (.int (rows.length : Nat))) k gd sm fd cs ch j p) = some (.ok .nx, lE s dd pt (kmO names w rows) bd P rw_ (.fz (.int (rows.length : Nat))) k' gd sm fd cs ch j p) := by
  have h9 := h.len
  let ρj : OV → Env := fun x => lE s dd pt (kmO names w rows) bd P rw_ (.fz (.int (rows.length : Nat))) x gd sm fd cs ch j p
  have ec := comp_filter (vs := [8]) (it := rng1M (consO (opl 7) (Kv.ret []))) (g := tnm 8) (c := Kv.ret true) (e := lstM (consD (sl 8) (Kv.ret []))) (dd := fun x : Nat => D.int (x : Nat)) (p := fun _ => true) (f := fun x => D.lst (natD [x])) (ρ := ρj k) (ρ1 := ρj k) (ρ0 := ρj .no) (l := List.range rows.length) (E1 := fun x => ρj (.fz (.int (x : Nat))))
    (rng1_ok (n := (rows.length : Nat)) rfl rfl (by omega) (by omega)) (by rw [List.length_range]; omega) rfl (fun a _ => rfl) (fun a _ => rfl) (fun a _ _ => ⟨.ol [.int (a : Nat)], rfl, rfl⟩) (fun a _ => rfl)
  have ef : ((List.range rows.length).filter fun _ => true).map (fun x => D.lst (natD [x])) = chD (ones (List.range rows.length)) := by
    unfold chD ones
    rw [List.filter_eq_self.mpr (fun _ _ => rfl), List.map_map]
    rfl
  rw [ef] at ec
  have ej : callM F_judge_chains (consO (opl 3) (consO (tmp (compM [8] (rng1M (consO (opl 7) (Kv.ret []))) (tnm 8) (Kv.ret true) (lstM (consD (sl 8) (Kv.ret []))))) (Kv.ret []))) (ρj k) = some (.ok (.fz (.int 0)), ρj .no) := by
    have := call_ok' (ms := consO (opl 3) (consO (tmp (compM [8] (rng1M (consO (opl 7) (Kv.ret []))) (tnm 8) (Kv.ret true) (lstM (consD (sl 8) (Kv.ret []))))) (Kv.ret []))) (ods := [.pl 3, .tv (.ol (chD (ones (List.range rows.length))))]) (ρ := ρj k) (ρ1 := ρj .no) (ρ3 := ρj .no) (consO_ok (m := opl 3) (o := .pl 3) (ρ1 := ρj k) rfl (consO_ok (tmp_ok ec) rfl)) rfl (judge_ex h (cb_ones (ks := List.range rows.length) (by rw [List.length_range]; omega)) (K := .ol (chD (ones (List.range rows.length)))) (.inl rfl)) rfl
    rw [judge_ones] at this
    exact this
  exact ⟨.no, ifS_nx (tob_ok (bin2_ok (tmp_ok ej) (y := .tv (.fz (.int 0))) rfl rfl rfl (ne_same _)))⟩
theorem ix_nat {cs : List Nat} {i c : Nat} (h : cs[i]? = some c) : oe ixF itemD (.lst (natD cs)) (.int (i : Nat)) = some (.fz (.int (c : Nat))) := by
  have hi := (List.getElem?_eq_some_iff.mp h).1
  obtain ⟨d, h1, _, e⟩ := ix_lst (xs := natD cs) (i := (i : Nat)) (by omega) (by rw [len_nat]; omega)
  have : d = .int (c : Nat) := by
    unfold natD at h1
    rw [List.getElem?_map, Int.toNat_natCast, h] at h1
    exact (Option.some.inj h1).symm
  rw [this] at e
  exact e
theorem b12_ex {P : OV} (hP : P = .ol ((latePs rows).map prD) ∨ P = .fz (.lst ((latePs rows).map prD))) {C : List Nat} (hl : C.length ≤ 40) (hok : okC rows C = true) {css : OV} : lB12 (lE s dd pt bd mn P rw_ gd k sm fd cs css (.fz (.lst (natD C))) j p) = some (.ok .nx, lE s dd pt bd mn P rw_ gd .no sm fd cs css (.fz (.lst (natD C))) j p) := by
  let ρj : OV → Env := fun x => lE s dd pt bd mn P rw_ gd x sm fd cs css (.fz (.lst (natD C))) j p
  have el : callP lenN (consO (opl 13) (Kv.ret [])) (ρj k) = some (.ok (.fz (.int (C.length : Nat))), ρj k) := by
    have := call1_ok (ma := opl 13) (x := .pl 13) (ρ := ρj k) (ρ1 := ρj k) rfl rfl (lenN_lst (natD C))
    rw [len_nat] at this
    exact this
  have es : bin2 subF (tmp (callP lenN (consO (opl 13) (Kv.ret [])))) (tmp (co (.int 1))) (ρj k) = some (.ok (.fz (.int ((C.length : Nat) - 1 : Int))), ρj k) := bin2_ok (tmp_ok el) (y := .tv (.fz (.int 1))) rfl rfl rfl rfl
  have hmem : ∀ i a b, C[i]? = some a → C[i + 1]? = some b → (a, b) ∈ latePs rows := fun i a b ha hb => by
    refine late_mem.mpr ?_
    unfold okC at hok
    rw [List.all_eq_true] at hok
    refine hok (a, b) (List.mem_of_getElem? (i := i) ?_)
    unfold Mt.adjs
    rw [List.getElem?_zip_eq_some]
    refine ⟨ha, ?_⟩
    rw [List.getElem?_drop, Nat.add_comm]
    exact hb
  have ec := comp_filter (vs := [8]) (it := rng1M (consO (tmp (bin2 subF (tmp (callP lenN (consO (opl 13) (Kv.ret [])))) (tmp (co (.int 1))))) (Kv.ret []))) (g := tnm 8) (c := tob (bin2 ninF (tmp (tupM (consD (bin2 (oe ixF itemD) (opl 13) (opl 8)) (consD (bin2 (oe ixF itemD) (opl 13) (tmp (bin2 addF (opl 8) (tmp (co (.int 1)))))) (Kv.ret []))))) (opl 5))) (e := sl 8) (dd := fun x : Nat => D.int (x : Nat)) (p := fun _ => false) (f := fun x => D.int (x : Nat)) (ρ := ρj k) (ρ1 := ρj k) (ρ0 := ρj .no) (l := List.range ((C.length : Nat) - 1 : Int).toNat) (E1 := fun x => ρj (.fz (.int (x : Nat))))
    (rng1_okZ (n := ((C.length : Nat) - 1 : Int)) (consO_ok (tmp_ok es) rfl) rfl (by omega) (by omega)) (by rw [List.length_range]; omega) rfl (fun a _ => rfl) (fun a ha => by
      have hlt := List.mem_range.mp ha
      obtain ⟨x, ex⟩ : ∃ x, C[a]? = some x := ⟨_, List.getElem?_eq_getElem (by omega)⟩
      obtain ⟨y, ey⟩ : ∃ y, C[a + 1]? = some y := ⟨_, List.getElem?_eq_getElem (by omega)⟩
      let ρ : Env := ρj (.fz (.int (a : Nat)))
      have i1 : bin2 (oe ixF itemD) (opl 13) (opl 8) ρ = some (.ok (.fz (.int (x : Nat))), ρ) := bin2_ok (x := .pl 13) (y := .pl 8) (ρ1 := ρ) rfl rfl rfl rfl (ix_nat ex)
      have ia : bin2 addF (opl 8) (tmp (co (.int 1))) ρ = some (.ok (.fz (.int ((a + 1 : Nat) : Int))), ρ) := bin2_ok (x := .pl 8) (y := .tv (.fz (.int 1))) (ρ1 := ρ) rfl rfl rfl rfl rfl
      have i2 : bin2 (oe ixF itemD) (opl 13) (tmp (bin2 addF (opl 8) (tmp (co (.int 1))))) ρ = some (.ok (.fz (.int (y : Nat))), ρ) := bin2_ok (x := .pl 13) (ρ1 := ρ) rfl (tmp_ok ia) rfl rfl (ix_nat ey)
      have it : tupM (consD (bin2 (oe ixF itemD) (opl 13) (opl 8)) (consD (bin2 (oe ixF itemD) (opl 13) (tmp (bin2 addF (opl 8) (tmp (co (.int 1)))))) (Kv.ret []))) ρ = some (.ok (.fz (.tup [.int (x : Nat), .int (y : Nat)])), ρ) := tup_ok (consD_ok i1 rfl (consD_ok i2 rfl rfl)) (by show 2 ≤ 100000; decide)
      refine tob_ok (bin2_ok (tmp_ok it) (y := .pl 5) (ρ2 := ρ) (dy := .lst ((latePs rows).map prD)) ?_ rfl ?_ ((nin_prD x y (latePs rows)).trans (by rw [decide_eq_true (hmem a x y ex ey)]; rfl)))
      · rcases hP with rfl | rfl <;> rfl
      · rcases hP with rfl | rfl <;> rfl)
    (fun a _ hf => nomatch hf) (fun a _ => rfl)
  rw [List.filter_eq_nil_iff.mpr (fun _ _ => Bool.false_ne_true)] at ec
  exact ifS_nx (tob_ok (bin2_ok (tmp_ok ec) (y := .tv (.ol [])) (mb := tmp (lstM (Kv.ret []))) rfl rfl rfl (ne_ints [] [])))
theorem h12_ex {P : OV} (hP : P = .ol ((latePs rows).map prD) ∨ P = .fz (.lst ((latePs rows).map prD))) {css : List (List Nat)} (hb : CB css) (hok : ∀ c ∈ css, okC rows c = true) : ∃ k' ch', lH12 (lE s dd pt bd mn P rw_ gd k sm fd cs (.fz (.lst (chD css))) ch j p) = some (.ok .nx, lE s dd pt bd mn P rw_ gd k' sm fd cs (.fz (.lst (chD css))) ch' j p) := by
  obtain ⟨ρ', e, Cs, k', ch', hds, hsub, rfl⟩ := for_ex (it := itM (sl 12)) (g := tnm 13) (b := lB12)
    (I := fun ds ρ => ∃ (Cs : List (List Nat)) (k' ch' : OV), ds = chD Cs ∧ (∀ c ∈ Cs, c ∈ css) ∧ ρ = lE s dd pt bd mn P rw_ gd k' sm fd cs (.fz (.lst (chD css))) ch' j p)
    (ρ := lE s dd pt bd mn P rw_ gd k sm fd cs (.fz (.lst (chD css))) ch j p) (ρ1 := lE s dd pt bd mn P rw_ gd k sm fd cs (.fz (.lst (chD css))) ch j p) rfl ⟨css, k, ch, rfl, fun c h => h, rfl⟩ (fun d ds ρ hI => by
    obtain ⟨Cs, k', ch', hds, hsub, rfl⟩ := hI
    cases Cs with
    | nil => cases hds
    | cons C Cs =>
      obtain ⟨rfl, rfl⟩ := List.cons.inj hds
      have hC := hsub C List.mem_cons_self
      exact ⟨_, _, rfl, b12_ex hP (hb.2 C hC) (hok C hC), Cs, _, _, rfl, fun c hc => hsub c (List.mem_cons_of_mem _ hc), rfl⟩)
  exact ⟨k', ch', e⟩
end
end K3
/-! The law. -/
namespace K3
open PySem hiding Env
open L2 Kv
theorem drop_cut {α : Type} (xs : List α) (n : Nat) : cutA xs (some (n : Int)) none = xs.drop n := by
  unfold cutA
  have e1 : HT.sIx xs.length 0 (some (n : Int)) = min n xs.length := HT.sIx_nat _ _ n
  have e2 : HT.sIx xs.length xs.length none = xs.length := rfl
  rw [e1, e2]
  rcases Nat.le_total n xs.length with h | h
  · rw [Nat.min_eq_left h]
    exact List.take_of_length_le (by rw [List.length_drop]; exact Nat.le_refl _)
  · rw [Nat.min_eq_right h, List.drop_eq_nil_of_le (Nat.le_refl _), List.drop_eq_nil_of_le h]
    simp
theorem take_cut {α : Type} (xs : List α) (n : Nat) : cutA xs none (some (n : Int)) = xs.take n := by
  unfold cutA
  have e1 : HT.sIx xs.length xs.length (some (n : Int)) = min n xs.length := HT.sIx_nat _ _ n
  have e2 : HT.sIx xs.length 0 none = 0 := rfl
  rw [e1, e2, List.drop_zero, Nat.sub_zero]
  rcases Nat.le_total n xs.length with h | h
  · rw [Nat.min_eq_left h]
  · rw [Nat.min_eq_right h, List.take_of_length_le h, List.take_of_length_le (Nat.le_refl _)]
theorem propT_ok {c : Nat} {F : List OV → Res} {m : M OV} {ρ ρ1 : Env} {fs outs : List OV} {o : OV} (h : m ρ = some (.ok (.oi c fs), ρ1)) (h3 : F [.oi c fs] = some (.ok o, outs)) : propM c F (tmp m) ρ = some (.ok o, ρ1) := by
  unfold propM
  rw [bnd_ok (tmp_ok h)]
  rw [bnd_ok (show pkC c (.tv (.oi c fs)) ρ1 = some (.ok (), ρ1) by
    unfold pkC
    have : peek ρ1 (.tv (.oi c fs)) = some (.ins c (OV.dats fs)) := rfl
    rw [this]
    simp)]
  unfold noex callO
  have : takes ρ1 [.tv (.oi c fs)] = some ([.oi c fs], ρ1) := rfl
  rw [this]
  simp only
  rw [h3]
  cases outs <;> rfl
section
variable {ns : List Int} {p m c : Int} {s pt bd P rw_ gd sm fd cs ch j q k : OV} {names : List Str} {w : Int} {rows : List Row}
theorem h13_ex (h : MapOk names w rows) (hp : 0 ≤ p) : ∃ ρ' : Env, ρ'.length = 16 ∧ ρ'[0]? = some s ∧ lH13 (lE s (dv (ns.map D.int) p m c) pt (kmO names w rows) (bdO rows) P rw_ (.fz (.int (rows.length : Nat))) k gd sm fd cs ch j q) = some (.ok .nx, ρ') := by
  have h9 := h.len
  let ρ : Env := lE s (dv (ns.map D.int) p m c) pt (kmO names w rows) (bdO rows) P rw_ (.fz (.int (rows.length : Nat))) k gd sm fd cs ch j q
  have eg : tob (bin2 gtF (opl 7) (tmp (co (.int 0)))) ρ = some (.ok (decide ((0 : Int) < (rows.length : Nat))), ρ) := tob_ok (bin2_ok (x := .pl 7) (y := .tv (.fz (.int 0))) (ρ1 := ρ) rfl rfl rfl rfl rfl)
  by_cases hn : 0 < rows.length
  · have eg' : _ = some (Except.ok true, ρ) := eg.trans (by rw [decide_eq_true (by omega)])
    obtain ⟨x, p', m', c', hx0, hx1, hp', ex⟩ := next_ex (ns := ns) (m := m) (c := c) hp (many := (rows.length : Nat)) (by omega) (by omega)
    obtain ⟨K, rfl⟩ : ∃ K : Nat, x = (K : Int) := ⟨x.toNat, by omega⟩
    have hK : K < rows.length := by omega
    let ρj : OV → Env := fun y => lE s (dv (ns.map D.int) p' m' c') pt (kmO names w rows) (bdO rows) P rw_ (.fz (.int (rows.length : Nat))) (.fz (.int (K : Nat))) gd sm fd cs ch y q
    have e1 : setN 8 (callM F__law_taken (consO (opl 1) (consO (opl 7) (Kv.ret [])))) ρ = some (.ok .nx, ρj j) :=
      w_set (i := 8) (ρ1 := lE s (dv (ns.map D.int) p' m' c') pt (kmO names w rows) (bdO rows) P rw_ (.fz (.int (rows.length : Nat))) k gd sm fd cs ch j q) (call_ok' (ods := [.pl 1, .pl 7]) (ρ1 := ρ) rfl rfl ex rfl) rfl (by show 8 < 16; decide)
    have ec := comp_filter (vs := [14]) (it := rng1M (consO (opl 7) (Kv.ret []))) (g := tnm 14) (c := tob (bin2 neF (opl 14) (opl 8))) (e := lstM (consD (sl 14) (Kv.ret []))) (dd := fun x : Nat => D.int (x : Nat)) (p := fun x : Nat => !decide ((x : Int) = (K : Int))) (f := fun x => D.lst (natD [x])) (ρ := ρj j) (ρ1 := ρj j) (ρ0 := ρj .no) (l := List.range rows.length) (E1 := fun x => ρj (.fz (.int (x : Nat))))
      (rng1_ok (n := (rows.length : Nat)) rfl rfl (by omega) (by omega)) (by rw [List.length_range]; omega) rfl (fun a _ => rfl) (fun a _ => tob_ok (bin2_ok (x := .pl 14) (y := .pl 8) (ρ1 := ρj (.fz (.int (a : Nat)))) rfl rfl rfl rfl (ne_int _ _))) (fun a _ _ => ⟨.ol [.int (a : Nat)], rfl, rfl⟩) (fun a _ => rfl)
    let ks := (List.range rows.length).filter fun x : Nat => !decide ((x : Int) = (K : Int))
    have ef : ((List.range rows.length).filter fun x : Nat => !decide ((x : Int) = (K : Int))).map (fun x => D.lst (natD [x])) = chD (ones ks) := by
      unfold chD ones
      rw [List.map_map]
      rfl
    rw [ef] at ec
    have hks : ks.length < rows.length := by
      have h1 := Mt.filt_two (fun x : Nat => decide ((x : Int) = (K : Int))) (List.range rows.length)
      rw [List.length_range] at h1
      have h2 : 0 < ((List.range rows.length).filter fun x : Nat => decide ((x : Int) = (K : Int))).length := by
        refine List.length_pos_of_mem (a := K) (List.mem_filter.mpr ⟨List.mem_range.mpr hK, by simp⟩)
      show ((List.range rows.length).filter fun x : Nat => !decide ((x : Int) = (K : Int))).length < rows.length
      omega
    have ej : callM F_judge_chains (consO (opl 3) (consO (tmp (compM [14] (rng1M (consO (opl 7) (Kv.ret []))) (tnm 14) (tob (bin2 neF (opl 14) (opl 8))) (lstM (consD (sl 14) (Kv.ret []))))) (Kv.ret []))) (ρj j) = some (.ok (.fz .non), ρj .no) := by
      have := call_ok' (ms := consO (opl 3) (consO (tmp (compM [14] (rng1M (consO (opl 7) (Kv.ret []))) (tnm 14) (tob (bin2 neF (opl 14) (opl 8))) (lstM (consD (sl 14) (Kv.ret []))))) (Kv.ret []))) (ods := [.pl 3, .tv (.ol (chD (ones ks)))]) (ρ := ρj j) (ρ1 := ρj .no) (ρ3 := ρj .no) (consO_ok (m := opl 3) (o := .pl 3) (ρ1 := ρj j) rfl (consO_ok (tmp_ok ec) rfl)) rfl (judge_ex h (cb_ones (ks := ks) (by omega)) (K := .ol (chD (ones ks))) (.inl rfl)) rfl
      rw [judge_miss (by omega)] at this
      exact this
    have e2 := ifS_nx (m1 := retM (co (.bl false))) (tob_ok (bin2_ok (f := isN true) (tmp_ok ej) (mb := tmp (co .non)) (y := .tv (.fz .non)) (o := .fz (.bl false)) rfl rfl rfl rfl))
    have ew : callM F_without_bindings (consO (opl 3) (consO (opl 8) (Kv.ret []))) (ρj .no) = some (.ok (kmO names w (cutR rows K)), ρj .no) := call_ok' (ods := [.pl 3, .pl 8]) (ρ1 := ρj .no) rfl rfl (without_ex h hK) rfl
    have eb : propM 0 F_KeyMap_bindings (tmp (callM F_without_bindings (consO (opl 3) (consO (opl 8) (Kv.ret []))))) (ρj .no) = some (.ok (.fz (.tup ((cutR rows K).map Row.d))), ρj .no) := propT_ok ew (bind_ex names w (cutR rows K))
    have s1 : slM slF (opl 4) noP (intP (sl 8)) (ρj .no) = some (.ok (.fz (.tup ((rows.take K).map Row.d))), ρj .no) := by
      rw [List.map_take, ← take_cut]
      exact sl_ok (x := .pl 4) (ρ1 := ρj .no) (ρ2 := ρj .no) rfl rfl rfl rfl rfl
    have ea1 : bin2 addF (opl 8) (tmp (co (.int 1))) (ρj .no) = some (.ok (.fz (.int ((K + 1 : Nat) : Int))), ρj .no) := bin2_ok (x := .pl 8) (y := .tv (.fz (.int 1))) (ρ1 := ρj .no) rfl rfl rfl rfl rfl
    have s2 : slM slF (opl 4) (intP (bin2 addF (opl 8) (tmp (co (.int 1))))) noP (ρj .no) = some (.ok (.fz (.tup ((rows.drop (K + 1)).map Row.d))), ρj .no) := by
      rw [List.map_drop, ← drop_cut]
      exact sl_ok (x := .pl 4) (ρ1 := ρj .no) (ρ2 := ρj .no) rfl (intP_ok ea1) rfl rfl rfl
    have hct : addF (.tup ((rows.take K).map Row.d)) (.tup ((rows.drop (K + 1)).map Row.d)) = some (.fz (.tup ((cutR rows K).map Row.d))) := by
      show (((none : Option OV).or none).or ((none : Option OV).or (catT (.tup ((rows.take K).map Row.d)) (.tup ((rows.drop (K + 1)).map Row.d))))) = _
      unfold catT cutR
      simp only
      rw [if_pos (by rw [List.length_map, List.length_map, List.length_take, List.length_drop]; omega), List.map_append]
      rfl
    have ea := bin2_ok (f := addF) (tmp_ok s1) (tmp_ok s2) rfl rfl hct
    have hsl : SL 10 (.tup ((cutR rows K).map Row.d)) := sl_rows h.nm (cut_ok h K).ok
    have e3 := ifS_nx (m1 := retM (co (.bl false))) (tob_ok (bin2_ok (f := neF) (tmp_ok eb) (tmp_ok ea) rfl rfl (ne_tup hsl)))
    refine ⟨ρj .no, rfl, rfl, (ifS_t eg').trans (seq_ok' e1 (seq_ok' e2 e3))⟩
  · have eg' : _ = some (Except.ok false, ρ) := eg.trans (by rw [decide_eq_false (by omega)])
    exact ⟨ρ, rfl, rfl, ifS_nx eg'⟩
end
theorem letS_2 {x : Int} (h0 : 0 ≤ x) (h1 : x < 2) : ∃ L : Str, L ∈ letS ∧ oe ixF itemD (.lst [.str "ab", .str "abc"]) (.int x) = some (.fz (.str L)) := by
  have : x = 0 ∨ x = 1 := by omega
  rcases this with rfl | rfl
  · exact ⟨"ab", by decide, rfl⟩
  · exact ⟨"abc", by decide, rfl⟩
/-- the law answers True whatever the script -/
theorem law_ex (ns : List Int) : F_law [.fz (.frl (ns.map D.int))] = some (.ok (.fz (.bl true)), [.fz (.frl (ns.map D.int))]) := by
  let s : OV := .fz (.frl (ns.map D.int))
  let ρ0 : Env := lE s .no .no .no .no .no .no .no .no .no .no .no .no .no .no .no
  let ρd : OV → Env := fun d => lE s d .no .no .no .no .no .no .no .no .no .no .no .no .no .no
  have e0 : lH0 ρ0 = some (.ok .nx, ρd (dv (ns.map D.int) 0 0 0)) := rfl
  obtain ⟨x, p1, m1, c1, hx0, hx1, hp1, ex⟩ := next_ex (ns := ns) (p := 0) (m := 0) (c := 0) (by decide) (many := 2) (by decide) (by decide)
  obtain ⟨L, hL, eL⟩ := letS_2 hx0 hx1
  obtain ⟨names, w, rows, p2, m2, c2, h, hp2, e2⟩ := parts_ex (ns := ns) (m := m1) (c := c1) (M := 7) hL (by decide) (by decide) hp1
  have h9 := h.len
  let PD := partsD names w rows
  let dd := dv (ns.map D.int) p2 m2 c2
  have kt : callM F__law_taken (consO (opl 1) (consO (tmp (co (.int 2))) (Kv.ret []))) (ρd (dv (ns.map D.int) 0 0 0)) = some (.ok (.fz (.int x)), ρd (dv (ns.map D.int) p1 m1 c1)) := call_ok' (ods := [.pl 1, .tv (.fz (.int 2))]) (ρ1 := ρd (dv (ns.map D.int) 0 0 0)) rfl rfl ex rfl
  have kl : bin2 (oe ixF itemD) (tmp (lstM (consD (co (.str "ab")) (consD (co (.str "abc")) (Kv.ret []))))) (tmp (callM F__law_taken (consO (opl 1) (consO (tmp (co (.int 2))) (Kv.ret []))))) (ρd (dv (ns.map D.int) 0 0 0)) = some (.ok (.fz (.str L)), ρd (dv (ns.map D.int) p1 m1 c1)) := bin2_ok (x := .tv (.ol [.str "ab", .str "abc"])) (ρ1 := ρd (dv (ns.map D.int) 0 0 0)) rfl (tmp_ok kt) rfl rfl eL
  have e1 : lH1 (ρd (dv (ns.map D.int) 0 0 0)) = some (.ok .nx, lE s dd (.fz PD) .no .no .no .no .no .no .no .no .no .no .no .no .no) :=
    w_set (i := 2) (ρ1 := ρd dd) (call_ok' (ods := [.pl 1, .tv (.fz (.str L)), .tv (.fz (.int 7))]) (ρ1 := ρd (dv (ns.map D.int) p1 m1 c1)) (consO_ok (m := opl 1) (o := .pl 1) (ρ1 := ρd (dv (ns.map D.int) 0 0 0)) rfl (consO_ok (tmp_ok kl) rfl)) rfl e2 rfl) rfl (by show 2 < 16; decide)
  let ρ2 : Env := lE s dd (.fz PD) .no .no .no .no .no .no .no .no .no .no .no .no .no
  have km : callM F__law_made (consO (opl 2) (Kv.ret [])) ρ2 = some (.ok (kmO names w rows), ρ2) := call_ok' (ods := [.pl 2]) (ρ1 := ρ2) rfl rfl (made_ex h) rfl
  have kb : bin2 (oe ixF itemD) (opl 2) (tmp (co (.int 2))) ρ2 = some (.ok (bdO rows), ρ2) := bin2_ok (x := .pl 2) (y := .tv (.fz (.int 2))) (ρ1 := ρ2) rfl rfl rfl rfl rfl
  let ρ3 : Env := lE s dd (.fz PD) (kmO names w rows) (bdO rows) (.ol []) (chO [[]]) .no .no .no .no .no .no .no .no .no
  have e3 : lH2 ρ2 = some (.ok .nx, ρ3) := by
    show parsM _ _ _ = _
    unfold parsM
    rw [bnd_ok (consO_ok (tmp_ok km) (consO_ok (tmp_ok kb) (consO_ok (m := tmp (lstM (Kv.ret []))) (o := .tv (.ol [])) (ρ1 := ρ2) rfl (consO_ok (o := .tv (.ol [.lst []])) (ρ1 := ρ2) rfl rfl))))]
    rfl
  let ρ4 : Env := lE s dd (.fz PD) (kmO names w rows) (bdO rows) (.ol []) (chO [[]]) (.fz (.int (rows.length : Nat))) .no .no .no .no .no .no .no .no
  have e4 : lH3 ρ3 = some (.ok .nx, ρ4) := by
    have := call1_ok (ma := opl 4) (x := .pl 4) (ρ := ρ3) (ρ1 := ρ3) rfl rfl (lenN_tup (rows.map Row.d))
    rw [List.length_map] at this
    exact w_set (i := 7) (ρ1 := ρ3) this rfl (by show 7 < 16; decide)
  obtain ⟨k5, sm5, j5, e5⟩ := h4_ex (s := s) (dd := dd) (pt := .fz PD) (km := kmO names w rows) (gd := .no) (sm := .no) (fd := .no) (cs := .no) (ch := .no) (j := .no) (p := .no) h
  have e6 : lH5 (lE s dd (.fz PD) (kmO names w rows) (bdO rows) (.ol ((latePs rows).map prD)) (chO (Mt.subs rows.length)) (.fz (.int (rows.length : Nat))) k5 .no sm5 .no .no .no j5 .no) = some (.ok .nx, lE s dd (.fz PD) (kmO names w rows) (bdO rows) (.ol ((latePs rows).map prD)) (chO (Mt.subs rows.length)) (.fz (.int (rows.length : Nat))) k5 (.ol []) sm5 .no .no .no j5 .no) := rfl
  obtain ⟨P, sm7, p7, e7, hP⟩ := h6_ex (s := s) (dd := dd) (pt := .fz PD) (km := kmO names w rows) (bd := bdO rows) (mn := .fz (.int (rows.length : Nat))) (k := k5) (sm := sm5) (fd := .no) (cs := .no) (ch := .no) (j := j5) (p := .no) h
  have e8 := h7_ex (s := s) (dd := dd) (pt := .fz PD) (bd := bdO rows) (rw_ := .fz (.lst (chD (Mt.subs rows.length)))) (mn := .fz (.int (rows.length : Nat))) (k := k5) (gd := .ol ((goodL rows).map gD)) (sm := sm7) (fd := .no) (cs := .no) (ch := .no) (j := j5) (p := p7) h (P := P)
  have e9 := h8_ex (s := s) (dd := dd) (pt := .fz PD) (bd := bdO rows) (rw_ := .fz (.lst (chD (Mt.subs rows.length)))) (mn := .fz (.int (rows.length : Nat))) (k := k5) (sm := sm7) (cs := .no) (ch := .no) (j := j5) (p := p7) h (P := P) hP
  obtain ⟨css, hj, hb, hok, e10⟩ := h9_ex (s := s) (dd := dd) (pt := .fz PD) (bd := bdO rows) (rw_ := .fz (.lst (chD (Mt.subs rows.length)))) (mn := .fz (.int (rows.length : Nat))) (k := k5) (gd := .ol ((goodL rows).map gD)) (sm := sm7) (fd := .ol (natD (fwR rows))) (cs := .no) (ch := .no) (j := j5) (p := p7) h (P := P)
  have e11 := h10_ex (s := s) (dd := dd) (pt := .fz PD) (bd := bdO rows) (rw_ := .fz (.lst (chD (Mt.subs rows.length)))) (mn := .fz (.int (rows.length : Nat))) (k := k5) (gd := .ol ((goodL rows).map gD)) (sm := sm7) (ch := .no) (j := j5) (p := p7) h (P := P) hj hb
  obtain ⟨k12, e12⟩ := h11_ex (s := s) (dd := dd) (pt := .fz PD) (bd := bdO rows) (rw_ := .fz (.lst (chD (Mt.subs rows.length)))) (k := k5) (gd := .ol ((goodL rows).map gD)) (sm := sm7) (fd := .ol (natD (fwR rows))) (cs := .fz (.lst (chD css))) (ch := .no) (j := j5) (p := p7) h (P := P)
  obtain ⟨k13, ch13, e13⟩ := h12_ex (s := s) (dd := dd) (pt := .fz PD) (bd := kmO names w rows) (mn := bdO rows) (rw_ := .fz (.lst (chD (Mt.subs rows.length)))) (gd := .fz (.int (rows.length : Nat))) (k := k12) (sm := .ol ((goodL rows).map gD)) (fd := sm7) (cs := .ol (natD (fwR rows))) (ch := .no) (j := j5) (p := p7) hP hb hok
  obtain ⟨ρ', hl, hs, e14⟩ := h13_ex (ns := ns) (p := p2) (m := m2) (c := c2) (s := s) (pt := .fz PD) (P := P) (rw_ := .fz (.lst (chD (Mt.subs rows.length)))) (gd := .ol ((goodL rows).map gD)) (sm := sm7) (fd := .ol (natD (fwR rows))) (cs := .fz (.lst (chD css))) (ch := ch13) (j := j5) (q := p7) (k := k13) h hp2
  unfold F_law
  have hlaw : m_law ρ0 = some (.ok (.rt (.fz (.bl true))), ρ') := by
    rw [m_law_eq]
    exact seq_ok' e0 (seq_ok' e1 (seq_ok' e3 (seq_ok' e4 (seq_ok' e5 (seq_ok' e6 (seq_ok' e7 (seq_ok' e8 (seq_ok' e9 (seq_ok' e10 (seq_ok' e11 (seq_ok' e12 (seq_ok' e13 (seq_ok' e14 (ret_ok rfl))))))))))))))
  refine (fnR_ok (np := 1) (kp := [0]) (ρ' := ρ') rfl hlaw (by omega)).trans ?_
  have : outsOf [0] 1 ρ' = [s] := by
    cases ρ' with
    | nil => cases hl
    | cons a r =>
      have ha : a = s := by simpa using hs
      subst ha
      rfl
  rw [this]
end K3
/-! The end (printed by mkX.py). -/
namespace K3
open PySem hiding Env
open L2 Kv
theorem all_mk {l : PySem.W.OpenLaw} {w : World} {K : PySem.W.Frag} {h : Heap} {mg : Str → Option Value} {fa C0 C1 f0 f1 f2 f3 f4 f5 f6 f7 f8 f9 f10 f11 f12 f13 f14 f15 f16 f17 f18 f19 f20 f21 f22 : Addr} {od0 an0 od1 an1 od2 an2 od3 an3 od4 an4 od5 an5 od6 an6 od7 an7 od8 an8 od9 an9 od10 an10 od11 an11 od12 an12 od13 an13 od14 an14 od15 an15 od16 an16 od17 an17 od18 an18 od19 an19 od20 an20 od21 an21 od22 an22 : Option Addr} {sl0 sl1 sl2 sl3 sl4 sl5 sl6 sl7 sl8 sl9 sl10 sl11 sl12 sl13 sl14 sl15 sl16 sl17 sl18 sl19 sl20 sl21 sl22 : Array (Option Value)} {oc0 kV0 dc0 pm0 cd0 ct0 oc1 kV1 dc1 pm1 cd1 ct1 oc2 kV2 dc2 pm2 cd2 ct2 oc3 kV3 dc3 pm3 cd3 ct3 oc4 kV4 dc4 pm4 cd4 ct4 oc5 kV5 dc5 pm5 cd5 ct5 oc6 kV6 dc6 pm6 cd6 ct6 oc7 kV7 dc7 pm7 cd7 ct7 oc8 kV8 dc8 pm8 cd8 ct8 oc9 kV9 dc9 pm9 cd9 ct9 oc10 kV10 dc10 pm10 cd10 ct10 oc11 kV11 dc11 pm11 cd11 ct11 oc12 kV12 dc12 pm12 cd12 ct12 oc13 kV13 dc13 pm13 cd13 ct13 oc14 kV14 dc14 pm14 cd14 ct14 oc15 kV15 dc15 pm15 cd15 ct15 oc16 kV16 dc16 pm16 cd16 ct16 oc17 kV17 dc17 pm17 cd17 ct17 oc18 kV18 dc18 pm18 cd18 ct18 oc19 kV19 dc19 pm19 cd19 ct19 oc20 kV20 dc20 pm20 cd20 ct20 oc21 kV21 dc21 pm21 cd21 ct21 oc22 kV22 dc22 pm22 cd22 ct22 : Value} {tkk_LETTERS : Tok} {tkk_MAX_KEYS : Tok} {tkk_MAX_NAME : Tok} {tkk_MAX_BINDINGS : Tok} {tkk_MAX_WAIT : Tok} {tkk_MAX_MODES : Tok} {pxpr_KeyMap_bindings : Addr} {rspr_KeyMap_bindings : List Value} {pxpr_KeyMap_wait : Addr} {rspr_KeyMap_wait : List Value} {pxpr_KeyMap_modes : Addr} {rspr_KeyMap_modes : List Value} (X : K.In h) (G : h.Ns mainGlobals mg) (hfa : mg "law" = some (.ref fa))
    (h_c_Matching : PySem.W.nsIn K mainGlobals "Matching" = some (some (.ref C1)))
    (h_c_KeyMap : PySem.W.nsIn K mainGlobals "KeyMap" = some (some (.ref C0)))
    (h_f_is_word : PySem.W.nsIn K mainGlobals "is_word" = some (some (.ref f1)))
    (h_f_is_binding : PySem.W.nsIn K mainGlobals "is_binding" = some (some (.ref f2)))
    (h_f_is_integer : PySem.W.nsIn K mainGlobals "is_integer" = some (some (.ref f0)))
    (h_f_makes_late : PySem.W.nsIn K mainGlobals "makes_late" = some (some (.ref f8)))
    (h_f_late_pairs : PySem.W.nsIn K mainGlobals "late_pairs" = some (some (.ref f9)))
    (h_f__law_taken : PySem.W.nsIn K mainGlobals "_law_taken" = some (some (.ref f17)))
    (h_f__law_keys : PySem.W.nsIn K mainGlobals "_law_keys" = some (some (.ref f18)))
    (h_f_without_bindings : PySem.W.nsIn K mainGlobals "without_bindings" = some (some (.ref f16)))
    (h_f_judge_chains : PySem.W.nsIn K mainGlobals "judge_chains" = some (some (.ref f15)))
    (h_f_find_chains : PySem.W.nsIn K mainGlobals "find_chains" = some (some (.ref f14)))
    (h_f_fewest_to_drop : PySem.W.nsIn K mainGlobals "fewest_to_drop" = some (some (.ref f13)))
    (h_f__law_is_late : PySem.W.nsIn K mainGlobals "_law_is_late" = some (some (.ref f21)))
    (h_f__law_made : PySem.W.nsIn K mainGlobals "_law_made" = some (some (.ref f20)))
    (h_f__law_parts : PySem.W.nsIn K mainGlobals "_law_parts" = some (some (.ref f19)))
    (h_law : PySem.W.nsIn K mainGlobals "law" = some (some (.ref f22)))
    (h_pr_KeyMap_bindings1 : PySem.W.findIn K (.ref C0) "bindings" = some (some (.ref pxpr_KeyMap_bindings)))
    (h_pr_KeyMap_bindings4 : PySem.W.recIn K pxpr_KeyMap_bindings "property" = some (.ref f6 :: rspr_KeyMap_bindings))
    (h_pr_KeyMap_bindings2 : PySem.W.specialIn K (.ref pxpr_KeyMap_bindings) "__get__" = some (some (.builtin "property.__get__")))
    (h_pr_KeyMap_bindings3 : PySem.W.takesIn K (.ref pxpr_KeyMap_bindings) = some true)
    (h_mt_Matching_join1 : PySem.W.findIn K (.ref C1) "join" = some (some (.ref f10)))
    (h_mt_Matching_join2 : PySem.W.isFn K (.ref f10) = true)
    (h_mk_Matching1 : PySem.W.findIn K (.ref C1) "__init__" = some (some (.ref f11)))
    (h_mk_Matching2 : PySem.W.makesIn K C1 = true)
    (h_mk_Matching3 : PySem.W.isFn K (.ref f11) = true)
    (h_mk_Matching4 : PySem.W.keepIn K (.ref C1) = true)
    (h_mt_Matching_size1 : PySem.W.findIn K (.ref C1) "size" = some (some (.ref f12)))
    (h_mt_Matching_size2 : PySem.W.isFn K (.ref f12) = true)
    (h_pr_KeyMap_wait1 : PySem.W.findIn K (.ref C0) "wait" = some (some (.ref pxpr_KeyMap_wait)))
    (h_pr_KeyMap_wait4 : PySem.W.recIn K pxpr_KeyMap_wait "property" = some (.ref f5 :: rspr_KeyMap_wait))
    (h_pr_KeyMap_wait2 : PySem.W.specialIn K (.ref pxpr_KeyMap_wait) "__get__" = some (some (.builtin "property.__get__")))
    (h_pr_KeyMap_wait3 : PySem.W.takesIn K (.ref pxpr_KeyMap_wait) = some true)
    (h_pr_KeyMap_modes1 : PySem.W.findIn K (.ref C0) "modes" = some (some (.ref pxpr_KeyMap_modes)))
    (h_pr_KeyMap_modes4 : PySem.W.recIn K pxpr_KeyMap_modes "property" = some (.ref f4 :: rspr_KeyMap_modes))
    (h_pr_KeyMap_modes2 : PySem.W.specialIn K (.ref pxpr_KeyMap_modes) "__get__" = some (some (.builtin "property.__get__")))
    (h_pr_KeyMap_modes3 : PySem.W.takesIn K (.ref pxpr_KeyMap_modes) = some true)
    (h_mk_KeyMap1 : PySem.W.findIn K (.ref C0) "__init__" = some (some (.ref f3)))
    (h_mk_KeyMap2 : PySem.W.makesIn K C0 = true)
    (h_mk_KeyMap3 : PySem.W.isFn K (.ref f3) = true)
    (h_mk_KeyMap4 : PySem.W.keepIn K (.ref C0) = true)
    (h_mt_KeyMap_check_binding1 : PySem.W.findIn K (.ref C0) "check_binding" = some (some (.ref f7)))
    (h_mt_KeyMap_check_binding2 : PySem.W.isFn K (.ref f7) = true)
    (h_l0 : K.lookup f0 = some ⟨oc0, od0, .func (PySem.W.fnOf "is_integer" "is_integer" (defArgs s_is_integer) (defBody s_is_integer) (defScope s_is_integer) .none kV0 dc0 pm0 an0 cd0 ct0), sl0⟩)
    (h_e0 : PySem.W.codeIn K cd0 "is_integer" = true)
    (h_k0 : PySem.W.keepIn K (.ref f0) = true)
    (h_l1 : K.lookup f1 = some ⟨oc1, od1, .func (PySem.W.fnOf "is_word" "is_word" (defArgs s_is_word) (defBody s_is_word) (defScope s_is_word) .none kV1 dc1 pm1 an1 cd1 ct1), sl1⟩)
    (h_e1 : PySem.W.codeIn K cd1 "is_word" = true)
    (h_k1 : PySem.W.keepIn K (.ref f1) = true)
    (h_l2 : K.lookup f2 = some ⟨oc2, od2, .func (PySem.W.fnOf "is_binding" "is_binding" (defArgs s_is_binding) (defBody s_is_binding) (defScope s_is_binding) .none kV2 dc2 pm2 an2 cd2 ct2), sl2⟩)
    (h_e2 : PySem.W.codeIn K cd2 "is_binding" = true)
    (h_k2 : PySem.W.keepIn K (.ref f2) = true)
    (h_l3 : K.lookup f3 = some ⟨oc3, od3, .func (PySem.W.fnOf "__init__" "KeyMap.__init__" (defArgs s_KeyMap___init__) (defBody s_KeyMap___init__) (defScope s_KeyMap___init__) .none kV3 dc3 pm3 an3 cd3 ct3), sl3⟩)
    (h_e3 : PySem.W.codeIn K cd3 "KeyMap.__init__" = true)
    (h_k3 : PySem.W.keepIn K (.ref f3) = true)
    (h_l4 : K.lookup f4 = some ⟨oc4, od4, .func (PySem.W.fnOf "modes" "KeyMap.modes" (defArgs s_KeyMap_modes) (defBody s_KeyMap_modes) (defScope s_KeyMap_modes) .none kV4 dc4 pm4 an4 cd4 ct4), sl4⟩)
    (h_e4 : PySem.W.codeIn K cd4 "KeyMap.modes" = true)
    (h_k4 : PySem.W.keepIn K (.ref f4) = true)
    (h_l5 : K.lookup f5 = some ⟨oc5, od5, .func (PySem.W.fnOf "wait" "KeyMap.wait" (defArgs s_KeyMap_wait) (defBody s_KeyMap_wait) (defScope s_KeyMap_wait) .none kV5 dc5 pm5 an5 cd5 ct5), sl5⟩)
    (h_e5 : PySem.W.codeIn K cd5 "KeyMap.wait" = true)
    (h_k5 : PySem.W.keepIn K (.ref f5) = true)
    (h_l6 : K.lookup f6 = some ⟨oc6, od6, .func (PySem.W.fnOf "bindings" "KeyMap.bindings" (defArgs s_KeyMap_bindings) (defBody s_KeyMap_bindings) (defScope s_KeyMap_bindings) .none kV6 dc6 pm6 an6 cd6 ct6), sl6⟩)
    (h_e6 : PySem.W.codeIn K cd6 "KeyMap.bindings" = true)
    (h_k6 : PySem.W.keepIn K (.ref f6) = true)
    (h_l7 : K.lookup f7 = some ⟨oc7, od7, .func (PySem.W.fnOf "check_binding" "KeyMap.check_binding" (defArgs s_KeyMap_check_binding) (defBody s_KeyMap_check_binding) (defScope s_KeyMap_check_binding) .none kV7 dc7 pm7 an7 cd7 ct7), sl7⟩)
    (h_e7 : PySem.W.codeIn K cd7 "KeyMap.check_binding" = true)
    (h_k7 : PySem.W.keepIn K (.ref f7) = true)
    (h_l8 : K.lookup f8 = some ⟨oc8, od8, .func (PySem.W.fnOf "makes_late" "makes_late" (defArgs s_makes_late) (defBody s_makes_late) (defScope s_makes_late) .none kV8 dc8 pm8 an8 cd8 ct8), sl8⟩)
    (h_e8 : PySem.W.codeIn K cd8 "makes_late" = true)
    (h_k8 : PySem.W.keepIn K (.ref f8) = true)
    (h_l9 : K.lookup f9 = some ⟨oc9, od9, .func (PySem.W.fnOf "late_pairs" "late_pairs" (defArgs s_late_pairs) (defBody s_late_pairs) (defScope s_late_pairs) .none kV9 dc9 pm9 an9 cd9 ct9), sl9⟩)
    (h_e9 : PySem.W.codeIn K cd9 "late_pairs" = true)
    (h_k9 : PySem.W.keepIn K (.ref f9) = true)
    (h_l10 : K.lookup f10 = some ⟨oc10, od10, .func (PySem.W.fnOf "join" "Matching.join" (defArgs s_Matching_join) (defBody s_Matching_join) (defScope s_Matching_join) .none kV10 dc10 pm10 an10 cd10 ct10), sl10⟩)
    (h_e10 : PySem.W.codeIn K cd10 "Matching.join" = true)
    (h_k10 : PySem.W.keepIn K (.ref f10) = true)
    (h_l11 : K.lookup f11 = some ⟨oc11, od11, .func (PySem.W.fnOf "__init__" "Matching.__init__" (defArgs s_Matching___init__) (defBody s_Matching___init__) (defScope s_Matching___init__) .none kV11 dc11 pm11 an11 cd11 ct11), sl11⟩)
    (h_e11 : PySem.W.codeIn K cd11 "Matching.__init__" = true)
    (h_k11 : PySem.W.keepIn K (.ref f11) = true)
    (h_l12 : K.lookup f12 = some ⟨oc12, od12, .func (PySem.W.fnOf "size" "Matching.size" (defArgs s_Matching_size) (defBody s_Matching_size) (defScope s_Matching_size) .none kV12 dc12 pm12 an12 cd12 ct12), sl12⟩)
    (h_e12 : PySem.W.codeIn K cd12 "Matching.size" = true)
    (h_k12 : PySem.W.keepIn K (.ref f12) = true)
    (h_l13 : K.lookup f13 = some ⟨oc13, od13, .func (PySem.W.fnOf "fewest_to_drop" "fewest_to_drop" (defArgs s_fewest_to_drop) (defBody s_fewest_to_drop) (defScope s_fewest_to_drop) .none kV13 dc13 pm13 an13 cd13 ct13), sl13⟩)
    (h_e13 : PySem.W.codeIn K cd13 "fewest_to_drop" = true)
    (h_k13 : PySem.W.keepIn K (.ref f13) = true)
    (h_l14 : K.lookup f14 = some ⟨oc14, od14, .func (PySem.W.fnOf "find_chains" "find_chains" (defArgs s_find_chains) (defBody s_find_chains) (defScope s_find_chains) .none kV14 dc14 pm14 an14 cd14 ct14), sl14⟩)
    (h_e14 : PySem.W.codeIn K cd14 "find_chains" = true)
    (h_k14 : PySem.W.keepIn K (.ref f14) = true)
    (h_l15 : K.lookup f15 = some ⟨oc15, od15, .func (PySem.W.fnOf "judge_chains" "judge_chains" (defArgs s_judge_chains) (defBody s_judge_chains) (defScope s_judge_chains) .none kV15 dc15 pm15 an15 cd15 ct15), sl15⟩)
    (h_e15 : PySem.W.codeIn K cd15 "judge_chains" = true)
    (h_k15 : PySem.W.keepIn K (.ref f15) = true)
    (h_l16 : K.lookup f16 = some ⟨oc16, od16, .func (PySem.W.fnOf "without_bindings" "without_bindings" (defArgs s_without_bindings) (defBody s_without_bindings) (defScope s_without_bindings) .none kV16 dc16 pm16 an16 cd16 ct16), sl16⟩)
    (h_e16 : PySem.W.codeIn K cd16 "without_bindings" = true)
    (h_k16 : PySem.W.keepIn K (.ref f16) = true)
    (h_l17 : K.lookup f17 = some ⟨oc17, od17, .func (PySem.W.fnOf "_law_taken" "_law_taken" (defArgs s__law_taken) (defBody s__law_taken) (defScope s__law_taken) .none kV17 dc17 pm17 an17 cd17 ct17), sl17⟩)
    (h_e17 : PySem.W.codeIn K cd17 "_law_taken" = true)
    (h_k17 : PySem.W.keepIn K (.ref f17) = true)
    (h_l18 : K.lookup f18 = some ⟨oc18, od18, .func (PySem.W.fnOf "_law_keys" "_law_keys" (defArgs s__law_keys) (defBody s__law_keys) (defScope s__law_keys) .none kV18 dc18 pm18 an18 cd18 ct18), sl18⟩)
    (h_e18 : PySem.W.codeIn K cd18 "_law_keys" = true)
    (h_k18 : PySem.W.keepIn K (.ref f18) = true)
    (h_l19 : K.lookup f19 = some ⟨oc19, od19, .func (PySem.W.fnOf "_law_parts" "_law_parts" (defArgs s__law_parts) (defBody s__law_parts) (defScope s__law_parts) .none kV19 dc19 pm19 an19 cd19 ct19), sl19⟩)
    (h_e19 : PySem.W.codeIn K cd19 "_law_parts" = true)
    (h_k19 : PySem.W.keepIn K (.ref f19) = true)
    (h_l20 : K.lookup f20 = some ⟨oc20, od20, .func (PySem.W.fnOf "_law_made" "_law_made" (defArgs s__law_made) (defBody s__law_made) (defScope s__law_made) .none kV20 dc20 pm20 an20 cd20 ct20), sl20⟩)
    (h_e20 : PySem.W.codeIn K cd20 "_law_made" = true)
    (h_k20 : PySem.W.keepIn K (.ref f20) = true)
    (h_l21 : K.lookup f21 = some ⟨oc21, od21, .func (PySem.W.fnOf "_law_is_late" "_law_is_late" (defArgs s__law_is_late) (defBody s__law_is_late) (defScope s__law_is_late) .none kV21 dc21 pm21 an21 cd21 ct21), sl21⟩)
    (h_e21 : PySem.W.codeIn K cd21 "_law_is_late" = true)
    (h_k21 : PySem.W.keepIn K (.ref f21) = true)
    (h_l22 : K.lookup f22 = some ⟨oc22, od22, .func (PySem.W.fnOf "law" "law" (defArgs s_law) (defBody s_law) (defScope s_law) .none kV22 dc22 pm22 an22 cd22 ct22), sl22⟩)
    (h_e22 : PySem.W.codeIn K cd22 "law" = true)
    (h_k22 : PySem.W.keepIn K (.ref f22) = true)
    (h_n_int : PySem.W.nsIn K mainGlobals "int" = some none)
    (h_n_isinstance : PySem.W.nsIn K mainGlobals "isinstance" = some none)
    (h_n_bool : PySem.W.nsIn K mainGlobals "bool" = some none)
    (h_k_LETTERS : PySem.W.nsIn K mainGlobals "LETTERS" = some (some (.str "abcdefghijklmnopqrstuvwxyz" tkk_LETTERS)))
    (h_n_all : PySem.W.nsIn K mainGlobals "all" = some none)
    (h_n_str : PySem.W.nsIn K mainGlobals "str" = some none)
    (h_n_len : PySem.W.nsIn K mainGlobals "len" = some none)
    (h_n_tuple : PySem.W.nsIn K mainGlobals "tuple" = some none)
    (h_k_MAX_KEYS : PySem.W.nsIn K mainGlobals "MAX_KEYS" = some (some (.int 6 tkk_MAX_KEYS)))
    (h_k_MAX_NAME : PySem.W.nsIn K mainGlobals "MAX_NAME" = some (some (.int 8 tkk_MAX_NAME)))
    (h_cl_KeyMap1 : PySem.W.plainGet K C0 Str.empty = true)
    (h_cl_KeyMap2 : PySem.W.hasDictIn K C0 = true)
    (h_cl_KeyMap3 : PySem.W.plainOver K C0 = true)
    (h_cl_KeyMap4 : PySem.W.findIn K (.ref C0) "__setattr__" = some (some (.builtin "object.__setattr__")))
    (h_na_KeyMap_rows : PySem.W.findIn K (.ref C0) "rows" = some none)
    (h_na_KeyMap_wait_ticks : PySem.W.findIn K (.ref C0) "wait_ticks" = some none)
    (h_na_KeyMap_mode_names : PySem.W.findIn K (.ref C0) "mode_names" = some none)
    (h_n_enumerate : PySem.W.nsIn K mainGlobals "enumerate" = some none)
    (h_na_KeyMap_numbers : PySem.W.findIn K (.ref C0) "numbers" = some none)
    (h_k_MAX_BINDINGS : PySem.W.nsIn K mainGlobals "MAX_BINDINGS" = some (some (.int 30 tkk_MAX_BINDINGS)))
    (h_k_MAX_WAIT : PySem.W.nsIn K mainGlobals "MAX_WAIT" = some (some (.int 99 tkk_MAX_WAIT)))
    (h_k_MAX_MODES : PySem.W.nsIn K mainGlobals "MAX_MODES" = some (some (.int 4 tkk_MAX_MODES)))
    (h_n_range : PySem.W.nsIn K mainGlobals "range" = some none)
    (h_cl_Matching1 : PySem.W.plainGet K C1 Str.empty = true)
    (h_cl_Matching2 : PySem.W.hasDictIn K C1 = true)
    (h_cl_Matching3 : PySem.W.plainOver K C1 = true)
    (h_cl_Matching4 : PySem.W.findIn K (.ref C1) "__setattr__" = some (some (.builtin "object.__setattr__")))
    (h_na_Matching_pairs : PySem.W.findIn K (.ref C1) "pairs" = some none)
    (h_na_Matching_inners : PySem.W.findIn K (.ref C1) "inners" = some none)
    (h_n_list : PySem.W.nsIn K mainGlobals "list" = some none)
    (h_n_zip : PySem.W.nsIn K mainGlobals "zip" = some none)
    (h_n_sorted : PySem.W.nsIn K mainGlobals "sorted" = some none)
    (h_n_min : PySem.W.nsIn K mainGlobals "min" = some none)
    : ∃ fd : FuncData, (∀ (s : Shared) (v : Value), BindsTo s fd ⟨[v], []⟩ [("_law_script", v)]) ∧ ∀ base : Heap, K.In base → base.Ns mainGlobals mg → FnOk l.prog w K mg base CX0 16 fa fd ["_law_script"] (spLaw K) := by
  have e : f22 = fa := Value.ref.inj (Option.some.inj ((PySem.W.mg_of X G h_law).symm.trans hfa))
  subst e
  have T : Txt K mg (mkA [f0, f1, f2, f3, f4, f5, f6, f7, f8, f9, f10, f11, f12, f13, f14, f15, f16, f17, f18, f19, f20, f21, f22] [C0, C1]) := {
    n_int := PySem.W.mg_none_of X G h_n_int
    n_isinstance := PySem.W.mg_none_of X G h_n_isinstance
    n_bool := PySem.W.mg_none_of X G h_n_bool
    k_LETTERS := ⟨_, PySem.W.mg_of X G h_k_LETTERS⟩
    n_all := PySem.W.mg_none_of X G h_n_all
    n_str := PySem.W.mg_none_of X G h_n_str
    n_len := PySem.W.mg_none_of X G h_n_len
    n_tuple := PySem.W.mg_none_of X G h_n_tuple
    k_MAX_KEYS := ⟨_, PySem.W.mg_of X G h_k_MAX_KEYS⟩
    f_is_word := PySem.W.mg_of X G h_f_is_word
    k_MAX_NAME := ⟨_, PySem.W.mg_of X G h_k_MAX_NAME⟩
    cl_KeyMap := ⟨h_cl_KeyMap1, h_cl_KeyMap2, h_cl_KeyMap3, h_cl_KeyMap4⟩
    na_KeyMap_rows := h_na_KeyMap_rows
    na_KeyMap_wait_ticks := h_na_KeyMap_wait_ticks
    na_KeyMap_mode_names := h_na_KeyMap_mode_names
    n_enumerate := PySem.W.mg_none_of X G h_n_enumerate
    na_KeyMap_numbers := h_na_KeyMap_numbers
    k_MAX_BINDINGS := ⟨_, PySem.W.mg_of X G h_k_MAX_BINDINGS⟩
    f_is_binding := PySem.W.mg_of X G h_f_is_binding
    k_MAX_WAIT := ⟨_, PySem.W.mg_of X G h_k_MAX_WAIT⟩
    f_is_integer := PySem.W.mg_of X G h_f_is_integer
    k_MAX_MODES := ⟨_, PySem.W.mg_of X G h_k_MAX_MODES⟩
    pr_KeyMap_bindings := ⟨_, h_pr_KeyMap_bindings1, h_pr_KeyMap_bindings2, h_pr_KeyMap_bindings3, _, h_pr_KeyMap_bindings4⟩
    n_range := PySem.W.mg_none_of X G h_n_range
    f_makes_late := PySem.W.mg_of X G h_f_makes_late
    cl_Matching := ⟨h_cl_Matching1, h_cl_Matching2, h_cl_Matching3, h_cl_Matching4⟩
    na_Matching_pairs := h_na_Matching_pairs
    na_Matching_inners := h_na_Matching_inners
    mt_Matching_join := ⟨h_mt_Matching_join1, h_mt_Matching_join2, h_k10⟩
    mk_Matching := ⟨h_mk_Matching2, h_mk_Matching1, h_mk_Matching3, h_mk_Matching4⟩
    c_Matching := PySem.W.mg_of X G h_c_Matching
    mt_Matching_size := ⟨h_mt_Matching_size1, h_mt_Matching_size2, h_k12⟩
    n_list := PySem.W.mg_none_of X G h_n_list
    f_late_pairs := PySem.W.mg_of X G h_f_late_pairs
    n_zip := PySem.W.mg_none_of X G h_n_zip
    n_sorted := PySem.W.mg_none_of X G h_n_sorted
    pr_KeyMap_wait := ⟨_, h_pr_KeyMap_wait1, h_pr_KeyMap_wait2, h_pr_KeyMap_wait3, _, h_pr_KeyMap_wait4⟩
    pr_KeyMap_modes := ⟨_, h_pr_KeyMap_modes1, h_pr_KeyMap_modes2, h_pr_KeyMap_modes3, _, h_pr_KeyMap_modes4⟩
    mk_KeyMap := ⟨h_mk_KeyMap2, h_mk_KeyMap1, h_mk_KeyMap3, h_mk_KeyMap4⟩
    c_KeyMap := PySem.W.mg_of X G h_c_KeyMap
    mt_KeyMap_check_binding := ⟨h_mt_KeyMap_check_binding1, h_mt_KeyMap_check_binding2, h_k7⟩
    f__law_taken := PySem.W.mg_of X G h_f__law_taken
    f__law_keys := PySem.W.mg_of X G h_f__law_keys
    f_without_bindings := PySem.W.mg_of X G h_f_without_bindings
    f_judge_chains := PySem.W.mg_of X G h_f_judge_chains
    f_find_chains := PySem.W.mg_of X G h_f_find_chains
    n_min := PySem.W.mg_none_of X G h_n_min
    f_fewest_to_drop := PySem.W.mg_of X G h_f_fewest_to_drop
    f__law_is_late := PySem.W.mg_of X G h_f__law_is_late
    f__law_made := PySem.W.mg_of X G h_f__law_made
    f__law_parts := PySem.W.mg_of X G h_f__law_parts
  }
  refine ⟨PySem.W.fnOf "law" "law" (defArgs s_law) (defBody s_law) (defScope s_law) .none kV22 dc22 pm22 an22 cd22 ct22, fun s v => .of_eq rfl, fun base _ _ => ?_⟩
  have F0 : Fun K "is_integer" "is_integer" s_is_integer (mkA [f0, f1, f2, f3, f4, f5, f6, f7, f8, f9, f10, f11, f12, f13, f14, f15, f16, f17, f18, f19, f20, f21, f22] [C0, C1] 0) _ := fun_mk (st := s_is_integer) h_l0 h_e0 h_k0
  have b0 : Binds K _ ["value", "low", "high"] [] := F0.binds fun _ _ _ _ _ _ us hl => match us, hl with | [_, _, _], _ => rfl
  have F1 : Fun K "is_word" "is_word" s_is_word (mkA [f0, f1, f2, f3, f4, f5, f6, f7, f8, f9, f10, f11, f12, f13, f14, f15, f16, f17, f18, f19, f20, f21, f22] [C0, C1] 1) _ := fun_mk (st := s_is_word) h_l1 h_e1 h_k1
  have b1 : Binds K _ ["value", "most"] [] := F1.binds fun _ _ _ _ _ _ us hl => match us, hl with | [_, _], _ => rfl
  have F2 : Fun K "is_binding" "is_binding" s_is_binding (mkA [f0, f1, f2, f3, f4, f5, f6, f7, f8, f9, f10, f11, f12, f13, f14, f15, f16, f17, f18, f19, f20, f21, f22] [C0, C1] 2) _ := fun_mk (st := s_is_binding) h_l2 h_e2 h_k2
  have b2 : Binds K _ ["modes", "binding"] [] := F2.binds fun _ _ _ _ _ _ us hl => match us, hl with | [_, _], _ => rfl
  have F3 : Fun K "__init__" "KeyMap.__init__" s_KeyMap___init__ (mkA [f0, f1, f2, f3, f4, f5, f6, f7, f8, f9, f10, f11, f12, f13, f14, f15, f16, f17, f18, f19, f20, f21, f22] [C0, C1] 3) _ := fun_mk (st := s_KeyMap___init__) h_l3 h_e3 h_k3
  have b3 : Binds K _ ["self", "modes", "wait", "bindings"] [] := F3.binds fun _ _ _ _ _ _ us hl => match us, hl with | [_, _, _, _], _ => rfl
  have F4 : Fun K "modes" "KeyMap.modes" s_KeyMap_modes (mkA [f0, f1, f2, f3, f4, f5, f6, f7, f8, f9, f10, f11, f12, f13, f14, f15, f16, f17, f18, f19, f20, f21, f22] [C0, C1] 4) _ := fun_mk (st := s_KeyMap_modes) h_l4 h_e4 h_k4
  have b4 : Binds K _ ["self"] [] := F4.binds fun _ _ _ _ _ _ us hl => match us, hl with | [_], _ => rfl
  have F5 : Fun K "wait" "KeyMap.wait" s_KeyMap_wait (mkA [f0, f1, f2, f3, f4, f5, f6, f7, f8, f9, f10, f11, f12, f13, f14, f15, f16, f17, f18, f19, f20, f21, f22] [C0, C1] 5) _ := fun_mk (st := s_KeyMap_wait) h_l5 h_e5 h_k5
  have b5 : Binds K _ ["self"] [] := F5.binds fun _ _ _ _ _ _ us hl => match us, hl with | [_], _ => rfl
  have F6 : Fun K "bindings" "KeyMap.bindings" s_KeyMap_bindings (mkA [f0, f1, f2, f3, f4, f5, f6, f7, f8, f9, f10, f11, f12, f13, f14, f15, f16, f17, f18, f19, f20, f21, f22] [C0, C1] 6) _ := fun_mk (st := s_KeyMap_bindings) h_l6 h_e6 h_k6
  have b6 : Binds K _ ["self"] [] := F6.binds fun _ _ _ _ _ _ us hl => match us, hl with | [_], _ => rfl
  have F7 : Fun K "check_binding" "KeyMap.check_binding" s_KeyMap_check_binding (mkA [f0, f1, f2, f3, f4, f5, f6, f7, f8, f9, f10, f11, f12, f13, f14, f15, f16, f17, f18, f19, f20, f21, f22] [C0, C1] 7) _ := fun_mk (st := s_KeyMap_check_binding) h_l7 h_e7 h_k7
  have b7 : Binds K _ ["self", "index"] [] := F7.binds fun _ _ _ _ _ _ us hl => match us, hl with | [_, _], _ => rfl
  have F8 : Fun K "makes_late" "makes_late" s_makes_late (mkA [f0, f1, f2, f3, f4, f5, f6, f7, f8, f9, f10, f11, f12, f13, f14, f15, f16, f17, f18, f19, f20, f21, f22] [C0, C1] 8) _ := fun_mk (st := s_makes_late) h_l8 h_e8 h_k8
  have b8 : Binds K _ ["keymap", "inner", "outer"] [] := F8.binds fun _ _ _ _ _ _ us hl => match us, hl with | [_, _, _], _ => rfl
  have F9 : Fun K "late_pairs" "late_pairs" s_late_pairs (mkA [f0, f1, f2, f3, f4, f5, f6, f7, f8, f9, f10, f11, f12, f13, f14, f15, f16, f17, f18, f19, f20, f21, f22] [C0, C1] 9) _ := fun_mk (st := s_late_pairs) h_l9 h_e9 h_k9
  have b9 : Binds K _ ["keymap"] [] := F9.binds fun _ _ _ _ _ _ us hl => match us, hl with | [_], _ => rfl
  have F10 : Fun K "join" "Matching.join" s_Matching_join (mkA [f0, f1, f2, f3, f4, f5, f6, f7, f8, f9, f10, f11, f12, f13, f14, f15, f16, f17, f18, f19, f20, f21, f22] [C0, C1] 10) _ := fun_mk (st := s_Matching_join) h_l10 h_e10 h_k10
  have b10 : Binds K _ ["self", "inner", "tried"] [] := F10.binds fun _ _ _ _ _ _ us hl => match us, hl with | [_, _, _], _ => rfl
  have F11 : Fun K "__init__" "Matching.__init__" s_Matching___init__ (mkA [f0, f1, f2, f3, f4, f5, f6, f7, f8, f9, f10, f11, f12, f13, f14, f15, f16, f17, f18, f19, f20, f21, f22] [C0, C1] 11) _ := fun_mk (st := s_Matching___init__) h_l11 h_e11 h_k11
  have b11 : Binds K _ ["self", "pairs", "kept"] [] := F11.binds fun _ _ _ _ _ _ us hl => match us, hl with | [_, _, _], _ => rfl
  have F12 : Fun K "size" "Matching.size" s_Matching_size (mkA [f0, f1, f2, f3, f4, f5, f6, f7, f8, f9, f10, f11, f12, f13, f14, f15, f16, f17, f18, f19, f20, f21, f22] [C0, C1] 12) _ := fun_mk (st := s_Matching_size) h_l12 h_e12 h_k12
  have b12 : Binds K _ ["self"] [] := F12.binds fun _ _ _ _ _ _ us hl => match us, hl with | [_], _ => rfl
  have F13 : Fun K "fewest_to_drop" "fewest_to_drop" s_fewest_to_drop (mkA [f0, f1, f2, f3, f4, f5, f6, f7, f8, f9, f10, f11, f12, f13, f14, f15, f16, f17, f18, f19, f20, f21, f22] [C0, C1] 13) _ := fun_mk (st := s_fewest_to_drop) h_l13 h_e13 h_k13
  have b13 : Binds K _ ["keymap"] [] := F13.binds fun _ _ _ _ _ _ us hl => match us, hl with | [_], _ => rfl
  have F14 : Fun K "find_chains" "find_chains" s_find_chains (mkA [f0, f1, f2, f3, f4, f5, f6, f7, f8, f9, f10, f11, f12, f13, f14, f15, f16, f17, f18, f19, f20, f21, f22] [C0, C1] 14) _ := fun_mk (st := s_find_chains) h_l14 h_e14 h_k14
  have b14 : Binds K _ ["keymap"] [] := F14.binds fun _ _ _ _ _ _ us hl => match us, hl with | [_], _ => rfl
  have F15 : Fun K "judge_chains" "judge_chains" s_judge_chains (mkA [f0, f1, f2, f3, f4, f5, f6, f7, f8, f9, f10, f11, f12, f13, f14, f15, f16, f17, f18, f19, f20, f21, f22] [C0, C1] 15) _ := fun_mk (st := s_judge_chains) h_l15 h_e15 h_k15
  have b15 : Binds K _ ["keymap", "chains"] [] := F15.binds fun _ _ _ _ _ _ us hl => match us, hl with | [_, _], _ => rfl
  have F16 : Fun K "without_bindings" "without_bindings" s_without_bindings (mkA [f0, f1, f2, f3, f4, f5, f6, f7, f8, f9, f10, f11, f12, f13, f14, f15, f16, f17, f18, f19, f20, f21, f22] [C0, C1] 16) _ := fun_mk (st := s_without_bindings) h_l16 h_e16 h_k16
  have b16 := StX.bind_star1 (B := fun us => bindArgs (PySem.W.fnOf "without_bindings" "without_bindings" (defArgs s_without_bindings) (defBody s_without_bindings) (defScope s_without_bindings) .none kV16 dc16 pm16 an16 cd16 ct16) ⟨us, []⟩) (p1 := "keymap") (pv := "indexes") (fun _ => rfl) (fun _ _ _ => rfl)
  have F17 : Fun K "_law_taken" "_law_taken" s__law_taken (mkA [f0, f1, f2, f3, f4, f5, f6, f7, f8, f9, f10, f11, f12, f13, f14, f15, f16, f17, f18, f19, f20, f21, f22] [C0, C1] 17) _ := fun_mk (st := s__law_taken) h_l17 h_e17 h_k17
  have b17 : Binds K _ ["_law_row", "_law_many"] [] := F17.binds fun _ _ _ _ _ _ us hl => match us, hl with | [_, _], _ => rfl
  have F18 : Fun K "_law_keys" "_law_keys" s__law_keys (mkA [f0, f1, f2, f3, f4, f5, f6, f7, f8, f9, f10, f11, f12, f13, f14, f15, f16, f17, f18, f19, f20, f21, f22] [C0, C1] 18) _ := fun_mk (st := s__law_keys) h_l18 h_e18 h_k18
  have b18 : Binds K _ ["_law_row", "_law_letters", "_law_most"] [] := F18.binds fun _ _ _ _ _ _ us hl => match us, hl with | [_, _, _], _ => rfl
  have F19 : Fun K "_law_parts" "_law_parts" s__law_parts (mkA [f0, f1, f2, f3, f4, f5, f6, f7, f8, f9, f10, f11, f12, f13, f14, f15, f16, f17, f18, f19, f20, f21, f22] [C0, C1] 19) _ := fun_mk (st := s__law_parts) h_l19 h_e19 h_k19
  have b19 : Binds K _ ["_law_row", "_law_letters", "_law_most"] [] := F19.binds fun _ _ _ _ _ _ us hl => match us, hl with | [_, _, _], _ => rfl
  have F20 : Fun K "_law_made" "_law_made" s__law_made (mkA [f0, f1, f2, f3, f4, f5, f6, f7, f8, f9, f10, f11, f12, f13, f14, f15, f16, f17, f18, f19, f20, f21, f22] [C0, C1] 20) _ := fun_mk (st := s__law_made) h_l20 h_e20 h_k20
  have b20 : Binds K _ ["_law_parts_here"] [] := F20.binds fun _ _ _ _ _ _ us hl => match us, hl with | [_], _ => rfl
  have F21 : Fun K "_law_is_late" "_law_is_late" s__law_is_late (mkA [f0, f1, f2, f3, f4, f5, f6, f7, f8, f9, f10, f11, f12, f13, f14, f15, f16, f17, f18, f19, f20, f21, f22] [C0, C1] 21) _ := fun_mk (st := s__law_is_late) h_l21 h_e21 h_k21
  have b21 : Binds K _ ["_law_one", "_law_other"] [] := F21.binds fun _ _ _ _ _ _ us hl => match us, hl with | [_, _], _ => rfl
  have F22 : Fun K "law" "law" s_law (mkA [f0, f1, f2, f3, f4, f5, f6, f7, f8, f9, f10, f11, f12, f13, f14, f15, f16, f17, f18, f19, f20, f21, f22] [C0, C1] 22) _ := fun_mk (st := s_law) h_l22 h_e22 h_k22
  have h0 : Fn l.prog w K mg base (mkA [f0, f1, f2, f3, f4, f5, f6, f7, f8, f9, f10, f11, f12, f13, f14, f15, f16, f17, f18, f19, f20, f21, f22] [C0, C1]) 1 0 F_is_integer := ok_is_integer T F0 b0
  have h1 : Fn l.prog w K mg base (mkA [f0, f1, f2, f3, f4, f5, f6, f7, f8, f9, f10, f11, f12, f13, f14, f15, f16, f17, f18, f19, f20, f21, f22] [C0, C1]) 1 1 F_is_word := ok_is_word T F1 b1
  have h2 : Fn l.prog w K mg base (mkA [f0, f1, f2, f3, f4, f5, f6, f7, f8, f9, f10, f11, f12, f13, f14, f15, f16, f17, f18, f19, f20, f21, f22] [C0, C1]) 2 2 F_is_binding := ok_is_binding T F2 b2 h1
  have h3 : Fn l.prog w K mg base (mkA [f0, f1, f2, f3, f4, f5, f6, f7, f8, f9, f10, f11, f12, f13, f14, f15, f16, f17, f18, f19, f20, f21, f22] [C0, C1]) 3 3 F_KeyMap___init__ := ok_KeyMap___init__ T F3 b3 h2 h0 h1
  have h4 : Fn l.prog w K mg base (mkA [f0, f1, f2, f3, f4, f5, f6, f7, f8, f9, f10, f11, f12, f13, f14, f15, f16, f17, f18, f19, f20, f21, f22] [C0, C1]) 1 4 F_KeyMap_modes := ok_KeyMap_modes T F4 b4
  have h5 : Fn l.prog w K mg base (mkA [f0, f1, f2, f3, f4, f5, f6, f7, f8, f9, f10, f11, f12, f13, f14, f15, f16, f17, f18, f19, f20, f21, f22] [C0, C1]) 1 5 F_KeyMap_wait := ok_KeyMap_wait T F5 b5
  have h6 : Fn l.prog w K mg base (mkA [f0, f1, f2, f3, f4, f5, f6, f7, f8, f9, f10, f11, f12, f13, f14, f15, f16, f17, f18, f19, f20, f21, f22] [C0, C1]) 1 6 F_KeyMap_bindings := ok_KeyMap_bindings T F6 b6
  have h7 : Fn l.prog w K mg base (mkA [f0, f1, f2, f3, f4, f5, f6, f7, f8, f9, f10, f11, f12, f13, f14, f15, f16, f17, f18, f19, f20, f21, f22] [C0, C1]) 2 7 F_KeyMap_check_binding := ok_KeyMap_check_binding T F7 b7 h0
  have h8 : Fn l.prog w K mg base (mkA [f0, f1, f2, f3, f4, f5, f6, f7, f8, f9, f10, f11, f12, f13, f14, f15, f16, f17, f18, f19, f20, f21, f22] [C0, C1]) 3 8 F_makes_late := ok_makes_late T F8 b8 h6
  have h9 : Fn l.prog w K mg base (mkA [f0, f1, f2, f3, f4, f5, f6, f7, f8, f9, f10, f11, f12, f13, f14, f15, f16, f17, f18, f19, f20, f21, f22] [C0, C1]) 4 9 F_late_pairs := ok_late_pairs T F9 b9 h8 h6
  have h10 : Fn l.prog w K mg base (mkA [f0, f1, f2, f3, f4, f5, f6, f7, f8, f9, f10, f11, f12, f13, f14, f15, f16, f17, f18, f19, f20, f21, f22] [C0, C1]) 12 10 (F_Matching_join 12) := ok_Matching_join T F10 b10 12
  have h11 : Fn l.prog w K mg base (mkA [f0, f1, f2, f3, f4, f5, f6, f7, f8, f9, f10, f11, f12, f13, f14, f15, f16, f17, f18, f19, f20, f21, f22] [C0, C1]) 13 11 F_Matching___init__ := ok_Matching___init__ T F11 b11 h10
  have h12 : Fn l.prog w K mg base (mkA [f0, f1, f2, f3, f4, f5, f6, f7, f8, f9, f10, f11, f12, f13, f14, f15, f16, f17, f18, f19, f20, f21, f22] [C0, C1]) 1 12 F_Matching_size := ok_Matching_size T F12 b12
  have h13 : Fn l.prog w K mg base (mkA [f0, f1, f2, f3, f4, f5, f6, f7, f8, f9, f10, f11, f12, f13, f14, f15, f16, f17, f18, f19, f20, f21, f22] [C0, C1]) 15 13 F_fewest_to_drop := ok_fewest_to_drop T F13 b13 h6 h12 h11 h9
  have h14 : Fn l.prog w K mg base (mkA [f0, f1, f2, f3, f4, f5, f6, f7, f8, f9, f10, f11, f12, f13, f14, f15, f16, f17, f18, f19, f20, f21, f22] [C0, C1]) 15 14 F_find_chains := ok_find_chains T F14 b14 h11 h9 h6
  have h15 : Fn l.prog w K mg base (mkA [f0, f1, f2, f3, f4, f5, f6, f7, f8, f9, f10, f11, f12, f13, f14, f15, f16, f17, f18, f19, f20, f21, f22] [C0, C1]) 4 15 F_judge_chains := ok_judge_chains T F15 b15 h8 h6
  have h16 : FnS l.prog w K mg base 5 (ct K (mkA [f0, f1, f2, f3, f4, f5, f6, f7, f8, f9, f10, f11, f12, f13, f14, f15, f16, f17, f18, f19, f20, f21, f22] [C0, C1])) (mkA [f0, f1, f2, f3, f4, f5, f6, f7, f8, f9, f10, f11, f12, f13, f14, f15, f16, f17, f18, f19, f20, f21, f22] [C0, C1] 16) F_without_bindings := ok_without_bindings T F16 b16 h3 h5 h4 h6 h7
  have h17 : Fn l.prog w K mg base (mkA [f0, f1, f2, f3, f4, f5, f6, f7, f8, f9, f10, f11, f12, f13, f14, f15, f16, f17, f18, f19, f20, f21, f22] [C0, C1]) 1 17 F__law_taken := ok__law_taken T F17 b17
  have h18 : Fn l.prog w K mg base (mkA [f0, f1, f2, f3, f4, f5, f6, f7, f8, f9, f10, f11, f12, f13, f14, f15, f16, f17, f18, f19, f20, f21, f22] [C0, C1]) 2 18 F__law_keys := ok__law_keys T F18 b18 h17
  have h19 : Fn l.prog w K mg base (mkA [f0, f1, f2, f3, f4, f5, f6, f7, f8, f9, f10, f11, f12, f13, f14, f15, f16, f17, f18, f19, f20, f21, f22] [C0, C1]) 3 19 F__law_parts := ok__law_parts T F19 b19 h17 h18
  have h20 : Fn l.prog w K mg base (mkA [f0, f1, f2, f3, f4, f5, f6, f7, f8, f9, f10, f11, f12, f13, f14, f15, f16, f17, f18, f19, f20, f21, f22] [C0, C1]) 5 20 F__law_made := ok__law_made T F20 b20 h3
  have h21 : Fn l.prog w K mg base (mkA [f0, f1, f2, f3, f4, f5, f6, f7, f8, f9, f10, f11, f12, f13, f14, f15, f16, f17, f18, f19, f20, f21, f22] [C0, C1]) 1 21 F__law_is_late := ok__law_is_late T F21 b21
  exact (ok_law T F22 h6 h16 h15 h17 h14 h9 h13 h21 h20 h19).imp (law_sp (t := ct K (mkA [f0, f1, f2, f3, f4, f5, f6, f7, f8, f9, f10, f11, f12, f13, f14, f15, f16, f17, f18, f19, f20, f21, f22] [C0, C1])) fun ns hl => ⟨_, law_ex ns⟩)
end K3
open PySem PySem.W PyProof.Rows in
set_option maxRecDepth 100000 in
set_option maxHeartbeats 0 in
theorem PySem.Challenge.cw_keywaits_k63_whole_bindings_to_give_up_b_holds : PySem.Challenge.rw_keywaits_k63_whole_bindings_to_give_up_b.Holds := by
  w_on; o_law; k_head; (case hw => w_witness2)
  k_fill
  refine Kv.walk (l := PySem.Challenge.rw_keywaits_k63_whole_bindings_to_give_up_b) (k := 16) (x := "_law_script") rfl rfl ⟨rfl, by decide, by decide⟩ (fun w h Y => PySem.W.kIn_of Y) ?F
  case F =>
    intro w mg fa h KX G hmg
    refine' K3.all_mk KX G hmg ?h_c_Matching ?h_c_KeyMap ?h_f_is_word ?h_f_is_binding ?h_f_is_integer ?h_f_makes_late ?h_f_late_pairs ?h_f__law_taken ?h_f__law_keys ?h_f_without_bindings ?h_f_judge_chains ?h_f_find_chains ?h_f_fewest_to_drop ?h_f__law_is_late ?h_f__law_made ?h_f__law_parts ?h_law ?h_pr_KeyMap_bindings1 ?h_pr_KeyMap_bindings4 ?h_pr_KeyMap_bindings2 ?h_pr_KeyMap_bindings3 ?h_mt_Matching_join1 ?h_mt_Matching_join2 ?h_mk_Matching1 ?h_mk_Matching2 ?h_mk_Matching3 ?h_mk_Matching4 ?h_mt_Matching_size1 ?h_mt_Matching_size2 ?h_pr_KeyMap_wait1 ?h_pr_KeyMap_wait4 ?h_pr_KeyMap_wait2 ?h_pr_KeyMap_wait3 ?h_pr_KeyMap_modes1 ?h_pr_KeyMap_modes4 ?h_pr_KeyMap_modes2 ?h_pr_KeyMap_modes3 ?h_mk_KeyMap1 ?h_mk_KeyMap2 ?h_mk_KeyMap3 ?h_mk_KeyMap4 ?h_mt_KeyMap_check_binding1 ?h_mt_KeyMap_check_binding2 ?h_l0 ?h_e0 ?h_k0 ?h_l1 ?h_e1 ?h_k1 ?h_l2 ?h_e2 ?h_k2 ?h_l3 ?h_e3 ?h_k3 ?h_l4 ?h_e4 ?h_k4 ?h_l5 ?h_e5 ?h_k5 ?h_l6 ?h_e6 ?h_k6 ?h_l7 ?h_e7 ?h_k7 ?h_l8 ?h_e8 ?h_k8 ?h_l9 ?h_e9 ?h_k9 ?h_l10 ?h_e10 ?h_k10 ?h_l11 ?h_e11 ?h_k11 ?h_l12 ?h_e12 ?h_k12 ?h_l13 ?h_e13 ?h_k13 ?h_l14 ?h_e14 ?h_k14 ?h_l15 ?h_e15 ?h_k15 ?h_l16 ?h_e16 ?h_k16 ?h_l17 ?h_e17 ?h_k17 ?h_l18 ?h_e18 ?h_k18 ?h_l19 ?h_e19 ?h_k19 ?h_l20 ?h_e20 ?h_k20 ?h_l21 ?h_e21 ?h_k21 ?h_l22 ?h_e22 ?h_k22 ?h_n_int ?h_n_isinstance ?h_n_bool ?h_k_LETTERS ?h_n_all ?h_n_str ?h_n_len ?h_n_tuple ?h_k_MAX_KEYS ?h_k_MAX_NAME ?h_cl_KeyMap1 ?h_cl_KeyMap2 ?h_cl_KeyMap3 ?h_cl_KeyMap4 ?h_na_KeyMap_rows ?h_na_KeyMap_wait_ticks ?h_na_KeyMap_mode_names ?h_n_enumerate ?h_na_KeyMap_numbers ?h_k_MAX_BINDINGS ?h_k_MAX_WAIT ?h_k_MAX_MODES ?h_n_range ?h_cl_Matching1 ?h_cl_Matching2 ?h_cl_Matching3 ?h_cl_Matching4 ?h_na_Matching_pairs ?h_na_Matching_inners ?h_n_list ?h_n_zip ?h_n_sorted ?h_n_min
    (case h_c_Matching => k_is)
    (case h_c_KeyMap => k_is)
    (case h_f_is_word => k_is)
    (case h_f_is_binding => k_is)
    (case h_f_is_integer => k_is)
    (case h_f_makes_late => k_is)
    (case h_f_late_pairs => k_is)
    (case h_f__law_taken => k_is)
    (case h_f__law_keys => k_is)
    (case h_f_without_bindings => k_is)
    (case h_f_judge_chains => k_is)
    (case h_f_find_chains => k_is)
    (case h_f_fewest_to_drop => k_is)
    (case h_f__law_is_late => k_is)
    (case h_f__law_made => k_is)
    (case h_f__law_parts => k_is)
    (case h_law => k_is)
    (case h_pr_KeyMap_bindings1 => k_is)
    (case h_pr_KeyMap_bindings4 => k_is)
    (case h_pr_KeyMap_bindings2 => k_is)
    (case h_pr_KeyMap_bindings3 => k_is)
    (case h_mt_Matching_join1 => k_is)
    (case h_mt_Matching_join2 => k_is)
    (case h_mk_Matching1 => k_is)
    (case h_mk_Matching2 => k_is)
    (case h_mk_Matching3 => k_is)
    (case h_mk_Matching4 => k_is)
    (case h_mt_Matching_size1 => k_is)
    (case h_mt_Matching_size2 => k_is)
    (case h_pr_KeyMap_wait1 => k_is)
    (case h_pr_KeyMap_wait4 => k_is)
    (case h_pr_KeyMap_wait2 => k_is)
    (case h_pr_KeyMap_wait3 => k_is)
    (case h_pr_KeyMap_modes1 => k_is)
    (case h_pr_KeyMap_modes4 => k_is)
    (case h_pr_KeyMap_modes2 => k_is)
    (case h_pr_KeyMap_modes3 => k_is)
    (case h_mk_KeyMap1 => k_is)
    (case h_mk_KeyMap2 => k_is)
    (case h_mk_KeyMap3 => k_is)
    (case h_mk_KeyMap4 => k_is)
    (case h_mt_KeyMap_check_binding1 => k_is)
    (case h_mt_KeyMap_check_binding2 => k_is)
    (case h_l0 => k_is)
    (case h_e0 => k_is)
    (case h_k0 => k_is)
    (case h_l1 => k_is)
    (case h_e1 => k_is)
    (case h_k1 => k_is)
    (case h_l2 => k_is)
    (case h_e2 => k_is)
    (case h_k2 => k_is)
    (case h_l3 => k_is)
    (case h_e3 => k_is)
    (case h_k3 => k_is)
    (case h_l4 => k_is)
    (case h_e4 => k_is)
    (case h_k4 => k_is)
    (case h_l5 => k_is)
    (case h_e5 => k_is)
    (case h_k5 => k_is)
    (case h_l6 => k_is)
    (case h_e6 => k_is)
    (case h_k6 => k_is)
    (case h_l7 => k_is)
    (case h_e7 => k_is)
    (case h_k7 => k_is)
    (case h_l8 => k_is)
    (case h_e8 => k_is)
    (case h_k8 => k_is)
    (case h_l9 => k_is)
    (case h_e9 => k_is)
    (case h_k9 => k_is)
    (case h_l10 => k_is)
    (case h_e10 => k_is)
    (case h_k10 => k_is)
    (case h_l11 => k_is)
    (case h_e11 => k_is)
    (case h_k11 => k_is)
    (case h_l12 => k_is)
    (case h_e12 => k_is)
    (case h_k12 => k_is)
    (case h_l13 => k_is)
    (case h_e13 => k_is)
    (case h_k13 => k_is)
    (case h_l14 => k_is)
    (case h_e14 => k_is)
    (case h_k14 => k_is)
    (case h_l15 => k_is)
    (case h_e15 => k_is)
    (case h_k15 => k_is)
    (case h_l16 => k_is)
    (case h_e16 => k_is)
    (case h_k16 => k_is)
    (case h_l17 => k_is)
    (case h_e17 => k_is)
    (case h_k17 => k_is)
    (case h_l18 => k_is)
    (case h_e18 => k_is)
    (case h_k18 => k_is)
    (case h_l19 => k_is)
    (case h_e19 => k_is)
    (case h_k19 => k_is)
    (case h_l20 => k_is)
    (case h_e20 => k_is)
    (case h_k20 => k_is)
    (case h_l21 => k_is)
    (case h_e21 => k_is)
    (case h_k21 => k_is)
    (case h_l22 => k_is)
    (case h_e22 => k_is)
    (case h_k22 => k_is)
    (case h_n_int => k_is)
    (case h_n_isinstance => k_is)
    (case h_n_bool => k_is)
    (case h_k_LETTERS => k_is)
    (case h_n_all => k_is)
    (case h_n_str => k_is)
    (case h_n_len => k_is)
    (case h_n_tuple => k_is)
    (case h_k_MAX_KEYS => k_is)
    (case h_k_MAX_NAME => k_is)
    (case h_cl_KeyMap1 => k_is)
    (case h_cl_KeyMap2 => k_is)
    (case h_cl_KeyMap3 => k_is)
    (case h_cl_KeyMap4 => k_is)
    (case h_na_KeyMap_rows => k_is)
    (case h_na_KeyMap_wait_ticks => k_is)
    (case h_na_KeyMap_mode_names => k_is)
    (case h_n_enumerate => k_is)
    (case h_na_KeyMap_numbers => k_is)
    (case h_k_MAX_BINDINGS => k_is)
    (case h_k_MAX_WAIT => k_is)
    (case h_k_MAX_MODES => k_is)
    (case h_n_range => k_is)
    (case h_cl_Matching1 => k_is)
    (case h_cl_Matching2 => k_is)
    (case h_cl_Matching3 => k_is)
    (case h_cl_Matching4 => k_is)
    (case h_na_Matching_pairs => k_is)
    (case h_na_Matching_inners => k_is)
    (case h_n_list => k_is)
    (case h_n_zip => k_is)
    (case h_n_sorted => k_is)
    (case h_n_min => k_is)
#print axioms PySem.Challenge.cw_keywaits_k63_whole_bindings_to_give_up_b_holds
