import PyProof.Rows.All
import Wide.All
import OpenK.AllK
import Wide.FinOn
import KE.KStateDown
import HandS.HeadHook4
import HandS.ForMost
import HandS.Defaults
import HandS.IsInst
import HandS.Flow
import HandS.More
import HandS.Lambda
import HandS.StrMore
import HandS.ClsMeth
import HandS.Style
import HandS.Conv
import HandS.TupAny
import HandS.TupLe
import HandS.GenList
import HandS.Deep
import KE.SortKeyHeap
import HandS.SortKw
import HandS.Replace
import HandS.Head0
import HandS.Head1
import HandS.Head2
import HandS.HeadEnd
import HandS.HeadHook1
import HandS.HeadHook2
import HandS.Codes
import HandS.ReplaceList
import HandS.Text
import HandS.EndTab
import HandS.EndBits
import PySem.Challenge.RW_sortpost_k01_sort
set_option Elab.async false
set_option linter.all false
set_option maxRecDepth 100000
set_option maxHeartbeats 2000000
/-! the defs of this law's text that make lambdas, inner defs: their code objects' names -/
namespace DL
open PySem
def sites : List (He.Defn × Str) := [(("in_order", none), "in_order.<locals>.<lambda>")]
end DL
set_option maxHeartbeats 2000000
/-! DL: a logic of Python code over plain data: no heap in sight. D: data; Rep: a value stands for data in the stable part G of the heap; Sl: what a slot holds (data, or an object of the frame's own); EX: an expression's value; SX: a statement. -/
namespace DL
open PySem L2

inductive D where
  | non | bl (b : Bool) | int (i : Int) | str (x : Str)
  | lst (xs : List D) | tup (xs : List D)
  | ins (c : Str) (fs : List (Str × D))
  | dic (kvs : List (Key × D))
  | dit (kvs : List (List Key × D))
  | tux (xs : List D)
  | raw (v : V)

section
variable (K : PySem.W.Frag) (G : Hp)
mutual
inductive Rep : D → V → Prop
  | non : Rep .non .non
  | bl (b : Bool) : Rep (.bl b) (.bl b)
  | int (i : Int) : Rep (.int i) (.int i)
  | str (x : Str) : Rep (.str x) (.str x)
  | raw (v : V) : Rep (.raw v) v
  | lst {a : Addr} {xs : List D} {vs : List V} : G a = some (.lst vs) → Reps xs vs → Rep (.lst xs) (.ref a)
  | tup {a : Addr} {xs : List D} {vs : List V} : SqT K G a vs → Reps xs vs → Rep (.tup xs) (.ref a)
  | ins {a dx : Addr} {c : Str} {fs : List (Str × D)} {vs : List (Str × V)} : G a = some (.ins (He.ga K c) dx vs) → Repf fs vs → Rep (.ins c fs) (.ref a)
  | dic {a : Addr} {kvs : List (Key × D)} {vs : List (Key × V)} : G a = some (.dK vs) → Repk kvs vs → Rep (.dic kvs) (.ref a)
  | tux {a : Addr} {xs : List D} {vs : List V} : G a = some (.tup vs) → Reps xs vs → Rep (.tux xs) (.ref a)
  | dit {a : Addr} {kvs : List (List Key × D)} {vs : List (List Key × V)} : G a = some (.dT vs) → RepT kvs vs → Rep (.dit kvs) (.ref a)
inductive Reps : List D → List V → Prop
  | nil : Reps [] []
  | cons {d : D} {v : V} {ds : List D} {vs : List V} : Rep d v → Reps ds vs → Reps (d :: ds) (v :: vs)
inductive Repf : List (Str × D) → List (Str × V) → Prop
  | nil : Repf [] []
  | cons {n : Str} {d : D} {v : V} {ds : List (Str × D)} {vs : List (Str × V)} : Rep d v → Repf ds vs → Repf ((n, d) :: ds) ((n, v) :: vs)
inductive Repk : List (Key × D) → List (Key × V) → Prop
  | nil : Repk [] []
  | cons {n : Key} {d : D} {v : V} {ds : List (Key × D)} {vs : List (Key × V)} : Rep d v → Repk ds vs → Repk ((n, d) :: ds) ((n, v) :: vs)
inductive RepT : List (List Key × D) → List (List Key × V) → Prop
  | nil : RepT [] []
  | cons {n : List Key} {d : D} {v : V} {ds : List (List Key × D)} {vs : List (List Key × V)} : Rep d v → RepT ds vs → RepT ((n, d) :: ds) ((n, v) :: vs)
end
end

theorem same_sqT {K : PySem.W.Frag} {G G' : Hp} {a : Addr} {xs : List V} (e : Same G G') (h : SqT K G a xs) : SqT K G' a xs := by
  rcases h with (h | ⟨o, h⟩) | h
  · exact .inl (.inl (e _ _ h))
  · exact .inl (.inr ⟨o, e _ _ h⟩)
  · exact .inr h

section
variable {K : PySem.W.Frag} {G G' : Hp} (e : Same G G')
include e
mutual
theorem Rep.mono : ∀ {d : D} {v : V}, Rep K G d v → Rep K G' d v
  | _, _, .non => .non
  | _, _, .bl b => .bl b
  | _, _, .int i => .int i
  | _, _, .str x => .str x
  | _, _, .raw v => .raw v
  | _, _, .lst h r => .lst (e _ _ h) (Reps.mono r)
  | _, _, .tup h r => .tup (same_sqT e h) (Reps.mono r)
  | _, _, .ins h r => .ins (e _ _ h) (Repf.mono r)
  | _, _, .dic h r => .dic (e _ _ h) (Repk.mono r)
  | _, _, .dit h r => .dit (e _ _ h) (RepT.mono r)
  | _, _, .tux h r => .tux (e _ _ h) (Reps.mono r)
theorem Reps.mono : ∀ {d : List D} {v : List V}, Reps K G d v → Reps K G' d v
  | _, _, .nil => .nil
  | _, _, .cons h r => .cons (Rep.mono h) (Reps.mono r)
theorem Repf.mono : ∀ {d : List (Str × D)} {v : List (Str × V)}, Repf K G d v → Repf K G' d v
  | _, _, .nil => .nil
  | _, _, .cons h r => .cons (Rep.mono h) (Repf.mono r)
theorem Repk.mono : ∀ {d : List (Key × D)} {v : List (Key × V)}, Repk K G d v → Repk K G' d v
  | _, _, .nil => .nil
  | _, _, .cons h r => .cons (Rep.mono h) (Repk.mono r)
theorem RepT.mono : ∀ {d : List (List Key × D)} {v : List (List Key × V)}, RepT K G d v → RepT K G' d v
  | _, _, .nil => .nil
  | _, _, .cons h r => .cons (Rep.mono h) (RepT.mono r)
end
end

section
variable {K : PySem.W.Frag} {G : Hp}
theorem Reps.length : ∀ {ds : List D} {vs : List V}, Reps K G ds vs → ds.length = vs.length
  | _, _, .nil => rfl
  | _, _, .cons _ r => by simp [Reps.length r]
theorem Reps.get : ∀ {ds : List D} {vs : List V} {i : Nat} {d : D}, Reps K G ds vs → ds[i]? = some d → ∃ v, vs[i]? = some v ∧ Rep K G d v
  | _, _, _, _, .nil, h => by simp at h
  | _, _, 0, _, .cons h r, q => by simp at q; subst q; exact ⟨_, rfl, h⟩
  | _, _, i + 1, _, .cons h r, q => by simpa using Reps.get (i := i) r (by simpa using q)
theorem Reps.get' : ∀ {ds : List D} {vs : List V} {i : Nat} {v : V}, Reps K G ds vs → vs[i]? = some v → ∃ d, ds[i]? = some d ∧ Rep K G d v
  | _, _, _, _, .nil, h => by simp at h
  | _, _, 0, _, .cons h r, q => by simp at q; subst q; exact ⟨_, rfl, h⟩
  | _, _, i + 1, _, .cons h r, q => by simpa using Reps.get' (i := i) r (by simpa using q)
theorem Reps.append : ∀ {ds es : List D} {vs ws : List V}, Reps K G ds vs → Reps K G es ws → Reps K G (ds ++ es) (vs ++ ws)
  | _, _, _, _, .nil, s => s
  | _, _, _, _, .cons h r, s => .cons h (Reps.append r s)
theorem Reps.take : ∀ {ds : List D} {vs : List V} (n : Nat), Reps K G ds vs → Reps K G (ds.take n) (vs.take n)
  | _, _, 0, _ => .nil
  | _, _, _ + 1, .nil => .nil
  | _, _, n + 1, .cons h t => .cons h (Reps.take n t)
theorem Reps.drop : ∀ {ds : List D} {vs : List V} (n : Nat), Reps K G ds vs → Reps K G (ds.drop n) (vs.drop n)
  | _, _, 0, r => r
  | _, _, _ + 1, .nil => .nil
  | _, _, n + 1, .cons _ t => Reps.drop n t
theorem Reps.ints : ∀ {ns : List Int}, Reps K G (ns.map D.int) (ns.map V.int)
  | [] => .nil
  | n :: ns => .cons (.int n) Reps.ints
theorem Reps.of_ints : ∀ {ns : List Int} {vs : List V}, Reps K G (ns.map D.int) vs → vs = ns.map V.int
  | [], _, h => by cases h; rfl
  | n :: ns, _, h => by
    cases h with
    | cons a b => cases a; rw [Reps.of_ints b]; rfl
theorem Reps.of_strs : ∀ {ns : List Str} {vs : List V}, Reps K G (ns.map D.str) vs → vs = ns.map V.str
  | [], _, h => by cases h; rfl
  | n :: ns, _, h => by
    cases h with
    | cons a b => cases a; rw [Reps.of_strs b]; rfl
theorem Reps.strs : ∀ {ns : List Str}, Reps K G (ns.map D.str) (ns.map V.str)
  | [] => .nil
  | n :: ns => .cons (.str n) Reps.strs
theorem Reps.of_bls : ∀ {ns : List Bool} {vs : List V}, Reps K G (ns.map D.bl) vs → vs = ns.map V.bl
  | [], _, h => by cases h; rfl
  | n :: ns, _, h => by
    cases h with
    | cons a b => cases a; rw [Reps.of_bls b]; rfl
theorem Repf.get : ∀ {fs : List (Str × D)} {vs : List (Str × V)} {f : Str} {d : D}, Repf K G fs vs → fs.lookup f = some d → ∃ v, vs.lookup f = some v ∧ Rep K G d v
  | _, _, _, _, .nil, h => by simp at h
  | _, _, f, d, .cons (n := n) h r, q => by
    rw [List.lookup_cons] at q
    rw [List.lookup_cons]
    split at q
    · cases q; exact ⟨_, rfl, h⟩
    · exact Repf.get r q
theorem Repf.none_of : ∀ {fs : List (Str × D)} {vs : List (Str × V)} {f : Str}, Repf K G fs vs → fs.lookup f = none → vs.lookup f = none
  | _, _, _, .nil, h => rfl
  | _, _, f, .cons (n := n) h r, q => by
    rw [List.lookup_cons] at q
    rw [List.lookup_cons]
    split at q
    · cases q
    · exact Repf.none_of r q
theorem Repf.length : ∀ {ds : List (Str × D)} {vs : List (Str × V)}, Repf K G ds vs → ds.length = vs.length
  | _, _, .nil => rfl
  | _, _, .cons _ r => by simp [Repf.length r]
def putD (f : Str) (v : D) : List (Str × D) → List (Str × D)
  | [] => [(f, v)]
  | (g, x) :: r => if g = f then (g, v) :: r else (g, x) :: putD f v r
def valD {κ : Type} [DecidableEq κ] (kvs : List (κ × D)) (k : κ) : Option D := (kvs.find? fun kv => decide (kv.1 = k)).map (·.2)
def putKD {κ : Type} [DecidableEq κ] (kvs : List (κ × D)) (k : κ) (v : D) : List (κ × D) :=
  if (kvs.any fun kv => decide (kv.1 = k)) = true then kvs.map (fun kv => if kv.1 = k then (kv.1, v) else kv) else kvs ++ [(k, v)]
theorem Repk.val {kvs : List (Key × D)} {vs : List (Key × V)} (r : Repk K G kvs vs) (k : Key) : (∃ d v, valD kvs k = some d ∧ valV vs k = some v ∧ Rep K G d v) ∨ (valD kvs k = none ∧ valV vs k = none) := by
  induction kvs generalizing vs with
  | nil => cases r; exact .inr ⟨rfl, rfl⟩
  | cons p t ih =>
    cases r with
    | cons h r =>
      rename_i n d v vs
      by_cases e : n = k
      · exact .inl ⟨d, v, by simp [valD, List.find?_cons, e], valV_pos (p := (n, v)) e, h⟩
      · rcases ih r with ⟨d', v', h1, h2, h3⟩ | ⟨h1, h2⟩
        · refine .inl ⟨d', v', ?_, ?_, h3⟩
          · simp only [valD, List.find?_cons, decide_eq_false e]; exact h1
          · rw [valV_neg (p := (n, v)) e]; exact h2
        · refine .inr ⟨?_, ?_⟩
          · simp only [valD, List.find?_cons, decide_eq_false e]; exact h1
          · rw [valV_neg (p := (n, v)) e]; exact h2
theorem RepT.val {kvs : List (List Key × D)} {vs : List (List Key × V)} (r : RepT K G kvs vs) (k : List Key) : (∃ d v, valD kvs k = some d ∧ valV vs k = some v ∧ Rep K G d v) ∨ (valD kvs k = none ∧ valV vs k = none) := by
  induction kvs generalizing vs with
  | nil => cases r; exact .inr ⟨rfl, rfl⟩
  | cons p t ih =>
    cases r with
    | cons h r =>
      rename_i n d v vs
      by_cases e : n = k
      · exact .inl ⟨d, v, by simp [valD, List.find?_cons, e], valV_pos (p := (n, v)) e, h⟩
      · rcases ih r with ⟨d', v', h1, h2, h3⟩ | ⟨h1, h2⟩
        · refine .inl ⟨d', v', ?_, ?_, h3⟩
          · simp only [valD, List.find?_cons, decide_eq_false e]; exact h1
          · rw [valV_neg (p := (n, v)) e]; exact h2
        · refine .inr ⟨?_, ?_⟩
          · simp only [valD, List.find?_cons, decide_eq_false e]; exact h1
          · rw [valV_neg (p := (n, v)) e]; exact h2
theorem RepT.any {kvs : List (List Key × D)} {vs : List (List Key × V)} (r : RepT K G kvs vs) (k : List Key) : (kvs.any fun kv => decide (kv.1 = k)) = vs.any fun kv => decide (kv.1 = k) := by
  induction kvs generalizing vs with
  | nil => cases r; rfl
  | cons p t ih => cases r with | cons h r => simp only [List.any_cons, ih r]
theorem RepT.length {kvs : List (List Key × D)} {vs : List (List Key × V)} (r : RepT K G kvs vs) : kvs.length = vs.length := by
  induction kvs generalizing vs with
  | nil => cases r; rfl
  | cons p t ih => cases r with | cons h r => simp [ih r]
theorem RepT.append {kvs ks : List (List Key × D)} {vs ws : List (List Key × V)} (r : RepT K G kvs vs) (q : RepT K G ks ws) : RepT K G (kvs ++ ks) (vs ++ ws) := by
  induction kvs generalizing vs with
  | nil => cases r; exact q
  | cons p t ih => cases r with | cons h r => exact .cons h (ih r)
theorem RepT.repl {kvs : List (List Key × D)} {vs : List (List Key × V)} (r : RepT K G kvs vs) (k : List Key) {d : D} {v : V} (h : Rep K G d v) : RepT K G (kvs.map (fun kv => if kv.1 = k then (kv.1, d) else kv)) (vs.map (fun kv => if kv.1 = k then (kv.1, v) else kv)) := by
  induction kvs generalizing vs with
  | nil => cases r; exact .nil
  | cons p t ih =>
    cases r with
    | cons q r =>
      rename_i n d' v' vs
      simp only [List.map_cons]
      by_cases e : n = k
      · rw [if_pos e, if_pos e]; exact .cons h (ih r)
      · rw [if_neg e, if_neg e]; exact .cons q (ih r)
theorem RepT.put {kvs : List (List Key × D)} {vs : List (List Key × V)} (r : RepT K G kvs vs) (k : List Key) {d : D} {v : V} (h : Rep K G d v) : RepT K G (putKD kvs k d) (putK vs k v) := by
  unfold putKD putK
  rw [r.any k]
  split
  · exact r.repl k h
  · exact r.append (.cons h .nil)
theorem Repk.any {kvs : List (Key × D)} {vs : List (Key × V)} (r : Repk K G kvs vs) (k : Key) : (kvs.any fun kv => decide (kv.1 = k)) = vs.any fun kv => decide (kv.1 = k) := by
  induction kvs generalizing vs with
  | nil => cases r; rfl
  | cons p t ih => cases r with | cons h r => simp only [List.any_cons, ih r]
theorem Repk.length {kvs : List (Key × D)} {vs : List (Key × V)} (r : Repk K G kvs vs) : kvs.length = vs.length := by
  induction kvs generalizing vs with
  | nil => cases r; rfl
  | cons p t ih => cases r with | cons h r => simp [ih r]
theorem Repk.append {kvs ks : List (Key × D)} {vs ws : List (Key × V)} (r : Repk K G kvs vs) (q : Repk K G ks ws) : Repk K G (kvs ++ ks) (vs ++ ws) := by
  induction kvs generalizing vs with
  | nil => cases r; exact q
  | cons p t ih => cases r with | cons h r => exact .cons h (ih r)
theorem Repk.repl {kvs : List (Key × D)} {vs : List (Key × V)} (r : Repk K G kvs vs) (k : Key) {d : D} {v : V} (h : Rep K G d v) : Repk K G (kvs.map (fun kv => if kv.1 = k then (kv.1, d) else kv)) (vs.map (fun kv => if kv.1 = k then (kv.1, v) else kv)) := by
  induction kvs generalizing vs with
  | nil => cases r; exact .nil
  | cons p t ih =>
    cases r with
    | cons q r =>
      rename_i n d' v' vs
      simp only [List.map_cons]
      by_cases e : n = k
      · rw [if_pos e, if_pos e]; exact .cons h (ih r)
      · rw [if_neg e, if_neg e]; exact .cons q (ih r)
theorem Repk.put {kvs : List (Key × D)} {vs : List (Key × V)} (r : Repk K G kvs vs) (k : Key) {d : D} {v : V} (h : Rep K G d v) : Repk K G (putKD kvs k d) (putK vs k v) := by
  unfold putKD putK
  rw [r.any k]
  split
  · exact r.repl k h
  · exact r.append (.cons h .nil)
end

/-! ### the heap's stable part G grows; what is not in it and stands in H is somebody's own -/
/-- the tables of code objects that the text's lambdas use -/
def TK (K : PySem.W.Frag) : List (Addr × Str) := sites.map fun p => ((He.cT K p.1).2, p.2)
/-- the tables stand, none is data -/
def TabsG (K : PySem.W.Frag) (G H : Hp) : Prop := LamX.Tabs (TK K) H ∧ ∀ p ∈ TK K, G p.1 = none
/-- all stays but tables, which grow -/
structure Grow (K : PySem.W.Frag) (H H' : Hp) : Prop where
  k : ∀ b o, H b = some o → (∀ ps, o ≠ .tbl ps) → H' b = some o
  f : ∀ b, H' b = none → H b = none
  t : LamX.Tabs (TK K) H → LamX.Tabs (TK K) H'
section
variable {K : PySem.W.Frag} {H H1 H2 : Hp} {b p : Addr} {o : HO}
theorem Grow.of (s : Same H H1) : Grow K H H1 := ⟨fun b o h _ => s b o h, fun b h => s.free h, fun t => t.ext s⟩
theorem Grow.refl : Grow K H H := .of (Same.refl H)
theorem Grow.trans (a : Grow K H H1) (b : Grow K H1 H2) : Grow K H H2 := ⟨fun c o h n => b.k c o (a.k c o h n) n, fun c h => a.f c (b.f c h), fun t => b.t (a.t t)⟩
theorem Grow.at (a : Grow K H H1) (h : H b = some o) (n : ∀ ps, o ≠ .tbl ps := by intro _ z; cases z) : H1 b = some o := a.k b o h n
theorem Grow.free (a : Grow K H H1) (h : H1 b = none) : H b = none := a.f b h
theorem Grow.same (a : Grow K H H1) (s : Same H1 H2) : Grow K H H2 := a.trans (.of s)
end
structure Ext (K : PySem.W.Frag) (G H G' H' : Hp) : Prop where
  g : Same G G'
  h : Grow K H H'
  sub : Same G' H'
  fr : ∀ b o, H b = some o → G b = none → G' b = none
section
variable {K : PySem.W.Frag} {G H G1 H1 G2 H2 : Hp} {p : Addr} {o : HO}
theorem Ext.refl (s : Same G H) : Ext K G H G H := ⟨Same.refl G, Grow.refl, s, fun _ _ _ h => h⟩
/-- G2 keeps out what H1 had, or H had -/
theorem Ext.trans (a : Ext K G H G1 H1) (b : Ext K G1 H1 G2 H2) : Ext K G H G2 H2 :=
  ⟨a.g.trans b.g, a.h.trans b.h, b.sub, fun c o h n => by
    cases q : H1 c with
    | none => rw [a.h.f c q] at h; cases h
    | some o' => exact b.fr c o' q (a.fr c o h n)⟩
theorem same_new (h : H p = none) : Same H (upd H p o) := fun b u e => by rw [upd_ne (ne_of_none e h)]; exact e
theorem same_upd (s : Same G H) : Same (upd G p o) (upd H p o) := fun b u e => by
  by_cases hb : b = p
  · subst hb; rw [upd_same] at e ⊢; exact e
  · rw [upd_ne hb] at e ⊢; exact s b u e
theorem Ext.new (s : Same G H) (h : H p = none) : Ext K G H (upd G p o) (upd H p o) :=
  ⟨same_new (s.free h), .of (same_new h), same_upd s, fun b u e n => by rw [upd_ne (ne_of_none e h)]; exact n⟩
/-- a new object that stays somebody's own -/
theorem Ext.newOwn (s : Same G H) (h : H p = none) : Ext K G H G (upd H p o) :=
  ⟨Same.refl G, .of (same_new h), s.trans (same_new h), fun b u e n => n⟩
end

/-! ### slots -/
inductive Sl where
  | un
  | im (d : D)
  | ol (xs : List D)
  | od (kvs : List (Key × D))
  | ot (kvs : List (List Key × D))
  | me (c : Str) (fs : List (Str × D))

/-- the def's entry: the heaps, and the one object that it may change (its self) -/
structure En where
  G : Hp
  H : Hp
  m : Option Addr

/-- the object's own content -/
def OwnOk (K : PySem.W.Frag) (G : Hp) : Sl → HO → Prop
  | .ol xs, o => ∃ vs, o = .lst vs ∧ Reps K G xs vs
  | .od kvs, o => ∃ vs, o = .dK vs ∧ Repk K G kvs vs
  | .ot kvs, o => ∃ vs, o = .dT vs ∧ RepT K G kvs vs
  | .me c fs, o => ∃ dx vs, o = .ins (He.ga K c) dx vs ∧ Repf K G fs vs
  | _, _ => False
def Sl.isOwn : Sl → Bool
  | .ol _ => true | .od _ => true | .ot _ => true | .me _ _ => true | _ => false
def Sl.isMe : Sl → Bool
  | .me _ _ => true | _ => false

theorem OwnOk.mono {K : PySem.W.Frag} {G G' : Hp} (e : Same G G') {s : Sl} {o : HO} (h : OwnOk K G s o) : OwnOk K G' s o := by
  cases s with
  | un => exact h
  | im d => exact h
  | ol xs => obtain ⟨vs, h1, h2⟩ := h; exact ⟨vs, h1, h2.mono e⟩
  | od xs => obtain ⟨vs, h1, h2⟩ := h; exact ⟨vs, h1, h2.mono e⟩
  | ot xs => obtain ⟨vs, h1, h2⟩ := h; exact ⟨vs, h1, h2.mono e⟩
  | me c fs => obtain ⟨dx, vs, h1, h2⟩ := h; exact ⟨dx, vs, h1, h2.mono e⟩

theorem OwnOk.ntb {K : PySem.W.Frag} {G : Hp} {s : Sl} {o : HO} (h : OwnOk K G s o) (ps : Array Value) : o ≠ .tbl ps := by
  cases s with
  | un => exact h.elim
  | im d => exact h.elim
  | ol xs => obtain ⟨vs, rfl, _⟩ := h; intro z; cases z
  | od xs => obtain ⟨vs, rfl, _⟩ := h; intro z; cases z
  | ot xs => obtain ⟨vs, rfl, _⟩ := h; intro z; cases z
  | me c fs => obtain ⟨dx, vs, rfl, _⟩ := h; intro z; cases z
theorem OwnOk.ncode {K : PySem.W.Frag} {G : Hp} {s : Sl} {o : HO} (h : OwnOk K G s o) (c : Addr) (q : Str) : o ≠ LamX.CodeO c q := by
  unfold LamX.CodeO
  cases s with
  | un => exact h.elim
  | im d => exact h.elim
  | ol xs => obtain ⟨vs, rfl, _⟩ := h; intro z; cases z
  | od xs => obtain ⟨vs, rfl, _⟩ := h; intro z; cases z
  | ot xs => obtain ⟨vs, rfl, _⟩ := h; intro z; cases z
  | me c fs => obtain ⟨dx, vs, rfl, _⟩ := h; intro z; cases z
/-- an object that is no table, no code object, changes -/
theorem tabs_upd {T : List (Addr × Str)} {H : Hp} {a : Addr} {o o' : HO} (h : H a = some o) (n1 : ∀ ps, o ≠ .tbl ps) (n2 : ∀ c q, o ≠ LamX.CodeO c q) (t : LamX.Tabs T H) : LamX.Tabs T (upd H a o') := fun p hp => by
  obtain ⟨ps, h1, h2, h3⟩ := t p hp
  refine ⟨ps, ?_, h2, fun pos cv hc => ?_⟩
  · rw [upd_ne (fun z => by rw [z, h] at h1; exact n1 ps (Option.some.inj h1))]; exact h1
  · obtain ⟨c, e1, e2⟩ := h3 pos cv hc
    exact ⟨c, e1, by rw [upd_ne (fun z => by rw [z, h] at e2; exact n2 _ _ (Option.some.inj e2))]; exact e2⟩
theorem tabsG_upd {K : PySem.W.Frag} {G H : Hp} {a : Addr} {o u : HO} (t : TabsG K G H) (h : H a = some o) (n : ∀ ps, o ≠ .tbl ps) : TabsG K (upd G a u) H := ⟨t.1, fun p hp => by
  obtain ⟨ps, h1, _⟩ := t.1 p hp
  rw [upd_ne (fun z => by rw [z, h] at h1; exact n ps (Option.some.inj h1))]
  exact t.2 p hp⟩
theorem Grow.own {K : PySem.W.Frag} {H H4 : Hp} {p : Addr} {o o' : HO} (x : Grow K H H4) (h0 : H p = none) (h4 : H4 p = some o) (n1 : ∀ ps, o ≠ .tbl ps := by intro _ z; cases z) (n2 : ∀ c q, o ≠ LamX.CodeO c q := by intro _ _ z; cases z) : Grow K H (upd H4 p o') :=
  ⟨fun b u h n => by rw [upd_ne (ne_of_none h h0)]; exact x.k b u h n, fun b h => by
    by_cases w : b = p
    · subst w; exact h0
    · rw [upd_ne w] at h; exact x.f b h, fun t => tabs_upd h4 n1 n2 (x.t t)⟩
def SlOk (K : PySem.W.Frag) (E : En) (G H : Hp) (s : Sl) (x : Option V) : Prop :=
  match s with
  | .un => True
  | .im d => ∃ v, x = some v ∧ Rep K G d v
  | s => ∃ a o, x = some (.ref a) ∧ H a = some o ∧ G a = none ∧ OwnOk K G s o ∧ (if s.isMe = true then E.m = some a else E.H a = none ∧ E.m ≠ some a)

structure Env (K : PySem.W.Frag) (E : En) (Γ : List Sl) (σ : L2.St) (G H : Hp) : Prop where
  len : σ.length = Γ.length
  ok : ∀ (i : Nat) (s : Sl) (x : Option V), Γ[i]? = some s → σ[i]? = some x → SlOk K E G H s x
  inj : ∀ (i j : Nat) (s t : Sl) (a : Addr), Γ[i]? = some s → Γ[j]? = some t → s.isOwn = true → t.isOwn = true → σ[i]? = some (some (.ref a)) → σ[j]? = some (some (.ref a)) → i = j
  g : Same E.G G
  sub : Same G H
  h : ∀ b o, E.H b = some o → E.m ≠ some b → (∀ ps, o ≠ .tbl ps) → H b = some o
  fr : ∀ b o, E.H b = some o → E.G b = none → G b = none
  mh : ∀ a, E.m = some a → (∃ o, H a = some o) ∧ G a = none
  hf : ∀ b, H b = none → E.H b = none
  tb : TabsG K G H

section
variable {K : PySem.W.Frag} {E : En} {Γ : List Sl} {σ : L2.St} {G H G' H' : Hp}
theorem SlOk.mono {s : Sl} {x : Option V} (e : Ext K G H G' H') (h : SlOk K E G H s x) : SlOk K E G' H' s x := by
  cases s with
  | un => trivial
  | im d => obtain ⟨v, h1, h2⟩ := h; exact ⟨v, h1, h2.mono e.g⟩
  | ol xs => obtain ⟨a, o, h1, h2, h3, h4, h5⟩ := h; exact ⟨a, o, h1, e.h.at h2 h4.ntb, e.fr _ _ h2 h3, h4.mono e.g, h5⟩
  | od xs => obtain ⟨a, o, h1, h2, h3, h4, h5⟩ := h; exact ⟨a, o, h1, e.h.at h2 h4.ntb, e.fr _ _ h2 h3, h4.mono e.g, h5⟩
  | ot xs => obtain ⟨a, o, h1, h2, h3, h4, h5⟩ := h; exact ⟨a, o, h1, e.h.at h2 h4.ntb, e.fr _ _ h2 h3, h4.mono e.g, h5⟩
  | me c fs => obtain ⟨a, o, h1, h2, h3, h4, h5⟩ := h; exact ⟨a, o, h1, e.h.at h2 h4.ntb, e.fr _ _ h2 h3, h4.mono e.g, h5⟩
theorem Env.mono (v : Env K E Γ σ G H) (e : Ext K G H G' H') : Env K E Γ σ G' H' :=
  ⟨v.len, fun i s x h1 h2 => (v.ok i s x h1 h2).mono e, v.inj, v.g.trans e.g, e.sub, fun b o h n nt => e.h.at (v.h b o h n nt) nt,
    fun b o h n => by
      by_cases hm : E.m = some b
      · obtain ⟨⟨o', h1⟩, h2⟩ := v.mh b hm
        exact e.fr b o' h1 h2
      · cases q : H b with
        | none => rw [v.hf b q] at h; cases h
        | some o' => exact e.fr b o' q (v.fr b o h n),
    fun a ha => by
      obtain ⟨⟨o, h1⟩, h2⟩ := v.mh a ha
      refine ⟨?_, e.fr _ _ h1 h2⟩
      cases q : H' a with
      | none => rw [e.h.f a q] at h1; cases h1
      | some o' => exact ⟨o', rfl⟩,
    fun b h => v.hf b (e.h.f b h), e.h.t v.tb.1, fun p hp => by
      obtain ⟨ps, h, _⟩ := v.tb.1 p hp
      exact e.fr _ _ h (v.tb.2 p hp)⟩
theorem Env.slot {i : Nat} {s : Sl} (v : Env K E Γ σ G H) (h : Γ[i]? = some s) : ∃ x, σ[i]? = some x ∧ SlOk K E G H s x := by
  have hi : i < Γ.length := (List.getElem?_eq_some_iff.mp h).1
  have hj : i < σ.length := by rw [v.len]; exact hi
  exact ⟨σ[i], List.getElem?_eq_getElem hj, v.ok i s _ h (List.getElem?_eq_getElem hj)⟩
theorem Env.im {i : Nat} {d : D} (v : Env K E Γ σ G H) (h : Γ[i]? = some (.im d)) : ∃ x, σ[i]? = some (some x) ∧ Rep K G d x := by
  obtain ⟨x, h1, y, h2, h3⟩ := v.slot h
  exact ⟨y, by rw [h1, h2], h3⟩
theorem Env.own {i : Nat} {s : Sl} (v : Env K E Γ σ G H) (h : Γ[i]? = some s) (hs : s.isOwn = true) :
    ∃ a o, σ[i]? = some (some (.ref a)) ∧ H a = some o ∧ G a = none ∧ OwnOk K G s o ∧ (if s.isMe = true then E.m = some a else E.H a = none ∧ E.m ≠ some a) := by
  obtain ⟨x, h1, h2⟩ := v.slot h
  cases s with
  | un => cases hs
  | im d => cases hs
  | ol xs => obtain ⟨a, o, q, r⟩ := h2; exact ⟨a, o, by rw [h1, q], r⟩
  | od xs => obtain ⟨a, o, q, r⟩ := h2; exact ⟨a, o, by rw [h1, q], r⟩
  | ot xs => obtain ⟨a, o, q, r⟩ := h2; exact ⟨a, o, by rw [h1, q], r⟩
  | me c fs => obtain ⟨a, o, q, r⟩ := h2; exact ⟨a, o, by rw [h1, q], r⟩
theorem slOk_own {s : Sl} {x : Option V} (hs : s.isOwn = true) (h : ∃ a o, x = some (.ref a) ∧ H a = some o ∧ G a = none ∧ OwnOk K G s o ∧ (if s.isMe = true then E.m = some a else E.H a = none ∧ E.m ≠ some a)) : SlOk K E G H s x := by
  cases s with
  | un => cases hs
  | im d => cases hs
  | ol xs => exact h
  | od xs => exact h
  | ot xs => exact h
  | me c fs => exact h
/-- a slot is given data -/
theorem Env.setIm {i : Nat} {d : D} {x : V} (v : Env K E Γ σ G H) (r : Rep K G d x) : Env K E (Γ.set i (.im d)) (σ.set i (some x)) G H := by
  refine ⟨by simp [v.len], fun j s y h1 h2 => ?_, fun j k s t a h1 h2 h3 h4 h5 h6 => ?_, v.g, v.sub, v.h, v.fr, v.mh, v.hf, v.tb⟩
  · rw [List.getElem?_set] at h1 h2
    by_cases e : i = j
    · rw [if_pos e] at h1 h2
      split at h1
      · cases h1
        split at h2
        · cases h2; exact ⟨x, rfl, r⟩
        · cases h2
      · cases h1
    · rw [if_neg e] at h1 h2
      exact v.ok j s y h1 h2
  · rw [List.getElem?_set] at h1 h2 h5 h6
    by_cases e : i = j
    · rw [if_pos e] at h1
      split at h1
      · cases h1; cases h3
      · cases h1
    · by_cases e2 : i = k
      · rw [if_pos e2] at h2
        split at h2
        · cases h2; cases h4
        · cases h2
      · rw [if_neg e] at h1 h5
        rw [if_neg e2] at h2 h6
        exact v.inj j k s t a h1 h2 h3 h4 h5 h6
/-- a slot is forgotten -/
theorem Env.forget {i : Nat} {x : Option V} (v : Env K E Γ σ G H) : Env K E (Γ.set i .un) (σ.set i x) G H := by
  refine ⟨by simp [v.len], fun j s y h1 h2 => ?_, fun j k s t a h1 h2 h3 h4 h5 h6 => ?_, v.g, v.sub, v.h, v.fr, v.mh, v.hf, v.tb⟩
  · rw [List.getElem?_set] at h1 h2
    by_cases e : i = j
    · rw [if_pos e] at h1
      split at h1
      · cases h1; trivial
      · cases h1
    · rw [if_neg e] at h1 h2
      exact v.ok j s y h1 h2
  · rw [List.getElem?_set] at h1 h2 h5 h6
    by_cases e : i = j
    · rw [if_pos e] at h1
      split at h1
      · cases h1; cases h3
      · cases h1
    · by_cases e2 : i = k
      · rw [if_pos e2] at h2
        split at h2
        · cases h2; cases h4
        · cases h2
      · rw [if_neg e] at h1 h5
        rw [if_neg e2] at h2 h6
        exact v.inj j k s t a h1 h2 h3 h4 h5 h6
/-- a slot is given a new object of the frame's own -/
theorem Env.setOwn {i : Nat} {s : Sl} {p : Addr} {o : HO} (v : Env K E Γ σ G H) (hs : s.isOwn = true) (hm : s.isMe = false) (hp : H p = some o) (hg : G p = none) (ok : OwnOk K G s o) (hE : E.H p = none)
    (hn : ∀ (j : Nat) (t : Sl), Γ[j]? = some t → t.isOwn = true → σ[j]? ≠ some (some (.ref p))) (hmp : E.m ≠ some p) : Env K E (Γ.set i s) (σ.set i (some (.ref p))) G H := by
  refine ⟨by simp [v.len], fun j t y h1 h2 => ?_, fun j k t u a h1 h2 h3 h4 h5 h6 => ?_, v.g, v.sub, v.h, v.fr, v.mh, v.hf, v.tb⟩
  · rw [List.getElem?_set] at h1 h2
    by_cases e : i = j
    · rw [if_pos e] at h1 h2
      split at h1
      · cases h1
        split at h2
        · cases h2; exact slOk_own hs ⟨p, o, rfl, hp, hg, ok, by rw [hm]; exact ⟨hE, hmp⟩⟩
        · cases h2
      · cases h1
    · rw [if_neg e] at h1 h2
      exact v.ok j t y h1 h2
  · rw [List.getElem?_set] at h1 h2 h5 h6
    by_cases e : i = j
    · by_cases e2 : i = k
      · rw [← e, ← e2]
      · rw [if_pos e] at h5
        rw [if_neg e2] at h2 h6
        split at h5
        · cases h5; exact absurd h6 (hn k u h2 h4)
        · cases h5
    · by_cases e2 : i = k
      · rw [if_pos e2] at h6
        rw [if_neg e] at h1 h5
        split at h6
        · cases h6; exact absurd h5 (hn j t h1 h3)
        · cases h6
      · rw [if_neg e] at h1 h5
        rw [if_neg e2] at h2 h6
        exact v.inj j k t u a h1 h2 h3 h4 h5 h6
/-- no own object is what G has, or what isn't there -/
theorem Env.noOwn {p : Addr} (v : Env K E Γ σ G H) (h : H p = none) (j : Nat) (t : Sl) (h1 : Γ[j]? = some t) (h2 : t.isOwn = true) : σ[j]? ≠ some (some (.ref p)) := fun e => by
  obtain ⟨a, o, q1, q2, _⟩ := v.own h1 h2
  rw [e] at q1
  cases q1
  rw [h] at q2; cases q2
theorem Env.fresh {p : Addr} (v : Env K E Γ σ G H) (h : H p = none) : E.H p = none ∧ E.m ≠ some p := by
  have hm : E.m ≠ some p := fun z => by
    obtain ⟨⟨o, h1⟩, _⟩ := v.mh p z
    rw [h] at h1; cases h1
  exact ⟨v.hf p h, hm⟩
/-- an own object changes its content -/
theorem Env.change {i : Nat} {s s' : Sl} {a : Addr} {o : HO} (v : Env K E Γ σ G H) (h : Γ[i]? = some s) (hs : s.isOwn = true) (ha : σ[i]? = some (some (.ref a))) (hs' : s'.isOwn = true) (hm : s'.isMe = s.isMe) (ok : OwnOk K G s' o) :
    Env K E (Γ.set i s') σ G (upd H a o) := by
  obtain ⟨a', o', q1, q2, q3, q4, q5⟩ := v.own h hs
  rw [ha] at q1; cases q1
  have hi : i < Γ.length := (List.getElem?_eq_some_iff.mp h).1
  refine ⟨by simp [v.len], fun j t y h1 h2 => ?_, fun j k t u b h1 h2 h3 h4 h5 h6 => ?_, v.g, fun b u e => ?_, fun b u e n nt => ?_, v.fr, fun b hb => ?_, fun b hb => ?_, tabs_upd q2 q4.ntb q4.ncode v.tb.1, v.tb.2⟩
  · rw [List.getElem?_set] at h1
    by_cases e : i = j
    · subst e
      rw [if_pos rfl, if_pos hi] at h1
      cases h1
      rw [ha] at h2; cases h2
      exact slOk_own hs' ⟨a, o, rfl, upd_same, q3, ok, by rw [hm]; exact q5⟩
    · rw [if_neg e] at h1
      have z := v.ok j t y h1 h2
      by_cases ht : t.isOwn = true
      · obtain ⟨b, u, z1, z2, z3⟩ := v.own h1 ht
        have hb : b ≠ a := fun w => by
          subst w
          exact e (v.inj i j s t b h h1 hs ht ha z1)
        rw [h2] at z1; cases z1
        exact slOk_own ht ⟨b, u, rfl, by rw [upd_ne hb]; exact z2, z3⟩
      · cases t with
        | un => trivial
        | im d => exact z
        | ol _ => exact absurd rfl ht
        | od _ => exact absurd rfl ht
        | ot _ => exact absurd rfl ht
        | me _ _ => exact absurd rfl ht
  · have g : ∀ (l : Nat) (t : Sl), (Γ.set i s')[l]? = some t → t.isOwn = true → ∃ t', Γ[l]? = some t' ∧ t'.isOwn = true := fun l t q w => by
      rw [List.getElem?_set] at q
      by_cases e : i = l
      · subst e; exact ⟨s, h, hs⟩
      · rw [if_neg e] at q; exact ⟨t, q, w⟩
    obtain ⟨t', g1, g2⟩ := g j t h1 h3
    obtain ⟨u', g3, g4⟩ := g k u h2 h4
    exact v.inj j k t' u' b g1 g3 g2 g4 h5 h6
  · have hb : b ≠ a := fun w => by subst w; rw [q3] at e; cases e
    rw [upd_ne hb]; exact v.sub b u e
  · have hb : b ≠ a := fun w => by
      subst w
      cases hsm : s.isMe with
      | true => rw [hsm] at q5; exact n q5
      | false => rw [hsm] at q5; rw [q5.1] at e; cases e
    rw [upd_ne hb]; exact v.h b u e n nt
  · obtain ⟨⟨u, h1⟩, h2⟩ := v.mh b hb
    refine ⟨?_, h2⟩
    by_cases w : b = a
    · subst w; exact ⟨o, upd_same⟩
    · exact ⟨u, by rw [upd_ne w]; exact h1⟩
  · by_cases w : b = a
    · subst w; rw [upd_same] at hb; cases hb
    · rw [upd_ne w] at hb; exact v.hf b hb
/-- an own list, dict is data from now on -/
theorem Env.freeze {i : Nat} {s : Sl} {d : D} (v : Env K E Γ σ G H) (h : Γ[i]? = some s) (hs : s.isOwn = true) (hm : s.isMe = false) (hd : ∀ (G' : Hp) (a : Addr) (o : HO), G' a = some o → OwnOk K G' s o → Rep K G' d (.ref a)) :
    ∃ G', Same G G' ∧ Env K E (Γ.set i (.im d)) σ G' H := by
  obtain ⟨a, o, q1, q2, q3, q4, q5⟩ := v.own h hs
  rw [hm] at q5
  have hi : i < Γ.length := (List.getElem?_eq_some_iff.mp h).1
  have sg : Same G (upd G a o) := same_new q3
  refine ⟨upd G a o, sg, by simp [v.len], fun j t y h1 h2 => ?_, fun j k t u b h1 h2 h3 h4 h5 h6 => ?_, v.g.trans sg, fun b u e => ?_, v.h, fun b u e n => ?_, fun b hb => ?_, v.hf, tabsG_upd v.tb q2 q4.ntb⟩
  · rw [List.getElem?_set] at h1
    by_cases e : i = j
    · subst e
      rw [if_pos rfl, if_pos hi] at h1
      cases h1
      rw [q1] at h2; cases h2
      exact ⟨.ref a, rfl, hd _ a o upd_same (q4.mono sg)⟩
    · rw [if_neg e] at h1
      have z := v.ok j t y h1 h2
      by_cases ht : t.isOwn = true
      · obtain ⟨b, u, z1, z2, z3, z4, z5⟩ := v.own h1 ht
        have hb : b ≠ a := fun w => by
          subst w
          exact e (v.inj i j s t b h h1 hs ht q1 z1)
        rw [h2] at z1; cases z1
        exact slOk_own ht ⟨b, u, rfl, z2, by rw [upd_ne hb]; exact z3, z4.mono sg, z5⟩
      · cases t with
        | un => trivial
        | im d => obtain ⟨w, w1, w2⟩ := z; exact ⟨w, w1, w2.mono sg⟩
        | ol _ => exact absurd rfl ht
        | od _ => exact absurd rfl ht
        | ot _ => exact absurd rfl ht
        | me _ _ => exact absurd rfl ht
  · have g : ∀ (l : Nat) (t : Sl), (Γ.set i (.im d))[l]? = some t → t.isOwn = true → Γ[l]? = some t := fun l t q w => by
      rw [List.getElem?_set] at q
      by_cases e : i = l
      · subst e; rw [if_pos rfl, if_pos hi] at q; cases q; cases w
      · rw [if_neg e] at q; exact q
    exact v.inj j k t u b (g j t h1 h3) (g k u h2 h4) h3 h4 h5 h6
  · by_cases w : b = a
    · subst w; rw [upd_same] at e; rw [← e]; exact q2
    · rw [upd_ne w] at e; exact v.sub b u e
  · have hb : b ≠ a := fun w => by subst w; rw [q5.1] at e; cases e
    rw [upd_ne hb]; exact v.fr b u e n
  · obtain ⟨h1, h2⟩ := v.mh b hb
    refine ⟨h1, ?_⟩
    have w : b ≠ a := fun w => by subst w; exact q5.2 hb
    rw [upd_ne w]; exact h2
end
end DL
set_option maxHeartbeats 2000000
/-! DL1: the judgements EX (an expression's value), ET (a test), EA (arguments), EO (a new object of the frame's own), SX, SXs (statements); a def's promise spD by a specification over data -/
namespace DL
open PySem PySem.Spec PyProof.Rows L2

theorem len_small {α : Type} {xs : List α} (h : xs.length ≤ 1000) : xs.length ≤ sizeLine := Nat.le_trans h (by decide)
/-! ### side conditions by looks at the text alone -/
def noStar : Expr → Bool
  | .Starred _ _ => false | _ => true
theorem starEach_cons {e : Expr} {es : List Expr} {env : PySem.Env} (h : noStar e = true) : starEach (e :: es) env = (false, eval e env) :: starEach es env := by
  cases e <;> first | rfl | cases h
theorem starEach_any {pos : Pos} {env : PySem.Env} : ∀ {es : List Expr}, es.all noStar = true → (backTo pos (starEach es env)).any (·.1) = false
  | [], _ => rfl
  | e :: es, h => by
    simp only [List.all_cons, Bool.and_eq_true] at h
    rw [starEach_cons h.1]
    show (false || (backTo pos (starEach es env)).any (·.1)) = false
    rw [starEach_any h.2]; rfl
theorem starEach_all {pos : Pos} {env : PySem.Env} : ∀ {es : List Expr}, es.all noStar = true → (backTo pos (starEach es env)).all (fun x => !x.1) = true
  | [], _ => rfl
  | e :: es, h => by
    simp only [List.all_cons, Bool.and_eq_true] at h
    rw [starEach_cons h.1]
    show (true && (backTo pos (starEach es env)).all (fun x => !x.1)) = true
    rw [starEach_all h.2]; rfl
theorem starEach_one {e : Expr} {env : PySem.Env} (h : noStar e = true) : starEach [e] env = [(false, eval e env)] := starEach_cons h
theorem starEach_two {e1 e2 : Expr} {env : PySem.Env} (h : noStar e1 = true) (h2 : noStar e2 = true) : starEach [e1, e2] env = [(false, eval e1 env), (false, eval e2 env)] := by rw [starEach_cons h, starEach_cons h2]; rfl
def notSuper : Expr → Bool
  | .Call _ [] [] _ => false | _ => true
theorem attrBase {e : Expr} {f : Str} {env : PySem.Env} {t : Sem Value} (h : notSuper e = true) : attributeBase e f env t = t := by
  unfold attributeBase
  split
  · cases h
  · rfl
def notComp : Expr → Bool
  | .ListComp _ _ _ _ => false | .SetComp _ _ _ _ => false | .DictComp _ _ _ _ _ => false | _ => true
theorem swapsNo {e : Expr} {t : Option Expr} {l : Nat} {env : PySem.Env} (h : notComp e = true) : swapsWith e t l env = pure false := by
  cases e <;> first | rfl | cases h
def notSlice : Expr → Bool
  | .Slice _ _ _ _ => false | _ => true
theorem plainIx {e : Expr} (h : notSlice e = true) : PlainIx e := fun _ _ => by
  cases e <;> first | rfl | cases h
def notSet : Expr → Bool
  | .Set _ _ _ => false | _ => true
theorem noMarks {op : CmpOp} {e : Expr} (h : notSet e = true) : behindInMarks op e = false := by
  cases e <;> first | rfl | cases h
theorem noFold {e : Expr} {env : PySem.Env} {x : Value} (h : notSet e = true) : foldedSetIterable e env x = pure x := by
  cases e <;> first | rfl | cases h
theorem lastNo {op op' : CmpOp} {a e : Expr} (h : notSet e = true) : lastMarks [op, op'] [a, e] = false := noMarks h
def plainB (o : Expr) (env : PySem.Env) : Sem Bool := do return (← importBound o env).getD true
theorem methEq {o : Expr} {m : Str} {apos pos : Pos} {args : List Expr} {env : PySem.Env} (h1 : notSuper o = true) (h2 : args.all noStar = true) (h3 : args.length < 29) (h4 : (apos.endLine == pos.line) = true) :
    eval (.Call (.Attribute o m apos) args [] pos) env = (do
      let ov ← eval o env
      standAt apos.atName
      let (f, first) ← holding [ov] (getMethod ov m (plainB o env))
      callWith pos f first (backTo pos (starEach args env)) (backToKw pos (keywordEach [] env))) := by
  have e0 : eval (.Call (.Attribute o m apos) args [] pos) env = (do
      let ov ← attributeBase o m env (eval o env)
      standAt apos.atName
      methodCall o m apos pos env ov (args.length + ([] : List Keyword).length) (backTo pos (starEach args env)) (backToKw pos (keywordEach [] env))) := by
    rw [eval]
  rw [e0, attrBase h1]
  have hf : methodCallForm (args.length + ([] : List Keyword).length) (backTo pos (starEach args env)) (backToKw pos (keywordEach [] env)) = true := by
    unfold methodCallForm
    rw [starEach_all h2]
    simp [keywordEach, backToKw]
    omega
  have hm : ∀ ov, methodCall o m apos pos env ov (args.length + ([] : List Keyword).length) (backTo pos (starEach args env)) (backToKw pos (keywordEach [] env)) = (do
      let (f, first) ← holding [ov] (getMethod ov m (plainB o env))
      callWith pos f first (backTo pos (starEach args env)) (backToKw pos (keywordEach [] env))) := fun ov => by
    have e1 : calleeOf (methodCallForm (args.length + ([] : List Keyword).length) (backTo pos (starEach args env)) (backToKw pos (keywordEach [] env))) o env ov m = getMethod ov m (plainB o env) := by
      rw [hf]; rfl
    have e2 : methodCallPos (methodCallForm (args.length + ([] : List Keyword).length) (backTo pos (starEach args env)) (backToKw pos (keywordEach [] env))) o env apos pos = pure pos := by
      unfold methodCallPos
      exact if_pos (by rw [h4, Bool.or_true])
    unfold methodCall
    rw [e1, e2]
    first | rfl | simp only [pure_bind]
  simp only [hm]
theorem fewArgs {pos : Pos} {env : PySem.Env} {e : Expr} (h : noStar e = true) : ((backTo pos (starEach [e] env)).all (fun x => !x.1) && (backToKw pos (keywordEach [] env)).all (fun x => x.1.isSome) && decide ([e].length + ([] : List Keyword).length + (if ([] : List Keyword).isEmpty then 0 else 1) < 30)) = true := by
  rw [starEach_all (by simp [h])]
  rfl

/-! ### the weakest readings -/
def eW (X : Cx) (e : Expr) : TE := fun σ H Q => ∀ (pins : List (Addr × Obj)) (s : Shared), Inv X pins σ H s → wpAny (model X.prog X.w) X.A (eval e X.env) (EP X pins σ Q) X.xe s
def tW (X : Cx) (e : Expr) : TT := fun σ H Q => ∀ (pins : List (Addr × Obj)) (s : Shared), Inv X pins σ H s → wpAny (model X.prog X.w) X.A (isTrue e X.env (eval e X.env)) (TP X pins σ Q) X.xe s
def twW (X : Cx) (e : Expr) : TT := fun σ H Q => ∀ (whole : Sem Value) (pins : List (Addr × Obj)) (s : Shared), Inv X pins σ H s → wpAny (model X.prog X.w) X.A (isTrue e X.env whole) (TP X pins σ Q) X.xe s
def aW (X : Cx) (es : List Expr) : TA := fun σ H Q => ∀ (pos : Pos) (pins : List (Addr × Obj)) (s : Shared), Inv X pins σ H s → wpAny (model X.prog X.w) X.A (spliced (backTo pos (starEach es X.env))) (AP X pins σ Q) X.xe s
def sW (X : Cx) (st : Stmt) : TS := fun D σ H => ∀ (pins : List (Addr × Obj)) (s : Shared), Inv X pins σ H s → wpAny (model X.prog X.w) X.A (exec st X.env) (SP X pins D) X.xe s
def ssW (X : Cx) (st : List Stmt) : TS := fun D σ H => ∀ (pins : List (Addr × Obj)) (s : Shared), Inv X pins σ H s → wpAny (model X.prog X.w) X.A (execs st X.env) (SP X pins D) X.xe s
section
variable {X : Cx} {e : Expr} {es : List Expr} {st : Stmt} {sts : List Stmt} {σ : L2.St} {H : Hp}
theorem pe_W : PE X e (eW X e) := ⟨fun pins s _ _ _ I h => h pins s I⟩
theorem pt_W : PT X e (tW X e) := ⟨fun pins s _ _ _ I h => h pins s I⟩
theorem pw_W : PW X e (twW X e) := ⟨fun w pins s _ _ _ I h => h w pins s I⟩
theorem pa_W : PA X es (aW X es) := ⟨fun pos pins s _ _ _ I h => h pos pins s I⟩
theorem ps_W : PS X st (sW X st) := ⟨fun pins s _ _ _ I h => h pins s I⟩
theorem pss_W : PSs X sts (ssW X sts) := ⟨fun pins s _ _ _ I h => h pins s I⟩
theorem eW_of {t : TE} {Q : VK} (h : PE X e t) (q : t σ H Q) : eW X e σ H Q := fun pins s I => h.run pins s σ H Q I q
theorem tW_of {t : TT} {Q : Bool → Hp → Prop} (h : PT X e t) (q : t σ H Q) : tW X e σ H Q := fun pins s I => h.run pins s σ H Q I q
theorem twW_of {t : TT} {Q : Bool → Hp → Prop} (h : PW X e t) (q : t σ H Q) : twW X e σ H Q := fun w pins s I => h.run w pins s σ H Q I q
theorem aW_of {t : TA} {Q : List V → Hp → Prop} (h : PA X es t) (q : t σ H Q) : aW X es σ H Q := fun pos pins s I => h.run pos pins s σ H Q I q
theorem sW_of {t : TS} {D : Ends} (h : PS X st t) (q : t D σ H) : sW X st D σ H := fun pins s I => h.run pins s σ H D I q
theorem ssW_of {t : TS} {D : Ends} (h : PSs X sts t) (q : t D σ H) : ssW X sts D σ H := fun pins s I => h.run pins s σ H D I q
theorem eW_mono {Q Q' : VK} (h : eW X e σ H Q) (k : ∀ v H', Q v H' → Q' v H') : eW X e σ H Q' := fun pins s I =>
  thn (h pins s I) fun u s' ⟨v, H', I', r, q⟩ => ⟨v, H', I', r, k v H' q⟩
theorem tW_mono {Q Q' : Bool → Hp → Prop} (h : tW X e σ H Q) (k : ∀ v H', Q v H' → Q' v H') : tW X e σ H Q' := fun pins s I =>
  thn (h pins s I) fun u s' ⟨H', I', q⟩ => ⟨H', I', k u H' q⟩
end

/-! ### the judgements -/
structure EXR (X : Cx) (E : En) (e : Expr) (Γ : List Sl) (Φ : D → Prop) : Prop where
  w : ∀ (σ : L2.St) (G H : Hp) (Q : VK), Env X.K E Γ σ G H → (∀ d v G' H', Φ d → Ext X.K G H G' H' → Rep X.K G' d v → Q v H') → eW X e σ H Q
def EX (X : Cx) (E : En) (e : Expr) (Γ : List Sl) (d : D) : Prop := EXR X E e Γ fun d' => d' = d
structure ETR (X : Cx) (E : En) (e : Expr) (Γ : List Sl) (Φ : Bool → Prop) : Prop where
  w : ∀ (σ : L2.St) (G H : Hp) (Q : Bool → Hp → Prop), Env X.K E Γ σ G H → (∀ b G' H', Φ b → Ext X.K G H G' H' → Q b H') → tW X e σ H Q
def ET (X : Cx) (E : En) (e : Expr) (Γ : List Sl) (b : Bool) : Prop := ETR X E e Γ fun b' => b' = b
structure EW (X : Cx) (E : En) (e : Expr) (Γ : List Sl) (b : Bool) : Prop where
  w : ∀ (σ : L2.St) (G H : Hp) (Q : Bool → Hp → Prop), Env X.K E Γ σ G H → (∀ G' H', Ext X.K G H G' H' → Q b H') → twW X e σ H Q
structure EAR (X : Cx) (E : En) (es : List Expr) (Γ : List Sl) (Φ : List D → Prop) : Prop where
  w : ∀ (σ : L2.St) (G H : Hp) (Q : List V → Hp → Prop), Env X.K E Γ σ G H → (∀ ds vs G' H', Φ ds → Ext X.K G H G' H' → Reps X.K G' ds vs → Q vs H') → aW X es σ H Q
def EA (X : Cx) (E : En) (es : List Expr) (Γ : List Sl) (ds : List D) : Prop := EAR X E es Γ fun ds' => ds' = ds
structure EO (X : Cx) (E : En) (e : Expr) (Γ : List Sl) (s : Sl) : Prop where
  w : ∀ (σ : L2.St) (G H : Hp) (Q : VK), Env X.K E Γ σ G H →
  (∀ p o G' H', Ext X.K G H G' H' → H p = none → H' p = some o → G' p = none → OwnOk X.K G' s o → Q (.ref p) H') → eW X e σ H Q

structure N4 where
  nx : List Sl → Prop
  rt : D → List Sl → Prop
  bk : List Sl → Prop := fun _ => False
  ct : List Sl → Prop := fun _ => False
structure Real (K : PySem.W.Frag) (E : En) (N : N4) (G : Hp) (Dn : Ends) : Prop where
  nx : ∀ Γ σ G' H, Same G G' → Env K E Γ σ G' H → N.nx Γ → Dn.nx σ H
  rt : ∀ d v Γ σ G' H, Same G G' → Env K E Γ σ G' H → Rep K G' d v → N.rt d Γ → Dn.rt v H
  bk : ∀ Γ σ G' H, Same G G' → Env K E Γ σ G' H → N.bk Γ → Dn.bk σ H
  ct : ∀ Γ σ G' H, Same G G' → Env K E Γ σ G' H → N.ct Γ → Dn.ct σ H
theorem Real.mono {K : PySem.W.Frag} {E : En} {N : N4} {G G' : Hp} {Dn : Ends} (r : Real K E N G Dn) (s : Same G G') : Real K E N G' Dn :=
  ⟨fun Γ σ G1 H a => r.nx Γ σ G1 H (s.trans a), fun d v Γ σ G1 H a => r.rt d v Γ σ G1 H (s.trans a), fun Γ σ G1 H a => r.bk Γ σ G1 H (s.trans a), fun Γ σ G1 H a => r.ct Γ σ G1 H (s.trans a)⟩
structure SX (X : Cx) (E : En) (st : Stmt) (N : N4) (Γ : List Sl) : Prop where
  w : ∀ (σ : L2.St) (G H : Hp) (Dn : Ends), Env X.K E Γ σ G H → Real X.K E N G Dn → sW X st Dn σ H
structure SXs (X : Cx) (E : En) (sts : List Stmt) (N : N4) (Γ : List Sl) : Prop where
  w : ∀ (σ : L2.St) (G H : Hp) (Dn : Ends), Env X.K E Γ σ G H → Real X.K E N G Dn → ssW X sts Dn σ H

section
variable {X : Cx} {E : En} {e e1 e2 : Expr} {es : List Expr} {Γ : List Sl} {d x y : D} {Φ Φ' : D → Prop} {b : Bool} {pos : Pos}

/-! ### changes of form -/
theorem EX.R (h : EX X E e Γ d) (p : Φ d) : EXR X E e Γ Φ := ⟨fun σ G H Q v k => h.w σ G H Q v fun d' u G' H' q => by subst q; exact k _ u G' H' p⟩
theorem EXR.imp (h : EXR X E e Γ Φ) (p : ∀ d, Φ d → Φ' d) : EXR X E e Γ Φ' := ⟨fun σ G H Q v k => h.w σ G H Q v fun d u G' H' q => k d u G' H' (p d q)⟩
theorem EX.to (h : EX X E e Γ x) (p : x = y) : EX X E e Γ y := p ▸ h
theorem ET.to {b'} (h : ET X E e Γ b) (p : b = b') : ET X E e Γ b' := p ▸ h
theorem EXR.run (h : EXR X E e Γ Φ) {σ : L2.St} {G H : Hp} {Q : VK} (v : Env X.K E Γ σ G H) (k : ∀ d u G' H', Φ d → Env X.K E Γ σ G' H' → Ext X.K G H G' H' → Rep X.K G' d u → Q u H') : eW X e σ H Q :=
  h.w σ G H Q v fun d u G' H' p q r => k d u G' H' p (v.mono q) q r
theorem EX.run (h : EX X E e Γ d) {σ : L2.St} {G H : Hp} {Q : VK} (v : Env X.K E Γ σ G H) (k : ∀ u G' H', Env X.K E Γ σ G' H' → Ext X.K G H G' H' → Rep X.K G' d u → Q u H') : eW X e σ H Q :=
  h.w σ G H Q v fun d' u G' H' p q r => by subst p; exact k u G' H' (v.mono q) q r
theorem ET.run (h : ET X E e Γ b) {σ : L2.St} {G H : Hp} {Q : Bool → Hp → Prop} (v : Env X.K E Γ σ G H) (k : ∀ G' H', Env X.K E Γ σ G' H' → Ext X.K G H G' H' → Q b H') : tW X e σ H Q :=
  h.w σ G H Q v fun b' G' H' p q => by subst p; exact k G' H' (v.mono q) q
theorem EA.run {ds : List D} (h : EA X E es Γ ds) {σ : L2.St} {G H : Hp} {Q : List V → Hp → Prop} (v : Env X.K E Γ σ G H) (k : ∀ us G' H', Env X.K E Γ σ G' H' → Ext X.K G H G' H' → Reps X.K G' ds us → Q us H') : aW X es σ H Q :=
  h.w σ G H Q v fun ds' u G' H' p q r => by subst p; exact k u G' H' (v.mono q) q r
/-- by a reading, straight -/
theorem ex_of {t : TE} (h : PE X e t) (q : ∀ (σ : L2.St) (G H : Hp) (Q : VK), Env X.K E Γ σ G H → (∀ v G' H', Ext X.K G H G' H' → Rep X.K G' d v → Q v H') → t σ H Q) : EX X E e Γ d :=
  ⟨fun σ G H Q v k => eW_of h (q σ G H Q v fun u G' H' a r => k d u G' H' rfl a r)⟩
theorem exr_of {t : TE} (h : PE X e t) (q : ∀ (σ : L2.St) (G H : Hp) (Q : VK), Env X.K E Γ σ G H → (∀ d v G' H', Φ d → Ext X.K G H G' H' → Rep X.K G' d v → Q v H') → t σ H Q) : EXR X E e Γ Φ :=
  ⟨fun σ G H Q v k => eW_of h (q σ G H Q v k)⟩
theorem et_of {t : TT} (h : PT X e t) (q : ∀ (σ : L2.St) (G H : Hp) (Q : Bool → Hp → Prop), Env X.K E Γ σ G H → (∀ G' H', Ext X.K G H G' H' → Q b H') → t σ H Q) : ET X E e Γ b :=
  ⟨fun σ G H Q v k => tW_of h (q σ G H Q v fun G' H' a => k b G' H' rfl a)⟩

/-! ### names, constants -/
theorem ex_var {n : Str} (i : Nat) (hs : Γ[i]? = some (.im d) := by exact rfl) (hN : X.N[i]? = some n := by exact rfl) (hv : Vis X.env.scope n := by exact Or.inl (by kernel_rfl)) (hd : (n == ("__debug__" : Str)) = false := by decide +kernel)
    (hcd : (n == ("__classdict__" : Str)) = false := by decide +kernel) : EX X E (.Name n pos) Γ d := ex_of (pe_var hN hv hd hcd) fun σ G H Q v k => by
  obtain ⟨x, h1, h2⟩ := v.im hs
  exact ⟨x, h1, k x G H (.refl v.sub) h2⟩
theorem ex_c {v : V} (h : PE X e (tC v)) (r : ∀ G, Rep X.K G d v) : EX X E e Γ d := ex_of h fun σ G H Q w k => k v G H (.refl w.sub) (r G)
theorem ex_int {i j} : EX X E (.Constant (.int i) j pos) Γ (.int i) := ex_c pe_int fun _ => .int i
theorem ex_bl {c j} : EX X E (.Constant (.bool c) j pos) Γ (.bl c) := ex_c pe_bl fun _ => .bl c
theorem ex_non {j} : EX X E (.Constant .none j pos) Γ .non := ex_c pe_non fun _ => .non
theorem ex_str {z j} : EX X E (.Constant (.str z) j pos) Γ (.str z) := ex_c pe_str fun _ => .str z
theorem ex_globI {n : Str} {i : Int} (hm : ∃ t, X.mg n = some (.int i t)) (hg : Gl X n := by (show PySem.Env.kindOf _ _ = _); kernel_rfl) (hd : (n == ("__debug__" : Str)) = false := by decide +kernel) : EX X E (.Name n pos) Γ (.int i) := by
  obtain ⟨t, hm⟩ := hm
  exact ex_c (v := .int i) (pe_glob hg hm ⟨t, rfl⟩ hd) fun _ => .int i
theorem ex_globS {n : Str} {z : Str} (hm : ∃ t, X.mg n = some (.str z t)) (hg : Gl X n := by (show PySem.Env.kindOf _ _ = _); kernel_rfl) (hd : (n == ("__debug__" : Str)) = false := by decide +kernel) : EX X E (.Name n pos) Γ (.str z) := by
  obtain ⟨t, hm⟩ := hm
  exact ex_c (v := .str z) (pe_glob hg hm ⟨t, rfl⟩ hd) fun _ => .str z
theorem ex_globR {n : Str} {a : Addr} (hm : X.mg n = some (.ref a)) (r : ∀ G, Rep X.K G d (.ref a)) (hg : Gl X n := by (show PySem.Env.kindOf _ _ = _); kernel_rfl) (hd : (n == ("__debug__" : Str)) = false := by decide +kernel) : EX X E (.Name n pos) Γ d :=
  ex_c (v := .ref a) (pe_glob hg hm rfl hd) r
theorem ex_ty {n : Str} {T : String} (hm : X.mg n = none) (hv : bootBuiltins n = some (.type T) := by decide +kernel) (hg : Gl X n := by (show PySem.Env.kindOf _ _ = _); kernel_rfl) (hn : n ≠ "__name__" := by decide +kernel) (hd : (n == ("__debug__" : Str)) = false := by decide +kernel) : EX X E (.Name n pos) Γ (.raw (.ty T)) :=
  ex_c (v := .ty T) (pe_bltn hg hm hv rfl hn hd) fun _ => .raw _

/-! ### arguments, displays -/
theorem ear_nil {Ψ : List D → Prop} (h : Ψ []) : EAR X E [] Γ Ψ := ⟨fun σ G H Q v k => aW_of pa_nil (k [] [] G H h (.refl v.sub) .nil)⟩
theorem ear_cons {Ψ : List D → Prop} (h : EXR X E e Γ Φ) (hr : ∀ d, Φ d → EAR X E es Γ fun ds => Ψ (d :: ds)) (hs : noStar e = true := by exact rfl) : EAR X E (e :: es) Γ Ψ := ⟨fun σ G H Q v k => by
  refine aW_of (pa_cons pe_W pa_W (starEach_cons hs)) ?_
  refine h.run v fun d u G1 H1 p v1 x1 r1 => ?_
  exact (hr d p).w σ G1 H1 _ v1 fun ds us G2 H2 p2 x2 r2 => k (d :: ds) (u :: us) G2 H2 p2 (x1.trans x2) (.cons (r1.mono x2.g) r2)⟩
theorem ear_c {Ψ : List D → Prop} (h : EX X E e Γ d) (hr : EAR X E es Γ fun ds => Ψ (d :: ds)) (hs : noStar e = true := by exact rfl) : EAR X E (e :: es) Γ Ψ :=
  ear_cons h (fun d' p => by subst p; exact hr) hs
theorem ea_nil : EA X E [] Γ [] := ear_nil rfl
theorem ea_cons {ds : List D} (h : EX X E e Γ d) (hr : EA X E es Γ ds) (hs : noStar e = true := by exact rfl) : EA X E (e :: es) Γ (d :: ds) :=
  ear_c h ⟨fun σ G H Q v k => hr.w σ G H Q v fun ds' us G' H' p => k ds' us G' H' (by rw [p])⟩ hs
theorem EA.R {ds : List D} {Ψ : List D → Prop} (h : EA X E es Γ ds) (p : Ψ ds) : EAR X E es Γ Ψ := ⟨fun σ G H Q v k => h.w σ G H Q v fun d' u G' H' q => by subst q; exact k _ u G' H' p⟩
theorem exr_tup {x1 : _} (h : EAR X E es Γ fun ds => ds.length ≤ sizeLine ∧ Φ (.tup ds)) : EXR X E (.Tuple es x1 pos) Γ Φ := exr_of (pe_tup pa_W) fun σ G H Q v k =>
  h.w σ G H _ v fun ds us G1 H1 p x1 r1 => ⟨by rw [← r1.length]; exact p.1, fun a ha => by
    have x2 : Ext X.K G1 H1 (upd G1 a (.tup us)) (upd H1 a (.tup us)) := .new x1.sub ha
    exact k _ _ _ _ p.2 (x1.trans x2) (.tup (.inl (.inl upd_same)) (r1.mono x2.g))⟩
theorem ex_tup {x1 : _} {ds : List D} (h : EA X E es Γ ds) (hl : ds.length ≤ sizeLine := by (refine len_small ?_; first | decide | simp)) : EX X E (.Tuple es x1 pos) Γ (.tup ds) := exr_tup (h.R ⟨hl, rfl⟩)
theorem eo_lst {ds : List D} (h : EA X E es Γ ds) (hl : ds.length ≤ sizeLine := by (refine len_small ?_; first | decide | simp)) : EO X E (.List es pos) Γ (.ol ds) := ⟨fun σ G H Q v k => by
  refine eW_of (pe_lst pa_W) ?_
  refine h.run v fun us G1 H1 v1 x1 r1 => ⟨by rw [← r1.length]; exact hl, fun a ha => ?_⟩
  have hg : G1 a = none := x1.sub.free ha
  have x2 : Ext X.K G1 H1 G1 (upd H1 a (.lst us)) := .newOwn x1.sub ha
  exact k a _ _ _ (x1.trans x2) (x1.h.free ha) upd_same hg ⟨us, rfl, r1⟩⟩
/-- a new list as data -/
theorem EO.ex {s : Sl} (h : EO X E e Γ s) (hd : ∀ (G' : Hp) (a : Addr) (o : HO), G' a = some o → OwnOk X.K G' s o → Rep X.K G' d (.ref a)) : EX X E e Γ d := ⟨fun σ G H Q v k =>
  h.w σ G H Q v fun p o G1 H1 x1 hp hp1 hg ok => by
    have sg : Same G1 (upd G1 p o) := same_new hg
    refine k d (.ref p) (upd G1 p o) H1 rfl ⟨x1.g.trans sg, x1.h, fun b u q => ?_, fun b u q n => ?_⟩ (hd _ p o upd_same (ok.mono sg))
    · by_cases hb : b = p
      · subst hb; rw [upd_same] at q; rw [← q]; exact hp1
      · rw [upd_ne hb] at q; exact x1.sub b u q
    · rw [upd_ne (ne_of_none q hp)]; exact x1.fr b u q n⟩
theorem fz_l {xs : List D} (G' : Hp) (a : Addr) (o : HO) (h : G' a = some o) (ok : OwnOk X.K G' (.ol xs) o) : Rep X.K G' (.lst xs) (.ref a) := by
  obtain ⟨vs, rfl, r⟩ := ok
  exact .lst h r
theorem fz_d {kvs : List (Key × D)} (G' : Hp) (a : Addr) (o : HO) (h : G' a = some o) (ok : OwnOk X.K G' (.od kvs) o) : Rep X.K G' (.dic kvs) (.ref a) := by
  obtain ⟨vs, rfl, r⟩ := ok
  exact .dic h r
theorem ex_lst {ds : List D} (h : EA X E es Γ ds) (hl : ds.length ≤ sizeLine := by (refine len_small ?_; first | decide | simp)) : EX X E (.List es pos) Γ (.lst ds) := (eo_lst h hl).ex fz_l
theorem eo_nilD : EO X E (.Dict [] [] pos) Γ (.od []) := ⟨fun σ G H Q v k => eW_of pe_dnewK fun a ha =>
  k a _ _ _ (.newOwn v.sub ha) ha upd_same (v.sub.free ha) ⟨[], rfl, .nil⟩⟩
theorem eo_nilT : EO X E (.Dict [] [] pos) Γ (.ot []) := ⟨fun σ G H Q v k => eW_of pe_dnewT fun a ha =>
  k a _ _ _ (.newOwn v.sub ha) ha upd_same (v.sub.free ha) ⟨[], rfl, .nil⟩⟩

/-! ### operators by values -/
/-- what a reading by values makes of data x, y -/
def RX (K : PySem.W.Frag) (r : R2) (x y z : D) : Prop := ∀ (G H : Hp) (v u : V) (Q : VK), Same G H → Rep K G x v → Rep K G y u → (∀ t G' H', Ext K G H G' H' → Rep K G' z t → Q t H') → r v u H Q
theorem ex_op {op : Operator} {r : R2} (ho : OpR X (binaryOp op) r) (hr : RX X.K r x y d) (ha : EX X E e1 Γ x) (hb : EX X E e2 Γ y) : EX X E (.BinOp e1 op e2 pos) Γ d :=
  ex_of (pe_op ho pe_W pe_W) fun σ G H Q v k => ha.run v fun u1 G1 H1 v1 x1 r1 => hb.run v1 fun u2 G2 H2 v2 x2 r2 =>
    hr G2 H2 u1 u2 Q x2.sub (r1.mono x2.g) r2 fun t G3 H3 x3 r3 => k t G3 H3 ((x1.trans x2).trans x3) r3
theorem ex_cmp {op : CmpOp} {r : R2} (ho : OpR X (compareOp op) r) (hr : RX X.K r x y d) (ha : EX X E e1 Γ x) (hb : EX X E e2 Γ y) (hm : behindInMarks op e2 = false) : EX X E (.Compare e1 [op] [e2] pos) Γ d :=
  ex_of (pe_cmpR ho pe_W pe_W hm) fun σ G H Q v k => ha.run v fun u1 G1 H1 v1 x1 r1 => hb.run v1 fun u2 G2 H2 v2 x2 r2 =>
    hr G2 H2 u1 u2 Q x2.sub (r1.mono x2.g) r2 fun t G3 H3 x3 r3 => k t G3 H3 ((x1.trans x2).trans x3) r3
theorem et_cmp {op : CmpOp} {r : R2} (ho : OpR X (compareOp op) r) (hr : RX X.K r x y (.bl b)) (ha : EX X E e1 Γ x) (hb : EX X E e2 Γ y) (hm : behindInMarks op e2 = false) : ET X E (.Compare e1 [op] [e2] pos) Γ b :=
  et_of (pt_cmpR ho pe_W pe_W hm) fun σ G H Q v k => ha.run v fun u1 G1 H1 v1 x1 r1 => hb.run v1 fun u2 G2 H2 v2 x2 r2 =>
    hr G2 H2 u1 u2 _ x2.sub (r1.mono x2.g) r2 fun t G3 H3 x3 r3 => by cases r3; exact ⟨b, rfl, k G3 H3 ((x1.trans x2).trans x3)⟩
/-- a op b op' c, the first holds -/
theorem et_chain {op op' : CmpOp} {r r' : R2} {z : D} {a c : Bool} {e3 : Expr} (ho : OpR X (compareOp op) r) (ho' : OpR X (compareOp op') r') (hr : RX X.K r x y (.bl a)) (hr' : a = true → RX X.K r' y z (.bl c)) (ha : EX X E e1 Γ x) (hb : EX X E e2 Γ y) (hc : a = true → EX X E e3 Γ z)
    (hm : notSet e3 = true := by exact rfl) : ET X E (.Compare e1 [op, op'] [e2, e3] pos) Γ (a && c) :=
  et_of (pt_chain ho ho' pe_W pe_W pe_W (lastNo hm)) fun σ G H Q v k => ha.run v fun u1 G1 H1 v1 x1 r1 => hb.run v1 fun u2 G2 H2 v2 x2 r2 =>
    hr G2 H2 u1 u2 _ x2.sub (r1.mono x2.g) r2 fun t G3 H3 x3 r3 => by
      cases r3
      refine ⟨a, rfl, ?_⟩
      cases a with
      | false => exact iteF ⟨false, rfl, k G3 H3 ((x1.trans x2).trans x3)⟩
      | true =>
        refine iteT ?_
        exact (hc rfl).run (v2.mono x3) fun u4 G4 H4 v4 x4 r4 => hr' rfl G4 H4 u2 u4 _ x4.sub ((r2.mono x3.g).mono x4.g) r4 fun t G5 H5 x5 r5 => by
          cases r5
          exact ⟨c, rfl, k G5 H5 (((x1.trans x2).trans (x3.trans x4)).trans x5)⟩
theorem ex_chain {op op' : CmpOp} {r r' : R2} {z : D} {a c : Bool} {e3 : Expr} (ho : OpR X (compareOp op) r) (ho' : OpR X (compareOp op') r') (hr : RX X.K r x y (.bl a)) (hr' : a = true → RX X.K r' y z (.bl c)) (ha : EX X E e1 Γ x) (hb : EX X E e2 Γ y) (hc : a = true → EX X E e3 Γ z)
    (hm : notSet e3 = true := by exact rfl) : EX X E (.Compare e1 [op, op'] [e2, e3] pos) Γ (.bl (a && c)) :=
  ex_of (pe_chain ho ho' pe_W pe_W pe_W (lastNo hm)) fun σ G H Q v k => ha.run v fun u1 G1 H1 v1 x1 r1 => hb.run v1 fun u2 G2 H2 v2 x2 r2 =>
    hr G2 H2 u1 u2 _ x2.sub (r1.mono x2.g) r2 fun t G3 H3 x3 r3 => by
      cases r3
      refine ⟨a, rfl, ?_⟩
      cases a with
      | false => exact iteF (k _ G3 H3 ((x1.trans x2).trans x3) (.bl false))
      | true =>
        refine iteT ?_
        exact (hc rfl).run (v2.mono x3) fun u4 G4 H4 v4 x4 r4 => hr' rfl G4 H4 u2 u4 _ x4.sub ((r2.mono x3.g).mono x4.g) r4 fun t G5 H5 x5 r5 => by
          cases r5
          exact k _ G5 H5 (((x1.trans x2).trans (x3.trans x4)).trans x5) (.bl c)

/-! ### tests -/
theorem et_val (h : EX X E e Γ (.bl b)) (he : ∀ whole, isTrue e X.env whole = (do let v ← whole; standAt e.pos; holding [v] (truthy v)) := by intro _; rfl) : ET X E e Γ b :=
  et_of (pt_val pe_W he) fun σ G H Q v k => h.run v fun u G1 H1 v1 x1 r1 => by cases r1; exact ⟨b, rfl, k G1 H1 x1⟩
theorem et_not (h : ET X E e Γ b) : ET X E (.UnaryOp .Not e pos) Γ (!b) :=
  et_of (pt_not pt_W) fun σ G H Q v k => h.run v fun G1 H1 v1 x1 => k G1 H1 x1
theorem EW.et (h : EW X E e Γ b) : ET X E e Γ b := ⟨fun σ G H Q v k pins s I => h.w σ G H Q v (fun G' H' x => k b G' H' rfl x) _ pins s I⟩
theorem ew_and1 (h : ET X E e Γ b) : EW X E (.BoolOp .And [e] pos) Γ b := ⟨fun σ G H Q v k => twW_of (pw_and1 pt_W) (h.run v fun G1 H1 v1 x1 => k G1 H1 x1)⟩
theorem ew_or1 (h : ET X E e Γ b) : EW X E (.BoolOp .Or [e] pos) Γ b := ⟨fun σ G H Q v k => twW_of (pw_or1 pt_W) (h.run v fun G1 H1 v1 x1 => k G1 H1 x1)⟩
theorem ew_and {a : Bool} {rest : List Expr} (h : ET X E e1 Γ a) (h2 : a = true → EW X E (.BoolOp .And (e2 :: rest) pos) Γ b) : EW X E (.BoolOp .And (e1 :: e2 :: rest) pos) Γ (a && b) := ⟨fun σ G H Q v k =>
  twW_of (pw_and pt_W pw_W) (h.run v fun G1 H1 v1 x1 => by
    cases a with
    | true => exact iteT ((h2 rfl).w σ G1 H1 _ v1 fun G2 H2 x2 => k G2 H2 (x1.trans x2))
    | false => exact iteF (k G1 H1 x1))⟩
theorem ew_or {a : Bool} {rest : List Expr} (h : ET X E e1 Γ a) (h2 : a = false → EW X E (.BoolOp .Or (e2 :: rest) pos) Γ b) : EW X E (.BoolOp .Or (e1 :: e2 :: rest) pos) Γ (a || b) := ⟨fun σ G H Q v k =>
  twW_of (pw_or pt_W pw_W) (h.run v fun G1 H1 v1 x1 => by
    cases a with
    | false => exact iteF ((h2 rfl).w σ G1 H1 _ v1 fun G2 H2 x2 => k G2 H2 (x1.trans x2))
    | true => exact iteT (k G1 H1 x1))⟩
/-- the first one decides -/
theorem ew_andF {rest : List Expr} (h : ET X E e1 Γ false) : EW X E (.BoolOp .And (e1 :: e2 :: rest) pos) Γ false := ew_and (b := true) h fun z => nomatch z
theorem ew_orT {rest : List Expr} (h : ET X E e1 Γ true) : EW X E (.BoolOp .Or (e1 :: e2 :: rest) pos) Γ true := ew_or (b := false) h fun z => nomatch z
theorem exr_if {c a : Expr} (h : ET X E c Γ b) (h1 : b = true → EXR X E a Γ Φ) (h2 : b = false → EXR X E e Γ Φ) : EXR X E (.IfExp c a e pos) Γ Φ :=
  exr_of (pe_ifExp pt_W pe_W pe_W) fun σ G H Q v k => h.run v fun G1 H1 v1 x1 => by
    cases b with
    | true => exact iteT ((h1 rfl).w σ G1 H1 Q v1 fun d u G2 H2 p x2 r => k d u G2 H2 p (x1.trans x2) r)
    | false => exact iteF ((h2 rfl).w σ G1 H1 Q v1 fun d u G2 H2 p x2 r => k d u G2 H2 p (x1.trans x2) r)
theorem ex_if {c a : Expr} (h : ET X E c Γ b) (h1 : b = true → EX X E a Γ d) (h2 : b = false → EX X E e Γ d) : EX X E (.IfExp c a e pos) Γ d := exr_if h h1 h2
theorem ex_not (h : EX X E e Γ (.bl b)) : EX X E (.UnaryOp .Not e pos) Γ (.bl (!b)) :=
  ex_of (pe_not pe_W) fun σ G H Q v k => h.run v fun u G1 H1 v1 x1 r1 => by cases r1; exact ⟨b, rfl, k _ G1 H1 x1 (.bl _)⟩
theorem ex_one {op : BoolOp} (h : EX X E e Γ d) : EX X E (.BoolOp op [e] pos) Γ d := ex_of (pe_one pe_W) fun σ G H Q v k => h.run v fun u G1 H1 v1 x1 r1 => k u G1 H1 x1 r1
theorem ex_and {a : Bool} {rest : List Expr} (h : EX X E e1 Γ (.bl a)) (h2 : a = true → EX X E (.BoolOp .And (e2 :: rest) pos) Γ (.bl b)) : EX X E (.BoolOp .And (e1 :: e2 :: rest) pos) Γ (.bl (a && b)) :=
  ex_of (pe_and pe_W pe_W) fun σ G H Q v k => h.run v fun u G1 H1 v1 x1 r1 => by
    cases r1
    refine ⟨a, rfl, ?_⟩
    cases a with
    | true => exact iteT ((h2 rfl).run v1 fun u G2 H2 v2 x2 r2 => k u G2 H2 (x1.trans x2) r2)
    | false => exact iteF (k _ G1 H1 x1 (.bl _))
theorem ex_or {a : Bool} {rest : List Expr} (h : EX X E e1 Γ (.bl a)) (h2 : a = false → EX X E (.BoolOp .Or (e2 :: rest) pos) Γ (.bl b)) : EX X E (.BoolOp .Or (e1 :: e2 :: rest) pos) Γ (.bl (a || b)) :=
  ex_of (pe_or pe_W pe_W) fun σ G H Q v k => h.run v fun u G1 H1 v1 x1 r1 => by
    cases r1
    refine ⟨a, rfl, ?_⟩
    cases a with
    | false => exact iteF ((h2 rfl).run v1 fun u G2 H2 v2 x2 r2 => k u G2 H2 (x1.trans x2) r2)
    | true => exact iteT (k _ G1 H1 x1 (.bl _))
end
end DL
set_option maxHeartbeats 2000000
/-! DL2: operators by values (rx_..), subscripts, fields, calls; statements -/
namespace DL
open PySem PySem.Spec PyProof.Rows L2

/-! ### operators on data -/
section
variable {K : PySem.W.Frag} {i j : Int} {a b : Str} {x y z : D}
theorem rx_I0 {g : Int → Int → Int} : RX K (rI0 fun i j => .int (g i j)) (.int i) (.int j) (.int (g i j)) := fun G H v u Q s r1 r2 k => by
  cases r1; cases r2; exact ⟨i, j, rfl, rfl, k _ G H (.refl s) (.int _)⟩
theorem rx_IB {g : Int → Int → Bool} : RX K (rI0 fun i j => .bl (g i j)) (.int i) (.int j) (.bl (g i j)) := fun G H v u Q s r1 r2 k => by
  cases r1; cases r2; exact ⟨i, j, rfl, rfl, k _ G H (.refl s) (.bl _)⟩
theorem rx_I {C : Int → Int → Prop} {g : Int → Int → Int} (h : C i j) : RX K (rI C fun i j => .int (g i j)) (.int i) (.int j) (.int (g i j)) := fun G H v u Q s r1 r2 k => by
  cases r1; cases r2; exact ⟨i, j, rfl, rfl, h, k _ G H (.refl s) (.int _)⟩
theorem rx_catS (h : a.length + b.length ≤ sizeLine) : RX K (fun x y H Q => ∃ i j, x = .str i ∧ y = .str j ∧ i.length + j.length ≤ sizeLine ∧ Q (.str (i ++ j)) H) (.str a) (.str b) (.str (a ++ b)) := fun G H v u Q s r1 r2 k => by
  cases r1; cases r2; exact ⟨a, b, rfl, rfl, h, k _ G H (.refl s) (.str _)⟩
theorem rx_catL {xs ys : List D} (h : xs.length + ys.length ≤ sizeLine) : RX K rCat (.lst xs) (.lst ys) (.lst (xs ++ ys)) := fun G H v u Q s r1 r2 k => by
  cases r1 with
  | lst h1 q1 =>
    cases r2 with
    | lst h2 q2 =>
      rename_i a1 vs1 a2 vs2
      refine ⟨_, _, _, _, rfl, rfl, s _ _ h1, s _ _ h2, by rw [← q1.length, ← q2.length]; exact h, fun p hp => ?_⟩
      have x : Ext K G H (upd G p (.lst (vs1 ++ vs2))) (upd H p (.lst (vs1 ++ vs2))) := .new s hp
      exact k _ _ _ x (.lst upd_same ((q1.mono x.g).append (q2.mono x.g)))
/-- flat data -/
def flatD : D → Bool
  | .non => true | .bl _ => true | .int _ => true | .str _ => true | _ => false
def toV : D → V
  | .bl b => .bl b | .int i => .int i | .str x => .str x | .raw v => v | _ => .non
theorem rep_flat {G : Hp} {d : D} {v : V} (h : flatD d = true) (r : Rep K G d v) : v = toV d := by
  cases r with
  | non => rfl
  | bl => rfl
  | int => rfl
  | str => rfl
  | raw => rfl
  | lst _ _ => cases h
  | tup _ _ => cases h
  | ins _ _ => cases h
  | dic _ _ => cases h
  | dit _ _ => cases h
  | tux _ _ => cases h
theorem reps_flat {G : Hp} : ∀ {ds : List D} {vs : List V}, ds.all flatD = true → Reps K G ds vs → vs = ds.map toV
  | _, _, _, .nil => rfl
  | _, _, h, .cons r t => by
    simp only [List.all_cons, Bool.and_eq_true] at h
    rw [rep_flat h.1 r, reps_flat h.2 t]; rfl
theorem flat_toV {d : D} (h : flatD d = true) : flatV (toV d) = true := by cases d <;> first | rfl | cases h
theorem all_flat_toV : ∀ {ds : List D}, ds.all flatD = true → (ds.map toV).all flatV = true
  | [], _ => rfl
  | d :: ds, h => by
    simp only [List.all_cons, Bool.and_eq_true] at h
    simp only [List.map_cons, List.all_cons, Bool.and_eq_true]
    exact ⟨flat_toV h.1, all_flat_toV h.2⟩
/-- == of flat data -/
def eqF (x y : D) : Bool := eqV (toV x) (toV y)
def inF (x : D) (xs : List D) : Bool := xs.any fun y => eqF y x
theorem inF_eq (x : D) (xs : List D) : inV (toV x) (xs.map toV) = inF x xs := by
  unfold inV inF eqF
  rw [List.any_map]; rfl
theorem rx_inT {xs : List D} (hx : flatD x = true) (hs : xs.all flatD = true) : RX K (rIn K false) x (.tup xs) (.bl (inF x xs)) := fun G H v u Q s r1 r2 k => by
  cases r2 with
  | tup h q =>
    rw [rep_flat hx r1]
    have e := reps_flat hs q
    subst e
    refine ⟨_, _, rfl, .inr (same_sqT s h), flat_toV hx, all_flat_toV hs, ?_⟩
    rw [inF_eq]
    exact k _ G H (.refl s) (.bl _)
theorem rx_niT {xs : List D} (hx : flatD x = true) (hs : xs.all flatD = true) : RX K (rIn K true) x (.tup xs) (.bl (!inF x xs)) := fun G H v u Q s r1 r2 k => by
  cases r2 with
  | tup h q =>
    rw [rep_flat hx r1]
    have e := reps_flat hs q
    subst e
    refine ⟨_, _, rfl, .inr (same_sqT s h), flat_toV hx, all_flat_toV hs, ?_⟩
    rw [inF_eq]
    exact k _ G H (.refl s) (.bl _)
theorem rx_inL {xs : List D} (hx : flatD x = true) (hs : xs.all flatD = true) : RX K (rIn K false) x (.lst xs) (.bl (inF x xs)) := fun G H v u Q s r1 r2 k => by
  cases r2 with
  | lst h q =>
    rw [rep_flat hx r1]
    have e := reps_flat hs q
    subst e
    refine ⟨_, _, rfl, .inl (SqL.of (s _ _ h)), flat_toV hx, all_flat_toV hs, ?_⟩
    rw [inF_eq]
    exact k _ G H (.refl s) (.bl _)
theorem rx_niL {xs : List D} (hx : flatD x = true) (hs : xs.all flatD = true) : RX K (rIn K true) x (.lst xs) (.bl (!inF x xs)) := fun G H v u Q s r1 r2 k => by
  cases r2 with
  | lst h q =>
    rw [rep_flat hx r1]
    have e := reps_flat hs q
    subst e
    refine ⟨_, _, rfl, .inl (SqL.of (s _ _ h)), flat_toV hx, all_flat_toV hs, ?_⟩
    rw [inF_eq]
    exact k _ G H (.refl s) (.bl _)
theorem rx_inS {c : Nat} {w : Str} : RX K (fun x y H Q => ∃ (c : Nat) (z : Str), x = .str ⟨#[c]⟩ ∧ y = .str z ∧ Q (.bl (decide (c ∈ z.cps.toList))) H) (.str ⟨#[c]⟩) (.str w) (.bl (decide (c ∈ w.cps.toList))) := fun G H v u Q s r1 r2 k => by
  cases r1; cases r2; exact ⟨c, w, rfl, rfl, k _ G H (.refl s) (.bl _)⟩
/-- == of scalars (no list, tuple) -/
def scalD (x y : D) : Bool := flatD x && flatD y && scal (toV x) (toV y)
def eqS (x y : D) : Bool := decide (toV x = toV y)
theorem rx_eq (h : scalD x y = true) : RX K rEq x y (.bl (eqS x y)) := fun G H v u Q s r1 r2 k => by
  simp only [scalD, Bool.and_eq_true] at h
  rw [rep_flat h.1.1 r1, rep_flat h.1.2 r2]
  exact ⟨h.2, k _ G H (.refl s) (.bl _)⟩
theorem rx_ne (h : scalD x y = true) : RX K rNe x y (.bl (!eqS x y)) := fun G H v u Q s r1 r2 k => by
  simp only [scalD, Bool.and_eq_true] at h
  rw [rep_flat h.1.1 r1, rep_flat h.1.2 r2]
  exact ⟨h.2, k _ G H (.refl s) (.bl _)⟩
/-- is None -/
def isNonD : D → Bool
  | .non => true | _ => false
def notRaw : D → Bool
  | .raw _ => false | _ => true
theorem rep_non {G : Hp} {v : V} (hx : notRaw x = true) (r : Rep K G x v) : decide (v = .non) = isNonD x := by
  cases r <;> first | rfl | cases hx
theorem rx_isN (hx : notRaw x = true) : RX K (fun x y H Q => y = .non ∧ Q (.bl (decide (x = .non))) H) x .non (.bl (isNonD x)) := fun G H v u Q s r1 r2 k => by
  cases r2
  refine ⟨rfl, ?_⟩
  rw [rep_non hx r1]
  exact k _ G H (.refl s) (.bl _)
theorem rx_notN (hx : notRaw x = true) : RX K (fun x y H Q => y = .non ∧ Q (.bl (!decide (x = .non))) H) x .non (.bl (!isNonD x)) := fun G H v u Q s r1 r2 k => by
  cases r2
  refine ⟨rfl, ?_⟩
  rw [rep_non hx r1]
  exact k _ G H (.refl s) (.bl _)
/-! == of data at any depth -/
mutual
def toP : D → PyData
  | .bl b => .bool b | .int i => .int i | .str x => .str x
  | .lst xs => .list (toPs xs)
  | .tup xs => .tuple (toPs xs)
  | _ => .none
def toPs : List D → List PyData
  | [] => []
  | d :: ds => toP d :: toPs ds
def pureD : D → Bool
  | .non => true | .bl _ => true | .int _ => true | .str _ => true
  | .lst xs => puresD xs
  | .tup xs => puresD xs
  | _ => false
def puresD : List D → Bool
  | [] => true
  | d :: ds => pureD d && puresD ds
end
mutual
theorem rep_dp {G : Hp} : ∀ {d : D} {v : V}, Rep K G d v → pureD d = true → Dp K G v (toP d)
  | _, _, .non, _ => .non
  | _, _, .bl b, _ => .bl b
  | _, _, .int i, _ => .int i
  | _, _, .str x, _ => .str x
  | _, _, .raw v, h => by simp [pureD] at h
  | _, _, .ins _ _, h => by simp [pureD] at h
  | _, _, .dic _ _, h => by simp [pureD] at h
  | _, _, .dit _ _, h => by simp [pureD] at h
  | _, _, .tux _ _, h => by simp [pureD] at h
  | .lst xs, _, .lst h q, p => by rw [toP]; rw [pureD] at p; exact .lst (SqL.of h) (reps_dp q p)
  | .tup xs, _, .tup h q, p => by rw [toP]; rw [pureD] at p; exact .tup h (reps_dp q p)
theorem reps_dp {G : Hp} : ∀ {ds : List D} {vs : List V}, Reps K G ds vs → puresD ds = true → DpAll K G vs (toPs ds)
  | _, _, .nil, _ => by rw [toPs]; exact .nil
  | _, _, .cons r t, h => by rw [toPs]; rw [puresD, Bool.and_eq_true] at h; exact .cons (rep_dp r h.1) (reps_dp t h.2)
end
mutual
theorem dp_mono {G H : Hp} (s : Same G H) : ∀ {v : V} {d : PyData}, Dp K G v d → Dp K H v d
  | _, _, .non => .non
  | _, _, .bl b => .bl b
  | _, _, .int i => .int i
  | _, _, .str x => .str x
  | _, _, .lst h q => .lst (s.seq h) (dpAll_mono s q)
  | _, _, .tup h q => .tup (same_sqT s h) (dpAll_mono s q)
theorem dpAll_mono {G H : Hp} (s : Same G H) : ∀ {v : List V} {d : List PyData}, DpAll K G v d → DpAll K H v d
  | _, _, .nil => .nil
  | _, _, .cons r t => .cons (dp_mono s r) (dpAll_mono s t)
end
theorem rx_eqD (hx : pureD x = true) (hy : pureD y = true) (h1 : SeqAt.shaped (toP x) = true) (h2 : SeqAt.shaped (toP y) = true) : RX K (rEqD K) x y (.bl (PyData.eqv (toP x) (toP y))) := fun G H v u Q s r1 r2 k =>
  ⟨_, _, dp_mono s (rep_dp r1 hx), dp_mono s (rep_dp r2 hy), h1, h2, k _ G H (.refl s) (.bl _)⟩
theorem rx_neD (hx : pureD x = true) (hy : pureD y = true) (h1 : SeqAt.shaped (toP x) = true) (h2 : SeqAt.shaped (toP y) = true) : RX K (rNeD K) x y (.bl (!PyData.eqv (toP x) (toP y))) := fun G H v u Q s r1 r2 k =>
  ⟨_, _, dp_mono s (rep_dp r1 hx), dp_mono s (rep_dp r2 hy), h1, h2, k _ G H (.refl s) (.bl _)⟩
/-! subscripts by values -/
theorem atI_map {α β : Type} {xs : List α} {ys : List β} {i : Int} {x : α} (hl : xs.length = ys.length) (h : atI xs i = some x) : ∃ j : Nat, xs[j]? = some x ∧ ∀ y, ys[j]? = some y → atI ys i = some y := by
  unfold atI at h ⊢
  rw [← hl]
  cases e : ixN xs.length i with
  | none => rw [e] at h; cases h
  | some j => rw [e] at h; exact ⟨j, h, fun y q => q⟩
theorem rx_ixL {xs : List D} (h : atI xs i = some z) : RX K (rIxL K) (.lst xs) (.int i) z := fun G H v u Q s r1 r2 k => by
  cases r2
  cases r1 with
  | lst e q =>
    obtain ⟨j, h1, h2⟩ := atI_map q.length h
    obtain ⟨t, h3, r⟩ := q.get h1
    exact ⟨_, _, i, t, rfl, rfl, SqL.of (s _ _ e), h2 t h3, k t G H (.refl s) r⟩
theorem rx_ixT {xs : List D} (h : atI xs i = some z) : RX K (rIxT K) (.tup xs) (.int i) z := fun G H v u Q s r1 r2 k => by
  cases r2
  cases r1 with
  | tup e q =>
    obtain ⟨j, h1, h2⟩ := atI_map q.length h
    obtain ⟨t, h3, r⟩ := q.get h1
    exact ⟨_, _, i, t, rfl, rfl, same_sqT s e, h2 t h3, k t G H (.refl s) r⟩
theorem rx_ixS {c : Nat} (hl : a.length ≤ sizeLine) (h : atI a.cps.toList i = some c) : RX K rIxS (.str a) (.int i) (.str ⟨#[c]⟩) := fun G H v u Q s r1 r2 k => by
  cases r2
  cases r1
  exact ⟨a, i, c, rfl, rfl, hl, h, k _ G H (.refl s) (.str _)⟩
end

section
variable {X : Cx} {E : En} {e e1 e2 : Expr} {es : List Expr} {Γ : List Sl} {d x y z : D} {Φ Φ' : D → Prop} {b : Bool} {pos : Pos} {i j : Int} {sa sb : Str}

/-! ### the common ones, ready -/
theorem ex_add (ha : EX X E e1 Γ (.int i)) (hb : EX X E e2 Γ (.int j)) : EX X E (.BinOp e1 .Add e2 pos) Γ (.int (i + j)) := ex_op op_add rx_I0 ha hb
theorem ex_sub (ha : EX X E e1 Γ (.int i)) (hb : EX X E e2 Γ (.int j)) : EX X E (.BinOp e1 .Sub e2 pos) Γ (.int (i - j)) := ex_op op_sub rx_I0 ha hb
theorem ex_mul (ha : EX X E e1 Γ (.int i)) (hb : EX X E e2 Γ (.int j)) (h : CMul i j := by first | (refine Or.inr ?_; constructor <;> omega) | (refine Or.inl ?_; constructor <;> omega)) : EX X E (.BinOp e1 .Mult e2 pos) Γ (.int (i * j)) := ex_op op_mul (rx_I h) ha hb
theorem ex_fdiv (ha : EX X E e1 Γ (.int i)) (hb : EX X E e2 Γ (.int j)) (h : CDiv i j := by exact ⟨by omega, by omega⟩) : EX X E (.BinOp e1 .FloorDiv e2 pos) Γ (.int (i / j)) := ex_op op_fdiv (rx_I h) ha hb
theorem ex_mod (ha : EX X E e1 Γ (.int i)) (hb : EX X E e2 Γ (.int j)) (h : (0 : Int) < j := by omega) : EX X E (.BinOp e1 .Mod e2 pos) Γ (.int (i % j)) := ex_op op_mod (rx_I (C := fun _ j => 0 < j) h) ha hb
theorem ex_pow (ha : EX X E e1 Γ (.int i)) (hb : EX X E e2 Γ (.int j)) (h : CPow i j := by exact ⟨by omega, by omega, by omega⟩) : EX X E (.BinOp e1 .Pow e2 pos) Γ (.int (i ^ j.toNat)) := ex_op op_pow (rx_I h) ha hb
theorem ex_addS (ha : EX X E e1 Γ (.str sa)) (hb : EX X E e2 Γ (.str sb)) (h : sa.length + sb.length ≤ sizeLine := by first | decide | omega) : EX X E (.BinOp e1 .Add e2 pos) Γ (.str (sa ++ sb)) := ex_op op_add_str (rx_catS h) ha hb
theorem ex_addL {xs ys : List D} (ha : EX X E e1 Γ (.lst xs)) (hb : EX X E e2 Γ (.lst ys)) (h : xs.length + ys.length ≤ sizeLine := by (simp only [List.length_append, List.length_map, List.length_cons, List.length_nil, sizeLine_eq]; omega)) : EX X E (.BinOp e1 .Add e2 pos) Γ (.lst (xs ++ ys)) := ex_op op_cat (rx_catL h) ha hb
theorem et_lt (ha : EX X E e1 Γ (.int i)) (hb : EX X E e2 Γ (.int j)) : ET X E (.Compare e1 [.Lt] [e2] pos) Γ (decide (i < j)) := et_cmp op_lt rx_IB ha hb (nomark _)
theorem et_le (ha : EX X E e1 Γ (.int i)) (hb : EX X E e2 Γ (.int j)) : ET X E (.Compare e1 [.LtE] [e2] pos) Γ (decide (i ≤ j)) := et_cmp op_le rx_IB ha hb (nomark _)
theorem et_gt (ha : EX X E e1 Γ (.int i)) (hb : EX X E e2 Γ (.int j)) : ET X E (.Compare e1 [.Gt] [e2] pos) Γ (decide (j < i)) := et_cmp op_gt rx_IB ha hb (nomark _)
theorem et_ge (ha : EX X E e1 Γ (.int i)) (hb : EX X E e2 Γ (.int j)) : ET X E (.Compare e1 [.GtE] [e2] pos) Γ (decide (j ≤ i)) := et_cmp op_ge rx_IB ha hb (nomark _)
theorem ex_lt (ha : EX X E e1 Γ (.int i)) (hb : EX X E e2 Γ (.int j)) : EX X E (.Compare e1 [.Lt] [e2] pos) Γ (.bl (decide (i < j))) := ex_cmp op_lt rx_IB ha hb (nomark _)
theorem ex_gt (ha : EX X E e1 Γ (.int i)) (hb : EX X E e2 Γ (.int j)) : EX X E (.Compare e1 [.Gt] [e2] pos) Γ (.bl (decide (j < i))) := ex_cmp op_gt rx_IB ha hb (nomark _)
theorem et_lele {k : Int} {e3 : Expr} (ha : EX X E e1 Γ (.int i)) (hb : EX X E e2 Γ (.int j)) (hc : EX X E e3 Γ (.int k)) (hm : notSet e3 = true := by exact rfl) : ET X E (.Compare e1 [.LtE, .LtE] [e2, e3] pos) Γ (decide (i ≤ j) && decide (j ≤ k)) := et_chain op_le op_le rx_IB (fun _ => rx_IB) ha hb (fun _ => hc) hm
theorem ex_lele {k : Int} {e3 : Expr} (ha : EX X E e1 Γ (.int i)) (hb : EX X E e2 Γ (.int j)) (hc : EX X E e3 Γ (.int k)) (hm : notSet e3 = true := by exact rfl) : EX X E (.Compare e1 [.LtE, .LtE] [e2, e3] pos) Γ (.bl (decide (i ≤ j) && decide (j ≤ k))) := ex_chain op_le op_le rx_IB (fun _ => rx_IB) ha hb (fun _ => hc) hm
theorem et_eq (ha : EX X E e1 Γ x) (hb : EX X E e2 Γ y) (h : scalD x y = true := by exact rfl) : ET X E (.Compare e1 [.Eq] [e2] pos) Γ (eqS x y) := et_cmp op_eq (rx_eq h) ha hb (nomark _)
theorem ex_eq (ha : EX X E e1 Γ x) (hb : EX X E e2 Γ y) (h : scalD x y = true := by exact rfl) : EX X E (.Compare e1 [.Eq] [e2] pos) Γ (.bl (eqS x y)) := ex_cmp op_eq (rx_eq h) ha hb (nomark _)
theorem et_ne (ha : EX X E e1 Γ x) (hb : EX X E e2 Γ y) (h : scalD x y = true := by exact rfl) : ET X E (.Compare e1 [.NotEq] [e2] pos) Γ (!eqS x y) := et_cmp op_ne (rx_ne h) ha hb (nomark _)
theorem ex_ne (ha : EX X E e1 Γ x) (hb : EX X E e2 Γ y) (h : scalD x y = true := by exact rfl) : EX X E (.Compare e1 [.NotEq] [e2] pos) Γ (.bl (!eqS x y)) := ex_cmp op_ne (rx_ne h) ha hb (nomark _)
theorem et_eqD {k : Nat} (hr : Room k X.A) (ha : EX X E e1 Γ x) (hb : EX X E e2 Γ y) (hx : pureD x = true) (hy : pureD y = true) (h1 : SeqAt.shaped (toP x) = true) (h2 : SeqAt.shaped (toP y) = true) : ET X E (.Compare e1 [.Eq] [e2] pos) Γ (PyData.eqv (toP x) (toP y)) := et_cmp (op_eqD hr.units) (rx_eqD hx hy h1 h2) ha hb (nomark _)
theorem et_neD {k : Nat} (hr : Room k X.A) (ha : EX X E e1 Γ x) (hb : EX X E e2 Γ y) (hx : pureD x = true) (hy : pureD y = true) (h1 : SeqAt.shaped (toP x) = true) (h2 : SeqAt.shaped (toP y) = true) : ET X E (.Compare e1 [.NotEq] [e2] pos) Γ (!PyData.eqv (toP x) (toP y)) := et_cmp (op_neD hr.units) (rx_neD hx hy h1 h2) ha hb (nomark _)
theorem ex_eqD {k : Nat} (hr : Room k X.A) (ha : EX X E e1 Γ x) (hb : EX X E e2 Γ y) (hx : pureD x = true) (hy : pureD y = true) (h1 : SeqAt.shaped (toP x) = true) (h2 : SeqAt.shaped (toP y) = true) : EX X E (.Compare e1 [.Eq] [e2] pos) Γ (.bl (PyData.eqv (toP x) (toP y))) := ex_cmp (op_eqD hr.units) (rx_eqD hx hy h1 h2) ha hb (nomark _)
theorem et_inT {xs : List D} (ha : EX X E e1 Γ x) (hb : EX X E e2 Γ (.tup xs)) (hx : flatD x = true := by exact rfl) (hs : xs.all flatD = true := by exact rfl) (hm : notSet e2 = true := by exact rfl) : ET X E (.Compare e1 [.In] [e2] pos) Γ (inF x xs) := et_cmp op_in_seq (rx_inT hx hs) ha hb (noMarks hm)
theorem et_niT {xs : List D} (ha : EX X E e1 Γ x) (hb : EX X E e2 Γ (.tup xs)) (hx : flatD x = true := by exact rfl) (hs : xs.all flatD = true := by exact rfl) (hm : notSet e2 = true := by exact rfl) : ET X E (.Compare e1 [.NotIn] [e2] pos) Γ (!inF x xs) := et_cmp op_notIn_seq (rx_niT hx hs) ha hb (noMarks hm)
theorem et_inL {xs : List D} (ha : EX X E e1 Γ x) (hb : EX X E e2 Γ (.lst xs)) (hx : flatD x = true := by exact rfl) (hs : xs.all flatD = true := by exact rfl) (hm : notSet e2 = true := by exact rfl) : ET X E (.Compare e1 [.In] [e2] pos) Γ (inF x xs) := et_cmp op_in_seq (rx_inL hx hs) ha hb (noMarks hm)
theorem et_niL {xs : List D} (ha : EX X E e1 Γ x) (hb : EX X E e2 Γ (.lst xs)) (hx : flatD x = true := by exact rfl) (hs : xs.all flatD = true := by exact rfl) (hm : notSet e2 = true := by exact rfl) : ET X E (.Compare e1 [.NotIn] [e2] pos) Γ (!inF x xs) := et_cmp op_notIn_seq (rx_niL hx hs) ha hb (noMarks hm)
theorem ex_inL {xs : List D} (ha : EX X E e1 Γ x) (hb : EX X E e2 Γ (.lst xs)) (hx : flatD x = true := by exact rfl) (hs : xs.all flatD = true := by exact rfl) (hm : notSet e2 = true := by exact rfl) : EX X E (.Compare e1 [.In] [e2] pos) Γ (.bl (inF x xs)) := ex_cmp op_in_seq (rx_inL hx hs) ha hb (noMarks hm)
theorem ex_niL {xs : List D} (ha : EX X E e1 Γ x) (hb : EX X E e2 Γ (.lst xs)) (hx : flatD x = true := by exact rfl) (hs : xs.all flatD = true := by exact rfl) (hm : notSet e2 = true := by exact rfl) : EX X E (.Compare e1 [.NotIn] [e2] pos) Γ (.bl (!inF x xs)) := ex_cmp op_notIn_seq (rx_niL hx hs) ha hb (noMarks hm)
theorem ex_inS {c : Nat} (ha : EX X E e1 Γ (.str ⟨#[c]⟩)) (hb : EX X E e2 Γ (.str sb)) (hm : notSet e2 = true := by exact rfl) : EX X E (.Compare e1 [.In] [e2] pos) Γ (.bl (decide (c ∈ sb.cps.toList))) := ex_cmp op_in_sign rx_inS ha hb (noMarks hm)
theorem et_isN (ha : EX X E e1 Γ x) (hb : EX X E e2 Γ .non) (hx : notRaw x = true := by exact rfl) : ET X E (.Compare e1 [.Is] [e2] pos) Γ (isNonD x) := et_cmp op_isN (rx_isN hx) ha hb (nomark _)
theorem et_notN (ha : EX X E e1 Γ x) (hb : EX X E e2 Γ .non) (hx : notRaw x = true := by exact rfl) : ET X E (.Compare e1 [.IsNot] [e2] pos) Γ (!isNonD x) := et_cmp op_notN (rx_notN hx) ha hb (nomark _)
theorem ex_ixL {xs : List D} (ha : EX X E e1 Γ (.lst xs)) (hb : EX X E e2 Γ (.int i)) (h : atI xs i = some z := by exact rfl) (hs : notSlice e2 = true := by exact rfl) : EX X E (.Subscript e1 e2 pos) Γ z :=
  ex_of (pe_ix ix_list pe_W pe_W (plainIx hs)) fun σ G H Q v k => ha.run v fun u1 G1 H1 v1 x1 r1 => hb.run v1 fun u2 G2 H2 v2 x2 r2 =>
    rx_ixL h G2 H2 u1 u2 Q x2.sub (r1.mono x2.g) r2 fun t G3 H3 x3 r3 => k t G3 H3 ((x1.trans x2).trans x3) r3
theorem ex_ixT {xs : List D} (ha : EX X E e1 Γ (.tup xs)) (hb : EX X E e2 Γ (.int i)) (h : atI xs i = some z := by exact rfl) (hs : notSlice e2 = true := by exact rfl) : EX X E (.Subscript e1 e2 pos) Γ z :=
  ex_of (pe_ix ix_tup pe_W pe_W (plainIx hs)) fun σ G H Q v k => ha.run v fun u1 G1 H1 v1 x1 r1 => hb.run v1 fun u2 G2 H2 v2 x2 r2 =>
    rx_ixT h G2 H2 u1 u2 Q x2.sub (r1.mono x2.g) r2 fun t G3 H3 x3 r3 => k t G3 H3 ((x1.trans x2).trans x3) r3
theorem ex_ixS {c : Nat} (ha : EX X E e1 Γ (.str sa)) (hb : EX X E e2 Γ (.int i)) (h : atI sa.cps.toList i = some c) (hl : sa.length ≤ sizeLine := by first | decide | omega) (hs : notSlice e2 = true := by exact rfl) : EX X E (.Subscript e1 e2 pos) Γ (.str ⟨#[c]⟩) :=
  ex_of (pe_ix ix_str pe_W pe_W (plainIx hs)) fun σ G H Q v k => ha.run v fun u1 G1 H1 v1 x1 r1 => hb.run v1 fun u2 G2 H2 v2 x2 r2 =>
    rx_ixS hl h G2 H2 u1 u2 Q x2.sub (r1.mono x2.g) r2 fun t G3 H3 x3 r3 => k t G3 H3 ((x1.trans x2).trans x3) r3

/-! ### slices -/
def EPo (X : Cx) (E : En) (o : Option Expr) (Γ : List Sl) (n : Option Int) : Prop := match o, n with
  | none, none => True
  | some e, some i => EX X E e Γ (.int i)
  | _, _ => False
def cutD {α : Type} (xs : List α) (lo hi : Option Int) : List α := (xs.drop (HT.sIx xs.length 0 lo)).take (HT.sIx xs.length xs.length hi - HT.sIx xs.length 0 lo)
theorem cut_reps {K : PySem.W.Frag} {G : Hp} {ds : List D} {vs : List V} (r : Reps K G ds vs) (lo hi : Option Int) : Reps K G (cutD ds lo hi) (cutV vs lo hi) := by
  unfold cutD cutV
  rw [r.length]
  exact (r.drop _).take _
def oW (X : Cx) (o : Option Expr) : TO := fun σ H Q => ∃ t, PO X o t ∧ ∃ Q', t σ H Q' ∧ ∀ n H', Q' n H' → Q n H'
theorem eo_sliceL {xs : List D} {lo hi : Option Expr} {l h : Option Int} {p2 : Pos} (ha : EX X E e Γ (.lst xs)) (hl : EPo X E lo Γ l) (hh : EPo X E hi Γ h) : EO X E (.Subscript e (.Slice lo hi none p2) pos) Γ (.ol (cutD xs l h)) := ⟨fun σ G H Q v k => by
  have fin : ∀ (u : V) (G1 H1 G3 H3 : Hp), Ext X.K G H G1 H1 → Rep X.K G1 (.lst xs) u → Ext X.K G1 H1 G3 H3 → rSlL X.K u l h H3 Q := fun u G1 H1 G3 H3 x1 r1 x3 => by
    cases r1 with
    | lst q r =>
      refine ⟨_, _, rfl, SqL.of (x3.h.at (x1.sub _ _ q)), fun p hp => ?_⟩
      exact k p _ G3 _ ((x1.trans x3).trans (.newOwn x3.sub hp)) ((x1.trans x3).h.free hp) upd_same (x3.sub.free hp) ⟨_, rfl, cut_reps (r.mono x3.g) l h⟩
  cases lo with
  | none =>
    cases l with
    | some _ => exact hl.elim
    | none =>
      cases hi with
      | none =>
        cases h with
        | some _ => exact hh.elim
        | none => exact eW_of (pe_slice sl_list pe_W po_none po_none) (ha.run v fun u G1 H1 v1 x1 r1 => fin u G1 H1 G1 H1 x1 r1 (.refl x1.sub))
      | some eh =>
        cases h with
        | none => exact hh.elim
        | some ih => exact eW_of (pe_slice sl_list pe_W po_none (po_some pe_W)) (ha.run v fun u G1 H1 v1 x1 r1 => EX.run hh v1 fun u2 G2 H2 v2 x2 r2 => by
            cases r2; exact ⟨ih, rfl, fin u G1 H1 G2 H2 x1 r1 x2⟩)
  | some el =>
    cases l with
    | none => exact hl.elim
    | some il =>
      cases hi with
      | none =>
        cases h with
        | some _ => exact hh.elim
        | none => exact eW_of (pe_slice sl_list pe_W (po_some pe_W) po_none) (ha.run v fun u G1 H1 v1 x1 r1 => EX.run hl v1 fun u2 G2 H2 v2 x2 r2 => by
            cases r2; exact ⟨il, rfl, fin u G1 H1 G2 H2 x1 r1 x2⟩)
      | some eh =>
        cases h with
        | none => exact hh.elim
        | some ih => exact eW_of (pe_slice sl_list pe_W (po_some pe_W) (po_some pe_W)) (ha.run v fun u G1 H1 v1 x1 r1 => EX.run hl v1 fun u2 G2 H2 v2 x2 r2 => by
            cases r2; exact ⟨il, rfl, EX.run hh v2 fun u3 G3 H3 v3 x3 r3 => by cases r3; exact ⟨ih, rfl, fin u G1 H1 G3 H3 x1 r1 (x2.trans x3)⟩⟩)⟩
theorem ex_sliceL {xs : List D} {lo hi : Option Expr} {l h : Option Int} {p2 : Pos} (ha : EX X E e Γ (.lst xs)) (hl : EPo X E lo Γ l) (hh : EPo X E hi Γ h) : EX X E (.Subscript e (.Slice lo hi none p2) pos) Γ (.lst (cutD xs l h)) := (eo_sliceL ha hl hh).ex fz_l

/-! ### fields -/
theorem ex_fld {c f : Str} {fs : List (Str × D)} (c1 : Cls X.K (He.ga X.K c)) (c2 : NoAttr X.K (He.ga X.K c) f) (ha : EX X E e Γ (.ins c fs)) (h : fs.lookup f = some d := by exact rfl) (hb : notSuper (e) = true := by exact rfl) : EX X E (.Attribute e f pos) Γ d :=
  ex_of (pe_fld pe_W (attrBase hb)) fun σ G H Q v k => ha.run v fun u G1 H1 v1 x1 r1 => by
    cases r1 with
    | ins q r =>
      obtain ⟨w, hw, rw⟩ := r.get h
      exact ⟨_, _, _, _, w, rfl, x1.sub _ _ q, c1, c2, hw, k w G1 H1 x1 rw⟩
/-- a field of the frame's own instance (self) -/
theorem ex_fldM {c f : Str} {fs : List (Str × D)} (i : Nat) {n : Str} {npos : Pos} (c1 : Cls X.K (He.ga X.K c)) (c2 : NoAttr X.K (He.ga X.K c) f) (hs : Γ[i]? = some (.me c fs) := by exact rfl) (h : fs.lookup f = some d := by exact rfl) (hN : X.N[i]? = some n := by exact rfl) (hv : Vis X.env.scope n := by exact Or.inl (by kernel_rfl))
    (hd : (n == ("__debug__" : Str)) = false := by decide +kernel) (hcd : (n == ("__classdict__" : Str)) = false := by decide +kernel) (hb : notSuper ((.Name n npos)) = true := by exact rfl) : EX X E (.Attribute (.Name n npos) f pos) Γ d :=
  ex_of (pe_fld (pe_var hN hv hd hcd) (attrBase rfl)) fun σ G H Q v k => by
    obtain ⟨a, o, h1, h2, h3, ⟨dx, vs, rfl, r⟩, h5⟩ := v.own hs rfl
    obtain ⟨w, hw, rw⟩ := r.get h
    exact ⟨.ref a, h1, a, _, dx, vs, w, rfl, h2, c1, c2, hw, k w G H (.refl v.sub) rw⟩

/-! ### calls -/
/-- a def's specification over data: what holds of its answer -/
abbrev Spec := List D → (D → Prop) → Prop
def spD (K : PySem.W.Frag) (S : Spec) : Sp := fun vs H Q _ => ∃ (G : Hp) (ds : List D) (Φ : D → Prop), Same G H ∧ TabsG K G H ∧ Reps K G ds vs ∧ S ds Φ ∧ ∀ d v G' H', Φ d → Ext K G H G' H' → Rep K G' d v → Q v H'
theorem exr_call {k : Nat} {f : Addr} {fd : FuncData} {ps : List Str} {S : Spec} {n : Str} {p : Pos} (F : FnOk X.prog X.w X.K X.mg X.base CX0 k f fd ps (spD X.K S)) (hr : Room k X.A) (hm : X.mg n = some (.ref f)) (hk : PySem.W.keepIn X.K (.ref f) = true) (hb : Binds X.K fd ps [])
    (ha : EAR X E (e :: es) Γ fun ds => S ds Φ) (hg : Gl X n := by (show PySem.Env.kindOf _ _ = _); kernel_rfl) (hdb : (n == ("__debug__" : Str)) = false := by decide +kernel) (he : noStar e = true := by exact rfl) (hpl : es.all noStar = true := by exact rfl) :
    EXR X E (.Call (.Name n p) (e :: es) [] pos) Γ Φ := exr_of (pe_call F hr hg hm hk hb .nil pass0 pa_W hdb (starEach_cons he) (starEach_any hpl)) fun σ G H Q v k => ha.w σ G H _ v fun ds us G1 H1 s x1 r1 => by
  rw [List.append_nil]
  exact ⟨G1, ds, Φ, x1.sub, (v.mono x1).tb, r1, s, fun d u G2 H2 p2 x2 r2 => k d u G2 H2 p2 (x1.trans x2) r2⟩
/-- a method of an immutable instance -/
theorem exr_meth {k : Nat} {f : Addr} {fd : FuncData} {ps : List Str} {S : Spec} {m c : Str} {o : Expr} {apos : Pos} {fs : List (Str × D)} (c1 : Cls X.K (He.ga X.K c)) (hm : Meth X.K (He.ga X.K c) m f) (F : FnOk X.prog X.w X.K X.mg X.base CX0 k f fd ps (spD X.K S)) (hr : Room k X.A) (hb : Binds X.K fd ps [])
    (ho : EX X E o Γ (.ins c fs)) (hn : fs.lookup m = none) (ha : EAR X E (e :: es) Γ fun ds => S (.ins c fs :: ds) Φ)
    (hst : noStar e = true := by exact rfl) (hpl : es.all noStar = true := by exact rfl) (hso : notSuper o = true := by exact rfl) (hlen : es.length < 28 := by decide) (hline : (apos.endLine == pos.line) = true := by exact rfl) :
    EXR X E (.Call (.Attribute o m apos) (e :: es) [] pos) Γ Φ := exr_of (pe_meth pe_W c1 hm F hr hb .nil pass0 pa_W (starEach_cons hst) (starEach_any hpl) (methEq hso (by simp [hst]; simpa using hpl) (by simp; omega) hline)) fun σ G H Q v k => ho.run v fun u G1 H1 v1 x1 r1 => by
  cases id r1 with
  | ins q r =>
    refine ⟨_, _, _, rfl, x1.sub _ _ q, r.none_of hn, ?_⟩
    refine ha.w σ G1 H1 _ v1 fun ds us G2 H2 s x2 r2 => ?_
    rw [List.append_nil]
    exact ⟨G2, .ins c fs :: ds, Φ, x2.sub, (v1.mono x2).tb, .cons (r1.mono x2.g) r2, s, fun d u G3 H3 p3 x3 r3 => k d u G3 H3 p3 ((x1.trans x2).trans x3) r3⟩
theorem exr_meth0 {k : Nat} {f : Addr} {fd : FuncData} {ps : List Str} {S : Spec} {m c : Str} {o : Expr} {apos : Pos} {fs : List (Str × D)} (c1 : Cls X.K (He.ga X.K c)) (hm : Meth X.K (He.ga X.K c) m f) (F : FnOk X.prog X.w X.K X.mg X.base CX0 k f fd ps (spD X.K S)) (hr : Room k X.A) (hb : Binds X.K fd ps [])
    (ho : EX X E o Γ (.ins c fs)) (hn : fs.lookup m = none) (hs : S [.ins c fs] Φ) (hso : notSuper o = true := by exact rfl) (hline : (apos.endLine == pos.line) = true := by exact rfl) :
    EXR X E (.Call (.Attribute o m apos) [] [] pos) Γ Φ := exr_of (pe_meth0 pe_W c1 hm F hr hb .nil pass0 (methEq hso rfl (by decide) hline)) fun σ G H Q v k => ho.run v fun u G1 H1 v1 x1 r1 => by
  cases id r1 with
  | ins q r =>
    refine ⟨_, _, _, rfl, x1.sub _ _ q, r.none_of hn, ?_⟩
    show spD X.K S (.ref _ :: ([] ++ [])) H1 Q E0
    exact ⟨G1, [.ins c fs], Φ, x1.sub, v1.tb, .cons r1 .nil, hs, fun d u G3 H3 p3 x3 r3 => k d u G3 H3 p3 (x1.trans x3) r3⟩
/-- a built-in function by a reading of values -/
def RC (K : PySem.W.Frag) (r : List V → Hp → VK → Prop) (ds : List D) (Φ : D → Prop) : Prop := ∀ (G H : Hp) (vs : List V) (Q : VK), Same G H → Reps K G ds vs → (∀ z t G' H', Φ z → Ext K G H G' H' → Rep K G' z t → Q t H') → r vs H Q
theorem exr_B {n : Str} {id : String} {p : Pos} {r : List V → Hp → VK → Prop} {ds : List D} (hc : CallR X (.builtin id) r) (hm : X.mg n = none) (ha : EA X E (e :: es) Γ ds) (hr : RC X.K r ds Φ) (hv : bootBuiltins n = some (.builtin id) := by decide +kernel) (hg : Gl X n := by (show PySem.Env.kindOf _ _ = _); kernel_rfl) (hn : n ≠ "__name__" := by decide +kernel) (hdb : (n == ("__debug__" : Str)) = false := by decide +kernel)
    (he : noStar e = true := by exact rfl) (hpl : es.all noStar = true := by exact rfl) : EXR X E (.Call (.Name n p) (e :: es) [] pos) Γ Φ :=
  exr_of (pe_callB hc hg hm hv pa_W hn hdb (starEach_cons he) (starEach_any hpl)) fun σ G H Q v k => ha.run v fun us G1 H1 v1 x1 r1 => hr G1 H1 us Q x1.sub r1 fun z t G2 H2 p2 x2 r2 => k z t G2 H2 p2 (x1.trans x2) r2
theorem exr_T {n : Str} {T : String} {p : Pos} {r : List V → Hp → VK → Prop} {ds : List D} (hc : CallR X (.type T) r) (hm : X.mg n = none) (ha : EA X E (e :: es) Γ ds) (hr : RC X.K r ds Φ) (hv : bootBuiltins n = some (.type T) := by decide +kernel) (hg : Gl X n := by (show PySem.Env.kindOf _ _ = _); kernel_rfl) (hn : n ≠ "__name__" := by decide +kernel) (hdb : (n == ("__debug__" : Str)) = false := by decide +kernel)
    (he : noStar e = true := by exact rfl) (hpl : es.all noStar = true := by exact rfl) : EXR X E (.Call (.Name n p) (e :: es) [] pos) Γ Φ :=
  exr_of (pe_callTy hc hg hm hv pa_W hn hdb (starEach_cons he) (starEach_any hpl)) fun σ G H Q v k => ha.run v fun us G1 H1 v1 x1 r1 => hr G1 H1 us Q x1.sub r1 fun z t G2 H2 p2 x2 r2 => k z t G2 H2 p2 (x1.trans x2) r2
theorem rep_len {K : PySem.W.Frag} {G H : Hp} {xs : List D} {v : V} (s : Same G H) (r : Rep K G (.lst xs) v) : ∃ p vs, v = .ref p ∧ SqL K H p vs ∧ vs.length = xs.length := by
  cases r with
  | lst h q => exact ⟨_, _, rfl, SqL.of (s _ _ h), q.length.symm⟩
theorem ex_lenL {xs : List D} {p : Pos} {n : Str} (ha : EX X E e Γ (.lst xs)) (hm : X.mg n = none) (hv : bootBuiltins n = some (.builtin "len") := by decide +kernel) (hg : Gl X n := by (show PySem.Env.kindOf _ _ = _); kernel_rfl) (hn : n ≠ "__name__" := by decide +kernel) (hdb : (n == ("__debug__" : Str)) = false := by decide +kernel)
    (he : noStar e = true := by exact rfl) : EX X E (.Call (.Name n p) [e] [] pos) Γ (.int (xs.length : Int)) :=
  exr_B call_len_seq hm (ea_cons ha ea_nil he) (fun G H vs Q s r k => by
    cases r with
    | cons r t =>
      cases t
      obtain ⟨p, ws, rfl, h, e⟩ := rep_len s r
      exact ⟨p, ws, rfl, .inl h, by rw [e]; exact k _ _ G H rfl (.refl s) (.int _)⟩) hv hg hn hdb he
theorem ex_lenT {xs : List D} {p : Pos} {n : Str} (ha : EX X E e Γ (.tup xs)) (hm : X.mg n = none) (hv : bootBuiltins n = some (.builtin "len") := by decide +kernel) (hg : Gl X n := by (show PySem.Env.kindOf _ _ = _); kernel_rfl) (hn : n ≠ "__name__" := by decide +kernel) (hdb : (n == ("__debug__" : Str)) = false := by decide +kernel)
    (he : noStar e = true := by exact rfl) : EX X E (.Call (.Name n p) [e] [] pos) Γ (.int (xs.length : Int)) :=
  exr_B call_len_seq hm (ea_cons ha ea_nil he) (fun G H vs Q s r k => by
    cases r with
    | cons r t =>
      cases t
      cases r with
      | tup h q => exact ⟨_, _, rfl, .inr (same_sqT s h), by rw [← q.length]; exact k _ _ G H rfl (.refl s) (.int _)⟩) hv hg hn hdb he
theorem ex_lenS {p : Pos} {n : Str} (ha : EX X E e Γ (.str sa)) (hm : X.mg n = none) (hl : sa.length ≤ sizeLine := by first | decide | omega) (hv : bootBuiltins n = some (.builtin "len") := by decide +kernel) (hg : Gl X n := by (show PySem.Env.kindOf _ _ = _); kernel_rfl) (hn : n ≠ "__name__" := by decide +kernel) (hdb : (n == ("__debug__" : Str)) = false := by decide +kernel)
    (he : noStar e = true := by exact rfl) : EX X E (.Call (.Name n p) [e] [] pos) Γ (.int (sa.length : Int)) :=
  exr_B call_len_str hm (ea_cons ha ea_nil he) (fun G H vs Q s r k => by
    cases r with
    | cons r t =>
      cases t
      cases r
      exact ⟨_, rfl, hl, k _ _ G H rfl (.refl s) (.int _)⟩) hv hg hn hdb he
theorem ex_abs {p : Pos} {n : Str} (ha : EX X E e Γ (.int i)) (hm : X.mg n = none) (hv : bootBuiltins n = some (.builtin "abs") := by decide +kernel) (hg : Gl X n := by (show PySem.Env.kindOf _ _ = _); kernel_rfl) (hn : n ≠ "__name__" := by decide +kernel) (hdb : (n == ("__debug__" : Str)) = false := by decide +kernel)
    (he : noStar e = true := by exact rfl) : EX X E (.Call (.Name n p) [e] [] pos) Γ (.int (if i < 0 then -i else i)) :=
  exr_B call_abs hm (ea_cons ha ea_nil he) (fun G H vs Q s r k => by
    cases r with
    | cons r t =>
      cases t
      cases r
      exact ⟨_, rfl, k _ _ G H rfl (.refl s) (.int _)⟩) hv hg hn hdb he
theorem ex_sum {ns : List Int} {p : Pos} {n : Str} (hc : X.calm = true) (ha : EX X E e Γ (.lst (ns.map .int))) (hm : X.mg n = none) (hv : bootBuiltins n = some (.builtin "sum") := by decide +kernel) (hg : Gl X n := by (show PySem.Env.kindOf _ _ = _); kernel_rfl) (hn : n ≠ "__name__" := by decide +kernel) (hdb : (n == ("__debug__" : Str)) = false := by decide +kernel)
    (he : noStar e = true := by exact rfl) : EX X E (.Call (.Name n p) [e] [] pos) Γ (.int ns.sum) :=
  exr_B (cr_sum hc) hm (ea_cons ha ea_nil he) (fun G H vs Q s r k => by
    cases r with
    | cons r t =>
      cases t
      cases r with
      | lst h q =>
        have := q.of_ints; subst this
        exact ⟨_, ns, rfl, SqL.of (s _ _ h), k _ _ G H rfl (.refl s) (.int _)⟩) hv hg hn hdb he
theorem ex_all {bs : List Bool} {p : Pos} {n : Str} (hc : X.calm = true) (ha : EX X E e Γ (.lst (bs.map .bl))) (hm : X.mg n = none) (hv : bootBuiltins n = some (.builtin "all") := by decide +kernel) (hg : Gl X n := by (show PySem.Env.kindOf _ _ = _); kernel_rfl) (hn : n ≠ "__name__" := by decide +kernel) (hdb : (n == ("__debug__" : Str)) = false := by decide +kernel)
    (he : noStar e = true := by exact rfl) : EX X E (.Call (.Name n p) [e] [] pos) Γ (.bl (bs.all id)) :=
  exr_B (cr_all hc) hm (ea_cons ha ea_nil he) (fun G H vs Q s r k => by
    cases r with
    | cons r t =>
      cases t
      cases r with
      | lst h q =>
        have := q.of_bls; subst this
        exact ⟨_, bs, rfl, SqL.of (s _ _ h), k _ _ G H rfl (.refl s) (.bl _)⟩) hv hg hn hdb he
theorem ex_any {bs : List Bool} {p : Pos} {n : Str} (hc : X.calm = true) (ha : EX X E e Γ (.lst (bs.map .bl))) (hm : X.mg n = none) (hv : bootBuiltins n = some (.builtin "any") := by decide +kernel) (hg : Gl X n := by (show PySem.Env.kindOf _ _ = _); kernel_rfl) (hn : n ≠ "__name__" := by decide +kernel) (hdb : (n == ("__debug__" : Str)) = false := by decide +kernel)
    (he : noStar e = true := by exact rfl) : EX X E (.Call (.Name n p) [e] [] pos) Γ (.bl (bs.any id)) :=
  exr_B (cr_any hc) hm (ea_cons ha ea_nil he) (fun G H vs Q s r k => by
    cases r with
    | cons r t =>
      cases t
      cases r with
      | lst h q =>
        have := q.of_bls; subst this
        exact ⟨_, bs, rfl, SqL.of (s _ _ h), k _ _ G H rfl (.refl s) (.bl _)⟩) hv hg hn hdb he
theorem ex_max2 {p : Pos} {n : Str} (hc : X.calm = true) (ha : EX X E e1 Γ (.int i)) (hb : EX X E e2 Γ (.int j)) (hm : X.mg n = none) (hv : bootBuiltins n = some (.builtin "max") := by decide +kernel) (hg : Gl X n := by (show PySem.Env.kindOf _ _ = _); kernel_rfl) (hn : n ≠ "__name__" := by decide +kernel) (hdb : (n == ("__debug__" : Str)) = false := by decide +kernel)
    (he : noStar e1 = true := by exact rfl) (he2 : noStar e2 = true := by exact rfl) (hpl : (backTo pos (starEach [e2] X.env)).any (·.1) = false := by exact rfl) : EX X E (.Call (.Name n p) [e1, e2] [] pos) Γ (.int (if j > i then j else i)) :=
  exr_B (call_max2 hc) hm (ea_cons ha (ea_cons hb ea_nil he2) he) (fun G H vs Q s r k => by
    cases r with
    | cons r t =>
      cases t with
      | cons r2 t =>
        cases t
        cases r
        cases r2
        exact ⟨_, _, rfl, k _ _ G H rfl (.refl s) (.int _)⟩) hv hg hn hdb he (by simp [he2])
theorem ex_min2 {p : Pos} {n : Str} (hc : X.calm = true) (ha : EX X E e1 Γ (.int i)) (hb : EX X E e2 Γ (.int j)) (hm : X.mg n = none) (hv : bootBuiltins n = some (.builtin "min") := by decide +kernel) (hg : Gl X n := by (show PySem.Env.kindOf _ _ = _); kernel_rfl) (hn : n ≠ "__name__" := by decide +kernel) (hdb : (n == ("__debug__" : Str)) = false := by decide +kernel)
    (he : noStar e1 = true := by exact rfl) (he2 : noStar e2 = true := by exact rfl) (hpl : (backTo pos (starEach [e2] X.env)).any (·.1) = false := by exact rfl) : EX X E (.Call (.Name n p) [e1, e2] [] pos) Γ (.int (if j < i then j else i)) :=
  exr_B (call_min2 hc) hm (ea_cons ha (ea_cons hb ea_nil he2) he) (fun G H vs Q s r k => by
    cases r with
    | cons r t =>
      cases t with
      | cons r2 t =>
        cases t
        cases r
        cases r2
        exact ⟨_, _, rfl, k _ _ G H rfl (.refl s) (.int _)⟩) hv hg hn hdb he (by simp [he2])
theorem ex_intS {m : Int} {p : Pos} {n : Str} (ha : EX X E e Γ (.str sa)) (hm : X.mg n = none) (ht : PySem.intText? sa = some m) (hl : sa.length ≤ 640 := by first | decide | omega) (hv : bootBuiltins n = some (.type "int") := by decide +kernel) (hg : Gl X n := by (show PySem.Env.kindOf _ _ = _); kernel_rfl) (hn : n ≠ "__name__" := by decide +kernel) (hdb : (n == ("__debug__" : Str)) = false := by decide +kernel)
    (he : noStar e = true := by exact rfl) : EX X E (.Call (.Name n p) [e] [] pos) Γ (.int m) :=
  exr_T call_int_str hm (ea_cons ha ea_nil he) (fun G H vs Q s r k => by
    cases r with
    | cons r t =>
      cases t
      cases r
      exact ⟨_, _, rfl, ht, hl, k _ _ G H rfl (.refl s) (.int _)⟩) hv hg hn hdb he
theorem eo_list {xs : List D} {p : Pos} {n : Str} (ha : EX X E e Γ (.lst xs)) (hm : X.mg n = none) (hv : bootBuiltins n = some (.type "list") := by decide +kernel) (hg : Gl X n := by (show PySem.Env.kindOf _ _ = _); kernel_rfl) (hn : n ≠ "__name__" := by decide +kernel) (hdb : (n == ("__debug__" : Str)) = false := by decide +kernel)
    (he : noStar e = true := by exact rfl) : EO X E (.Call (.Name n p) [e] [] pos) Γ (.ol xs) := ⟨fun σ G H Q v k =>
  eW_of (pe_callTy call_list_of hg hm hv (pa_cons pe_W pa_nil (starEach_cons he)) hn hdb (starEach_cons he) rfl) (ha.run v fun u G1 H1 v1 x1 r1 => by
    cases r1 with
    | lst h q => exact ⟨_, _, rfl, .inl (SqL.of (x1.sub _ _ h)), fun p hp => k p _ G1 _ (x1.trans (.newOwn x1.sub hp)) (x1.h.free hp) upd_same (x1.sub.free hp) ⟨_, rfl, q⟩⟩)⟩
theorem eo_listT {xs : List D} {p : Pos} {n : Str} (ha : EX X E e Γ (.tup xs)) (hm : X.mg n = none) (hv : bootBuiltins n = some (.type "list") := by decide +kernel) (hg : Gl X n := by (show PySem.Env.kindOf _ _ = _); kernel_rfl) (hn : n ≠ "__name__" := by decide +kernel) (hdb : (n == ("__debug__" : Str)) = false := by decide +kernel)
    (he : noStar e = true := by exact rfl) : EO X E (.Call (.Name n p) [e] [] pos) Γ (.ol xs) := ⟨fun σ G H Q v k =>
  eW_of (pe_callTy call_list_of hg hm hv (pa_cons pe_W pa_nil (starEach_cons he)) hn hdb (starEach_cons he) rfl) (ha.run v fun u G1 H1 v1 x1 r1 => by
    cases r1 with
    | tup h q => exact ⟨_, _, rfl, .inr (same_sqT x1.sub h), fun p hp => k p _ G1 _ (x1.trans (.newOwn x1.sub hp)) (x1.h.free hp) upd_same (x1.sub.free hp) ⟨_, rfl, q⟩⟩)⟩
end
end DL
set_option maxHeartbeats 2000000
/-! DL3: statements, targets, loops, comprehensions, a def by its body -/
namespace DL
open PySem PySem.Spec PyProof.Rows L2

section
variable {X : Cx} {E : En} {e e1 e2 c : Expr} {es : List Expr} {Γ : List Sl} {d x y z : D} {Φ Φ' : D → Prop} {b : Bool} {pos : Pos} {i j : Int} {N : N4} {st : Stmt} {sts : List Stmt}

theorem sxs_nil (h : N.nx Γ) : SXs X E [] N Γ := ⟨fun σ G H Dn v r => ssW_of pss_nil (r.nx Γ σ G H (Same.refl G) v h)⟩
theorem sxs_cons (h : SX X E st ⟨fun Γ' => SXs X E sts N Γ', N.rt, N.bk, N.ct⟩ Γ) : SXs X E (st :: sts) N Γ := ⟨fun σ G H Dn v r =>
  ssW_of (pss_cons ps_W pss_W) (h.w σ G H _ v ⟨fun Γ' σ' G' H' s v' q => SXs.w q σ' G' H' Dn v' (r.mono s), r.rt, r.bk, r.ct⟩)⟩
theorem sxs_one (h : SX X E st N Γ) : SXs X E [st] N Γ := ⟨fun σ G H Dn v r => ssW_of (pss_one ps_W) (h.w σ G H Dn v r)⟩
theorem sx_pass (h : N.nx Γ) : SX X E (.Pass pos) N Γ := ⟨fun σ G H Dn v r => sW_of ps_pass (r.nx Γ σ G H (Same.refl G) v h)⟩
theorem sx_break (h : N.bk Γ) : SX X E (.Break pos) N Γ := ⟨fun σ G H Dn v r => sW_of ps_break (r.bk Γ σ G H (Same.refl G) v h)⟩
theorem sx_cont (h : N.ct Γ) : SX X E (.Continue pos) N Γ := ⟨fun σ G H Dn v r => sW_of ps_continue (r.ct Γ σ G H (Same.refl G) v h)⟩
theorem sx_retR (h : EXR X E e Γ Φ) (p : ∀ d, Φ d → N.rt d Γ) : SX X E (.Return (some e) pos) N Γ := ⟨fun σ G H Dn v r =>
  sW_of (ps_ret pe_W) (h.run v fun d u G1 H1 q v1 x1 r1 => r.rt d u Γ σ G1 H1 x1.g v1 r1 (p d q))⟩
theorem sx_ret (h : EX X E e Γ d) (p : N.rt d Γ) : SX X E (.Return (some e) pos) N Γ := sx_retR h fun d' q => by subst q; exact p
theorem sx_retN (p : N.rt .non Γ) : SX X E (.Return none pos) N Γ := ⟨fun σ G H Dn v r => sW_of ps_retN (r.rt .non .non Γ σ G H (Same.refl G) v .non p)⟩
theorem sx_dropR (h : EXR X E e Γ Φ) (p : ∀ d, Φ d → N.nx Γ) (hs : notComp e = true := by exact rfl) : SX X E (.Expr e pos) N Γ := ⟨fun σ G H Dn v r =>
  sW_of (ps_expr pe_W (swapsNo hs)) (h.run v fun d u G1 H1 q v1 x1 r1 => r.nx Γ σ G1 H1 x1.g v1 (p d q))⟩
theorem sx_if {sa sb : List Stmt} (h : ET X E c Γ b) (h1 : b = true → SXs X E sa N Γ) (h2 : b = false → SXs X E sb N Γ) : SX X E (.If c sa sb pos) N Γ := ⟨fun σ G H Dn v r =>
  sW_of (ps_if pt_W pss_W pss_W) (h.run v fun G1 H1 v1 x1 => by
    cases b with
    | true => exact iteT ((h1 rfl).w σ G1 H1 Dn v1 (r.mono x1.g))
    | false => exact iteF ((h2 rfl).w σ G1 H1 Dn v1 (r.mono x1.g)))⟩
/-- the ways of an if come together -/
theorem SXs.weaken {N' : N4} (h : SXs X E sts N Γ) (h1 : ∀ Γ, N.nx Γ → N'.nx Γ) (h2 : ∀ d Γ, N.rt d Γ → N'.rt d Γ) (h3 : ∀ Γ, N.bk Γ → N'.bk Γ) (h4 : ∀ Γ, N.ct Γ → N'.ct Γ) : SXs X E sts N' Γ := ⟨fun σ G H Dn v r =>
  h.w σ G H Dn v ⟨fun Γ σ G' H a b q => r.nx Γ σ G' H a b (h1 Γ q), fun d u Γ σ G' H a b w q => r.rt d u Γ σ G' H a b w (h2 d Γ q), fun Γ σ G' H a b q => r.bk Γ σ G' H a b (h3 Γ q), fun Γ σ G' H a b q => r.ct Γ σ G' H a b (h4 Γ q)⟩⟩
theorem sx_setR {n : Str} {pos' : Pos} (i : Nat) (h : EXR X E e Γ Φ) (p : ∀ d, Φ d → N.nx (Γ.set i (.im d))) (hN : X.N.Nodup := by assumption) (hi : X.N[i]? = some n := by exact rfl) (hx : Loc X.env.scope n := by exact Or.inl (by kernel_rfl))
    (hs : notComp e = true := by exact rfl) (hf : X.fn n = true ∨ X.env.scope.names.lookup n = some .local := by exact .inl rfl) : SX X E (.Assign [.Name n pos'] e pos) N Γ := ⟨fun σ G H Dn v r =>
  sW_of (ps_set hN hi hx pe_W (swapsNo hs) hf) (h.run v fun d u G1 H1 q v1 x1 r1 => r.nx _ _ G1 H1 x1.g (v1.setIm r1) (p d q))⟩
theorem sx_set {n : Str} {pos' : Pos} (i : Nat) (h : EX X E e Γ d) (p : N.nx (Γ.set i (.im d))) (hN : X.N.Nodup := by assumption) (hi : X.N[i]? = some n := by exact rfl) (hx : Loc X.env.scope n := by exact Or.inl (by kernel_rfl))
    (hs : notComp e = true := by exact rfl) (hf : X.fn n = true ∨ X.env.scope.names.lookup n = some .local := by exact .inl rfl) : SX X E (.Assign [.Name n pos'] e pos) N Γ :=
  sx_setR i h (fun d' q => by subst q; exact p) hN hi hx hs hf
theorem own_new {s : Sl} {σ : L2.St} {G H G1 H1 : Hp} {p : Addr} {o : HO} (v : Env X.K E Γ σ G H) (x1 : Ext X.K G H G1 H1) (hp : H p = none) (h1 : H1 p = some o) (hg : G1 p = none) (ok : OwnOk X.K G1 s o) (hs : s.isOwn = true) (hm : s.isMe = false) (i : Nat) :
    Env X.K E (Γ.set i s) (σ.set i (some (.ref p))) G1 H1 :=
  (v.mono x1).setOwn hs hm h1 hg ok (v.fresh hp).1 (fun j t => v.noOwn hp j t) (v.fresh hp).2
theorem sx_setO {n : Str} {pos' : Pos} {s : Sl} (i : Nat) (h : EO X E e Γ s) (p : N.nx (Γ.set i s)) (hN : X.N.Nodup := by assumption) (hso : s.isOwn = true := by exact rfl) (hsm : s.isMe = false := by exact rfl) (hi : X.N[i]? = some n := by exact rfl) (hx : Loc X.env.scope n := by exact Or.inl (by kernel_rfl))
    (hs : notComp e = true := by exact rfl) (hf : X.fn n = true ∨ X.env.scope.names.lookup n = some .local := by exact .inl rfl) : SX X E (.Assign [.Name n pos'] e pos) N Γ := ⟨fun σ G H Dn v r =>
  sW_of (ps_set hN hi hx pe_W (swapsNo hs) hf) (h.w σ G H _ v fun a o G1 H1 x1 ha h1 hg ok => r.nx _ _ G1 H1 x1.g (own_new v x1 ha h1 hg ok hso hsm i) p)⟩
/-- an own object is data from now on -/
theorem freeze {s : Sl} (i : Nat) (hd : ∀ (G' : Hp) (a : Addr) (o : HO), G' a = some o → OwnOk X.K G' s o → Rep X.K G' d (.ref a)) (h : SXs X E sts N (Γ.set i (.im d))) (hs : Γ[i]? = some s := by exact rfl) (hso : s.isOwn = true := by exact rfl) (hsm : s.isMe = false := by exact rfl) : SXs X E sts N Γ := ⟨fun σ G H Dn v r => by
  obtain ⟨G', sg, v'⟩ := v.freeze hs hso hsm hd
  exact h.w σ G' H Dn v' (r.mono sg)⟩
theorem freezeL {xs : List D} (i : Nat) (h : SXs X E sts N (Γ.set i (.im (.lst xs)))) (hs : Γ[i]? = some (.ol xs) := by exact rfl) : SXs X E sts N Γ := freeze i fz_l h hs
theorem freezeD {xs : List (Key × D)} (i : Nat) (h : SXs X E sts N (Γ.set i (.im (.dic xs)))) (hs : Γ[i]? = some (.od xs) := by exact rfl) : SXs X E sts N Γ := freeze i fz_d h hs
/-- a slot is forgotten -/
theorem sxs_forget (i : Nat) (h : SXs X E sts N (Γ.set i .un)) : SXs X E sts N Γ := ⟨fun σ G H Dn v r => by
  have q := h.w σ G H Dn (by
    have w := v.forget (i := i) (x := (σ[i]?).join)
    have e : σ.set i (σ[i]?).join = σ := by
      by_cases hi : i < σ.length
      · rw [List.getElem?_eq_getElem hi]
        show σ.set i σ[i] = σ
        exact List.set_getElem_self hi
      · exact List.set_eq_of_length_le (Nat.le_of_not_lt hi)
    rw [e] at w
    exact w) r
  exact q⟩

/-! ### an own list, dict of the frame changes -/
section
variable {n : Str} {xs : List D} {k : Nat} {kvs : List (Key × D)}
theorem own_ref {s : Sl} {σ : L2.St} {G H : Hp} (v : Env X.K E Γ σ G H) (i : Nat) (hs : Γ[i]? = some s) (ho : s.isOwn = true) : ∃ a o, σ[i]? = some (some (.ref a)) ∧ H a = some o ∧ G a = none ∧ OwnOk X.K G s o := by
  obtain ⟨a, o, h1, h2, h3, h4, _⟩ := v.own hs ho
  exact ⟨a, o, h1, h2, h3, h4⟩
/-- x.append(e) -/
theorem sx_appendR {npos apos cpos : Pos} (i : Nat) (h : EXR X E e Γ Φ) (p : ∀ d, Φ d → N.nx (Γ.set i (.ol (xs ++ [d])))) (hl : xs.length < sizeLine) (hs : Γ[i]? = some (.ol xs) := by exact rfl) (hN : X.N[i]? = some n := by exact rfl) (hv : Vis X.env.scope n := by exact Or.inl (by kernel_rfl)) (hd : (n == ("__debug__" : Str)) = false := by decide +kernel)
    (hcd : (n == ("__classdict__" : Str)) = false := by decide +kernel) (hline : (apos.endLine == cpos.line) = true := by exact rfl) (hst : noStar e = true := by exact rfl) : SX X E (.Expr (.Call (.Attribute (.Name n npos) "append" apos) [e] [] cpos) pos) N Γ := ⟨fun σ G H Dn v r => by
  obtain ⟨a, o, h1, h2, h3, vs, rfl, h4⟩ := own_ref v i hs rfl
  refine sW_of (ps_expr (pe_bm PySem.F.plainAttrs_list PySem.F.slot_list_append PySem.F.type_list_append mt_append (pe_var hN hv hd hcd) (pa_cons pe_W pa_nil (starEach_cons hst)) (attrBase rfl) (fewArgs hst) hline (starEach_cons hst) rfl) rfl) ?_
  refine ⟨.ref a, h1, .inl ⟨rfl, vs, SqL.of h2⟩, ?_⟩
  refine h.run v fun d u G1 H1 q v1 x1 r1 => ?_
  have g1 := x1.h.at h2
  refine ⟨a, vs, u, rfl, rfl, g1, by rw [← h4.length]; exact hl, ?_⟩
  exact r.nx _ σ G1 _ x1.g (v1.change (s' := .ol (xs ++ [d])) hs rfl h1 rfl rfl ⟨_, rfl, (h4.mono x1.g).append (.cons r1 .nil)⟩) (p d q)⟩
theorem sx_append {npos apos cpos : Pos} (i : Nat) (h : EX X E e Γ d) (p : N.nx (Γ.set i (.ol (xs ++ [d])))) (hl : xs.length < sizeLine) (hs : Γ[i]? = some (.ol xs) := by exact rfl) (hN : X.N[i]? = some n := by exact rfl) (hv : Vis X.env.scope n := by exact Or.inl (by kernel_rfl)) (hd : (n == ("__debug__" : Str)) = false := by decide +kernel)
    (hcd : (n == ("__classdict__" : Str)) = false := by decide +kernel) (hline : (apos.endLine == cpos.line) = true := by exact rfl) (hst : noStar e = true := by exact rfl) : SX X E (.Expr (.Call (.Attribute (.Name n npos) "append" apos) [e] [] cpos) pos) N Γ :=
  sx_appendR i h (fun d' q => by subst q; exact p) hl hs hN hv hd hcd hline hst
/-- d[e1] = e2, d an own dict; the key an int or a text -/
def keyD : D → Option Key
  | .int i => some (.inl i) | .str x => some (.inr x) | _ => none
theorem rep_key {K : PySem.W.Frag} {G : Hp} {d : D} {v : V} {q : Key} (r : Rep K G d v) (h : keyD d = some q) : v = kV q := by
  cases r <;> first | (cases h; rfl) | cases h
theorem sx_dput {opos spos : Pos} {q : Key} {k : Nat} (i : Nat) (hr : Room k X.A) (hk : EX X E e1 Γ x) (he : EX X E e2 Γ d) (hq : keyD x = some q) (hl : kvs.length < sizeLine) (p : N.nx (Γ.set i (.od (putKD kvs q d)))) (hs : Γ[i]? = some (.od kvs) := by exact rfl) (hN : X.N[i]? = some n := by exact rfl) (hv : Vis X.env.scope n := by exact Or.inl (by kernel_rfl)) (hd : (n == ("__debug__" : Str)) = false := by decide +kernel)
    (hcd : (n == ("__classdict__" : Str)) = false := by decide +kernel) (hsw : notComp e2 = true := by exact rfl) : SX X E (.Assign [.Subscript (.Name n opos) e1 spos] e2 pos) N Γ := ⟨fun σ G H Dn v r => by
  obtain ⟨a, o, h1, h2, h3, vs, rfl, h4⟩ := own_ref v i hs rfl
  refine sW_of (ps_dput (hu_of hr) (pe_var hN hv hd hcd) pe_W pe_W (swapsNo hsw)) ?_
  refine he.run v fun u G1 H1 v1 x1 r1 => ⟨.ref a, h1, hk.run v1 fun w G2 H2 v2 x2 r2 => ?_⟩
  have g2 := (x1.trans x2).h.at h2
  rw [rep_key r2 hq]
  refine ⟨a, _, rfl, DPut.k g2 (by rw [← h4.length]; exact hl), ?_⟩
  exact r.nx _ σ G2 _ (x1.trans x2).g (v2.change (s' := .od (putKD kvs q d)) hs rfl h1 rfl rfl ⟨_, rfl, (h4.mono (x1.trans x2).g).put q (r1.mono x2.g)⟩) p⟩
/-- k in d -/
theorem pc_run {op : CmpOp} {t : TE} (h : PC X op e1 e2 t) (hm : behindInMarks op e2 = false) : PT X (.Compare e1 [op] [e2] pos) (tB t) := pt_cmp h hm
theorem valD_some {K : PySem.W.Frag} {G : Hp} {vs : List (Key × V)} (r : Repk K G kvs vs) (q : Key) : (valV vs q).isSome = (valD kvs q).isSome := by
  rcases r.val q with ⟨d, v, h1, h2, _⟩ | ⟨h1, h2⟩ <;> rw [h1, h2] <;> rfl
theorem et_inD {opos : Pos} {q : Key} {k : Nat} (i : Nat) (hr : Room k X.A) (hk : EX X E e1 Γ x) (hq : keyD x = some q) (hs : Γ[i]? = some (.od kvs) := by exact rfl) (hN : X.N[i]? = some n := by exact rfl) (hv : Vis X.env.scope n := by exact Or.inl (by kernel_rfl)) (hd : (n == ("__debug__" : Str)) = false := by decide +kernel)
    (hcd : (n == ("__classdict__" : Str)) = false := by decide +kernel)  : ET X E (.Compare e1 [.In] [.Name n opos] pos) Γ (valD kvs q).isSome := et_of (pt_cmp (pc_din (hu_of hr) pe_W (pe_var hN hv hd hcd)) (noMarks rfl)) fun σ G H Q v k => by
  obtain ⟨a, o, h1, h2, h3, vs, rfl, h4⟩ := own_ref v i hs rfl
  refine hk.run v fun w G2 H2 v2 x2 r2 => ⟨.ref a, h1, ?_⟩
  rw [rep_key r2 hq]
  refine ⟨a, _, rfl, DGet.k (x2.h.at h2), _, rfl, ?_⟩
  rw [valD_some h4]
  exact k G2 H2 x2
theorem et_ninD {opos : Pos} {q : Key} {k : Nat} (i : Nat) (hr : Room k X.A) (hk : EX X E e1 Γ x) (hq : keyD x = some q) (hs : Γ[i]? = some (.od kvs) := by exact rfl) (hN : X.N[i]? = some n := by exact rfl) (hv : Vis X.env.scope n := by exact Or.inl (by kernel_rfl)) (hd : (n == ("__debug__" : Str)) = false := by decide +kernel)
    (hcd : (n == ("__classdict__" : Str)) = false := by decide +kernel)  : ET X E (.Compare e1 [.NotIn] [.Name n opos] pos) Γ (!(valD kvs q).isSome) := et_of (pt_cmp (pc_dnotin (hu_of hr) pe_W (pe_var hN hv hd hcd)) (noMarks rfl)) fun σ G H Q v k => by
  obtain ⟨a, o, h1, h2, h3, vs, rfl, h4⟩ := own_ref v i hs rfl
  refine hk.run v fun w G2 H2 v2 x2 r2 => ⟨.ref a, h1, ?_⟩
  rw [rep_key r2 hq]
  refine ⟨a, _, rfl, DGet.k (x2.h.at h2), _, rfl, ?_⟩
  rw [valD_some h4]
  exact k G2 H2 x2
/-- list(d) of an own dict: its keys -/
def ofKey : Key → D
  | .inl i => .int i | .inr x => .str x
end
/-- x += e: ints, texts -/
theorem sx_aug {n : Str} {op : Operator} {ti : TIp} {pos' : Pos} (i : Nat) (ho : PIp X op ti) (hr : RX X.K ti x y z) (hs : Γ[i]? = some (.im x)) (h : EX X E e Γ y) (p : N.nx (Γ.set i (.im z))) (hN : X.N.Nodup := by assumption) (hi : X.N[i]? = some n := by exact rfl) (hx : Loc X.env.scope n := by exact Or.inl (by kernel_rfl))
    (hf : X.fn n = true ∨ X.env.scope.names.lookup n = some .local := by exact .inl rfl) : SX X E (.AugAssign (.Name n pos') op e pos) N Γ := ⟨fun σ G H Dn v r => by
  obtain ⟨w, h1, h2⟩ := v.im hs
  refine sW_of (ps_aug hN hi hx pe_W ho hf) ⟨w, h1, h.run v fun u G1 H1 v1 x1 r1 => hr G1 H1 w u _ x1.sub (h2.mono x1.g) r1 fun t G2 H2 x2 r2 => ?_⟩
  exact r.nx _ _ G2 H2 (x1.trans x2).g ((v1.mono x2).setIm r2) p⟩

/-! ### targets -/
def gW (X : Cx) (tg : Expr) : TG := fun v σ H Q => ∀ (pins : List (Addr × Obj)) (s : Shared) (u : Value), Inv X pins σ H s → RelV v u → wpAny (model X.prog X.w) X.A (assign tg X.env u) (fun _ s' => ∃ σ' H', Inv X pins σ' H' s' ∧ Q σ' H') X.xe s
theorem pg_W {tg : Expr} : PG X tg (gW X tg) := ⟨fun pins s _ _ _ u _ I r h => h pins s u I r⟩
theorem gW_of {tg : Expr} {t : TG} {v : V} {σ : L2.St} {H : Hp} {Q : L2.St → Hp → Prop} (h : PG X tg t) (q : t v σ H Q) : gW X tg v σ H Q := fun pins s u I r => h.run pins s σ H v u Q I r q
/-- a target is given d: Γ becomes Γ' -/
structure TGX (X : Cx) (E : En) (tg : Expr) (d : D) (Γ Γ' : List Sl) : Prop where
  w : ∀ (σ : L2.St) (G H : Hp) (v : V) (Q : L2.St → Hp → Prop), Env X.K E Γ σ G H → Rep X.K G d v → (∀ σ', Env X.K E Γ' σ' G H → Q σ' H) → gW X tg v σ H Q
theorem tg_name {n : Str} (i : Nat) (hN : X.N.Nodup := by assumption) (hi : X.N[i]? = some n := by exact rfl) (hx : Loc X.env.scope n := by exact Or.inl (by kernel_rfl)) (hf : X.fn n = true ∨ X.env.scope.names.lookup n = some .local := by exact .inl rfl) :
    TGX X E (.Name n pos) d Γ (Γ.set i (.im d)) := ⟨fun σ G H v Q w r k => gW_of (pg_name hN hi hx hf) (k _ (w.setIm r))⟩
/-- several targets -/
def gsW (X : Cx) (ts : List Expr) : TGs := fun vs σ H Q => ∀ (pins : List (Addr × Obj)) (s : Shared) (us : List Value), Inv X pins σ H s → Vals vs us → wpAny (model X.prog X.w) X.A (assignInOrder ((assignEach ts X.env).map (·.2)) us) (fun _ s' => ∃ σ' H', Inv X pins σ' H' s' ∧ Q σ' H') X.xe s
theorem pgs_W {ts : List Expr} : PGs X ts (gsW X ts) := ⟨fun pins s _ _ _ us _ I r h => h pins s us I r⟩
theorem gsW_of {ts : List Expr} {t : TGs} {vs : List V} {σ : L2.St} {H : Hp} {Q : L2.St → Hp → Prop} (h : PGs X ts t) (q : t vs σ H Q) : gsW X ts vs σ H Q := fun pins s us I r => h.run pins s σ H vs us Q I r q
structure TGXs (X : Cx) (E : En) (ts : List Expr) (ds : List D) (Γ Γ' : List Sl) : Prop where
  w : ∀ (σ : L2.St) (G H : Hp) (vs : List V) (Q : L2.St → Hp → Prop), Env X.K E Γ σ G H → Reps X.K G ds vs → (∀ σ', Env X.K E Γ' σ' G H → Q σ' H) → gsW X ts vs σ H Q
theorem tgs_nil : TGXs X E [] [] Γ Γ := ⟨fun σ G H vs Q w r k => by
  cases r
  exact gsW_of pgs_nil ⟨rfl, k σ w⟩⟩
theorem tgs_cons {t : Expr} {ts : List Expr} {ds : List D} {Γ1 Γ2 : List Sl} (h : TGX X E t d Γ Γ1) (h2 : TGXs X E ts ds Γ1 Γ2) (hs : (assignEach (t :: ts) X.env).map (·.2) = assign t X.env :: (assignEach ts X.env).map (·.2) := by exact rfl) : TGXs X E (t :: ts) (d :: ds) Γ Γ2 := ⟨fun σ G H vs Q w r k => by
  cases r with
  | cons r1 r2 => exact gsW_of (pgs_cons pg_W pgs_W hs) ⟨_, _, rfl, h.w σ G H _ _ w r1 fun σ' w' => h2.w σ' G H _ Q w' r2 k⟩⟩
theorem tg_tup {ts : List Expr} {kk : Nat} {n : Nat} {ds : List D} {Γ1 : List Sl} (h : TGXs X E ts ds Γ Γ1) (hc : X.calm = true) (hl : ds.length = n := by exact rfl) (hn : (assignEach ts X.env).length = n := by exact rfl) (hst : (assignEach ts X.env).findIdx? (·.1) = none := by exact rfl) : TGX X E (.Tuple ts kk pos) (.tup ds) Γ Γ1 := ⟨fun σ G H v Q w r k => by
  cases r with
  | tup q r => exact gW_of (pg_tup hc pgs_W hn hst) ⟨_, _, rfl, same_sqT w.sub q, by rw [← r.length]; exact hl, h.w σ G H _ Q w r k⟩⟩
/-- target = e -/
theorem sx_asgR {tg : Expr} (h : EXR X E e Γ Φ) (p : ∀ d, Φ d → ∃ Γ', TGX X E tg d Γ Γ' ∧ N.nx Γ') (hs : swapsWithSole [tg] e pos.line X.env = pure false := by exact rfl) (hw : swappedStores [tg] e X.env = pure none := by exact rfl)
    (h1 : (assignEach [tg] X.env).map (·.2) = [assign tg X.env] := by exact rfl) : SX X E (.Assign [tg] e pos) N Γ := ⟨fun σ G H Dn v r =>
  sW_of (ps_asg pe_W pg_W hs hw h1) (h.run v fun d u G1 H1 q v1 x1 r1 => by
    obtain ⟨Γ', t, n⟩ := p d q
    exact t.w σ G1 H1 u _ v1 r1 fun σ' w => r.nx Γ' σ' G1 H1 x1.g w n)⟩
theorem sx_asg {tg : Expr} {Γ' : List Sl} (h : EX X E e Γ d) (t : TGX X E tg d Γ Γ') (p : N.nx Γ') (hs : swapsWithSole [tg] e pos.line X.env = pure false := by exact rfl) (hw : swappedStores [tg] e X.env = pure none := by exact rfl)
    (h1 : (assignEach [tg] X.env).map (·.2) = [assign tg X.env] := by exact rfl) : SX X E (.Assign [tg] e pos) N Γ := sx_asgR h (fun d' q => by subst q; exact ⟨Γ', t, p⟩) hs hw h1

/-! ### what a for walks -/
structure JOk (K : PySem.W.Frag) (J : It) (ds : List D) (G : Hp) : Prop where
  go : ∀ i G1 H, Same G G1 → Same G1 H → i < ds.length → J.go i H
  stop : ∀ i G1 H, Same G G1 → Same G1 H → ds.length ≤ i → J.stop i H
  yld : ∀ i G1 H x H', Same G G1 → Same G1 H → J.yld i H x H' → i < ds.length → ∃ G2 d, ds[i]? = some d ∧ Ext K G1 H G2 H' ∧ Rep K G2 d x
def iW (X : Cx) (tg iter : Expr) : TI := fun σ H R => ∀ (pins : List (Addr × Obj)) (s : Shared), Inv X pins σ H s →
  wpAny (model X.prog X.w) X.A (eval iter X.env) (fun v s1 => wpAny (model X.prog X.w) X.A (pyIter v) (PIE X pins σ tg R) X.xe s1) X.xe s
theorem pi_W {tg iter : Expr} : PI X tg iter (iW X tg iter) := ⟨fun pins s _ _ _ I h => h pins s I⟩
theorem iW_of {tg iter : Expr} {t : TI} {σ : L2.St} {H : Hp} {R : It → Hp → Prop} (h : PI X tg iter t) (q : t σ H R) : iW X tg iter σ H R := fun pins s I => h.run pins s σ H R I q
structure WK (X : Cx) (E : En) (tg iter : Expr) (Γ : List Sl) (ds : List D) : Prop where
  w : ∀ (σ : L2.St) (G H : Hp) (R : It → Hp → Prop), Env X.K E Γ σ G H → (∀ J G' H', Ext X.K G H G' H' → JOk X.K J ds G' → R J H') → iW X tg iter σ H R
theorem wk_list {tg : Expr} {ds : List D} (h : EX X E e Γ (.lst ds)) : WK X E tg e Γ ds := ⟨fun σ G H R v k => iW_of (pi_list pe_W) (h.run v fun u G1 H1 v1 x1 r1 => by
  cases r1 with
  | lst q r =>
    rename_i a vs
    refine ⟨_, rfl, ⟨_, SqL.of (x1.sub _ _ q)⟩, k _ G1 H1 x1 ⟨fun i G2 H2 s1 s2 hi => ?_, fun i G2 H2 s1 s2 hi => ?_, fun i G2 H2 x H' s1 s2 y hi => ?_⟩⟩
    · exact ⟨vs, vs[i]'(by rw [← r.length]; exact hi), SqL.of (s2 _ _ (s1 _ _ q)), List.getElem?_eq_getElem _⟩
    · exact ⟨vs, SqL.of (s2 _ _ (s1 _ _ q)), by rw [← r.length]; exact hi⟩
    · obtain ⟨rfl, y⟩ := y
      have z := y vs (SqL.of (s2 _ _ (s1 _ _ q)))
      obtain ⟨d, hd, rd⟩ := r.get' z
      exact ⟨G2, d, hd, .refl s2, rd.mono s1⟩)⟩
theorem wk_tup {tg : Expr} {ds : List D} (h : EX X E e Γ (.tup ds)) : WK X E tg e Γ ds := ⟨fun σ G H R v k => iW_of (pi_tup pe_W) (h.run v fun u G1 H1 v1 x1 r1 => by
  cases r1 with
  | tup q r =>
    rename_i a vs
    refine ⟨_, rfl, ⟨_, same_sqT x1.sub q⟩, k _ G1 H1 x1 ⟨fun i G2 H2 s1 s2 hi => ?_, fun i G2 H2 s1 s2 hi => ?_, fun i G2 H2 x H' s1 s2 y hi => ?_⟩⟩
    · exact ⟨vs, vs[i]'(by rw [← r.length]; exact hi), same_sqT s2 (same_sqT s1 q), List.getElem?_eq_getElem _⟩
    · exact ⟨vs, same_sqT s2 (same_sqT s1 q), by rw [← r.length]; exact hi⟩
    · obtain ⟨rfl, y⟩ := y
      have z := y vs (same_sqT s2 (same_sqT s1 q))
      obtain ⟨d, hd, rd⟩ := r.get' z
      exact ⟨G2, d, hd, .refl s2, rd.mono s1⟩)⟩
def rangeD (lo : Int) (n : Nat) : List D := (List.range n).map fun i => .int (lo + (i : Nat))
theorem rangeD_length (lo : Int) (n : Nat) : (rangeD lo n).length = n := by simp [rangeD]
theorem rangeD_get (lo : Int) (n i : Nat) (h : i < n) : (rangeD lo n)[i]? = some (.int (lo + (i : Nat))) := by simp [rangeD, h]
theorem jok_range {G : Hp} (lo : Int) (n : Nat) : JOk X.K (Itr lo n) (rangeD lo n) G := by
  refine ⟨fun i G1 H _ _ hi => ?_, fun i G1 H _ _ hi => ?_, fun i G1 H x H' s1 s2 y hi => ?_⟩
  · rw [rangeD_length] at hi; exact hi
  · rw [rangeD_length] at hi; exact hi
  · rw [rangeD_length] at hi
    obtain ⟨rfl, rfl⟩ := y
    exact ⟨G1, _, rangeD_get lo n i hi, .refl s2, .int _⟩
theorem wk_range1 {tg : Expr} {p : Pos} {n : Int} (hm : X.mg "range" = none) (h : EX X E e Γ (.int n)) (h1 : -(2 ^ 62) ≤ n := by omega) (h2 : n < 2 ^ 62 := by omega) (hg : Gl X "range" := by (show PySem.Env.kindOf _ _ = _); kernel_rfl) (hs : noStar e = true := by exact rfl) : WK X E tg (.Call (.Name "range" p) [e] [] pos) Γ (rangeD 0 n.toNat) := ⟨fun σ G H R v k =>
  iW_of (pi_range1 hg hm pa_W (starEach_one hs)) ((ea_cons h ea_nil hs).run v fun us G1 H1 v1 x1 r1 => by
    cases r1 with
    | cons r t =>
      cases t
      cases r
      exact ⟨n, rfl, h1, h2, k _ G1 H1 x1 (jok_range 0 _)⟩)⟩
theorem wk_range2 {tg : Expr} {p : Pos} {m n : Int} (hm : X.mg "range" = none) (h : EX X E e1 Γ (.int m)) (h' : EX X E e2 Γ (.int n)) (hb : -(2 ^ 62) ≤ m ∧ m < 2 ^ 62 ∧ -(2 ^ 62) ≤ n ∧ n < 2 ^ 62 := by omega) (hg : Gl X "range" := by (show PySem.Env.kindOf _ _ = _); kernel_rfl) (hs : noStar e1 = true := by exact rfl) (hs2 : noStar e2 = true := by exact rfl) : WK X E tg (.Call (.Name "range" p) [e1, e2] [] pos) Γ (rangeD m (n - m).toNat) := ⟨fun σ G H R v k =>
  iW_of (pi_range2 hg hm pa_W (starEach_two hs hs2) (starEach_one hs2)) ((ea_cons h (ea_cons h' ea_nil hs2) hs).run v fun us G1 H1 v1 x1 r1 => by
    cases r1 with
    | cons r t =>
      cases t with
      | cons r2 t =>
        cases t
        cases r
        cases r2
        exact ⟨m, n, rfl, hb, k _ G1 H1 x1 (jok_range m _)⟩)⟩
def signsD (x : Str) : List D := x.cps.toList.map fun c => .str ⟨#[c]⟩
theorem wk_str {tg : Expr} {z : Str} (h : EX X E e Γ (.str z)) : WK X E tg e Γ (signsD z) := ⟨fun σ G H R v k => iW_of (pi_str pe_W) (h.run v fun u G1 H1 v1 x1 r1 => by
  cases r1
  refine ⟨z, rfl, k _ G1 H1 x1 ⟨fun i G2 H2 s1 s2 hi => ?_, fun i G2 H2 s1 s2 hi => ?_, fun i G2 H2 x H' s1 s2 y hi => ?_⟩⟩
  · show i < z.cps.size
    simpa [signsD] using hi
  · show z.cps.size ≤ i
    simpa [signsD] using hi
  · obtain ⟨rfl, c, hc, rfl⟩ := y
    exact ⟨G2, .str ⟨#[c]⟩, by simp [signsD, hc], .refl s2, .str _⟩)⟩
def enumD (ds : List D) : List D := (List.range ds.length).filterMap fun i => (ds[i]?).map fun d => .tup [.int (i : Nat), d]
def enumD' : Nat → List D → List D
  | _, [] => []
  | n, d :: ds => .tup [.int (n : Nat), d] :: enumD' (n + 1) ds
theorem enumD'_length : ∀ (n : Nat) (ds : List D), (enumD' n ds).length = ds.length
  | _, [] => rfl
  | n, d :: ds => by simp [enumD', enumD'_length (n + 1) ds]
theorem enumD'_get : ∀ (n : Nat) (ds : List D) (i : Nat) (d : D), ds[i]? = some d → (enumD' n ds)[i]? = some (.tup [.int ((n + i : Nat) : Int), d])
  | _, [], _, _, h => by simp at h
  | n, x :: ds, 0, d, h => by simp at h; subst h; simp [enumD']
  | n, x :: ds, i + 1, d, h => by
    simp at h
    simp only [enumD', List.getElem?_cons_succ]
    rw [enumD'_get (n + 1) ds i d h]
    congr 4
    omega
theorem wk_enum {ts : List Expr} {kk : Nat} {tpos p : Pos} {ds : List D} (hm : X.mg "enumerate" = none) (h : EX X E e Γ (.lst ds)) (hg : Gl X "enumerate" := by (show PySem.Env.kindOf _ _ = _); kernel_rfl) (hs : noStar e = true := by exact rfl) {n : Str} (hn : n = "enumerate" := by exact rfl) : WK X E (.Tuple ts kk tpos) (.Call (.Name n p) [e] [] pos) Γ (enumD' 0 ds) := ⟨fun σ G H R v k => by
  subst hn
  refine iW_of (pi_enum hg hm pa_W (starEach_one hs)) ((ea_cons h ea_nil hs).run v fun us G1 H1 v1 x1 r1 => ?_)
  cases r1 with
  | cons r t =>
    cases t
    cases r with
    | lst q r =>
      rename_i a vs
      refine ⟨a, vs, rfl, SqL.of (x1.sub _ _ q), k _ G1 H1 x1 ⟨fun i G2 H2 s1 s2 hi => ?_, fun i G2 H2 s1 s2 hi => ?_, fun i G2 H2 x H' s1 s2 y hi => ?_⟩⟩
      · rw [enumD'_length] at hi
        exact ⟨vs, vs[i]'(by rw [← r.length]; exact hi), SqL.of (s2 _ _ (s1 _ _ q)), List.getElem?_eq_getElem _⟩
      · rw [enumD'_length] at hi
        exact ⟨vs, SqL.of (s2 _ _ (s1 _ _ q)), by rw [← r.length]; exact hi⟩
      · obtain ⟨T, w, rfl, hT, rfl, y⟩ := y
        have z := y vs (SqL.of (s2 _ _ (s1 _ _ q)))
        obtain ⟨d, hd, rd⟩ := r.get' z
        have xx : Ext X.K G2 H2 (upd G2 T (.tup [.int (i : Nat), w])) (upd H2 T (.tup [.int (i : Nat), w])) := .new s2 hT
        refine ⟨_, .tup [.int (i : Nat), d], by have := enumD'_get 0 ds i d hd; rwa [Nat.zero_add] at this, xx, .tup (.inl (.inl upd_same)) (.cons (.int _) (.cons ((rd.mono s1).mono xx.g) .nil))⟩⟩

/-! ### for -/
theorem sx_for {tg iter : Expr} {body : List Stmt} {ds : List D} (w : WK X E tg iter Γ ds) (P : Nat → List Sl → Prop) (h0 : P 0 Γ)
    (hs : ∀ (i : Nat) (d : D) (Γ' : List Sl), ds[i]? = some d → P i Γ' → ∃ Γ2, TGX X E tg d Γ' Γ2 ∧ SXs X E body ⟨P (i + 1), N.rt, N.nx, P (i + 1)⟩ Γ2) (hd : ∀ Γ', P ds.length Γ' → N.nx Γ')
    (hc : X.calm = true) (hp : PassesOwn (model X.prog X.w) X.A X.env X.xe := by exact PassesOwn.never) (hf : notSet iter = true := by exact rfl) : SX X E (.For tg iter body [] pos) N Γ := ⟨fun σ G H Dn v r => by
  refine sW_of (ps_for hp hc pi_W pg_W pss_W fun _ => noFold hf) (w.w σ G H _ v fun J G1 H1 x1 jk => ?_)
  refine ⟨fun i m σ' H' => m = ds.length - i ∧ i ≤ ds.length ∧ ∃ Γ' G', Same G1 G' ∧ Env X.K E Γ' σ' G' H' ∧ P i Γ', ⟨ds.length, by simp, Nat.zero_le _, Γ, G1, Same.refl _, v.mono x1, h0⟩, ?_⟩
  rintro i m σ' H' ⟨rfl, hi, Γ', G', sg, v', p⟩
  by_cases hlt : i < ds.length
  · refine .inr ⟨jk.go i G' H' sg v'.sub hlt, fun σ2 H2 => ∃ Γ' G', Same G1 G' ∧ Env X.K E Γ' σ2 G' H2 ∧ P (i + 1) Γ', fun σ2 H2 q => ⟨ds.length - (i + 1), by omega, rfl, hlt, q⟩, fun x H2 y => ?_⟩
    obtain ⟨G2, d, hd', x2, rd⟩ := jk.yld i G' H' x H2 sg v'.sub y hlt
    obtain ⟨Γ2, t, b⟩ := hs i d Γ' hd' p
    refine t.w σ' G2 H2 x _ (v'.mono x2) rd fun σ3 w3 => ?_
    have sg2 : Same G1 G2 := sg.trans x2.g
    refine b.w σ3 G2 H2 _ w3 ⟨fun Γ4 σ4 G4 H4 s4 w4 p4 => ⟨Γ4, G4, sg2.trans s4, w4, p4⟩, fun d4 u4 Γ4 σ4 G4 H4 s4 w4 => r.rt d4 u4 Γ4 σ4 G4 H4 ((x1.g.trans sg2).trans s4) w4, fun Γ4 σ4 G4 H4 s4 w4 p4 => r.nx Γ4 σ4 G4 H4 ((x1.g.trans sg2).trans s4) w4 p4, fun Γ4 σ4 G4 H4 s4 w4 p4 => ⟨Γ4, G4, sg2.trans s4, w4, p4⟩⟩
  · have e : i = ds.length := by omega
    subst e
    exact .inl ⟨jk.stop _ G' H' sg v'.sub (Nat.le_refl _), r.nx Γ' σ' G' H' (x1.g.trans sg) v' (hd Γ' p)⟩⟩
theorem sx_while {body : List Stmt} (P : Nat → List Sl → Prop) (m0 : Nat) (h0 : P m0 Γ)
    (hs : ∀ (m : Nat) (Γ' : List Sl), P m Γ' → ∃ b, ET X E c Γ' b ∧ (b = true → SXs X E body ⟨fun Γ2 => ∃ m', m' < m ∧ P m' Γ2, N.rt, N.nx, fun Γ2 => ∃ m', m' < m ∧ P m' Γ2⟩ Γ') ∧ (b = false → N.nx Γ'))
    (hp : PassesOwn (model X.prog X.w) X.A X.env X.xe := by exact PassesOwn.never) : SX X E (.While c body [] pos) N Γ := ⟨fun σ G H Dn v r => by
  refine sW_of (ps_while hp pt_W pss_W) ⟨fun m σ' H' => ∃ Γ' G', Same G G' ∧ Env X.K E Γ' σ' G' H' ∧ P m Γ', ⟨m0, Γ, G, Same.refl _, v, h0⟩, ?_⟩
  rintro m σ' H' ⟨Γ', G', sg, v', p⟩
  obtain ⟨b, t, h1, h2⟩ := hs m Γ' p
  refine t.run v' fun G2 H2 v2 x2 => ?_
  have sg2 := sg.trans x2.g
  cases b with
  | true =>
    refine iteT ⟨fun σ3 H3 => ∃ m', m' < m ∧ ∃ Γ' G', Same G G' ∧ Env X.K E Γ' σ3 G' H3 ∧ P m' Γ', fun σ3 H3 q => q, ?_⟩
    refine (h1 rfl).w σ' G2 H2 _ v2 ⟨fun Γ4 σ4 G4 H4 s4 w4 p4 => ?_, fun d4 u4 Γ4 σ4 G4 H4 s4 w4 => r.rt d4 u4 Γ4 σ4 G4 H4 (sg2.trans s4) w4, fun Γ4 σ4 G4 H4 s4 w4 p4 => r.nx Γ4 σ4 G4 H4 (sg2.trans s4) w4 p4, fun Γ4 σ4 G4 H4 s4 w4 p4 => ?_⟩
    · obtain ⟨m', hm, p5⟩ := p4; exact ⟨m', hm, Γ4, G4, sg2.trans s4, w4, p5⟩
    · obtain ⟨m', hm, p5⟩ := p4; exact ⟨m', hm, Γ4, G4, sg2.trans s4, w4, p5⟩
  | false => exact iteF (r.nx Γ' σ' G2 H2 sg2 v2 (h2 rfl))⟩

/-! ### comprehensions -/
def tsW (X : Cx) (ifs : List Expr) : TT := fun σ H Q => ∃ t, PTs X ifs t ∧ t σ H Q
theorem pts_W {ifs : List Expr} : PTs X ifs (tsW X ifs) := ⟨fun pins s σ H Q I ⟨t, h, q⟩ => h.run pins s σ H Q I q⟩
structure ETs (X : Cx) (E : En) (ifs : List Expr) (Γ : List Sl) (b : Bool) : Prop where
  w : ∀ (σ : L2.St) (G H : Hp) (Q : Bool → Hp → Prop), Env X.K E Γ σ G H → (∀ G' H', Ext X.K G H G' H' → Q b H') → tsW X ifs σ H Q
theorem ets_nil : ETs X E [] Γ true := ⟨fun σ G H Q v k => ⟨_, pts_nil, k G H (.refl v.sub)⟩⟩
theorem ets_one (h : ET X E c Γ b) : ETs X E [c] Γ b := ⟨fun σ G H Q v k => ⟨_, pts_one pt_W, h.run v fun G1 H1 v1 x1 => k G1 H1 x1⟩⟩
end

section
variable {X : Cx} {E : En} {Γ : List Sl}
theorem wipe_set (σ : L2.St) (j : Nat) (x : Option V) : wipe ((wipe σ [j]).set j x) [j] = wipe σ [j] := by
  show (((σ.set j none).set j x).set j none) = σ.set j none
  rw [List.set_set, List.set_set]
/-- the reading of a comprehension of one for, its target a name in slot j -/
theorem lc_read {elt tg iter : Expr} {ifs : List Expr} {wi : TI} {tt : TT} {te : TE} {j : Nat} {ds : List D} {keep : D → Bool} {f : D → D} {σ : L2.St} {G H : Hp} {Q : VK} (v : Env X.K E Γ σ G H) (hds : ds.length ≤ sizeLine)
    (w : ∀ (R : It → Hp → Prop), (∀ J G' H', Ext X.K G H G' H' → JOk X.K J ds G' → R J H') → wi σ H R)
    (ht : ∀ (i : Nat) (d : D) (σ : L2.St) (G H : Hp) (Q : Bool → Hp → Prop), ds[i]? = some d → Env X.K E (Γ.set j (.im d)) σ G H → (∀ G' H', Ext X.K G H G' H' → Q (keep d) H') → tt σ H Q)
    (he : ∀ (i : Nat) (d : D) (σ : L2.St) (G H : Hp) (Q : VK), ds[i]? = some d → keep d = true → Env X.K E (Γ.set j (.im d)) σ G H → (∀ u G' H', Ext X.K G H G' H' → Rep X.K G' (f d) u → Q u H') → te σ H Q)
    (k : ∀ p o G' H', Ext X.K G H G' H' → H p = none → H' p = some o → G' p = none → OwnOk X.K G' (.ol ((ds.filter keep).map f)) o → Q (.ref p) H') : tLc wi (gName j) tt te [j] σ H Q := by
  refine w _ fun J G1 H1 x1 jk => fun D0 hD => ?_
  have hD0 : H D0 = none := x1.h.free hD
  have hg1 : G1 D0 = none := x1.sub.free hD
  have x2 : Ext X.K G1 H1 G1 (upd H1 D0 (.lst [])) := .newOwn x1.sub hD
  refine ⟨fun i m H' => m = ds.length - i ∧ i ≤ ds.length ∧ ∃ G' vs, Ext X.K G H G' H' ∧ Same G1 G' ∧ H' D0 = some (.lst vs) ∧ G' D0 = none ∧ Reps X.K G' (((ds.take i).filter keep).map f) vs,
    ⟨ds.length, by simp, Nat.zero_le _, G1, [], x1.trans x2, Same.refl _, upd_same, hg1, by simp; exact .nil⟩, ?_⟩
  rintro i m H' ⟨rfl, hi, G', vs, x3, sg, hD', hgD, rs⟩
  by_cases hlt : i < ds.length
  · refine .inr ⟨jk.go i G' H' sg x3.sub hlt, fun H2 => ∃ G' vs, Ext X.K G H G' H2 ∧ Same G1 G' ∧ H2 D0 = some (.lst vs) ∧ G' D0 = none ∧ Reps X.K G' (((ds.take (i + 1)).filter keep).map f) vs, fun H2 q => ⟨ds.length - (i + 1), by omega, rfl, hlt, q⟩, fun x H2 y => ?_⟩
    obtain ⟨G2, d, hd, x4, rd⟩ := jk.yld i G' H' x H2 sg x3.sub y hlt
    have x5 := x3.trans x4
    have v5 : Env X.K E (Γ.set j (.im d)) ((wipe σ [j]).set j (some x)) G2 H2 := by
      have w5 := ((v.mono x5).forget (i := j) (x := none)).setIm (i := j) rd
      rw [List.set_set] at w5
      exact w5
    have tk : ds.take (i + 1) = ds.take i ++ [d] := by
      rw [List.take_succ, hd]; rfl
    show _ ∧ _
    refine ⟨wipe_set _ _ _, ht i d _ G2 H2 _ hd v5 fun G3 H3 x6 => ?_⟩
    by_cases hk : keep d = true
    · rw [if_pos hk]
      refine he i d _ G3 H3 _ hd hk (v5.mono x6) fun u G4 H4 x7 r7 => ?_
      have x8 := x4.trans (x6.trans x7)
      have g4 := x8.fr _ _ hD' hgD
      refine ⟨vs, x8.h.at hD', ?_, G4, vs ++ [u], ?_, sg.trans x8.g, upd_same, g4, ?_⟩
      · have e := rs.length
        rw [List.length_map] at e
        have l1 := List.length_filter_le keep (ds.take i)
        rw [List.length_take] at l1
        omega
      · have x9 := x3.trans x8
        refine ⟨x9.g, x9.h.own hD0 (x8.h.at hD'), fun b o q => ?_, x9.fr⟩
        · have hb : b ≠ D0 := fun z => by subst z; rw [g4] at q; cases q
          rw [upd_ne hb]; exact x9.sub b o q
      · rw [tk, List.filter_append, List.map_append]
        refine (rs.mono x8.g).append ?_
        have : List.filter keep [d] = [d] := by simp [hk]
        rw [this]
        exact .cons r7 .nil
    · rw [if_neg hk]
      have x8 := x4.trans x6
      refine ⟨G3, vs, x3.trans x8, sg.trans x8.g, x8.h.at hD', x8.fr _ _ hD' hgD, ?_⟩
      rw [tk, List.filter_append, List.map_append]
      have : List.filter keep [d] = [] := by simp [hk]
      rw [this]
      simpa using rs.mono x8.g
  · have e : i = ds.length := by omega
    subst e
    refine .inl ⟨jk.stop _ G' H' sg x3.sub (Nat.le_refl _), k D0 _ G' H' x3 hD0 hD' hgD ⟨vs, rfl, ?_⟩⟩
    rw [List.take_length] at rs
    exact rs

variable {elt iter : Expr} {n : Str} {npos pos : Pos} {ifs : List Expr} {scope : Scope}
theorem eo_comp {ds : List D} (j : Nat) (keep : D → Bool) (f : D → D) (hi : WK X E (.Name n npos) iter Γ ds)
    (ht : ∀ (s : Shared) (H : Hp) (C : Addr) (cl : List (Str × Addr)) (fp : List Addr) (i : Nat) (d : D), ds[i]? = some d → ETs (X.blk s H scope (compEnvC scope cl C X.env) fp) E ifs (Γ.set j (.im d)) (keep d))
    (he : ∀ (s : Shared) (H : Hp) (C : Addr) (cl : List (Str × Addr)) (fp : List Addr) (i : Nat) (d : D), ds[i]? = some d → keep d = true → EX (X.blk s H scope (compEnvC scope cl C X.env) fp) E elt (Γ.set j (.im d)) (f d))
    (hN : X.N.Nodup := by assumption) (hds : ds.length ≤ sizeLine) (hc : X.calm = true := by exact rfl) (ok : BlkOk X.N X.env.scope scope [(n, j)] := by exact blkOk_by (by decide +kernel))
    (hg : ∀ (s : Shared) (H : Hp) (C : Addr) (cl : List (Str × Addr)) (fp : List Addr), PG (X.blk s H scope (compEnvC scope cl C X.env) fp) (.Name n npos) (gName j)) (hs : notSet iter = true := by exact rfl) :
    EO X E (.ListComp elt [⟨.Name n npos, iter, ifs, 0⟩] scope pos) Γ (.ol ((ds.filter keep).map f)) := ⟨fun σ G H Q v k =>
  eW_of (pe_lc (own := [(n, j)]) (tt := fun σ H Q => ∀ s H0 C cl fp, tsW (X.blk s H0 scope (compEnvC scope cl C X.env) fp) ifs σ H Q) (te := fun σ H Q => ∀ s H0 C cl fp, eW (X.blk s H0 scope (compEnvC scope cl C X.env) fp) elt σ H Q) hc hN pi_W ok hg
    (fun s H0 C cl fp => ⟨fun pins s2 σ2 H2 Q2 I2 h2 => pts_W.run pins s2 σ2 H2 Q2 I2 (h2 s H0 C cl fp)⟩) (fun s H0 C cl fp => ⟨fun pins s2 σ2 H2 Q2 I2 h2 => pe_W.run pins s2 σ2 H2 Q2 I2 (h2 s H0 C cl fp)⟩) (fun _ => noFold hs))
    (lc_read (elt := elt) (iter := iter) (tg := .Name n npos) (ifs := ifs) v hds (fun R kk => hi.w σ G H R v kk) (fun i d σ2 G2 H2 Q2 hd v2 k2 s H0 C cl fp => (ht s H0 C cl fp i d hd).w σ2 G2 H2 Q2 v2 k2)
      (fun i d σ2 G2 H2 Q2 hd hk v2 k2 s H0 C cl fp => EX.run (he s H0 C cl fp i d hd hk) v2 fun u G3 H3 v3 x3 r3 => k2 u G3 H3 x3 r3) k)⟩
theorem sx_setC {m : Str} {py spos : Pos} {N : N4} {ds : List D} (y : Nat) (j : Nat) (keep : D → Bool) (f : D → D) (hi : WK X E (.Name n npos) iter Γ ds)
    (ht : ∀ (s : Shared) (H : Hp) (C : Addr) (cl : List (Str × Addr)) (fp : List Addr) (i : Nat) (d : D), ds[i]? = some d → ETs (X.blk s H scope (compEnvC scope cl C X.env) fp) E ifs (Γ.set j (.im d)) (keep d))
    (he : ∀ (s : Shared) (H : Hp) (C : Addr) (cl : List (Str × Addr)) (fp : List Addr) (i : Nat) (d : D), ds[i]? = some d → keep d = true → EX (X.blk s H scope (compEnvC scope cl C X.env) fp) E elt (Γ.set j (.im d)) (f d))
    (p : N.nx (Γ.set y (.ol ((ds.filter keep).map f)))) (hN : X.N.Nodup := by assumption) (hds : ds.length ≤ sizeLine)
    (hg : ∀ (s : Shared) (H : Hp) (C : Addr) (cl : List (Str × Addr)) (fp : List Addr), PG (X.blk s H scope (compEnvC scope cl C X.env) fp) (.Name n npos) (gName j))
    (hsw : swapsWith (.ListComp elt [⟨.Name n npos, iter, ifs, 0⟩] scope pos) (some (.Name m py)) spos.line X.env = pure true)
    (hc : X.calm = true := by exact rfl) (hy : X.N[y]? = some m := by exact rfl) (hyl : X.env.scope.names.lookup m = some .local := by kernel_rfl)
    (ok : BlkOk X.N X.env.scope scope [(n, j)] := by exact blkOk_by (by decide +kernel)) (hs : notSet iter = true := by exact rfl) :
    SX X E (.Assign [.Name m py] (.ListComp elt [⟨.Name n npos, iter, ifs, 0⟩] scope pos) spos) N Γ := ⟨fun σ G H Dn v r =>
  sW_of (ps_setLc (own := [(n, j)]) (tt := fun σ H Q => ∀ s H0 C cl fp, tsW (X.blk s H0 scope (compEnvC scope cl C X.env) fp) ifs σ H Q) (te := fun σ H Q => ∀ s H0 C cl fp, eW (X.blk s H0 scope (compEnvC scope cl C X.env) fp) elt σ H Q) hc hN hy hyl hsw pi_W ok hg
    (fun s H0 C cl fp => ⟨fun pins s2 σ2 H2 Q2 I2 h2 => pts_W.run pins s2 σ2 H2 Q2 I2 (h2 s H0 C cl fp)⟩) (fun s H0 C cl fp => ⟨fun pins s2 σ2 H2 Q2 I2 h2 => pe_W.run pins s2 σ2 H2 Q2 I2 (h2 s H0 C cl fp)⟩) (fun _ => noFold hs))
    (lc_read (elt := elt) (iter := iter) (tg := .Name n npos) (ifs := ifs) v hds (fun R kk => hi.w σ G H R v kk) (fun i d σ2 G2 H2 Q2 hd v2 k2 s H0 C cl fp => (ht s H0 C cl fp i d hd).w σ2 G2 H2 Q2 v2 k2)
      (fun i d σ2 G2 H2 Q2 hd hk v2 k2 s H0 C cl fp => EX.run (he s H0 C cl fp i d hd hk) v2 fun u G3 H3 v3 x3 r3 => k2 u G3 H3 x3 r3)
      fun a o G1 H1 x1 ha h1 hg1 ok1 => r.nx _ _ G1 H1 x1.g (own_new v x1 ha h1 hg1 ok1 rfl rfl y) p)⟩
end

/-! ### a def by its body -/
section
variable {P : Program} {w : World} {K : PySem.W.Frag} {mg : Str → Option Value} {base : Heap} {x qual : Str} {params : Arguments} {body : List Stmt} {scope : Scope} {f : Addr} {fd : FuncData}
theorem env_start {X : Cx} {N : List Str} {vs : List V} {ds : List D} {G H : Hp} (s : Same G H) (tb : TabsG K G H) (r : Reps K G ds vs) (hl : ds.length ≤ N.length) : Env K ⟨G, H, none⟩ (ds.map .im ++ List.replicate (N.length - ds.length) .un) (L2.start N vs) G H := by
  refine ⟨?_, fun i t y h1 h2 => ?_, fun i j t u a h1 h2 h3 h4 => ?_, Same.refl G, s, fun b o h _ _ => h, fun b o _ h => h, (fun a h => nomatch h), fun b h => h, tb⟩
  · unfold L2.start
    simp only [List.length_append, List.length_map, List.length_replicate, r.length]
  · by_cases hi : i < ds.length
    · rw [List.getElem?_append_left (by simpa using hi), List.getElem?_map] at h1
      unfold L2.start at h2
      rw [List.getElem?_append_left (by rw [List.length_map, ← r.length]; exact hi), List.getElem?_map] at h2
      cases e : ds[i]? with
      | none => rw [e] at h1; cases h1
      | some d =>
        rw [e] at h1; cases h1
        obtain ⟨v, hv, rv⟩ := r.get e
        rw [hv] at h2; cases h2
        exact ⟨v, rfl, rv⟩
    · rw [List.getElem?_append_right (by simpa using Nat.le_of_not_lt hi), List.getElem?_replicate] at h1
      split at h1
      · cases h1; trivial
      · cases h1
  · exfalso
    by_cases hi : i < ds.length
    · rw [List.getElem?_append_left (by simpa using hi), List.getElem?_map] at h1
      cases e : ds[i]? with
      | none => rw [e] at h1; cases h1
      | some d => rw [e] at h1; cases h1; cases h3
    · rw [List.getElem?_append_right (by simpa using Nat.le_of_not_lt hi), List.getElem?_replicate] at h1
      split at h1
      · cases h1; cases h3
      · cases h1
theorem Env.ext {E : En} {Γ : List Sl} {σ : L2.St} {G H : Hp} (v : Env K E Γ σ G H) (hm : E.m = none) : Ext K E.G E.H G H := ⟨v.g, ⟨fun b o h n => v.h b o h (by rw [hm]; intro z; cases z) n, v.hf, fun _ => v.tb.1⟩, v.sub, v.fr⟩
/-- THE RULE: a def keeps its specification -/
theorem fn_ok {N ps : List Str} {k : Nat} {S : Spec} (F : FunD K x qual params body scope [] [] f fd) (sc : FnScope N ps scope) (hl : ∀ ds Φ, S ds Φ → ds.length = ps.length)
    (hb : ∀ (cdv : Value) (A : Around) (outer : List PySem.Env) (s : Shared) (H : Hp) (Ew : XK) (E : En) (ds : List D) (Φ : D → Prop), Room k (A.deeper (envOfC qual scope s.heap.objs.size f cdv)) → S ds Φ →
      SXs (cxOf CX0 P w K mg base N qual scope f cdv A outer s H Ew).nox E body ⟨fun _ => Φ .non, fun d _ => Φ d, fun _ => False, fun _ => False⟩ (ds.map .im ++ List.replicate (N.length - ds.length) .un)) : FnOk P w K mg base CX0 (k + 1) f fd ps (spD K S) := by
  have hpn : ps.length ≤ N.length := by have := congrArg List.length sc.pre; rw [List.length_take] at this; omega
  refine F.ok sc (fun vs H Q Ew h => ?_) (fun cdv A outer s H vs Q Ew hr h => ?_)
  · obtain ⟨G, ds, Φ, _, _, r, q, _⟩ := h
    rw [← r.length]; exact hl ds Φ q
  · obtain ⟨G, ds, Φ, sg, tb, r, q, k2⟩ := h
    refine ⟨_, PSs.nox pss_W, ?_⟩
    have v0 := env_start (X := (cxOf CX0 P w K mg base N qual scope f cdv A outer s H Ew).nox) (N := N) sg tb r (by rw [hl ds Φ q]; exact hpn)
    exact (hb cdv A outer s H Ew ⟨G, H, none⟩ ds Φ hr q).w _ G H _ v0 ⟨fun Γ σ G' H' _ v' n => k2 .non .non G' H' n (v'.ext rfl) .non, fun d u Γ σ G' H' _ v' r' n => k2 d u G' H' n (v'.ext rfl) r', fun Γ σ G' H' _ v' n => n, fun Γ σ G' H' _ v' n => n⟩
end
end DL
set_option maxHeartbeats 2000000
/-! DL4: what a caller knows of a def, a method -/
namespace DL
open PySem PySem.Spec PyProof.Rows L2
section
variable {P : Program} {w : World} {K : PySem.W.Frag} {mg : Str → Option Value} {base : Heap}
/-- the module's def n keeps S, by at most level k -/
structure Cal (P : Program) (w : World) (K : PySem.W.Frag) (mg : Str → Option Value) (base : Heap) (n : Str) (k : Nat) (ps : List Str) (S : Spec) : Prop where
  ex : ∃ (f : Addr) (fd : FuncData), FnOk P w K mg base CX0 k f fd ps (spD K S) ∧ mg n = some (.ref f) ∧ PySem.W.keepIn K (.ref f) = true ∧ Binds K fd ps []
/-- the method m of the class c -/
structure CalM (P : Program) (w : World) (K : PySem.W.Frag) (mg : Str → Option Value) (base : Heap) (c m : Str) (k : Nat) (ps : List Str) (S : Spec) : Prop where
  ex : ∃ (f : Addr) (fd : FuncData), FnOk P w K mg base CX0 k f fd ps (spD K S) ∧ Cls K (He.ga K c) ∧ Meth K (He.ga K c) m f ∧ Binds K fd ps []
theorem cal_mk {n qual : Str} {params : Arguments} {body : List Stmt} {scope : Scope} {N ps : List Str} {S : Spec} (k : Nat) (d : ∃ fd, FunD K n qual params body scope [] [] (He.ga K n) fd) (g : mg n = some (.ref (He.ga K n))) (sc : FnScope N ps scope)
    (bi : ∀ (kV doc pm : Value) (an : Option Addr) (cdv ct : Value) (us : List Value), us.length = ps.length → bindArgs (PySem.W.fnOf n qual params body scope .none kV doc pm an cdv ct) ⟨us, []⟩ = pure (ps.zip us)) (hl : ∀ ds Φ, S ds Φ → ds.length = ps.length)
    (hb : ∀ (cdv : Value) (A : Around) (outer : List PySem.Env) (s : Shared) (H : Hp) (Ew : XK) (E : En) (ds : List D) (Φ : D → Prop), Room k (cxOf CX0 P w K mg base N qual scope (He.ga K n) cdv A outer s H Ew).nox.A → (cxOf CX0 P w K mg base N qual scope (He.ga K n) cdv A outer s H Ew).nox.N.Nodup → S ds Φ →
      SXs (cxOf CX0 P w K mg base N qual scope (He.ga K n) cdv A outer s H Ew).nox E body ⟨fun _ => Φ .non, fun d _ => Φ d, fun _ => False, fun _ => False⟩ (ds.map .im ++ List.replicate (N.length - ds.length) .un)) : Cal P w K mg base n (k + 1) ps S := by
  obtain ⟨fd, F⟩ := d
  exact ⟨_, fd, fn_ok F sc hl fun cdv A outer s H Ew E ds Φ hr => hb cdv A outer s H Ew E ds Φ hr sc.nd, g, F.kp, F.bindsN bi⟩
theorem calM_mk {c m qual : Str} {params : Arguments} {body : List Stmt} {scope : Scope} {N ps : List Str} {S : Spec} {f : Addr} (k : Nat) (d : ∃ fd, FunD K m qual params body scope [] [] f fd) (c1 : Cls K (He.ga K c)) (g : Meth K (He.ga K c) m f) (sc : FnScope N ps scope)
    (bi : ∀ (kV doc pm : Value) (an : Option Addr) (cdv ct : Value) (us : List Value), us.length = ps.length → bindArgs (PySem.W.fnOf m qual params body scope .none kV doc pm an cdv ct) ⟨us, []⟩ = pure (ps.zip us)) (hl : ∀ ds Φ, S ds Φ → ds.length = ps.length)
    (hb : ∀ (cdv : Value) (A : Around) (outer : List PySem.Env) (s : Shared) (H : Hp) (Ew : XK) (E : En) (ds : List D) (Φ : D → Prop), Room k (cxOf CX0 P w K mg base N qual scope f cdv A outer s H Ew).nox.A → (cxOf CX0 P w K mg base N qual scope f cdv A outer s H Ew).nox.N.Nodup → S ds Φ →
      SXs (cxOf CX0 P w K mg base N qual scope f cdv A outer s H Ew).nox E body ⟨fun _ => Φ .non, fun d _ => Φ d, fun _ => False, fun _ => False⟩ (ds.map .im ++ List.replicate (N.length - ds.length) .un)) : CalM P w K mg base c m (k + 1) ps S := by
  obtain ⟨fd, F⟩ := d
  exact ⟨_, fd, fn_ok F sc hl fun cdv A outer s H Ew E ds Φ hr => hb cdv A outer s H Ew E ds Φ hr sc.nd, c1, g, F.bindsN bi⟩
end
section
variable {X : Cx} {E : En} {e : Expr} {es : List Expr} {Γ : List Sl} {d : D} {Φ : D → Prop} {pos : Pos}
theorem exr_cal {k : Nat} {ps : List Str} {S : Spec} {n : Str} {p : Pos} (C : Cal X.prog X.w X.K X.mg X.base n k ps S) (hr : Room k X.A) (ha : EAR X E (e :: es) Γ fun ds => S ds Φ) (hg : Gl X n := by (show PySem.Env.kindOf _ _ = _); kernel_rfl) (hdb : (n == ("__debug__" : Str)) = false := by decide +kernel)
    (he : noStar e = true := by exact rfl) (hpl : es.all noStar = true := by exact rfl) : EXR X E (.Call (.Name n p) (e :: es) [] pos) Γ Φ := by
  obtain ⟨f, fd, F, g, kp, b⟩ := C.ex
  exact exr_call F hr g kp b ha hg hdb he hpl
theorem ex_cal {k : Nat} {ps : List Str} {S : Spec} {n : Str} {p : Pos} (C : Cal X.prog X.w X.K X.mg X.base n k ps S) (hr : Room k X.A) {ds : List D} (ha : EA X E (e :: es) Γ ds) (hS : S ds fun x => x = d) (hg : Gl X n := by (show PySem.Env.kindOf _ _ = _); kernel_rfl) (hdb : (n == ("__debug__" : Str)) = false := by decide +kernel)
    (he : noStar e = true := by exact rfl) (hpl : es.all noStar = true := by exact rfl) : EX X E (.Call (.Name n p) (e :: es) [] pos) Γ d := exr_cal C hr (ha.R hS) hg hdb he hpl
theorem exr_calM {k : Nat} {ps : List Str} {S : Spec} {m c : Str} {o : Expr} {apos : Pos} {fs : List (Str × D)} (C : CalM X.prog X.w X.K X.mg X.base c m k ps S) (hr : Room k X.A) (ho : EX X E o Γ (.ins c fs)) (ha : EAR X E (e :: es) Γ fun ds => S (.ins c fs :: ds) Φ) (hn : fs.lookup m = none := by exact rfl)
    (hst : noStar e = true := by exact rfl) (hpl : es.all noStar = true := by exact rfl) (hso : notSuper o = true := by exact rfl) (hlen : es.length < 28 := by decide) (hline : (apos.endLine == pos.line) = true := by exact rfl) : EXR X E (.Call (.Attribute o m apos) (e :: es) [] pos) Γ Φ := by
  obtain ⟨f, fd, F, c1, g, b⟩ := C.ex
  exact exr_meth c1 g F hr b ho hn ha hst hpl hso hlen hline
theorem exr_calM0 {k : Nat} {ps : List Str} {S : Spec} {m c : Str} {o : Expr} {apos : Pos} {fs : List (Str × D)} (C : CalM X.prog X.w X.K X.mg X.base c m k ps S) (hr : Room k X.A) (ho : EX X E o Γ (.ins c fs)) (hS : S [.ins c fs] Φ) (hn : fs.lookup m = none := by exact rfl) (hso : notSuper o = true := by exact rfl) (hline : (apos.endLine == pos.line) = true := by exact rfl) : EXR X E (.Call (.Attribute o m apos) [] [] pos) Γ Φ := by
  obtain ⟨f, fd, F, c1, g, b⟩ := C.ex
  exact exr_meth0 c1 g F hr b ho hn hS hso hline
end
/-- a row of written constants -/
def constD : Expr → Option D
  | .Constant (.int i) _ _ => some (.int i)
  | .Constant (.str x) _ _ => some (.str x)
  | .Constant (.bool b) _ _ => some (.bl b)
  | .Constant .none _ _ => some .non
  | _ => none
def constsD : List Expr → Option (List D)
  | [] => some []
  | e :: es => match constD e, constsD es with
    | some d, some ds => some (d :: ds)
    | _, _ => none
theorem ea_consts {X : Cx} {E : En} {Γ : List Sl} : ∀ {es : List Expr} {ds : List D} (h : constsD es = some ds := by exact rfl), EA X E es Γ ds
  | [], _, h => by cases h; exact ea_nil
  | e :: es, ds, h => by
    unfold constsD at h
    cases h1 : constD e with
    | none => rw [h1] at h; cases h
    | some d =>
      cases h2 : constsD es with
      | none => rw [h1, h2] at h; cases h
      | some ds' =>
        rw [h1, h2] at h
        cases h
        have q : EX X E e Γ d ∧ noStar e = true := by
          unfold constD at h1
          split at h1
          · cases h1; exact ⟨ex_int, rfl⟩
          · cases h1; exact ⟨ex_str, rfl⟩
          · cases h1; exact ⟨ex_bl, rfl⟩
          · cases h1; exact ⟨ex_non, rfl⟩
          · cases h1
        exact ea_cons q.1 (ea_consts h2) q.2
/-- a specification by a function on texts, ints .. -/
theorem Cal.up {P : Program} {w : World} {K : PySem.W.Frag} {mg : Str → Option Value} {base : Heap} {n : Str} {j k : Nat} {ps : List Str} {S : Spec} (C : Cal P w K mg base n j ps S) (h : j ≤ k) : Cal P w K mg base n k ps S := by
  obtain ⟨f, fd, F, g, kp, b⟩ := C.ex
  exact ⟨f, fd, F.mono h, g, kp, b⟩
end DL
set_option maxHeartbeats 2000000
/-! DL5: more rules: isinstance, texts, own lists read, several targets at once, fields stored, instances made, what is lent -/
namespace DL
open PySem PySem.Spec PyProof.Rows L2

section
variable {X : Cx} {E : En} {e e1 e2 e3 c : Expr} {es : List Expr} {Γ : List Sl} {d x y z : D} {Φ Φ' : D → Prop} {b : Bool} {pos apos cpos : Pos} {i j : Int} {N : N4} {sa sb sc : Str}

/-! ### isinstance -/
def tyD : D → Option String
  | .non => some "NoneType" | .bl _ => some "bool" | .int _ => some "int" | .str _ => some "str" | .lst _ => some "list" | .tup _ => some "tuple" | .dic _ => some "dict" | _ => none
theorem rep_ty {K : PySem.W.Frag} {G H : Hp} {v : V} {t : String} (s : Same G H) (r : Rep K G d v) (h : tyD d = some t) : TyX K H v (.type t) := by
  cases r with
  | non => cases h; exact .base .non
  | bl => cases h; exact .base (.bl _)
  | int => cases h; exact .base (.int _)
  | str => cases h; exact .base (.str _)
  | raw => cases h
  | ins => cases h
  | lst q r => cases h; exact .base (.lst (s _ _ q))
  | dic q r => cases h; exact .base (.dK (s _ _ q))
  | dit q r => cases h
  | tux q r => cases h
  | tup q r =>
    cases h
    rcases same_sqT s q with (q | ⟨o, q⟩) | ⟨o, its, n, q1, q2, _⟩
    · exact .base (.tup q)
    · exact .fTuple q
    · exact .kTuple q1 q2
theorem ex_isi {T t : String} {n : Str} {p : Pos} (hm : X.mg n = none) (ha : EX X E e1 Γ d) (hb : EX X E e2 Γ (.raw (.ty T))) (ht : tyD d = some t := by exact rfl) (hk : kitB t T = some b := by decide +kernel) (hv : bootBuiltins n = some (.builtin "isinstance") := by decide +kernel) (hg : Gl X n := by (show PySem.Env.kindOf _ _ = _); kernel_rfl)
    (hn : n ≠ "__name__" := by decide +kernel) (hdb : (n == ("__debug__" : Str)) = false := by decide +kernel) (he : noStar e1 = true := by exact rfl) (he2 : noStar e2 = true := by exact rfl) : EX X E (.Call (.Name n p) [e1, e2] [] pos) Γ (.bl b) :=
  exr_B call_isi hm (ea_cons ha (ea_cons hb ea_nil he2) he) (fun G H vs Q s r k => by
    cases r with
    | cons r t =>
      cases t with
      | cons r2 t =>
        cases t
        cases r2
        exact ⟨_, _, _, _, b, rfl, .ty T, rep_ty s r ht, kit_ty hk, k _ _ G H rfl (.refl s) (.bl _)⟩) hv hg hn hdb he (by simp [he2])

/-! ### methods of texts -/
theorem ex_m1 {id : String} {m : Str} {o : Expr} {r : V → List V → Hp → VK → Prop} (slot : Slot "str" m id) (ty : typeOf (.builtin id) = pure (.type "method_descriptor")) (rule : MtR X id r) (ho : EX X E o Γ (.str sa)) (ha : EX X E e Γ x)
    (hr : ∀ (G H : Hp) (v : V) (Q : VK), Same G H → Rep X.K G x v → (∀ t G' H', Ext X.K G H G' H' → Rep X.K G' z t → Q t H') → r (.str sa) [v] H Q)
    (he : noStar e = true := by exact rfl) (hso : notSuper o = true := by exact rfl) (hline : (apos.endLine == pos.line) = true := by exact rfl) : EX X E (.Call (.Attribute o m apos) [e] [] pos) Γ z :=
  ex_of (pe_m1 slot ty rule pe_W pe_W (starEach_one he) (attrBase hso) hline) fun σ G H Q v k => ho.run v fun u G1 H1 v1 x1 r1 => by
    cases r1
    exact ⟨⟨_, rfl⟩, ha.run v1 fun u2 G2 H2 v2 x2 r2 => hr G2 H2 u2 Q x2.sub r2 fun t G3 H3 x3 r3 => k t G3 H3 ((x1.trans x2).trans x3) r3⟩
theorem eo_split {o : Expr} (ho : EX X E o Γ (.str sa)) (ha : EX X E e Γ (.str sb)) (h1 : (sb.length == 0) = false := by decide) (h2 : sa.length + 2 ≤ sizeLine := by omega)
    (he : noStar e = true := by exact rfl) (hso : notSuper o = true := by exact rfl) (hline : (apos.endLine == pos.line) = true := by exact rfl) : EO X E (.Call (.Attribute o "split" apos) [e] [] pos) Γ (.ol ((Txt.split sa sb).map .str)) := ⟨fun σ G H Q v k =>
  eW_of (pe_split pe_W pe_W (starEach_one he) (attrBase hso) hline) (ho.run v fun u G1 H1 v1 x1 r1 => by
    cases r1
    refine ⟨⟨_, rfl⟩, ha.run v1 fun u2 G2 H2 v2 x2 r2 => ?_⟩
    cases r2
    refine ⟨_, _, rfl, rfl, h1, h2, fun p hp => ?_⟩
    have x3 := x1.trans x2
    exact k p _ G2 _ (x3.trans (.newOwn x2.sub hp)) (x3.h.free hp) upd_same (x2.sub.free hp) ⟨_, rfl, .strs⟩)⟩
theorem ex_join {o : Expr} {ys : List Str} (ho : EX X E o Γ (.str sa)) (ha : EX X E e Γ (.lst (ys.map .str))) (hl : (ys.map (·.length)).sum + ys.length * sa.length ≤ 16777216)
    (he : noStar e = true := by exact rfl) (hso : notSuper o = true := by exact rfl) (hline : (apos.endLine == pos.line) = true := by exact rfl) : EX X E (.Call (.Attribute o "join" apos) [e] [] pos) Γ (.str (Txt.join sa ys)) :=
  ex_of (pe_join pe_W pe_W (starEach_one he) (attrBase hso) hline) fun σ G H Q v k => ho.run v fun u G1 H1 v1 x1 r1 => by
    cases r1
    refine ⟨⟨_, rfl⟩, ha.run v1 fun u2 G2 H2 v2 x2 r2 => ?_⟩
    cases r2 with
    | lst q r =>
      have := r.of_strs; subst this
      exact ⟨_, _, ys, rfl, rfl, .inl (SqL.of (x2.sub _ _ q)), hl, k _ G2 H2 (x1.trans x2) (.str _)⟩
theorem ex_startswith {o : Expr} (ho : EX X E o Γ (.str sa)) (ha : EX X E e Γ (.str sb)) (he : noStar e = true := by exact rfl) (hso : notSuper o = true := by exact rfl) (hline : (apos.endLine == pos.line) = true := by exact rfl) : EX X E (.Call (.Attribute o "startswith" apos) [e] [] pos) Γ (.bl (Txt.startswith sa sb)) :=
  ex_m1 F.slot_str_startswith F.type_str_startswith mt_startswith ho ha (fun G H v Q s r k => by cases r; exact ⟨_, _, rfl, rfl, k _ G H (.refl s) (.bl _)⟩) he hso hline
theorem ex_endswith {o : Expr} (ho : EX X E o Γ (.str sa)) (ha : EX X E e Γ (.str sb)) (he : noStar e = true := by exact rfl) (hso : notSuper o = true := by exact rfl) (hline : (apos.endLine == pos.line) = true := by exact rfl) : EX X E (.Call (.Attribute o "endswith" apos) [e] [] pos) Γ (.bl (Txt.endswith sa sb)) :=
  ex_m1 F.slot_str_endswith F.type_str_endswith mt_endswith ho ha (fun G H v Q s r k => by cases r; exact ⟨_, _, rfl, rfl, k _ G H (.refl s) (.bl _)⟩) he hso hline
theorem ex_stripC {o : Expr} (ho : EX X E o Γ (.str sa)) (ha : EX X E e Γ (.str sb)) (hl : sa.length ≤ sizeLine := by omega) (he : noStar e = true := by exact rfl) (hso : notSuper o = true := by exact rfl) (hline : (apos.endLine == pos.line) = true := by exact rfl) : EX X E (.Call (.Attribute o "strip" apos) [e] [] pos) Γ (.str (Txt.stripChars sa sb)) :=
  ex_m1 F.slot_str_strip F.type_str_strip mt_stripChars ho ha (fun G H v Q s r k => by cases r; exact ⟨_, _, rfl, rfl, hl, k _ G H (.refl s) (.str _)⟩) he hso hline
theorem ex_rstripC {o : Expr} (ho : EX X E o Γ (.str sa)) (ha : EX X E e Γ (.str sb)) (hl : sa.length ≤ sizeLine := by omega) (he : noStar e = true := by exact rfl) (hso : notSuper o = true := by exact rfl) (hline : (apos.endLine == pos.line) = true := by exact rfl) : EX X E (.Call (.Attribute o "rstrip" apos) [e] [] pos) Γ (.str (Txt.rstripChars sa sb)) :=
  ex_m1 F.slot_str_rstrip F.type_str_rstrip mt_rstripChars ho ha (fun G H v Q s r k => by cases r; exact ⟨_, _, rfl, rfl, hl, k _ G H (.refl s) (.str _)⟩) he hso hline
/-- a slice of a text -/
theorem ex_sliceS {lo hi : Option Expr} {l h : Option Int} {p2 : Pos} (ha : EX X E e Γ (.str sa)) (hl : EPo X E lo Γ l) (hh : EPo X E hi Γ h) (hz : sa.length ≤ sizeLine := by omega) : EX X E (.Subscript e (.Slice lo hi none p2) pos) Γ (.str (cutS sa l h)) := ⟨fun σ G H Q v k => by
  have fin : ∀ (u : V) (G1 H1 G3 H3 : Hp), Ext X.K G H G1 H1 → Rep X.K G1 (.str sa) u → Ext X.K G1 H1 G3 H3 → rSlS u l h H3 Q := fun u G1 H1 G3 H3 x1 r1 x3 => by
    cases r1
    exact ⟨sa, rfl, hz, k _ _ G3 H3 rfl (x1.trans x3) (.str _)⟩
  cases lo with
  | none =>
    cases l with
    | some _ => exact hl.elim
    | none =>
      cases hi with
      | none =>
        cases h with
        | some _ => exact hh.elim
        | none => exact eW_of (pe_slice sl_str pe_W po_none po_none) (ha.run v fun u G1 H1 v1 x1 r1 => fin u G1 H1 G1 H1 x1 r1 (.refl x1.sub))
      | some eh =>
        cases h with
        | none => exact hh.elim
        | some ih => exact eW_of (pe_slice sl_str pe_W po_none (po_some pe_W)) (ha.run v fun u G1 H1 v1 x1 r1 => EX.run hh v1 fun u2 G2 H2 v2 x2 r2 => by
            cases r2; exact ⟨ih, rfl, fin u G1 H1 G2 H2 x1 r1 x2⟩)
  | some el =>
    cases l with
    | none => exact hl.elim
    | some il =>
      cases hi with
      | none =>
        cases h with
        | some _ => exact hh.elim
        | none => exact eW_of (pe_slice sl_str pe_W (po_some pe_W) po_none) (ha.run v fun u G1 H1 v1 x1 r1 => EX.run hl v1 fun u2 G2 H2 v2 x2 r2 => by
            cases r2; exact ⟨il, rfl, fin u G1 H1 G2 H2 x1 r1 x2⟩)
      | some eh =>
        cases h with
        | none => exact hh.elim
        | some ih => exact eW_of (pe_slice sl_str pe_W (po_some pe_W) (po_some pe_W)) (ha.run v fun u G1 H1 v1 x1 r1 => EX.run hl v1 fun u2 G2 H2 v2 x2 r2 => by
            cases r2; exact ⟨il, rfl, EX.run hh v2 fun u3 G3 H3 v3 x3 r3 => by cases r3; exact ⟨ih, rfl, fin u G1 H1 G3 H3 x1 r1 (x2.trans x3)⟩⟩)⟩
/-- a slice of a tuple: tuple[lo:], lo a written number -/
theorem ex_sliceT {xs : List D} {lo : Expr} {l : Int} {p2 : Pos} (ha : EX X E e Γ (.tup xs)) (hl : EX X E lo Γ (.int l)) : EX X E (.Subscript e (.Slice (some lo) none none p2) pos) Γ (.tup (cutD xs (some l) none)) :=
  ⟨fun σ G H Q v k => eW_of (pe_slice sl_tupA pe_W (po_some pe_W) po_none) (ha.run v fun u G1 H1 v1 x1 r1 => hl.run v1 fun u2 G2 H2 v2 x2 r2 => by
    cases r2
    refine ⟨l, rfl, ?_⟩
    cases r1 with
    | tup q r =>
      rename_i a vs
      refine ⟨a, vs, rfl, same_sqT x2.sub (same_sqT x2.g q), fun z => ?_, fun z p hp => ?_⟩
      · have e : cutD xs (some l) none = xs := by
          unfold cutD
          rw [r.length, z.1, z.2, List.drop_zero, Nat.sub_zero, ← r.length, List.take_length]
        rw [e] at k
        exact k _ _ G2 H2 rfl (x1.trans x2) (.tup (same_sqT x2.g q) (r.mono x2.g))
      · have xx : Ext X.K G2 H2 (upd G2 p (.tup (cutV vs (some l) none))) (upd H2 p (.tup (cutV vs (some l) none))) := .new x2.sub hp
        exact k _ _ _ _ rfl ((x1.trans x2).trans xx) (.tup (.inl (.inl upd_same)) (cut_reps ((r.mono x2.g).mono xx.g) _ _)))⟩
/-! ### an own list, read -/
section
variable {n : Str} {xs : List D}
theorem ex_lenO (k : Nat) {p npos : Pos} {m : Str} (hm : X.mg m = none) (hs : Γ[k]? = some (.ol xs) := by exact rfl) (hN : X.N[k]? = some n := by exact rfl) (hvis : Vis X.env.scope n := by exact Or.inl (by kernel_rfl)) (hd : (n == ("__debug__" : Str)) = false := by decide +kernel) (hcd : (n == ("__classdict__" : Str)) = false := by decide +kernel)
    (hv : bootBuiltins m = some (.builtin "len") := by decide +kernel) (hg : Gl X m := by (show PySem.Env.kindOf _ _ = _); kernel_rfl) (hn : m ≠ "__name__" := by decide +kernel) (hdb : (m == ("__debug__" : Str)) = false := by decide +kernel) : EX X E (.Call (.Name m p) [.Name n npos] [] pos) Γ (.int (xs.length : Int)) :=
  ex_of (pe_callB call_len_seq hg hm hv (pa_cons (pe_var hN hvis hd hcd) pa_nil rfl) hn hdb rfl rfl) fun σ G H Q v k => by
    obtain ⟨a, o, h1, h2, h3, vs, rfl, h4⟩ := own_ref v _ hs rfl
    exact ⟨_, h1, a, vs, rfl, .inl (SqL.of h2), by rw [← h4.length]; exact k _ G H (.refl v.sub) (.int _)⟩
theorem ex_ixO (k : Nat) {npos : Pos} (hi : EX X E e Γ (.int i)) (h : atI xs i = some z := by exact rfl) (hs : Γ[k]? = some (.ol xs) := by exact rfl) (hN : X.N[k]? = some n := by exact rfl) (hvis : Vis X.env.scope n := by exact Or.inl (by kernel_rfl)) (hd : (n == ("__debug__" : Str)) = false := by decide +kernel) (hcd : (n == ("__classdict__" : Str)) = false := by decide +kernel)
    (hsl : notSlice e = true := by exact rfl) : EX X E (.Subscript (.Name n npos) e pos) Γ z :=
  ex_of (pe_ix ix_list (pe_var hN hvis hd hcd) pe_W (plainIx hsl)) fun σ G H Q v k => by
    obtain ⟨a, o, h1, h2, h3, vs, rfl, h4⟩ := own_ref v _ hs rfl
    refine ⟨_, h1, hi.run v fun u G1 H1 v1 x1 r1 => ?_⟩
    cases r1
    obtain ⟨j, q1, q2⟩ := atI_map h4.length h
    obtain ⟨t, q3, r⟩ := h4.get q1
    exact ⟨a, vs, i, t, rfl, rfl, SqL.of (x1.h.at h2), q2 t q3, k t G1 H1 x1 (r.mono x1.g)⟩
theorem ex_inO (k : Nat) {npos : Pos} (ha : EX X E e1 Γ x) (hx : flatD x = true := by exact rfl) (hf : xs.all flatD = true := by exact rfl) (hs : Γ[k]? = some (.ol xs) := by exact rfl) (hN : X.N[k]? = some n := by exact rfl) (hvis : Vis X.env.scope n := by exact Or.inl (by kernel_rfl)) (hd : (n == ("__debug__" : Str)) = false := by decide +kernel) (hcd : (n == ("__classdict__" : Str)) = false := by decide +kernel) :
    EX X E (.Compare e1 [.In] [.Name n npos] pos) Γ (.bl (inF x xs)) :=
  ex_of (pe_cmpR op_in_seq pe_W (pe_var hN hvis hd hcd) (noMarks rfl)) fun σ G H Q v k => by
    obtain ⟨a, o, h1, h2, h3, vs, rfl, h4⟩ := own_ref v _ hs rfl
    refine ha.run v fun u G1 H1 v1 x1 r1 => ⟨_, h1, ?_⟩
    rw [rep_flat hx r1]
    have e := reps_flat hf h4
    subst e
    refine ⟨a, _, rfl, .inl (SqL.of (x1.h.at h2)), flat_toV hx, all_flat_toV hf, ?_⟩
    rw [inF_eq]
    exact k _ G1 H1 x1 (.bl _)
theorem eo_listO (k : Nat) {p npos : Pos} {m : Str} (hm : X.mg m = none) (hs : Γ[k]? = some (.ol xs) := by exact rfl) (hN : X.N[k]? = some n := by exact rfl) (hvis : Vis X.env.scope n := by exact Or.inl (by kernel_rfl)) (hd : (n == ("__debug__" : Str)) = false := by decide +kernel) (hcd : (n == ("__classdict__" : Str)) = false := by decide +kernel)
    (hv : bootBuiltins m = some (.type "list") := by decide +kernel) (hg : Gl X m := by (show PySem.Env.kindOf _ _ = _); kernel_rfl) (hn : m ≠ "__name__" := by decide +kernel) (hdb : (m == ("__debug__" : Str)) = false := by decide +kernel) : EO X E (.Call (.Name m p) [.Name n npos] [] pos) Γ (.ol xs) := ⟨fun σ G H Q v k =>
  eW_of (pe_callTy call_list_of hg hm hv (pa_cons (pe_var hN hvis hd hcd) pa_nil rfl) hn hdb rfl rfl) (by
    obtain ⟨a, o, h1, h2, h3, vs, rfl, h4⟩ := own_ref v _ hs rfl
    exact ⟨_, h1, a, vs, rfl, .inl (SqL.of h2), fun p hp => k p _ G _ (.newOwn v.sub hp) hp upd_same (v.sub.free hp) ⟨_, rfl, h4⟩⟩)⟩
theorem repk_keys {K : PySem.W.Frag} {G : Hp} : ∀ {kvs : List (Key × D)} {vs : List (Key × V)}, Repk K G kvs vs → Reps K G (kvs.map fun kv => ofKey kv.1) (vs.map fun kv => kV kv.1)
  | _, _, .nil => .nil
  | _, _, .cons (n := n) _ r => .cons (by cases n with | inl i => exact .int i | inr x => exact .str x) (repk_keys r)
/-- list(d) of an own dict: its keys -/
theorem eo_keysO (k : Nat) {p npos : Pos} {m : Str} {kvs : List (Key × D)} (hc : X.calm = true) (hm : X.mg m = none) (hs : Γ[k]? = some (.od kvs) := by exact rfl) (hN : X.N[k]? = some n := by exact rfl) (hvis : Vis X.env.scope n := by exact Or.inl (by kernel_rfl)) (hd : (n == ("__debug__" : Str)) = false := by decide +kernel) (hcd : (n == ("__classdict__" : Str)) = false := by decide +kernel)
    (hv : bootBuiltins m = some (.type "list") := by decide +kernel) (hg : Gl X m := by (show PySem.Env.kindOf _ _ = _); kernel_rfl) (hn : m ≠ "__name__" := by decide +kernel) (hdb : (m == ("__debug__" : Str)) = false := by decide +kernel) : EO X E (.Call (.Name m p) [.Name n npos] [] pos) Γ (.ol (kvs.map fun kv => ofKey kv.1)) := ⟨fun σ G H Q v k =>
  eW_of (pe_callTy (call_list_dK hc) hg hm hv (pa_cons (pe_var hN hvis hd hcd) pa_nil rfl) hn hdb rfl rfl) (by
    obtain ⟨a, o, h1, h2, h3, vs, rfl, h4⟩ := own_ref v _ hs rfl
    exact ⟨_, h1, a, vs, rfl, h2, fun p hp => k p _ G _ (.newOwn v.sub hp) hp upd_same (v.sub.free hp) ⟨_, rfl, repk_keys h4⟩⟩)⟩
end
end
end DL
set_option maxHeartbeats 2000000
/-! DL6: several targets at once; self's fields stored; instances made; methods that change self (EXM); what is lent -/
namespace DL
open PySem PySem.Spec PyProof.Rows L2

/-! ### values and own objects in a row -/
def MixOk (K : PySem.W.Frag) (H0 G H : Hp) : List Sl → List V → List Addr → Prop
  | [], [], [] => True
  | .im d :: ss, v :: vs, ps => Rep K G d v ∧ MixOk K H0 G H ss vs ps
  | .un :: _, _, _ => False
  | .me _ _ :: _, _, _ => False
  | s :: ss, v :: vs, p :: ps => s.isMe = false ∧ v = .ref p ∧ H0 p = none ∧ (∃ o, H p = some o ∧ OwnOk K G s o) ∧ G p = none ∧ p ∉ ps ∧ MixOk K H0 G H ss vs ps
  | _, _, _ => False
theorem MixOk.mono {K : PySem.W.Frag} {H0 G H G' H' : Hp} (e : Ext K G H G' H') : ∀ {ss : List Sl} {vs : List V} {ps : List Addr}, MixOk K H0 G H ss vs ps → MixOk K H0 G' H' ss vs ps
  | [], [], [], _ => trivial
  | .im d :: ss, v :: vs, ps, ⟨h1, h2⟩ => ⟨h1.mono e.g, MixOk.mono e h2⟩
  | .ol _ :: ss, v :: vs, p :: ps, ⟨h0, h1, h2, ⟨o, h3, h4⟩, h5, h6, h7⟩ => ⟨h0, h1, h2, ⟨o, e.h.at h3 h4.ntb, h4.mono e.g⟩, e.fr _ _ h3 h5, h6, MixOk.mono e h7⟩
  | .od _ :: ss, v :: vs, p :: ps, ⟨h0, h1, h2, ⟨o, h3, h4⟩, h5, h6, h7⟩ => ⟨h0, h1, h2, ⟨o, e.h.at h3 h4.ntb, h4.mono e.g⟩, e.fr _ _ h3 h5, h6, MixOk.mono e h7⟩
  | .ot _ :: ss, v :: vs, p :: ps, ⟨h0, h1, h2, ⟨o, h3, h4⟩, h5, h6, h7⟩ => ⟨h0, h1, h2, ⟨o, e.h.at h3 h4.ntb, h4.mono e.g⟩, e.fr _ _ h3 h5, h6, MixOk.mono e h7⟩
theorem MixOk.cons_own {K : PySem.W.Frag} {H0 G H : Hp} {s : Sl} {ss : List Sl} {v : V} {vs : List V} {p : Addr} {ps : List Addr} (hs : s.isOwn = true) (h : s.isMe = false ∧ v = .ref p ∧ H0 p = none ∧ (∃ o, H p = some o ∧ OwnOk K G s o) ∧ G p = none ∧ p ∉ ps ∧ MixOk K H0 G H ss vs ps) : MixOk K H0 G H (s :: ss) (v :: vs) (p :: ps) := by
  cases s with
  | un => cases hs
  | im => cases hs
  | ol => exact h
  | od => exact h
  | ot => exact h
  | me => cases h.1
theorem MixOk.fresh {K : PySem.W.Frag} {H0 G H : Hp} : ∀ {ss : List Sl} {vs : List V} {ps : List Addr}, MixOk K H0 G H ss vs ps → ∀ p ∈ ps, H0 p = none
  | [], [], [], _, p, h => by cases h
  | .im d :: ss, v :: vs, ps, ⟨h1, h2⟩, p, h => MixOk.fresh h2 p h
  | .ol _ :: ss, v :: vs, q :: ps, ⟨h0, h1, h2, _, h5, h6, h7⟩, p, h => by rcases List.mem_cons.mp h with rfl | h; exact h2; exact MixOk.fresh h7 p h
  | .od _ :: ss, v :: vs, q :: ps, ⟨h0, h1, h2, _, h5, h6, h7⟩, p, h => by rcases List.mem_cons.mp h with rfl | h; exact h2; exact MixOk.fresh h7 p h
  | .ot _ :: ss, v :: vs, q :: ps, ⟨h0, h1, h2, _, h5, h6, h7⟩, p, h => by rcases List.mem_cons.mp h with rfl | h; exact h2; exact MixOk.fresh h7 p h
theorem MixOk.from {K : PySem.W.Frag} {H0 H1 G H : Hp} (s : ∀ b, H1 b = none → H0 b = none) : ∀ {ss : List Sl} {vs : List V} {ps : List Addr}, MixOk K H1 G H ss vs ps → MixOk K H0 G H ss vs ps
  | [], [], [], _ => trivial
  | .im d :: ss, v :: vs, ps, ⟨h1, h2⟩ => ⟨h1, MixOk.from s h2⟩
  | .ol _ :: ss, v :: vs, p :: ps, ⟨h0, h1, h2, h3, h5, h6, h7⟩ => ⟨h0, h1, s _ h2, h3, h5, h6, MixOk.from s h7⟩
  | .od _ :: ss, v :: vs, p :: ps, ⟨h0, h1, h2, h3, h5, h6, h7⟩ => ⟨h0, h1, s _ h2, h3, h5, h6, MixOk.from s h7⟩
  | .ot _ :: ss, v :: vs, p :: ps, ⟨h0, h1, h2, h3, h5, h6, h7⟩ => ⟨h0, h1, s _ h2, h3, h5, h6, MixOk.from s h7⟩
theorem MixOk.length {K : PySem.W.Frag} {H0 G H : Hp} : ∀ {ss : List Sl} {vs : List V} {ps : List Addr}, MixOk K H0 G H ss vs ps → ss.length = vs.length
  | [], [], [], _ => rfl
  | .im d :: ss, v :: vs, ps, ⟨h1, h2⟩ => by simp [MixOk.length h2]
  | .ol _ :: ss, v :: vs, q :: ps, ⟨h0, h1, h2, _, h5, h6, h7⟩ => by simp [MixOk.length h7]
  | .od _ :: ss, v :: vs, q :: ps, ⟨h0, h1, h2, _, h5, h6, h7⟩ => by simp [MixOk.length h7]
  | .ot _ :: ss, v :: vs, q :: ps, ⟨h0, h1, h2, _, h5, h6, h7⟩ => by simp [MixOk.length h7]
def setG : List Sl → List Nat → List Sl → List Sl
  | Γ, i :: is, s :: ss => setG (Γ.set i s) is ss
  | Γ, _, _ => Γ
def setV : L2.St → List Nat → List V → L2.St
  | σ, i :: is, v :: vs => setV (σ.set i (some v)) is vs
  | σ, _, _ => σ
def FreshIn (E : En) (Γ : List Sl) (σ : L2.St) (ps : List Addr) : Prop := ∀ p ∈ ps, E.H p = none ∧ E.m ≠ some p ∧ ∀ (j : Nat) (t : Sl), Γ[j]? = some t → t.isOwn = true → σ[j]? ≠ some (some (.ref p))
theorem mix_env {K : PySem.W.Frag} {E : En} {H0 G H : Hp} : ∀ {ss : List Sl} {vs : List V} {ps : List Addr} {is : List Nat} {Γ : List Sl} {σ : L2.St}, Env K E Γ σ G H → FreshIn E Γ σ ps → MixOk K H0 G H ss vs ps → is.length = ss.length → Env K E (setG Γ is ss) (setV σ is vs) G H
  | [], [], [], is, Γ, σ, v, _, _, _ => by cases is <;> exact v
  | .im d :: ss, u :: vs, ps, i :: is, Γ, σ, v, f, ⟨h1, h2⟩, hl => by
    show Env K E (setG (Γ.set i (.im d)) is ss) (setV (σ.set i (some u)) is vs) G H
    refine mix_env (v.setIm h1) (fun p hp => ?_) h2 (by simpa using hl)
    obtain ⟨f1, f2, f3⟩ := f p hp
    refine ⟨f1, f2, fun j t a1 a2 => ?_⟩
    rw [List.getElem?_set] at a1 ⊢
    by_cases e : i = j
    · rw [if_pos e] at a1
      split at a1
      · cases a1; cases a2
      · cases a1
    · rw [if_neg e] at a1 ⊢
      exact f3 j t a1 a2
  | s :: ss, u :: vs, p :: ps, i :: is, Γ, σ, v, f, h, hl => by
    by_cases hs : s.isOwn = true
    · obtain ⟨h0, h1, h2, ⟨o, h3, h4⟩, h5, h6, h7⟩ : s.isMe = false ∧ u = .ref p ∧ H0 p = none ∧ (∃ o, H p = some o ∧ OwnOk K G s o) ∧ G p = none ∧ p ∉ ps ∧ MixOk K H0 G H ss vs ps := by
        cases s with
        | un => cases hs
        | im => cases hs
        | ol => exact h
        | od => exact h
        | ot => exact h
        | me => exact h.elim
      subst h1
      obtain ⟨f1, f2, f3⟩ := f p (by simp)
      show Env K E (setG (Γ.set i s) is ss) (setV (σ.set i (some (.ref p))) is vs) G H
      refine mix_env (v.setOwn hs h0 h3 h5 h4 f1 f3 f2) (fun q hq => ?_) h7 (by simpa using hl)
      obtain ⟨g1, g2, g3⟩ := f q (by simp [hq])
      refine ⟨g1, g2, fun j t a1 a2 => ?_⟩
      rw [List.getElem?_set] at a1 ⊢
      by_cases e : i = j
      · rw [if_pos e]
        split
        · intro z; cases z; exact h6 hq
        · intro z; cases z
      · rw [if_neg e] at a1 ⊢
        exact g3 j t a1 a2
    · cases s with
      | un => exact h.elim
      | im d =>
        obtain ⟨h1, h2⟩ := h
        show Env K E (setG (Γ.set i (.im d)) is ss) (setV (σ.set i (some u)) is vs) G H
        refine mix_env (v.setIm h1) (fun p hp => ?_) h2 (by simpa using hl)
        obtain ⟨f1, f2, f3⟩ := f p hp
        refine ⟨f1, f2, fun j t a1 a2 => ?_⟩
        rw [List.getElem?_set] at a1 ⊢
        by_cases e : i = j
        · rw [if_pos e] at a1
          split at a1
          · cases a1; cases a2
          · cases a1
        · rw [if_neg e] at a1 ⊢
          exact f3 j t a1 a2
      | ol => exact absurd rfl hs
      | od => exact absurd rfl hs
      | ot => exact absurd rfl hs
      | me => exact absurd rfl hs
theorem fresh_in {K : PySem.W.Frag} {E : En} {Γ : List Sl} {σ : L2.St} {G0 H0 G H : Hp} {ss : List Sl} {vs : List V} {ps : List Addr} (v : Env K E Γ σ G0 H0) (m : MixOk K H0 G H ss vs ps) : FreshIn E Γ σ ps := fun p hp => by
  have h := m.fresh p hp
  exact ⟨(v.fresh h).1, (v.fresh h).2, fun j t => v.noOwn h j t⟩
structure EM (X : Cx) (E : En) (es : List Expr) (Γ : List Sl) (Ψ : List Sl → Prop) : Prop where
  w : ∀ (σ : L2.St) (G H : Hp) (Q : List V → Hp → Prop), Env X.K E Γ σ G H → (∀ ss vs ps G' H', Ψ ss → Ext X.K G H G' H' → MixOk X.K H G' H' ss vs ps → Q vs H') → aW X es σ H Q

section
variable {X : Cx} {E : En} {e e1 e2 e3 e4 c : Expr} {es : List Expr} {Γ : List Sl} {d x y z : D} {Φ Φ' : D → Prop} {b : Bool} {pos apos cpos : Pos} {i j : Int} {N : N4} {ss : List Sl} {s : Sl}
theorem em_nil {Ψ : List Sl → Prop} (h : Ψ []) : EM X E [] Γ Ψ := ⟨fun σ G H Q v k => aW_of pa_nil (k [] [] [] G H h (.refl v.sub) trivial)⟩
theorem em_imR {Ψ : List Sl → Prop} (h : EXR X E e Γ Φ) (hr : ∀ d, Φ d → EM X E es Γ fun ss => Ψ (.im d :: ss)) (hs : noStar e = true := by exact rfl) : EM X E (e :: es) Γ Ψ := ⟨fun σ G H Q v k =>
  aW_of (pa_cons pe_W pa_W (starEach_cons hs)) (h.run v fun d u G1 H1 p1 v1 x1 r1 => (hr d p1).w σ G1 H1 _ v1 fun ss vs ps G2 H2 p2 x2 m => k (.im d :: ss) (u :: vs) ps G2 H2 p2 (x1.trans x2) ⟨r1.mono x2.g, m.from x1.h.f⟩)⟩
theorem em_im {Ψ : List Sl → Prop} (h : EX X E e Γ d) (hr : EM X E es Γ fun ss => Ψ (.im d :: ss)) (hs : noStar e = true := by exact rfl) : EM X E (e :: es) Γ Ψ := em_imR h (fun d' q => by subst q; exact hr) hs
theorem em_own {Ψ : List Sl → Prop} (h : EO X E e Γ s) (hr : EM X E es Γ fun ss => Ψ (s :: ss)) (hs : noStar e = true := by exact rfl) (ho : s.isOwn = true := by exact rfl) (hm : s.isMe = false := by exact rfl) : EM X E (e :: es) Γ Ψ := ⟨fun σ G H Q v k =>
  aW_of (pa_cons pe_W pa_W (starEach_cons hs)) (h.w σ G H _ v fun p o G1 H1 x1 hp h1 hg ok => hr.w σ G1 H1 _ (v.mono x1) fun ss vs ps G2 H2 p2 x2 m => by
    refine k (s :: ss) (.ref p :: vs) (p :: ps) G2 H2 p2 (x1.trans x2) (MixOk.cons_own ho ⟨hm, rfl, hp, ⟨o, x2.h.at h1 ok.ntb, ok.mono x2.g⟩, x2.fr _ _ h1 hg, fun hq => ?_, m.from x1.h.f⟩)
    have := m.fresh p hq
    rw [h1] at this; cases this)⟩
/-- a, b = e1, e2: both plain locals -/
theorem sx_par2 {n m : Str} {px py pt pos : Pos} {k k2 : Nat} {pt2 : Pos} (i j : Nat) (h : EM X E [e1, e2] Γ fun ss => ∃ s t, ss = [s, t] ∧ N.nx ((Γ.set i s).set j t)) (hN : X.N.Nodup := by assumption) (hc : X.calm = true := by exact rfl) (hi : X.N[i]? = some n := by exact rfl) (hj : X.N[j]? = some m := by exact rfl) (hij : i ≠ j := by decide)
    (hx : X.env.scope.names.lookup n = some .local := by kernel_rfl) (hy : X.env.scope.names.lookup m = some .local := by kernel_rfl)
    (hw : swappedStores [.Tuple [.Name n px, .Name m py] k pt] (.Tuple [e1, e2] k2 pt2) X.env = pure (some [n, m]) := by kernel_rfl) : SX X E (.Assign [.Tuple [.Name n px, .Name m py] k pt] (.Tuple [e1, e2] k2 pt2) pos) N Γ := ⟨fun σ G H Dn v r =>
  sW_of (ps_par hc hN hi hj hij hx hy pa_W hw rfl) (h.w σ G H _ v fun ss vs ps G1 H1 p1 x1 mx => by
    obtain ⟨s, t, rfl, p⟩ := p1
    have hl := mx.length
    match vs, hl with
    | [a, b], _ => exact ⟨a, b, rfl, r.nx _ _ G1 H1 x1.g (mix_env (is := [i, j]) (v.mono x1) (fresh_in v mx) mx rfl) p⟩)⟩
theorem sx_par3 {n m l : Str} {px py pz pt pos : Pos} {k k2 : Nat} {pt2 : Pos} (i j q : Nat) (h : EM X E [e1, e2, e3] Γ fun ss => ∃ s t u, ss = [s, t, u] ∧ N.nx (((Γ.set i s).set j t).set q u)) (hN : X.N.Nodup := by assumption) (hc : X.calm = true := by exact rfl) (hi : X.N[i]? = some n := by exact rfl) (hj : X.N[j]? = some m := by exact rfl) (hq : X.N[q]? = some l := by exact rfl) (hij : i ≠ j := by decide) (hiq : i ≠ q := by decide) (hjq : j ≠ q := by decide)
    (hx : X.env.scope.names.lookup n = some .local := by kernel_rfl) (hy : X.env.scope.names.lookup m = some .local := by kernel_rfl) (hz : X.env.scope.names.lookup l = some .local := by kernel_rfl)
    (hw : swappedStores [.Tuple [.Name n px, .Name m py, .Name l pz] k pt] (.Tuple [e1, e2, e3] k2 pt2) X.env = pure (some [n, m, l]) := by kernel_rfl) : SX X E (.Assign [.Tuple [.Name n px, .Name m py, .Name l pz] k pt] (.Tuple [e1, e2, e3] k2 pt2) pos) N Γ := ⟨fun σ G H Dn v r =>
  sW_of (ps_par3 hc hN hi hj hq hij hiq hjq hx hy hz pa_W hw rfl) (h.w σ G H _ v fun ss vs ps G1 H1 p1 x1 mx => by
    obtain ⟨s, t, u, rfl, p⟩ := p1
    have hl := mx.length
    match vs, hl with
    | [a, b, c], _ => exact ⟨a, b, c, rfl, r.nx _ _ G1 H1 x1.g (mix_env (is := [i, j, q]) (v.mono x1) (fresh_in v mx) mx rfl) p⟩)⟩
/-- names as targets, one after another -/
def gNames (is : List Nat) : TGs := fun vs σ H Q => vs.length = is.length ∧ Q (setV σ is vs) H
theorem pgn_nil : PGs X [] (gNames []) := ⟨fun pins s σ H vs us Q I r h => by
  obtain ⟨h1, h2⟩ := h
  cases vs with
  | nil => exact pgs_nil.run pins s σ H [] us Q I r ⟨rfl, h2⟩
  | cons _ _ => cases h1⟩
theorem pgn_cons {n : Str} {es : List Expr} {is : List Nat} (i : Nat) (hr : PGs X es (gNames is)) (hN : X.N.Nodup := by assumption) (hi : X.N[i]? = some n := by exact rfl) (hx : Loc X.env.scope n := by exact Or.inl (by kernel_rfl)) (hf : X.fn n = true ∨ X.env.scope.names.lookup n = some .local := by exact .inl rfl)
    (hs : (assignEach (.Name n pos :: es) X.env).map (·.2) = assign (.Name n pos) X.env :: (assignEach es X.env).map (·.2) := by exact rfl) : PGs X (.Name n pos :: es) (gNames (i :: is)) := ⟨fun pins s σ H vs us Q I r h => by
  obtain ⟨h1, h2⟩ := h
  cases vs with
  | nil => cases h1
  | cons v vs => exact (pgs_cons (pg_name hN hi hx hf) hr hs).run pins s σ H (v :: vs) us Q I r ⟨v, vs, rfl, by simpa using h1, h2⟩⟩
/-- a, b, .. = e1, e2, ..: by a tuple -/
theorem sx_parT {ts : List Expr} {k k2 : Nat} {pt pt2 : Pos} {is : List Nat} (h : EM X E es Γ fun ss => ss.length = is.length ∧ N.nx (setG Γ is ss)) (g : PGs X ts (gNames is)) (hz : is.length ≤ 1000 := by decide) (hc : X.calm = true := by exact rfl)
    (hn : (assignEach ts X.env).length = is.length := by exact rfl) (hst : (assignEach ts X.env).findIdx? (·.1) = none := by exact rfl)
    (hw : swappedStores [.Tuple ts k pt] (.Tuple es k2 pt2) X.env = pure none := by kernel_rfl) : SX X E (.Assign [.Tuple ts k pt] (.Tuple es k2 pt2) pos) N Γ := ⟨fun σ G H Dn v r =>
  sW_of (ps_asg (pe_tup pa_W) (pg_tup hc g hn hst) rfl hw rfl) (h.w σ G H _ v fun ss vs ps G1 H1 p1 x1 mx => by
    obtain ⟨hl, p⟩ := p1
    have hlen := mx.length
    refine ⟨by rw [← hlen, hl]; exact Nat.le_trans hz (by decide), fun a ha => ?_⟩
    have x2 : Ext X.K G1 H1 G1 (upd H1 a (.tup vs)) := .newOwn x1.sub ha
    refine ⟨a, vs, rfl, .inl (.inl upd_same), by rw [← hlen, hl], by rw [← hlen, hl], ?_⟩
    exact r.nx _ _ G1 _ x1.g (mix_env (is := is) (v.mono (x1.trans x2)) (fresh_in v mx) (mx.mono x2) hl.symm) p)⟩

/-! ### self's fields -/
theorem repf_put {K : PySem.W.Frag} {G : Hp} {f : Str} {v : V} (h : Rep K G d v) : ∀ {fs : List (Str × D)} {vs : List (Str × V)}, Repf K G fs vs → Repf K G (putD f d fs) (putF f v vs)
  | _, _, .nil => .cons h .nil
  | _, _, .cons (n := n) q r => by
    unfold putD putF
    by_cases e : n = f
    · rw [if_pos e, if_pos e]; exact .cons h r
    · rw [if_neg e, if_neg e]; exact .cons q (repf_put h r)
theorem sx_fld {c f : Str} {fs : List (Str × D)} {n : Str} {npos fpos : Pos} (k : Nat) (c1 : Cls X.K (He.ga X.K c)) (c2 : NoAttr X.K (He.ga X.K c) f) (he : EX X E e Γ d) (p : N.nx (Γ.set k (.me c (putD f d fs)))) (hs : Γ[k]? = some (.me c fs) := by exact rfl) (hl : fs.length < 1000 := by first | decide | exact Nat.le_of_ble_eq_true (by kernel_rfl)) (hN : X.N[k]? = some n := by exact rfl) (hv : Vis X.env.scope n := by exact Or.inl (by kernel_rfl))
    (hd : (n == ("__debug__" : Str)) = false := by decide +kernel) (hcd : (n == ("__classdict__" : Str)) = false := by decide +kernel) (hsw : notComp e = true := by exact rfl) : SX X E (.Assign [.Attribute (.Name n npos) f fpos] e pos) N Γ := ⟨fun σ G H Dn v r => by
  obtain ⟨a, o, h1, h2, h3, ⟨dx, vs, rfl, r0⟩, h5⟩ := v.own hs rfl
  refine sW_of (ps_fld (pe_var hN hv hd hcd) pe_W (swapsNo hsw)) (he.run v fun u G1 H1 v1 x1 r1 => ⟨.ref a, h1, a, _, dx, vs, rfl, x1.h.at h2, c1, c2, by rw [← r0.length]; exact hl, ?_⟩)
  exact r.nx _ σ G1 _ x1.g (v1.change (s' := .me c (putD f d fs)) hs rfl h1 rfl rfl ⟨dx, _, rfl, repf_put r1 (r0.mono x1.g)⟩) p⟩

/-! ### methods that change self -/
/-- all but the object at r is as it was -/
structure ExtM (K : PySem.W.Frag) (r : Addr) (G H G' H' : Hp) : Prop where
  g : Same G G'
  h : ∀ b o, H b = some o → b ≠ r → (∀ ps, o ≠ .tbl ps) → H' b = some o
  sub : Same G' H'
  fr : ∀ b o, H b = some o → G b = none → G' b = none
  f : ∀ b, H' b = none → H b = none
  t : LamX.Tabs (TK K) H'
abbrev SpecM := List (Str × D) → List D → (D → List (Str × D) → Prop) → Prop
def spM (K : PySem.W.Frag) (c : Str) (S : SpecM) : Sp := fun vs H Q _ => ∃ (G : Hp) (r dx : Addr) (us : List (Str × V)) (ws : List V) (fs : List (Str × D)) (ds : List D) (Φ : D → List (Str × D) → Prop),
  vs = .ref r :: ws ∧ H r = some (.ins (He.ga K c) dx us) ∧ G r = none ∧ Same G H ∧ TabsG K G H ∧ Repf K G fs us ∧ Reps K G ds ws ∧ S fs ds Φ ∧
  ∀ d v fs' G' H' dx' us', Φ d fs' → ExtM K r G H G' H' → H' r = some (.ins (He.ga K c) dx' us') → Repf K G' fs' us' → Rep K G' d v → Q v H'
theorem Env.extM {K : PySem.W.Frag} {Γ : List Sl} {σ : L2.St} {G H G0 H0 : Hp} {r : Addr} (v : Env K ⟨G0, H0, some r⟩ Γ σ G H) : ExtM K r G0 H0 G H :=
  ⟨v.g, fun b o h n nt => v.h b o h (by intro z; cases z; exact n rfl) nt, v.sub, v.fr, v.hf, v.tb.1⟩
/-- C(..): an instance as data -/
theorem ex_make {k : Nat} {f : Addr} {fd : FuncData} {ps : List Str} {S : SpecM} {c : Str} {p : Pos} {fs : List (Str × D)} (M : Mk X.K (He.ga X.K c) f) (F : FnOk X.prog X.w X.K X.mg X.base CX0 k f fd ps (spM X.K c S)) (hr : Room (k + 1) X.A) (hm : X.mg c = some (.ref (He.ga X.K c))) (hb : Binds X.K fd ps [])
    (ha : EAR X E (e :: es) Γ fun ds => S [] ds fun d fs' => d = .non ∧ fs' = fs) (hg : Gl X c := by (show PySem.Env.kindOf _ _ = _); kernel_rfl) (hdb : (c == ("__debug__" : Str)) = false := by decide +kernel) (he : noStar e = true := by exact rfl) (hpl : es.all noStar = true := by exact rfl) : EX X E (.Call (.Name c p) (e :: es) [] pos) Γ (.ins c fs) :=
  ⟨fun σ G H Q v k => eW_of (pe_make M F hr hg hm hb .nil pass0 pa_W hdb (starEach_cons he) (starEach_any hpl)) (ha.w σ G H _ v fun ds us G1 H1 s x1 r1 => fun a dx na ndx ne => by
    rw [List.append_nil]
    have h1 : Same H1 (upd (upd H1 dx (.own a)) a (.ins (He.ga X.K c) dx [])) := fun b o q => by rw [upd_ne (ne_of_none q na), upd_ne (ne_of_none q ndx)]; exact q
    have ga : G1 a = none := x1.sub.free na
    refine ⟨G1, a, dx, [], us, [], ds, _, rfl, upd_same, ga, x1.sub.trans h1, ⟨(v.mono x1).tb.1.ext h1, (v.mono x1).tb.2⟩, .nil, r1, s, fun d u fs' G2 H2 dx' us' ⟨p1, p2⟩ x2 q1 q2 q3 => ?_⟩
    subst p1 p2
    cases q3
    refine ⟨rfl, ?_⟩
    have g2 : G2 a = none := x2.fr a _ upd_same ga
    have sg : Same G2 (upd G2 a (.ins (He.ga X.K c) dx' us')) := same_new g2
    have hH : Grow X.K H1 H2 := ⟨fun b o q nt => x2.h b o (h1 b o q) (ne_of_none q na) nt, fun b q => h1.free (x2.f b q), fun _ => x2.t⟩
    refine k _ _ (upd G2 a (.ins (He.ga X.K c) dx' us')) H2 rfl (x1.trans ⟨x2.g.trans sg, hH, fun b o q => ?_, fun b o q n => ?_⟩) (.ins upd_same (q2.mono sg))
    · by_cases hb : b = a
      · subst hb; rw [upd_same] at q; rw [← q]; exact q1
      · rw [upd_ne hb] at q; exact x2.sub b o q
    · rw [upd_ne (ne_of_none q na)]; exact x2.fr b o (h1 b o q) n)⟩
/-- an expression that may change self: Γ becomes another -/
structure EXM (X : Cx) (E : En) (e : Expr) (Γ : List Sl) (Ψ : D → List Sl → Prop) : Prop where
  w : ∀ (σ : L2.St) (G H : Hp) (Q : VK), Env X.K E Γ σ G H → (∀ d v Γ' G' H', Ψ d Γ' → Same G G' → Env X.K E Γ' σ G' H' → Rep X.K G' d v → Q v H') → eW X e σ H Q
structure EAM (X : Cx) (E : En) (es : List Expr) (Γ : List Sl) (Ψ : List D → List Sl → Prop) : Prop where
  w : ∀ (σ : L2.St) (G H : Hp) (Q : List V → Hp → Prop), Env X.K E Γ σ G H → (∀ ds vs Γ' G' H', Ψ ds Γ' → Same G G' → Env X.K E Γ' σ G' H' → Reps X.K G' ds vs → Q vs H') → aW X es σ H Q
theorem EXR.M {Ψ : D → List Sl → Prop} (h : EXR X E e Γ Φ) (p : ∀ d, Φ d → Ψ d Γ) : EXM X E e Γ Ψ := ⟨fun σ G H Q v k => h.run v fun d u G1 H1 q v1 x1 r1 => k d u Γ G1 H1 (p d q) x1.g v1 r1⟩
theorem EX.M {Ψ : D → List Sl → Prop} (h : EX X E e Γ d) (p : Ψ d Γ) : EXM X E e Γ Ψ := EXR.M h fun d' q => by subst q; exact p
theorem EXM.imp {Ψ Ψ' : D → List Sl → Prop} (h : EXM X E e Γ Ψ) (p : ∀ d Γ', Ψ d Γ' → Ψ' d Γ') : EXM X E e Γ Ψ' := ⟨fun σ G H Q v k => h.w σ G H Q v fun d u Γ' G' H' q => k d u Γ' G' H' (p d Γ' q)⟩
theorem eam_nil {Ψ : List D → List Sl → Prop} (h : Ψ [] Γ) : EAM X E [] Γ Ψ := ⟨fun σ G H Q v k => aW_of pa_nil (k [] [] Γ G H h (Same.refl G) v .nil)⟩
theorem eam_cons {Ψ1 : D → List Sl → Prop} {Ψ : List D → List Sl → Prop} (h : EXM X E e Γ Ψ1) (hr : ∀ d Γ', Ψ1 d Γ' → EAM X E es Γ' fun ds => Ψ (d :: ds)) (hs : noStar e = true := by exact rfl) : EAM X E (e :: es) Γ Ψ := ⟨fun σ G H Q v k =>
  aW_of (pa_cons pe_W pa_W (starEach_cons hs)) (h.w σ G H _ v fun d u Γ1 G1 H1 p1 s1 v1 r1 => (hr d Γ1 p1).w σ G1 H1 _ v1 fun ds us Γ2 G2 H2 p2 s2 v2 r2 => k (d :: ds) (u :: us) Γ2 G2 H2 p2 (s1.trans s2) v2 (.cons (r1.mono s2) r2))⟩
theorem exm_lst {Ψ : D → List Sl → Prop} (h : EAM X E es Γ fun ds Γ' => ds.length ≤ sizeLine ∧ Ψ (.lst ds) Γ') : EXM X E (.List es pos) Γ Ψ := ⟨fun σ G H Q v k =>
  eW_of (pe_lst pa_W) (h.w σ G H _ v fun ds us Γ1 G1 H1 p1 s1 v1 r1 => ⟨by rw [← r1.length]; exact p1.1, fun a ha => by
    have x2 : Ext X.K G1 H1 (upd G1 a (.lst us)) (upd H1 a (.lst us)) := .new v1.sub ha
    exact k _ _ Γ1 _ _ p1.2 (s1.trans x2.g) (v1.mono x2) (.lst upd_same (r1.mono x2.g))⟩)⟩
theorem exm_make {k : Nat} {f : Addr} {fd : FuncData} {ps : List Str} {S : SpecM} {c : Str} {p : Pos} {Ψ : D → List Sl → Prop} (M : Mk X.K (He.ga X.K c) f) (F : FnOk X.prog X.w X.K X.mg X.base CX0 k f fd ps (spM X.K c S)) (hr : Room (k + 1) X.A) (hm : X.mg c = some (.ref (He.ga X.K c))) (hb : Binds X.K fd ps [])
    (ha : EAM X E (e :: es) Γ fun ds Γ' => S [] ds fun d fs' => d = .non ∧ Ψ (.ins c fs') Γ') (hg : Gl X c := by (show PySem.Env.kindOf _ _ = _); kernel_rfl) (hdb : (c == ("__debug__" : Str)) = false := by decide +kernel) (he : noStar e = true := by exact rfl) (hpl : es.all noStar = true := by exact rfl) : EXM X E (.Call (.Name c p) (e :: es) [] pos) Γ Ψ :=
  ⟨fun σ G H Q v k => eW_of (pe_make M F hr hg hm hb .nil pass0 pa_W hdb (starEach_cons he) (starEach_any hpl)) (ha.w σ G H _ v fun ds us Γ1 G1 H1 s s1 v1 r1 => fun a dx na ndx ne => by
    rw [List.append_nil]
    have h1 : Same H1 (upd (upd H1 dx (.own a)) a (.ins (He.ga X.K c) dx [])) := fun b o q => by rw [upd_ne (ne_of_none q na), upd_ne (ne_of_none q ndx)]; exact q
    have ga : G1 a = none := v1.sub.free na
    refine ⟨G1, a, dx, [], us, [], ds, _, rfl, upd_same, ga, v1.sub.trans h1, ⟨v1.tb.1.ext h1, v1.tb.2⟩, .nil, r1, s, fun d u fs' G2 H2 dx' us' ⟨p1, p2⟩ x2 q1 q2 q3 => ?_⟩
    subst p1
    cases q3
    refine ⟨rfl, ?_⟩
    have g2 : G2 a = none := x2.fr a _ upd_same ga
    have sg : Same G2 (upd G2 a (.ins (He.ga X.K c) dx' us')) := same_new g2
    have hH : Grow X.K H1 H2 := ⟨fun b o q nt => x2.h b o (h1 b o q) (ne_of_none q na) nt, fun b q => h1.free (x2.f b q), fun _ => x2.t⟩
    have xx : Ext X.K G1 H1 (upd G2 a (.ins (He.ga X.K c) dx' us')) H2 := ⟨x2.g.trans sg, hH, fun b o q => by
        by_cases hb : b = a
        · subst hb; rw [upd_same] at q; rw [← q]; exact q1
        · rw [upd_ne hb] at q; exact x2.sub b o q, fun b o q n => by rw [upd_ne (ne_of_none q na)]; exact x2.fr b o (h1 b o q) n⟩
    exact k _ _ Γ1 _ H2 p2 (s1.trans xx.g) (v1.mono xx) (.ins upd_same (q2.mono sg)))⟩
/-- self.m(..), a method that changes self -/
theorem exm_meth0 {k : Nat} {f : Addr} {fd : FuncData} {ps : List Str} {S : SpecM} {m c n : Str} {npos : Pos} {fs : List (Str × D)} {Ψ : D → List Sl → Prop} (q : Nat) (c1 : Cls X.K (He.ga X.K c)) (hm : Meth X.K (He.ga X.K c) m f) (F : FnOk X.prog X.w X.K X.mg X.base CX0 k f fd ps (spM X.K c S)) (hr : Room k X.A) (hb : Binds X.K fd ps [])
    (hS : S fs [] fun d fs' => Ψ d (Γ.set q (.me c fs'))) (hs : Γ[q]? = some (.me c fs) := by exact rfl) (hn : fs.lookup m = none := by exact rfl) (hN : X.N[q]? = some n := by exact rfl) (hv : Vis X.env.scope n := by exact Or.inl (by kernel_rfl)) (hd : (n == ("__debug__" : Str)) = false := by decide +kernel) (hcd : (n == ("__classdict__" : Str)) = false := by decide +kernel)
    (hline : (apos.endLine == pos.line) = true := by exact rfl) : EXM X E (.Call (.Attribute (.Name n npos) m apos) [] [] pos) Γ Ψ := ⟨fun σ G H Q v kk =>
  eW_of (pe_meth0 (pe_var hN hv hd hcd) c1 hm F hr hb .nil pass0 (methEq rfl rfl (by decide) hline)) (by
    obtain ⟨a, o, h1, h2, h3, ⟨dx, us, rfl, r0⟩, h5⟩ := v.own hs rfl
    refine ⟨.ref a, h1, a, dx, us, rfl, h2, r0.none_of hn, ?_⟩
    show spM X.K c S (.ref a :: ([] ++ [])) H Q E0
    refine ⟨G, a, dx, us, [], fs, [], _, rfl, h2, h3, v.sub, v.tb, r0, .nil, hS, fun d u fs' G2 H2 dx' us' p2 x2 q1 q2 q3 => ?_⟩
    refine kk d u _ G2 H2 p2 x2.g ?_ q3
    -- the frame behind the call
    have hme : E.m = some a := h5
    have hi : q < Γ.length := (List.getElem?_eq_some_iff.mp hs).1
    refine ⟨by simp [v.len], fun j t y a1 a2 => ?_, fun j l t u b a1 a2 a3 a4 a5 a6 => ?_, v.g.trans x2.g, x2.sub, fun b o e n nt => x2.h b o (v.h b o e n nt) (by intro z; subst z; exact n hme) nt, fun b o e n => ?_, fun b hb => ?_, fun b hb => v.hf b (x2.f b hb), x2.t, fun p hp => by
      obtain ⟨ps, h, _⟩ := v.tb.1 p hp
      exact x2.fr _ _ h (v.tb.2 p hp)⟩
    · rw [List.getElem?_set] at a1
      by_cases e : q = j
      · subst e
        rw [if_pos rfl, if_pos hi] at a1
        cases a1
        rw [h1] at a2; cases a2
        exact ⟨a, _, rfl, q1, x2.fr _ _ h2 h3, ⟨dx', us', rfl, q2⟩, hme⟩
      · rw [if_neg e] at a1
        have z := v.ok j t y a1 a2
        by_cases ht : t.isOwn = true
        · obtain ⟨b, w, z1, z2, z3, z4, z5⟩ := v.own a1 ht
          have hb : b ≠ a := fun w => by
            subst w
            exact e (v.inj q j _ t b hs a1 rfl ht h1 z1)
          rw [a2] at z1; cases z1
          exact slOk_own ht ⟨b, w, rfl, x2.h _ _ z2 hb z4.ntb, x2.fr _ _ z2 z3, z4.mono x2.g, z5⟩
        · cases t with
          | un => trivial
          | im d => obtain ⟨w, w1, w2⟩ := z; exact ⟨w, w1, w2.mono x2.g⟩
          | ol _ => exact absurd rfl ht
          | od _ => exact absurd rfl ht
          | ot _ => exact absurd rfl ht
          | me _ _ => exact absurd rfl ht
    · have g : ∀ (l : Nat) (t : Sl), (Γ.set q (.me c fs'))[l]? = some t → t.isOwn = true → ∃ t', Γ[l]? = some t' ∧ t'.isOwn = true := fun l t w z => by
        rw [List.getElem?_set] at w
        by_cases e : q = l
        · subst e; exact ⟨_, hs, rfl⟩
        · rw [if_neg e] at w; exact ⟨t, w, z⟩
      obtain ⟨t', g1, g2⟩ := g j t a1 a3
      obtain ⟨u', g3, g4⟩ := g l u a2 a4
      exact v.inj j l t' u' b g1 g3 g2 g4 a5 a6
    · by_cases hm : E.m = some b
      · obtain ⟨⟨o', w1⟩, w2⟩ := v.mh b hm
        exact x2.fr b o' w1 w2
      · cases z : H b with
        | none => rw [v.hf b z] at e; cases e
        | some o' => exact x2.fr b o' z (v.fr b o e n)
    · rw [hme] at hb; cases hb
      exact ⟨⟨_, q1⟩, x2.fr _ _ h2 h3⟩)⟩
/-! statements over these -/
theorem sx_setM {n : Str} {pos' : Pos} {Ψ : D → List Sl → Prop} (k : Nat) (h : EXM X E e Γ Ψ) (p : ∀ d Γ', Ψ d Γ' → N.nx (Γ'.set k (.im d))) (hN : X.N.Nodup := by assumption) (hi : X.N[k]? = some n := by exact rfl) (hx : Loc X.env.scope n := by exact Or.inl (by kernel_rfl))
    (hs : notComp e = true := by exact rfl) (hf : X.fn n = true ∨ X.env.scope.names.lookup n = some .local := by exact .inl rfl) : SX X E (.Assign [.Name n pos'] e pos) N Γ := ⟨fun σ G H Dn v r =>
  sW_of (ps_set hN hi hx pe_W (swapsNo hs) hf) (h.w σ G H _ v fun d u Γ1 G1 H1 q s1 v1 r1 => r.nx _ _ G1 H1 s1 (v1.setIm r1) (p d Γ1 q))⟩
theorem sx_dropM {Ψ : D → List Sl → Prop} (h : EXM X E e Γ Ψ) (p : ∀ d Γ', Ψ d Γ' → N.nx Γ') (hs : notComp e = true := by exact rfl) : SX X E (.Expr e pos) N Γ := ⟨fun σ G H Dn v r =>
  sW_of (ps_expr pe_W (swapsNo hs)) (h.w σ G H _ v fun d u Γ1 G1 H1 q s1 v1 r1 => r.nx _ _ G1 H1 s1 v1 (p d Γ1 q))⟩
theorem sx_retM {Ψ : D → List Sl → Prop} (h : EXM X E e Γ Ψ) (p : ∀ d Γ', Ψ d Γ' → N.rt d Γ') : SX X E (.Return (some e) pos) N Γ := ⟨fun σ G H Dn v r =>
  sW_of (ps_ret pe_W) (h.w σ G H _ v fun d u Γ1 G1 H1 q s1 v1 r1 => r.rt d u Γ1 σ G1 H1 s1 v1 r1 (p d Γ1 q))⟩
/-- what self shows is lent: a pure expression of flat answer may read self as data -/
theorem lent {s : Sl} {d0 : D} (k : Nat) (hd : ∀ (G' : Hp) (a : Addr) (o : HO), G' a = some o → OwnOk X.K G' s o → Rep X.K G' d0 (.ref a)) (h : ∀ E', EXR X E' e (Γ.set k (.im d0)) fun r => flatD r = true ∧ Φ r) (hs : Γ[k]? = some s := by exact rfl) (ho : s.isOwn = true := by exact rfl) : EXR X E e Γ Φ := ⟨fun σ G H Q v kk => by
  obtain ⟨a, o, q1, q2, q3, q4, q5⟩ := v.own hs ho
  have hi : k < Γ.length := (List.getElem?_eq_some_iff.mp hs).1
  have sg : Same G (upd G a o) := same_new q3
  have sub : Same (upd G a o) H := fun b u e => by
    by_cases w : b = a
    · subst w; rw [upd_same] at e; rw [← e]; exact q2
    · rw [upd_ne w] at e; exact v.sub b u e
  have v' : Env X.K ⟨fun _ => none, fun _ => none, if s.isMe = true then none else E.m⟩ (Γ.set k (.im d0)) σ (upd G a o) H := by
    refine ⟨by simp [v.len], fun j t y h1 h2 => ?_, fun j l t u b h1 h2 h3 h4 h5 h6 => ?_, fun b u e => (by cases e), sub, fun b u e => (by cases e), fun b u e => (by cases e), fun b hb => ?_, fun _ _ => rfl, tabsG_upd v.tb q2 q4.ntb⟩
    · rw [List.getElem?_set] at h1
      by_cases e : k = j
      · subst e
        rw [if_pos rfl, if_pos hi] at h1
        cases h1
        rw [q1] at h2; cases h2
        exact ⟨.ref a, rfl, hd _ a o upd_same (q4.mono sg)⟩
      · rw [if_neg e] at h1
        have z := v.ok j t y h1 h2
        by_cases ht : t.isOwn = true
        · obtain ⟨b, u, z1, z2, z3, z4, z5⟩ := v.own h1 ht
          have hb : b ≠ a := fun w => by
            subst w
            exact e (v.inj k j s t b hs h1 ho ht q1 z1)
          by_cases hme : t.isMe = true
          · have zz := z5
            rw [if_pos hme] at zz
            rw [h2] at z1; cases z1
            by_cases hsm : s.isMe = true
            · rw [if_pos hsm] at q5
              rw [q5] at zz; cases zz; exact absurd rfl hb
            · refine slOk_own ht ⟨b, u, rfl, z2, by rw [upd_ne hb]; exact z3, z4.mono sg, ?_⟩
              rw [if_pos hme]
              show (if s.isMe = true then none else E.m) = some b
              rw [if_neg hsm]; exact zz
          · rw [h2] at z1; cases z1
            refine slOk_own ht ⟨b, u, rfl, z2, by rw [upd_ne hb]; exact z3, z4.mono sg, ?_⟩
            rw [if_neg hme]
            rw [if_neg hme] at z5
            refine ⟨rfl, ?_⟩
            show (if s.isMe = true then none else E.m) ≠ some b
            split
            · intro z; cases z
            · exact z5.2
        · cases t with
          | un => trivial
          | im d => obtain ⟨w, w1, w2⟩ := z; exact ⟨w, w1, w2.mono sg⟩
          | ol _ => exact absurd rfl ht
          | od _ => exact absurd rfl ht
          | ot _ => exact absurd rfl ht
          | me _ _ => exact absurd rfl ht
    · have g : ∀ (l : Nat) (t : Sl), (Γ.set k (.im d0))[l]? = some t → t.isOwn = true → Γ[l]? = some t := fun l t q w => by
        rw [List.getElem?_set] at q
        by_cases e : k = l
        · subst e; rw [if_pos rfl, if_pos hi] at q; cases q; cases w
        · rw [if_neg e] at q; exact q
      exact v.inj j l t u b (g j t h1 h3) (g l u h2 h4) h3 h4 h5 h6
    · have hb' : (if s.isMe = true then none else E.m) = some b := hb
      by_cases hsm : s.isMe = true
      · rw [if_pos hsm] at hb'; cases hb'
      · rw [if_neg hsm] at hb' q5
        obtain ⟨w1, w2⟩ := v.mh b hb'
        refine ⟨w1, ?_⟩
        have : b ≠ a := fun z => by subst z; exact q5.2 hb'
        rw [upd_ne this]; exact w2
  refine (h _).w σ (upd G a o) H Q v' fun d u G1 H1 p x1 r1 => ?_
  obtain ⟨hf, hp⟩ := p
  have e := rep_flat hf r1
  subst e
  refine kk d _ G H1 hp ⟨Same.refl G, x1.h, sg.trans (x1.g.trans x1.sub), fun b u _ n => n⟩ ?_
  cases d with
  | non => exact .non
  | bl => exact .bl _
  | int => exact .int _
  | str => exact .str _
  | raw => cases hf
  | lst => cases hf
  | tup => cases hf
  | ins => cases hf
  | dic => cases hf
  | dit => cases hf
  | tux => cases hf⟩
end
end DL
set_option maxHeartbeats 2000000
/-! DL7: more operators: text times number, tuple + tuple, str(n), own lists -/
namespace DL
open PySem PySem.Spec PyProof.Rows L2
section
variable {X : Cx} {E : En} {e e1 e2 e3 c : Expr} {es : List Expr} {Γ : List Sl} {d x y z : D} {Φ Φ' : D → Prop} {b : Bool} {pos apos cpos : Pos} {i j : Int} {N : N4} {sa sb sc : Str}
theorem op_mulS {X : Cx} : OpR X (binaryOp .Mult) (fun x y H Q => ∃ z k, x = .str z ∧ y = .int k ∧ MulOk z k ∧ Q (.str (Txt.mul z k)) H) := by
  intro pins s σ H x y v u Q I rx ry h
  obtain ⟨z, k, rfl, rfl, ok, q⟩ := h
  obtain ⟨t, rfl⟩ := rx
  obtain ⟨t', rfl⟩ := ry
  exact SB.mul ok fun t' k => ⟨.str _, H, I.tok _, ⟨_, rfl⟩, q⟩
theorem ex_mulS (ha : EX X E e1 Γ (.str sa)) (hb : EX X E e2 Γ (.int i)) (h : MulOk sa i) : EX X E (.BinOp e1 .Mult e2 pos) Γ (.str (Txt.mul sa i)) :=
  ex_op op_mulS (fun G H v u Q s r1 r2 k => by cases r1; cases r2; exact ⟨_, _, rfl, rfl, h, k _ G H (.refl s) (.str _)⟩) ha hb
/-- t + u, both not empty -/
theorem ex_addT {xs ys : List D} (ha : EX X E e1 Γ (.tup xs)) (hb : EX X E e2 Γ (.tup ys)) (h1 : xs ≠ [] := by exact List.cons_ne_nil _ _) (h2 : ys ≠ [] := by exact List.cons_ne_nil _ _) (h : xs.length + ys.length ≤ 1000 := by simp) : EX X E (.BinOp e1 .Add e2 pos) Γ (.tup (xs ++ ys)) :=
  ex_op op_catT (fun G H v u Q s r1 r2 k => by
    cases r1 with
    | tup q1 s1 =>
      cases r2 with
      | tup q2 s2 =>
        rename_i a1 vs1 a2 vs2
        have l1 := s1.length
        have l2 := s2.length
        refine ⟨a1, a2, vs1, vs2, rfl, rfl, same_sqT s q1, same_sqT s q2, ?_, ?_, fun z => ?_, fun z p hp => ?_⟩
        · intro z
          subst z
          exact h1 (List.eq_nil_of_length_eq_zero l1)
        · rw [sizeLine_eq]; omega
        · subst z
          exact absurd (List.eq_nil_of_length_eq_zero l2) h2
        · have xx : Ext X.K G H (upd G p (.tup (vs1 ++ vs2))) (upd H p (.tup (vs1 ++ vs2))) := .new s hp
          exact k _ _ _ xx (.tup (.inl (.inl upd_same)) ((s1.mono xx.g).append (s2.mono xx.g)))) ha hb
theorem exr_lst (h : EAR X E es Γ fun ds => ds.length ≤ sizeLine ∧ Φ (.lst ds)) : EXR X E (.List es pos) Γ Φ := exr_of (pe_lst pa_W) fun σ G H Q v k =>
  h.w σ G H _ v fun ds us G1 H1 p x1 r1 => ⟨by rw [← r1.length]; exact p.1, fun a ha => by
    have x2 : Ext X.K G1 H1 (upd G1 a (.lst us)) (upd H1 a (.lst us)) := .new x1.sub ha
    exact k _ _ _ _ p.2 (x1.trans x2) (.lst upd_same (r1.mono x2.g))⟩
theorem ex_strI {p : Pos} {n : Str} (ha : EX X E e Γ (.int i)) (hm : X.mg n = none) (hl : i.natAbs.log2 < 1920) (hv : bootBuiltins n = some (.type "str") := by decide +kernel) (hg : Gl X n := by (show PySem.Env.kindOf _ _ = _); kernel_rfl) (hn : n ≠ "__name__" := by decide +kernel) (hdb : (n == ("__debug__" : Str)) = false := by decide +kernel)
    (he : noStar e = true := by exact rfl) : EX X E (.Call (.Name n p) [e] [] pos) Γ (.str (Str.ofString (toString i))) :=
  exr_T call_str_int hm (ea_cons ha ea_nil he) (fun G H vs Q s r k => by
    cases r with
    | cons r t =>
      cases t
      cases r
      exact ⟨_, rfl, hl, k _ _ G H rfl (.refl s) (.str _)⟩) hv hg hn hdb he
end
end DL
set_option maxHeartbeats 2000000
/-! DL8: comprehensions, ready -/
namespace DL
open PySem PySem.Spec PyProof.Rows L2
section
variable {X : Cx} {E : En} {Γ : List Sl}
/-- the same, the items by their places -/
theorem lc_readI {wi : TI} {te : TE} {tt : TT} {j : Nat} {ds es : List D} {σ : L2.St} {G H : Hp} {Q : VK} (v : Env X.K E Γ σ G H) (hds : ds.length ≤ sizeLine) (hes : es.length = ds.length)
    (w : ∀ (R : It → Hp → Prop), (∀ J G' H', Ext X.K G H G' H' → JOk X.K J ds G' → R J H') → wi σ H R)
    (ht : ∀ (i : Nat) (d : D) (σ : L2.St) (G H : Hp) (Q : Bool → Hp → Prop), ds[i]? = some d → Env X.K E (Γ.set j (.im d)) σ G H → (∀ G' H', Ext X.K G H G' H' → Q true H') → tt σ H Q)
    (he : ∀ (i : Nat) (d e : D) (σ : L2.St) (G H : Hp) (Q : VK), ds[i]? = some d → es[i]? = some e → Env X.K E (Γ.set j (.im d)) σ G H → (∀ u G' H', Ext X.K G H G' H' → Rep X.K G' e u → Q u H') → te σ H Q)
    (k : ∀ p o G' H', Ext X.K G H G' H' → H p = none → H' p = some o → G' p = none → OwnOk X.K G' (.ol es) o → Q (.ref p) H') : tLc wi (gName j) tt te [j] σ H Q := by
  refine w _ fun J G1 H1 x1 jk => fun D0 hD => ?_
  have hD0 : H D0 = none := x1.h.free hD
  have hg1 : G1 D0 = none := x1.sub.free hD
  have x2 : Ext X.K G1 H1 G1 (upd H1 D0 (.lst [])) := .newOwn x1.sub hD
  refine ⟨fun i m H' => m = ds.length - i ∧ i ≤ ds.length ∧ ∃ G' vs, Ext X.K G H G' H' ∧ Same G1 G' ∧ H' D0 = some (.lst vs) ∧ G' D0 = none ∧ Reps X.K G' (es.take i) vs,
    ⟨ds.length, by simp, Nat.zero_le _, G1, [], x1.trans x2, Same.refl _, upd_same, hg1, by simp; exact .nil⟩, ?_⟩
  rintro i m H' ⟨rfl, hi, G', vs, x3, sg, hD', hgD, rs⟩
  by_cases hlt : i < ds.length
  · refine .inr ⟨jk.go i G' H' sg x3.sub hlt, fun H2 => ∃ G' vs, Ext X.K G H G' H2 ∧ Same G1 G' ∧ H2 D0 = some (.lst vs) ∧ G' D0 = none ∧ Reps X.K G' (es.take (i + 1)) vs, fun H2 q => ⟨ds.length - (i + 1), by omega, rfl, hlt, q⟩, fun x H2 y => ?_⟩
    obtain ⟨G2, d, hd, x4, rd⟩ := jk.yld i G' H' x H2 sg x3.sub y hlt
    have x5 := x3.trans x4
    have v5 : Env X.K E (Γ.set j (.im d)) ((wipe σ [j]).set j (some x)) G2 H2 := by
      have w5 := ((v.mono x5).forget (i := j) (x := none)).setIm (i := j) rd
      rw [List.set_set] at w5
      exact w5
    have hle : i < es.length := by omega
    have ht' : es[i]? = some es[i] := List.getElem?_eq_getElem hle
    have tk : es.take (i + 1) = es.take i ++ [es[i]] := by
      rw [List.take_succ, ht']; rfl
    show _ ∧ _
    refine ⟨wipe_set _ _ _, ht i d _ G2 H2 _ hd v5 fun G3 H3 x6 => ?_⟩
    rw [if_pos rfl]
    refine he i d _ _ G3 H3 _ hd ht' (v5.mono x6) fun u G4 H4 x7 r7 => ?_
    have x8 := x4.trans (x6.trans x7)
    have g4 := x8.fr _ _ hD' hgD
    refine ⟨vs, x8.h.at hD', ?_, G4, vs ++ [u], ?_, sg.trans x8.g, upd_same, g4, ?_⟩
    · have e := rs.length
      rw [List.length_take] at e
      omega
    · have x9 := x3.trans x8
      refine ⟨x9.g, x9.h.own hD0 (x8.h.at hD'), fun b o q => ?_, x9.fr⟩
      · have hb : b ≠ D0 := fun z => by subst z; rw [g4] at q; cases q
        rw [upd_ne hb]; exact x9.sub b o q
    · rw [tk]
      exact (rs.mono x8.g).append (.cons r7 .nil)
  · have e : i = ds.length := by omega
    subst e
    refine .inl ⟨jk.stop _ G' H' sg x3.sub (Nat.le_refl _), k D0 _ G' H' x3 hD0 hD' hgD ⟨vs, rfl, ?_⟩⟩
    rw [List.take_of_length_le (by omega)] at rs
    exact rs
end
section
variable {X : Cx} {E : En} {elt iter e1 e2 c : Expr} {n : Str} {npos pos : Pos} {ifs : List Expr} {scope : Scope} {Γ : List Sl} {d x y z : D} {Φ Φ' : D → Prop}
/-- [elt for n in iter], the items by their places -/
theorem eo_mapI {ds es : List D} (j : Nat) (hi : WK X E (.Name n npos) iter Γ ds)
    (he : ∀ (s : Shared) (H : Hp) (C : Addr) (cl : List (Str × Addr)) (fp : List Addr) (i : Nat) (d e : D), ds[i]? = some d → es[i]? = some e → EX (X.blk s H scope (compEnvC scope cl C X.env) fp) E elt (Γ.set j (.im d)) e)
    (hes : es.length = ds.length) (hds : ds.length ≤ sizeLine) (hN : X.N.Nodup := by assumption) (hj : X.N[j]? = some n := by exact rfl) (hx : ∀ (s : Shared) (H : Hp) (C : Addr) (cl : List (Str × Addr)) (fp : List Addr), (X.blk s H scope (compEnvC scope cl C X.env) fp).env.scope.names.lookup n = some .local := by intro _ _ _ _ _; kernel_rfl) (hc : X.calm = true := by exact rfl) (ok : BlkOk X.N X.env.scope scope [(n, j)] := by exact blkOk_by (by kernel_rfl))
    (hs : notSet iter = true := by exact rfl) :
    EO X E (.ListComp elt [⟨.Name n npos, iter, [], 0⟩] scope pos) Γ (.ol es) := ⟨fun σ G H Q v k =>
  eW_of (pe_lc (own := [(n, j)]) (tt := fun σ H Q => ∀ s H0 C cl fp, tsW (X.blk s H0 scope (compEnvC scope cl C X.env) fp) [] σ H Q) (te := fun σ H Q => ∀ s H0 C cl fp, eW (X.blk s H0 scope (compEnvC scope cl C X.env) fp) elt σ H Q) hc hN pi_W ok (fun s H C cl fp => pg_name (X := X.blk s H scope (compEnvC scope cl C X.env) fp) hN hj (.inl (hx s H C cl fp)) (.inr (hx s H C cl fp)))
    (fun s H0 C cl fp => ⟨fun pins s2 σ2 H2 Q2 I2 h2 => pts_W.run pins s2 σ2 H2 Q2 I2 (h2 s H0 C cl fp)⟩) (fun s H0 C cl fp => ⟨fun pins s2 σ2 H2 Q2 I2 h2 => pe_W.run pins s2 σ2 H2 Q2 I2 (h2 s H0 C cl fp)⟩) (fun _ => noFold hs))
    (lc_readI v hds hes (fun R kk => hi.w σ G H R v kk) (fun i d σ2 G2 H2 Q2 hd v2 k2 s H0 C cl fp => ets_nil.w σ2 G2 H2 Q2 v2 k2)
      (fun i d e σ2 G2 H2 Q2 hd he' v2 k2 s H0 C cl fp => EX.run (he s H0 C cl fp i d e hd he') v2 fun u G3 H3 v3 x3 r3 => k2 u G3 H3 x3 r3) k)⟩
theorem ex_mapI {ds es : List D} (j : Nat) (hi : WK X E (.Name n npos) iter Γ ds)
    (he : ∀ (s : Shared) (H : Hp) (C : Addr) (cl : List (Str × Addr)) (fp : List Addr) (i : Nat) (d e : D), ds[i]? = some d → es[i]? = some e → EX (X.blk s H scope (compEnvC scope cl C X.env) fp) E elt (Γ.set j (.im d)) e)
    (hes : es.length = ds.length) (hds : ds.length ≤ sizeLine) (hN : X.N.Nodup := by assumption) (hj : X.N[j]? = some n := by exact rfl) (hx : ∀ (s : Shared) (H : Hp) (C : Addr) (cl : List (Str × Addr)) (fp : List Addr), (X.blk s H scope (compEnvC scope cl C X.env) fp).env.scope.names.lookup n = some .local := by intro _ _ _ _ _; kernel_rfl) (hc : X.calm = true := by exact rfl) (ok : BlkOk X.N X.env.scope scope [(n, j)] := by exact blkOk_by (by kernel_rfl))
    (hs : notSet iter = true := by exact rfl) :
    EX X E (.ListComp elt [⟨.Name n npos, iter, [], 0⟩] scope pos) Γ (.lst es) := (eo_mapI j hi he hes hds hN hj hx hc ok hs).ex fz_l
end
section
variable {X : Cx} {E : En} {elt iter e1 e2 c : Expr} {n : Str} {npos pos : Pos} {ifs : List Expr} {scope : Scope} {Γ : List Sl} {d x y z : D} {Φ Φ' : D → Prop}
/-- [elt for n in iter] -/
theorem eo_map {ds : List D} (j : Nat) (f : D → D) (hi : WK X E (.Name n npos) iter Γ ds)
    (he : ∀ (s : Shared) (H : Hp) (C : Addr) (cl : List (Str × Addr)) (fp : List Addr) (i : Nat) (d : D), ds[i]? = some d → EX (X.blk s H scope (compEnvC scope cl C X.env) fp) E elt (Γ.set j (.im d)) (f d))
    (hds : ds.length ≤ sizeLine) (hN : X.N.Nodup := by assumption) (hj : X.N[j]? = some n := by exact rfl) (hx : ∀ (s : Shared) (H : Hp) (C : Addr) (cl : List (Str × Addr)) (fp : List Addr), (X.blk s H scope (compEnvC scope cl C X.env) fp).env.scope.names.lookup n = some .local := by intro _ _ _ _ _; kernel_rfl) (hc : X.calm = true := by exact rfl) (ok : BlkOk X.N X.env.scope scope [(n, j)] := by exact blkOk_by (by kernel_rfl))
    (hs : notSet iter = true := by exact rfl) :
    EO X E (.ListComp elt [⟨.Name n npos, iter, [], 0⟩] scope pos) Γ (.ol (ds.map f)) := by
  have := eo_comp (pos := pos) (npos := npos) j (fun _ => true) f hi (fun s H C cl fp i d hd => ets_nil) (fun s H C cl fp i d hd _ => he s H C cl fp i d hd) hN hds hc ok (fun s H C cl fp => pg_name (X := X.blk s H scope (compEnvC scope cl C X.env) fp) hN hj (.inl (hx s H C cl fp)) (.inr (hx s H C cl fp))) hs
  rwa [List.filter_eq_self.mpr fun _ _ => rfl] at this
theorem ex_map {ds : List D} (j : Nat) (f : D → D) (hi : WK X E (.Name n npos) iter Γ ds)
    (he : ∀ (s : Shared) (H : Hp) (C : Addr) (cl : List (Str × Addr)) (fp : List Addr) (i : Nat) (d : D), ds[i]? = some d → EX (X.blk s H scope (compEnvC scope cl C X.env) fp) E elt (Γ.set j (.im d)) (f d))
    (hds : ds.length ≤ sizeLine) (hN : X.N.Nodup := by assumption) (hj : X.N[j]? = some n := by exact rfl) (hx : ∀ (s : Shared) (H : Hp) (C : Addr) (cl : List (Str × Addr)) (fp : List Addr), (X.blk s H scope (compEnvC scope cl C X.env) fp).env.scope.names.lookup n = some .local := by intro _ _ _ _ _; kernel_rfl) (hc : X.calm = true := by exact rfl) (ok : BlkOk X.N X.env.scope scope [(n, j)] := by exact blkOk_by (by kernel_rfl))
    (hs : notSet iter = true := by exact rfl) :
    EX X E (.ListComp elt [⟨.Name n npos, iter, [], 0⟩] scope pos) Γ (.lst (ds.map f)) := (eo_map j f hi he hds hN hj hx hc ok hs).ex fz_l
/-- [elt for n in iter if c] -/
theorem eo_filter {ds : List D} (j : Nat) (keep : D → Bool) (f : D → D) (hi : WK X E (.Name n npos) iter Γ ds)
    (ht : ∀ (s : Shared) (H : Hp) (C : Addr) (cl : List (Str × Addr)) (fp : List Addr) (i : Nat) (d : D), ds[i]? = some d → ET (X.blk s H scope (compEnvC scope cl C X.env) fp) E c (Γ.set j (.im d)) (keep d))
    (he : ∀ (s : Shared) (H : Hp) (C : Addr) (cl : List (Str × Addr)) (fp : List Addr) (i : Nat) (d : D), ds[i]? = some d → keep d = true → EX (X.blk s H scope (compEnvC scope cl C X.env) fp) E elt (Γ.set j (.im d)) (f d))
    (hds : ds.length ≤ sizeLine) (hN : X.N.Nodup := by assumption) (hj : X.N[j]? = some n := by exact rfl) (hx : ∀ (s : Shared) (H : Hp) (C : Addr) (cl : List (Str × Addr)) (fp : List Addr), (X.blk s H scope (compEnvC scope cl C X.env) fp).env.scope.names.lookup n = some .local := by intro _ _ _ _ _; kernel_rfl) (hc : X.calm = true := by exact rfl) (ok : BlkOk X.N X.env.scope scope [(n, j)] := by exact blkOk_by (by kernel_rfl))
    (hs : notSet iter = true := by exact rfl) :
    EO X E (.ListComp elt [⟨.Name n npos, iter, [c], 0⟩] scope pos) Γ (.ol ((ds.filter keep).map f)) :=
  eo_comp (pos := pos) (npos := npos) j keep f hi (fun s H C cl fp i d hd => ets_one (ht s H C cl fp i d hd)) he hN hds hc ok (fun s H C cl fp => pg_name (X := X.blk s H scope (compEnvC scope cl C X.env) fp) hN hj (.inl (hx s H C cl fp)) (.inr (hx s H C cl fp))) hs
end
end DL
set_option maxHeartbeats 2000000
/-! DZ: zip of two lists, walked by ONE name, and list(zip(..)): the tuple that zip keeps may live on -/
namespace PySem
open Sem (wp)
abbrev IsZipG (h : Heap) (z TI TO : Addr) (f0 f1 : Value) : Prop :=
  h.get? z = some { cls := .type "zip", dict := none, data := .fields #[f0, f1, .bool false, .ref TI, .ref TO], slots := #[] }
section
variable {prog : Program} {w : World} {A : Around} {E : Value → Shared → Prop} {s : Shared} {z TI TO i1 i2 l1 l2 : Addr} {k1 k2 : Nat} {xs ys : Array Value} {x y a b f0 f1 : Value}
theorem dz_alive {c : Addr} {Q : Option Obj → Shared → Prop} (h : Q (s.heap.get? c) s) : wpAny (model prog w) A (loadIfAlive c) Q E s := fun _ _ _ => h
/-- what one draw leaves -/
abbrev DzQ (z TI TO i1 i2 l1 l2 : Addr) (k1 k2 : Nat) (x y : Value) (s : Shared) (Q : Value → Shared → Prop) : Prop :=
  ∀ h' f0 f1 a b, IsZipG h' z TI TO f0 f1 → (f0 = .none ∨ ∃ c : Addr, f0 = rawInt c) → IsPair h' TO a b → h'.IsListIter i1 l1 (k1 + 1) → h'.IsListIter i2 l2 (k2 + 1) → IsPair h' s.heap.objs.size x y → h'.objs.size = s.heap.objs.size + 1 →
      (∀ c o, c ≠ z → c ≠ TO → c ≠ i1 → c ≠ i2 → s.heap.get? c = some o → h'.get? c = some o) → Q (.ref s.heap.objs.size) { s with heap := h' }
theorem dz_free {Q : Bool → Shared → Prop} (hz : IsZipG s.heap z TI TO f0 f1) (hf : f0 = .none ∨ ∃ c : Addr, f0 = rawInt c) (ht : Q true s)
    (hn : ∀ (h₀ : Heap) (c : Addr) (g1 : Value), IsZipG h₀ z TI TO (rawInt c) g1 → Heap.SameBut z s.heap h₀ → Q false { s with heap := h₀ }) : wpAny (model prog w) A (Builtin.SmallTypes.ownedTupleIsFree (.ref z)) Q E s := by
  unfold Builtin.SmallTypes.ownedTupleIsFree
  refine wpAny_bind (wpAny_field hz rfl (x := f0) rfl ?_)
  rcases hf with rfl | ⟨c, rfl⟩
  · exact wpAny_pure ht
  · show wpAny _ _ (loadIfAlive ((c : Int).toNat) >>= _) _ _ _
    rw [Int.toNat_natCast]
    refine wpAny_bind (dz_alive ?_)
    cases hc : s.heap.get? c with
    | none =>
      simp only [Option.isNone_none, if_true]
      exact wpAny_pure ht
    | some o =>
      simp only [Option.isNone_some, Bool.false_eq_true, if_false]
      refine wpAny_bind (wpAny_field hz rfl (x := f1) rfl ?_)
      by_cases hb : (f1 != Value.bool true) = true
      · rw [if_pos hb]
        refine wpAny_bind (wpAny_setField_rec hz (by simp) fun h₁ hz₁ hs₁ => ?_)
        exact wpAny_pure (hn h₁ c _ hz₁ hs₁)
      · rw [if_neg hb]
        exact wpAny_pure (hn s.heap c _ hz (Heap.SameBut.refl _ _))
theorem dz_item {Q : Value → Shared → Prop} (D : ZipApart z TI TO i1 i2 l1 l2)
    (hz : IsZipG s.heap z TI TO f0 f1) (hf : f0 = .none ∨ ∃ c : Addr, f0 = rawInt c) (hTI : IsPair s.heap TI (.ref i1) (.ref i2)) (hTO : IsPair s.heap TO a b)
    (h1 : s.heap.IsListIter i1 l1 k1) (h2 : s.heap.IsListIter i2 l2 k2) (hl1 : s.heap.IsList l1 xs) (hl2 : s.heap.IsList l2 ys) (hx : xs[k1]? = some x) (hy : ys[k2]? = some y)
    (hQ : DzQ z TI TO i1 i2 l1 l2 k1 k2 x y s Q) :
    wpAny (model prog w) A (Builtin.«zip.__next__» ⟨[.ref z], []⟩) (fun fin s' => ∃ v, fin = .done (.ret v) ∧ Q v s') E s := by
  show wpAny _ _ (field (.ref z) 2 >>= _) _ _ _
  refine wpAny_bind (wpAny_field hz rfl (x := .bool false) rfl ?_)
  show wpAny _ _ (field (.ref z) 3 >>= _) _ _ _
  refine wpAny_bind (wpAny_field hz rfl (x := .ref TI) rfl ?_)
  refine wpAny_bind (wpAny_seqItems hTI rfl ?_)
  show wpAny _ _ (Builtin.SmallTypes.ownedTupleIsFree (.ref z) >>= _) _ _ _
  refine wpAny_bind (dz_free hz hf ?_ fun h₀ c g1 hz₀ hs₀ => ?_)
  · simp only [if_true]
    refine wpAny_bind (wpAny_rule ?_)
    refine wpAny_bind (wpAny_field hz rfl (x := .ref TO) rfl ?_)
    refine wpAny_bind (wpAny_setField_rec hz (by simp) fun h₁ hz₁ hs₁ => ?_)
    replace hz₁ : IsZipG h₁ z TI TO .ellipsis f1 := hz₁
    refine wpAny_bind ?_
    simp only [List.zipIdx_cons, List.zipIdx_nil, List.forIn_cons, List.forIn_nil]
    refine wpAny_bind (wpAny_bind (wpAny_onRaise ?_))
    show wpAny _ _ (Builtin.SmallTypes.nextOf (.ref i1) >>= _) _ _ _
    refine wpAny_bind (wpAny_nextOf_list_item (h1.extBut hs₁.extBut D.i1z) (hl1.extBut hs₁.extBut D.l1z) hx fun h₂ h1₂ hs₂ => wpAny_pure ?_)
    have hTO₂ : IsPair h₂ TO a b := hs₂.extBut _ _ D.TOi1 (hs₁.extBut _ _ D.TOz hTO)
    refine wpAny_bind (wpAny_seqItems hTO₂ rfl ?_)
    refine wpAny_bind (wpAny_updateSeq_pair hTO₂ fun h₃ hTO₃ hs₃ => ?_)
    replace hTO₃ : IsPair h₃ TO x b := hTO₃
    refine wpAny_bind (wpAny_letGo (wpAny_pure ?_))
    refine wpAny_bind (wpAny_bind (wpAny_onRaise ?_))
    show wpAny _ _ (Builtin.SmallTypes.nextOf (.ref i2) >>= _) _ _ _
    refine wpAny_bind (wpAny_nextOf_list_item (((h2.extBut hs₁.extBut D.i2z).extBut hs₂.extBut D.i12.symm).extBut hs₃.extBut D.TOi2.symm)
      (((hl2.extBut hs₁.extBut D.l2z).extBut hs₂.extBut D.l2i1).extBut hs₃.extBut D.l2TO) hy fun h₄ h2₄ hs₄ => wpAny_pure ?_)
    have hTO₄ : IsPair h₄ TO x b := hs₄.extBut _ _ D.TOi2 hTO₃
    refine wpAny_bind (wpAny_seqItems hTO₄ rfl ?_)
    refine wpAny_bind (wpAny_updateSeq_pair hTO₄ fun h₅ hTO₅ hs₅ => ?_)
    replace hTO₅ : IsPair h₅ TO x y := hTO₅
    refine wpAny_bind (wpAny_letGo (wpAny_pure (wpAny_pure ?_)))
    refine wpAny_bind (wpAny_seqItems hTO₅ rfl ?_)
    refine wpAny_bind (wpAny_newTuple ?_)
    have hsz : h₅.objs.size = s.heap.objs.size := by rw [hs₅.1, hs₄.1, hs₃.1, hs₂.1, hs₁.1]
    have hz₅ : IsZipG h₅ z TI TO .ellipsis f1 := hs₅.extBut _ _ D.TOz.symm (hs₄.extBut _ _ D.i2z.symm (hs₃.extBut _ _ D.TOz.symm (hs₂.extBut _ _ D.i1z.symm hz₁)))
    have hk₅ : ∀ c o, c ≠ z → c ≠ TO → c ≠ i1 → c ≠ i2 → s.heap.get? c = some o → h₅.get? c = some o := fun c o c1 c2 c3 c4 e =>
      hs₅.extBut _ _ c2 (hs₄.extBut _ _ c4 (hs₃.extBut _ _ c2 (hs₂.extBut _ _ c3 (hs₁.extBut _ _ c1 e))))
    have h1₅ : h₅.IsListIter i1 l1 (k1 + 1) := ((h1₂.extBut hs₃.extBut D.TOi1.symm).extBut hs₄.extBut D.i12).extBut hs₅.extBut D.TOi1.symm
    have h2₅ : h₅.IsListIter i2 l2 (k2 + 1) := h2₄.extBut hs₅.extBut D.TOi2.symm
    have hzlt : z < h₅.objs.size := Heap.lt_size hz₅
    show wpAny _ _ (Builtin.SmallTypes.ownedTupleHandOut (.ref z) (.ref h₅.objs.size) >>= _) _ _ _
    refine wpAny_bind ?_
    unfold Builtin.SmallTypes.ownedTupleHandOut
    have hz₆ : IsZipG (h₅.push { cls := .type "tuple", data := .seq #[x, y] }) z TI TO .ellipsis f1 := Heap.get?_push_of_some _ hz₅
    refine wpAny_bind (wpAny_setField_rec hz₆ (by simp) fun h₇ hz₇ hs₇ => ?_)
    replace hz₇ : IsZipG h₇ z TI TO (rawInt h₅.objs.size) f1 := hz₇
    refine wpAny_setField_rec hz₇ (by simp) fun h₈ hz₈ hs₈ => ?_
    replace hz₈ : IsZipG h₈ z TI TO (rawInt h₅.objs.size) (.bool false) := hz₈
    have up : ∀ c o, c ≠ z → h₅.get? c = some o → h₈.get? c = some o := fun c o c1 e => hs₈.extBut _ _ c1 (hs₇.extBut _ _ c1 (Heap.get?_push_of_some _ e))
    have hT₈ : IsPair h₈ h₅.objs.size x y := hs₈.extBut _ _ (Nat.ne_of_gt hzlt) (hs₇.extBut _ _ (Nat.ne_of_gt hzlt) (Heap.get?_push_size _ rfl))
    have hz8 : h₈.objs.size = h₅.objs.size + 1 := by rw [hs₈.1, hs₇.1, Heap.size_push]
    rw [hsz] at hz₈ hT₈ hz8
    refine wpAny_pure ⟨_, rfl, ?_⟩
    show Q (.ref h₅.objs.size) _
    rw [hsz]
    exact hQ h₈ _ _ _ _ hz₈ (.inr ⟨_, rfl⟩) (up _ _ D.TOz hTO₅) (h1₅.at fun o e => up _ o D.i1z e) (h2₅.at fun o e => up _ o D.i2z e) hT₈ hz8 fun c o c1 c2 c3 c4 e => up c o c1 (hk₅ c o c1 c2 c3 c4 e)
  · simp only [Bool.false_eq_true, if_false]
    refine wpAny_bind ?_
    rw [← Array.forIn_toList]
    simp only [List.forIn_cons, List.forIn_nil]
    refine wpAny_bind (wpAny_bind (wpAny_holding ?_))
    show wpAny _ _ (Builtin.SmallTypes.nextOf (.ref i1) >>= _) _ _ _
    refine wpAny_bind (wpAny_nextOf_list_item (h1.extBut hs₀.extBut D.i1z) (hl1.extBut hs₀.extBut D.l1z) hx fun h₂ h1₂ hs₂ => wpAny_pure (wpAny_pure ?_))
    refine wpAny_bind (wpAny_bind (wpAny_holding ?_))
    show wpAny _ _ (Builtin.SmallTypes.nextOf (.ref i2) >>= _) _ _ _
    refine wpAny_bind (wpAny_nextOf_list_item ((h2.extBut hs₀.extBut D.i2z).extBut hs₂.extBut D.i12.symm) ((hl2.extBut hs₀.extBut D.l2z).extBut hs₂.extBut D.l2i1) hy fun h₄ h2₄ hs₄ => wpAny_pure (wpAny_pure (wpAny_pure ?_)))
    refine wpAny_bind (wpAny_newTuple ?_ (hsz := by show 2 ≤ sizeLine; decide))
    have hsz : h₄.objs.size = s.heap.objs.size := by rw [hs₄.1, hs₂.1, hs₀.1]
    have hz₄ : IsZipG h₄ z TI TO (rawInt c) g1 := hs₄.extBut _ _ D.i2z.symm (hs₂.extBut _ _ D.i1z.symm hz₀)
    have hk₄ : ∀ c o, c ≠ z → c ≠ TO → c ≠ i1 → c ≠ i2 → s.heap.get? c = some o → h₄.get? c = some o := fun c o c1 c2 c3 c4 e =>
      hs₄.extBut _ _ c4 (hs₂.extBut _ _ c3 (hs₀.extBut _ _ c1 e))
    have hTO₄ : IsPair h₄ TO a b := hs₄.extBut _ _ D.TOi2 (hs₂.extBut _ _ D.TOi1 (hs₀.extBut _ _ D.TOz hTO))
    have h1₄ : h₄.IsListIter i1 l1 (k1 + 1) := h1₂.extBut hs₄.extBut D.i12
    refine wpAny_pure ⟨_, rfl, ?_⟩
    show Q (.ref h₄.objs.size) _
    rw [hsz]
    have up : ∀ c o, h₄.get? c = some o → (h₄.push { cls := .type "tuple", data := .seq #[x, y] }).get? c = some o := fun c o e => Heap.get?_push_of_some _ e
    refine hQ _ _ _ _ _ (up _ _ hz₄) (.inr ⟨_, rfl⟩) (up _ _ hTO₄) (h1₄.at fun o e => up _ o e) (h2₄.at fun o e => up _ o e) ?_ (by rw [Heap.size_push, hsz]) fun c o c1 c2 c3 c4 e => up c o (hk₄ c o c1 c2 c3 c4 e)
    rw [← hsz]
    exact Heap.get?_push_size _ rfl
theorem dz_end {Q : Fin → Shared → Prop} (hh : A.handled = none) (D : ZipApart z TI TO i1 i2 l1 l2)
    (hz : IsZipG s.heap z TI TO f0 f1) (hf : f0 = .none ∨ ∃ c : Addr, f0 = rawInt c) (hTI : IsPair s.heap TI (.ref i1) (.ref i2)) (hTO : IsPair s.heap TO a b)
    (h1 : s.heap.IsListIter i1 l1 k1) (h2 : s.heap.IsListIter i2 l2 k2) (hl1 : s.heap.IsList l1 xs) (hl2 : s.heap.IsList l2 ys) (hend : xs[k1]? = none ∨ ys[k2]? = none)
    (hE : ∀ h' e, (∀ c o, c ≠ z → c ≠ TO → c ≠ i1 → c ≠ i2 → s.heap.get? c = some o → h'.get? c = some o) → (∃ o, h'.get? e = some o ∧ o.cls = .type "StopIteration") → E (.ref e) { s with heap := h' }) :
    wpAny (model prog w) A (Builtin.«zip.__next__» ⟨[.ref z], []⟩) Q E s := by
  show wpAny _ _ (field (.ref z) 2 >>= _) _ _ _
  refine wpAny_bind (wpAny_field hz rfl (x := .bool false) rfl ?_)
  show wpAny _ _ (field (.ref z) 3 >>= _) _ _ _
  refine wpAny_bind (wpAny_field hz rfl (x := .ref TI) rfl ?_)
  refine wpAny_bind (wpAny_seqItems hTI rfl ?_)
  show wpAny _ _ (Builtin.SmallTypes.ownedTupleIsFree (.ref z) >>= _) _ _ _
  refine wpAny_bind (dz_free hz hf ?_ fun h₀ c g1 hz₀ hs₀ => ?_)
  · simp only [if_true]
    refine wpAny_bind (wpAny_rule ?_)
    refine wpAny_bind (wpAny_field hz rfl (x := .ref TO) rfl ?_)
    refine wpAny_bind (wpAny_setField_rec hz (by simp) fun h₁ hz₁ hs₁ => ?_)
    replace hz₁ : IsZipG h₁ z TI TO .ellipsis f1 := hz₁
    refine wpAny_bind ?_
    simp only [List.zipIdx_cons, List.zipIdx_nil, List.forIn_cons, List.forIn_nil]
    refine wpAny_bind (wpAny_bind (wpAny_onRaise ?_))
    show wpAny _ _ (Builtin.SmallTypes.nextOf (.ref i1) >>= _) _ _ _
    cases hx : xs[k1]? with
    | none =>
      refine wpAny_bind (wpAny_nextOf_list_end hh (h1.extBut hs₁.extBut D.i1z) (hl1.extBut hs₁.extBut D.l1z) hx fun h₂ e hs₂ he => ?_)
      obtain ⟨oe, hoe, hce⟩ := he
      have hz₂ : IsZipG h₂ z TI TO .ellipsis f1 := hs₂ _ _ D.i1z.symm hz₁
      have hez : e ≠ z := fun x => by subst x; rw [hz₂] at hoe; cases hoe; simp at hce
      exact wpAny_setField_rec hz₂ (by simp) fun h₃ _ hs₃ => hE h₃ e (fun c o c1 _ c3 _ x => hs₃.extBut _ _ c1 (hs₂ _ _ c3 (hs₁.extBut _ _ c1 x))) ⟨oe, hs₃.extBut _ _ hez hoe, hce⟩
    | some x =>
      have hy : ys[k2]? = none := by rcases hend with h | h; rw [hx] at h; cases h; exact h
      refine wpAny_bind (wpAny_nextOf_list_item (h1.extBut hs₁.extBut D.i1z) (hl1.extBut hs₁.extBut D.l1z) hx fun h₂ h1₂ hs₂ => wpAny_pure ?_)
      have hTO₂ : IsPair h₂ TO a b := hs₂.extBut _ _ D.TOi1 (hs₁.extBut _ _ D.TOz hTO)
      refine wpAny_bind (wpAny_seqItems hTO₂ rfl ?_)
      refine wpAny_bind (wpAny_updateSeq_pair hTO₂ fun h₃ hTO₃ hs₃ => ?_)
      refine wpAny_bind (wpAny_letGo (wpAny_pure ?_))
      refine wpAny_bind (wpAny_bind (wpAny_onRaise ?_))
      show wpAny _ _ (Builtin.SmallTypes.nextOf (.ref i2) >>= _) _ _ _
      refine wpAny_bind (wpAny_nextOf_list_end hh (((h2.extBut hs₁.extBut D.i2z).extBut hs₂.extBut D.i12.symm).extBut hs₃.extBut D.TOi2.symm)
        (((hl2.extBut hs₁.extBut D.l2z).extBut hs₂.extBut D.l2i1).extBut hs₃.extBut D.l2TO) hy fun h₄ e hs₄ he => ?_)
      obtain ⟨oe, hoe, hce⟩ := he
      have hz₄ : IsZipG h₄ z TI TO .ellipsis f1 := hs₄ _ _ D.i2z.symm (hs₃.extBut _ _ D.TOz.symm (hs₂.extBut _ _ D.i1z.symm hz₁))
      have hez : e ≠ z := fun x => by subst x; rw [hz₄] at hoe; cases hoe; simp at hce
      exact wpAny_setField_rec hz₄ (by simp) fun h₅ _ hs₅ => hE h₅ e (fun c o c1 c2 c3 c4 x => hs₅.extBut _ _ c1 (hs₄ _ _ c4 (hs₃.extBut _ _ c2 (hs₂.extBut _ _ c3 (hs₁.extBut _ _ c1 x))))) ⟨oe, hs₅.extBut _ _ hez hoe, hce⟩
  · simp only [Bool.false_eq_true, if_false]
    refine wpAny_bind ?_
    rw [← Array.forIn_toList]
    simp only [List.forIn_cons, List.forIn_nil]
    refine wpAny_bind (wpAny_bind (wpAny_holding ?_))
    show wpAny _ _ (Builtin.SmallTypes.nextOf (.ref i1) >>= _) _ _ _
    cases hx : xs[k1]? with
    | none =>
      refine wpAny_bind (wpAny_nextOf_list_end hh (h1.extBut hs₀.extBut D.i1z) (hl1.extBut hs₀.extBut D.l1z) hx fun h₂ e hs₂ he => ?_)
      exact hE h₂ e (fun c o c1 _ c3 _ x => hs₂ _ _ c3 (hs₀.extBut _ _ c1 x)) he
    | some x =>
      have hy : ys[k2]? = none := by rcases hend with h | h; rw [hx] at h; cases h; exact h
      refine wpAny_bind (wpAny_nextOf_list_item (h1.extBut hs₀.extBut D.i1z) (hl1.extBut hs₀.extBut D.l1z) hx fun h₂ h1₂ hs₂ => wpAny_pure (wpAny_pure ?_))
      refine wpAny_bind (wpAny_bind (wpAny_holding ?_))
      show wpAny _ _ (Builtin.SmallTypes.nextOf (.ref i2) >>= _) _ _ _
      refine wpAny_bind (wpAny_nextOf_list_end hh ((h2.extBut hs₀.extBut D.i2z).extBut hs₂.extBut D.i12.symm) ((hl2.extBut hs₀.extBut D.l2z).extBut hs₂.extBut D.l2i1) hy fun h₄ e hs₄ he => ?_)
      exact hE h₄ e (fun c o c1 c2 c3 c4 x => hs₄ _ _ c4 (hs₂.extBut _ _ c3 (hs₀.extBut _ _ c1 x))) he
theorem dz_pyNext_item {Q : Option Value → Shared → Prop} (D : ZipApart z TI TO i1 i2 l1 l2)
    (hz : IsZipG s.heap z TI TO f0 f1) (hf : f0 = .none ∨ ∃ c : Addr, f0 = rawInt c) (hTI : IsPair s.heap TI (.ref i1) (.ref i2)) (hTO : IsPair s.heap TO a b)
    (h1 : s.heap.IsListIter i1 l1 k1) (h2 : s.heap.IsListIter i2 l2 k2) (hl1 : s.heap.IsList l1 xs) (hl2 : s.heap.IsList l2 ys) (hx : xs[k1]? = some x) (hy : ys[k2]? = some y)
    (hQ : DzQ z TI TO i1 i2 l1 l2 k1 k2 x y s fun v s => Q (some v) s) : wpAny (model prog w) A (pyNext (.ref z)) Q E s := by
  have hT : s.TypeIs (.ref z) "zip" := ⟨_, hz, rfl⟩
  unfold pyNext
  exact wpAny_bind (wpAny_attempt (wpAny_callSpecial?_slot (name := Str.ofString "__next__") hT F.slot_zip_next
    (wpAny_call_entry F.slot_zip_next hT F.entry_zip_next
      (dz_item (Q := fun v s => wpAny (model prog w) A (pure (some v)) Q E s) D hz hf hTI hTO h1 h2 hl1 hl2 hx hy fun h' f0 f1 a b b1 b2 b3 b4 b5 b6 b7 b8 => wpAny_pure (hQ h' f0 f1 a b b1 b2 b3 b4 b5 b6 b7 b8)) (F.args_zip_next_1 _))))
theorem dz_pyNext_end {Q : Option Value → Shared → Prop} (hh : A.handled = none) (D : ZipApart z TI TO i1 i2 l1 l2)
    (hz : IsZipG s.heap z TI TO f0 f1) (hf : f0 = .none ∨ ∃ c : Addr, f0 = rawInt c) (hTI : IsPair s.heap TI (.ref i1) (.ref i2)) (hTO : IsPair s.heap TO a b)
    (h1 : s.heap.IsListIter i1 l1 k1) (h2 : s.heap.IsListIter i2 l2 k2) (hl1 : s.heap.IsList l1 xs) (hl2 : s.heap.IsList l2 ys) (hend : xs[k1]? = none ∨ ys[k2]? = none)
    (hQ : ∀ h', (∀ c o, c ≠ z → c ≠ TO → c ≠ i1 → c ≠ i2 → s.heap.get? c = some o → h'.get? c = some o) → Q none { s with heap := h' }) : wpAny (model prog w) A (pyNext (.ref z)) Q E s := by
  have hT : s.TypeIs (.ref z) "zip" := ⟨_, hz, rfl⟩
  unfold pyNext
  refine wpAny_bind (wpAny_attempt (wpAny_callSpecial?_slot (name := Str.ofString "__next__") hT F.slot_zip_next
    (wpAny_call_entry F.slot_zip_next hT F.entry_zip_next (dz_end hh D hz hf hTI hTO h1 h2 hl1 hl2 hend fun h' e hk he => ?_) (F.args_zip_next_1 _))))
  obtain ⟨o, ho, hc⟩ := he
  refine wpAny_bind (wpAny_isInstance (T := "StopIteration") (b := true) ⟨o, ho, hc⟩ isSubtype_stop ?_)
  exact wpAny_pure (hQ _ hk)
theorem dz_pyIter {Q : Value → Shared → Prop} (hz : IsZipG s.heap z TI TO f0 f1) (h : Q (.ref z) s) : wpAny (model prog w) A (pyIter (.ref z)) Q E s := by
  have hT : s.TypeIs (.ref z) "zip" := ⟨_, hz, rfl⟩
  refine wpAny_pyIter_slot hT F.slot_zip_iter (wpAny_call_entry F.slot_zip_iter hT F.entry_zip_iter ?_ (F.args_zip_iter_1 _))
  show wpAny _ _ (ret (.ref z)) _ _ s
  exact wpAny_pure ⟨_, rfl, "zip", _, hT, F.slot_zip_next.lookup, h⟩
end
end PySem
namespace L2
open PySem PySem.Spec PyProof.Rows
abbrev DzSt (z TI TO i1 i2 a b : Addr) (i : Nat) (h : Heap) : Prop := ∃ f0 f1 x y, IsZipG h z TI TO f0 f1 ∧ (f0 = .none ∨ ∃ c : Addr, f0 = rawInt c) ∧ IsPair h TI (.ref i1) (.ref i2) ∧ IsPair h TO x y ∧ h.IsListIter i1 a i ∧ h.IsListIter i2 b i
theorem turn_zipN {P : Program} {w : World} {K : PySem.W.Frag} {n : Str} {npos : Pos} {a b z TI TO i1 i2 : Addr} (D : ZipApart z TI TO i1 i2 a b) :
    Turn P w K (.Name n npos) (Itz K a b) [z, TI, TO, i1, i2] z (DzSt z TI TO i1 i2 a b) where
  mem := by simp
  obj := fun i h st c hc => by
    obtain ⟨f0, f1, x, y, hz, _, hTI, hTO, ⟨o1, e1, _, d1⟩, ⟨o2, e2, _, d2⟩⟩ := st
    have e' : c = z ∨ c = TI ∨ c = TO ∨ c = i1 ∨ c = i2 := by simpa using hc
    rcases e' with q | q | q | q | q
    · rw [q]; exact ⟨_, hz, fun v q => nomatch q⟩
    · rw [q]; exact ⟨_, hTI, fun v q => nomatch q⟩
    · rw [q]; exact ⟨_, hTO, fun v q => nomatch q⟩
    · rw [q]; exact ⟨o1, e1, fun v q => by rw [d1] at q; cases q⟩
    · rw [q]; exact ⟨o2, e2, fun v q => by rw [d2] at q; cases q⟩
  keep := fun i h h' st k => by
    obtain ⟨f0, f1, x, y, hz, hf, hTI, hTO, h1, h2⟩ := st
    exact ⟨f0, f1, x, y, k z (by simp) _ hz, hf, k TI (by simp) _ hTI, k TO (by simp) _ hTO, h1.at fun o q => k i1 (by simp) o q, h2.at fun o q => k i2 (by simp) o q⟩
  item := by
    intro X hP hw hK hc i pins s σ H E I hf st hg
    subst hP hw hK
    obtain ⟨f0, f1, x0, y0, hz, hf0, hTI, hTO, h1, h2⟩ := st
    obtain ⟨xs, ys, x, y, hqx, hqy, hx, hy⟩ := hg
    obtain ⟨its, rv, p, _⟩ := I.list hqx
    obtain ⟨its2, rv2, p2, _⟩ := I.list hqy
    obtain ⟨u, hu, ru⟩ := rv.get hx
    obtain ⟨u2, hu2, ru2⟩ := rv2.get hy
    refine dz_pyNext_item D hz hf0 hTI hTO h1 h2 p.isList p2.isList (x := u) (y := u2) (by simpa using hu) (by simpa using hu2) fun h' g0 g1 a' b' z' hg0 TO' h1' h2' hT hsz hk => ?_
    refine ⟨_, rfl, wpAny_pure ?_⟩
    have new : ObjOk X.prog X.w (upd H s.heap.objs.size (.tup [x, y])) h' s.heap.objs.size (.tup [x, y]) :=
      ⟨by show 2 ≤ sizeLine; decide, [u, u2], .cons ru (.cons ru2 .nil), ⟨_, hT, rfl, _, rfl⟩⟩
    have I1 : Inv X pins σ (upd H s.heap.objs.size (.tup [x, y])) { s with heap := h' } :=
      I.turnedNew (t' := s.toks) (ch := [z, TI, TO, i1, i2]) (fun c o hb q => hk c o (fun q' => hb (by simp [q'])) (fun q' => hb (by simp [q'])) (fun q' => hb (by simp [q'])) (fun q' => hb (by simp [q'])) q) hf (Nat.le_refl _) new
    refine ⟨.ref s.heap.objs.size, _, I1, rfl, ⟨_, x, y, rfl, I.hok.fresh (Nat.le_refl _), rfl, fun l hl => by rw [I.list_inj hl hqx]; exact hx, fun l hl => by rw [I.list_inj hl hqy]; exact hy⟩, ⟨g0, g1, a', b', z', hg0, ?_, TO', h1', h2'⟩, fun c hcm => ?_⟩
    · exact hk _ _ D.TIz D.TITO D.TIi1 D.TIi2 hTI
    · have hlt : c < s.heap.objs.size := by
        have e' : c = z ∨ c = TI ∨ c = TO ∨ c = i1 ∨ c = i2 := by simpa using hcm
        rcases e' with q | q | q | q | q
        · rw [q]; exact Heap.lt_size hz
        · rw [q]; exact Heap.lt_size hTI
        · rw [q]; exact Heap.lt_size hTO
        · rw [q]; obtain ⟨_, e1, _⟩ := h1; exact Heap.lt_size e1
        · rw [q]; obtain ⟨_, e2, _⟩ := h2; exact Heap.lt_size e2
      rw [upd_ne (Nat.ne_of_lt hlt)]
      exact (hf c hcm).1
  done := by
    intro X hP hw hK hc i pins s σ H E I hf st hg
    subst hP hw hK
    obtain ⟨f0, f1, x0, y0, hz, hf0, hTI, hTO, h1, h2⟩ := st
    obtain ⟨xs, ys, hqx, hqy, hend⟩ := hg
    obtain ⟨its, rv, p, _⟩ := I.list hqx
    obtain ⟨its2, rv2, p2, _⟩ := I.list hqy
    have l1 := rv.length
    have l2 := rv2.length
    have he : its.toArray[i]? = none ∨ its2.toArray[i]? = none := by
      rcases hend with q | q
      · exact .inl (by simp; omega)
      · exact .inr (by simp; omega)
    exact dz_pyNext_end (I.ok.hd hc) D hz hf0 hTI hTO h1 h2 p.isList p2.isList he fun h' hk => ⟨rfl, I.turnedL (t' := s.toks) (ch := [z, TI, TO, i1, i2]) (fun c o hb q =>
      hk c o (fun q' => hb (by simp [q'])) (fun q' => hb (by simp [q'])) (fun q' => hb (by simp [q'])) (fun q' => hb (by simp [q'])) q) hf⟩
  self := fun A i s Q E st h => by
    obtain ⟨f0, f1, x0, y0, hz, _⟩ := st
    exact dz_pyIter hz h
theorem pi_zipN {X : Cx} {e e2 : Expr} {ta : TA} {p pos npos : Pos} {n : Str} (hg : Gl X "zip") (hm : X.mg "zip" = none) (ha : PA X [e, e2] ta)
    (hs : starEach [e, e2] X.env = (false, eval e X.env) :: starEach [e2] X.env := by rfl) (hpl : (backTo pos (starEach [e2] X.env)).any (·.1) = false := by rfl) :
    PI X (.Name n npos) (.Call (.Name "zip" p) [e, e2] [] pos) (iZip X.K ta) := by
  refine ⟨fun pins s σ H R I h => ?_⟩
  refine Call_ (ld_blt I hg hm PyProof.Rows.boot_zip (PyProof.Rows.callWith_type1 (thn (ha.run pos pins s σ H _ I h) fun us s1 ⟨vs, H1, I1, r1, q1⟩ => ?_) hs hpl))
  obtain ⟨a, b, xs, ys, ex, hqx, hqy, q⟩ := q1
  subst ex
  cases r1 with
  | cons r rr =>
    cases rr with
    | cons r' rr =>
      cases rr
      cases r
      cases r'
      obtain ⟨its, rv, p1, _⟩ := I1.list hqx
      obtain ⟨its2, rv2, p2, _⟩ := I1.list hqy
      have la : a < s1.heap.objs.size := p1.lt
      have lb : b < s1.heap.objs.size := p2.lt
      refine call_zip_2 p1.isList p2.isList fun h' hz hTI hTO h1 h2 hsz hk => wpAny_pyIter_zip hz ?_
      have I2 : Inv X pins σ H1 { s1 with heap := h' } := I1.kept (t' := s1.toks) hk
      refine ⟨s1.heap.objs.size + 4, [s1.heap.objs.size + 4, s1.heap.objs.size + 2, s1.heap.objs.size + 3, s1.heap.objs.size, s1.heap.objs.size + 1], _, _, H1, rfl, I2, turn_zipN (PySem.W.ktu_apart s1.heap.objs.size a b la lb), ⟨_, _, _, _, hz, .inl rfl, hTI, hTO, h1, h2⟩, fun c hcm => ?_, q⟩
      have e' : c = s1.heap.objs.size + 4 ∨ c = s1.heap.objs.size + 2 ∨ c = s1.heap.objs.size + 3 ∨ c = s1.heap.objs.size ∨ c = s1.heap.objs.size + 1 := by simpa using hcm
      have hle : s1.heap.objs.size ≤ c := by
        rcases e' with z | z | z | z | z
        · rw [z]; exact Nat.le_add_right _ _
        · rw [z]; exact Nat.le_add_right _ _
        · rw [z]; exact Nat.le_add_right _ _
        · rw [z]; exact Nat.le_refl _
        · rw [z]; exact Nat.le_add_right _ _
      exact I1.fpOk hle (I1.hok.fresh hle)
end L2
set_option maxHeartbeats 2000000
/-! DZ2: list(zip(a, b)) -/
namespace PySem.F
open PySem
theorem zip_no_len : typeLookup (.type "zip") "__len__" = pure none := by rw [typeLookup_type, builtinLookup_eq_fast]; kernel_rfl
theorem zip_no_hint : typeLookup (.type "zip") "__length_hint__" = pure none := by rw [typeLookup_type, builtinLookup_eq_fast]; kernel_rfl
end PySem.F
namespace DL
open PySem PySem.Spec PyProof.Rows L2
def zipD (xs ys : List D) : List D := (xs.zip ys).map fun p => .tup [p.1, p.2]
theorem zipD_get {xs ys : List D} {i : Nat} {x y : D} (hx : xs[i]? = some x) (hy : ys[i]? = some y) : (zipD xs ys)[i]? = some (.tup [x, y]) := by
  unfold zipD
  rw [List.getElem?_map, List.getElem?_zip_eq_some (z := (x, y)) |>.mpr ⟨hx, hy⟩]; rfl
theorem zipD_len (xs ys : List D) : (zipD xs ys).length = min xs.length ys.length := by simp [zipD]
theorem dz_drain {X : Cx} {pins : List (Addr × Obj)} {σ : L2.St} {G0 H0 : Hp} {xs ys : List D} {vx vy : List V} {A : Around} {R : Result → Shared → Prop} {S z TI TO i1 i2 a b : Addr} {res : Value}
    (hc : A.handled = none) (D : ZipApart z TI TO i1 i2 a b) (hS : ∀ c ∈ [z, TI, TO, i1, i2], c < S) (hS0 : H0 S = none) (hx : H0 a = some (.lst vx)) (hy : H0 b = some (.lst vy)) (rx : Reps X.K G0 xs vx) (ry : Reps X.K G0 ys vy) (hn : (zipD xs ys).length ≤ sizeLine)
    (hR : ∀ s G H vs, Ext X.K G0 H0 G H → G S = none → H S = some (.lst vs) → Reps X.K G (zipD xs ys) vs → Inv X pins σ H s → R (.ok (.ret res)) s) :
    ∀ (k i : Nat) (s : Shared) (G H : Hp) (vs : List V), (zipD xs ys).length - i = k → i ≤ (zipD xs ys).length → Ext X.K G0 H0 G H → G S = none → H S = some (.lst vs) → Reps X.K G ((zipD xs ys).take i) vs → Inv X pins σ H s → DzSt z TI TO i1 i2 a b i s.heap →
      (∀ c ∈ [z, TI, TO, i1, i2], FpOk X pins H c) → codeAny (model X.prog X.w) A (.builtin "list.extend.loop" ⟨[.ref S, .ref z, res], []⟩) R s := by
  have hxS : a ≠ S := ne_of_none hx hS0
  have hyS : b ≠ S := ne_of_none hy hS0
  have lx := rx.length
  have ly := ry.length
  intro k
  induction k with
  | zero =>
    intro i s G H vs hk hi x gS hS1 r I st hf
    have hin : i = (zipD xs ys).length := by omega
    obtain ⟨f0, f1, x0, y0, hz, hf0, hTI, hTO, h1, h2⟩ := st
    obtain ⟨its, n, rv, e1, _⟩ := I.lst (x.h.at hx)
    obtain ⟨its2, n2, rv2, e2, _⟩ := I.lst (x.h.at hy)
    have l1 := rv.length
    have l2 := rv2.length
    refine codeAny_builtin F.entry_extend_loop ?_
    rw [Around.under_plainId F.plain_extend_loop _]
    show wpAny _ A.in1 (pyNext (.ref z) >>= _) _ _ s
    have he : its.toArray[i]? = none ∨ its2.toArray[i]? = none := by
      rw [zipD_len] at hin
      rcases Nat.le_total xs.length ys.length with q | q
      · exact .inl (by simp; omega)
      · exact .inr (by simp; omega)
    refine wpAny_bind (dz_pyNext_end (A := A.in1) hc D hz hf0 hTI hTO h1 h2 ⟨_, e1, rfl, _, rfl⟩ ⟨_, e2, rfl, _, rfl⟩ he fun h' hk => ?_)
    refine wpAny_pure (hR _ G H vs x gS hS1 (by rw [hin, List.take_length] at r; exact r) (I.turnedL (t' := s.toks) (ch := [z, TI, TO, i1, i2]) (fun c o hb q =>
      hk c o (fun q' => hb (by simp [q'])) (fun q' => hb (by simp [q'])) (fun q' => hb (by simp [q'])) (fun q' => hb (by simp [q'])) q) hf))
  | succ k ih =>
    intro i s G H vs hk hi x gS hS1 r I st hf
    have hil : i < (zipD xs ys).length := by omega
    have hil' := hil
    rw [zipD_len] at hil'
    obtain ⟨dx, hdx⟩ : ∃ d, xs[i]? = some d := ⟨xs[i], List.getElem?_eq_getElem (by omega)⟩
    obtain ⟨dy, hdy⟩ : ∃ d, ys[i]? = some d := ⟨ys[i], List.getElem?_eq_getElem (by omega)⟩
    obtain ⟨ux, hux, rux⟩ := rx.get hdx
    obtain ⟨uy, huy, ruy⟩ := ry.get hdy
    obtain ⟨f0, f1, x0, y0, hz, hf0, hTI, hTO, h1, h2⟩ := st
    obtain ⟨its, n, rv, e1, _⟩ := I.lst (x.h.at hx)
    obtain ⟨its2, n2, rv2, e2, _⟩ := I.lst (x.h.at hy)
    obtain ⟨u, hu, ru⟩ := rv.get hux
    obtain ⟨u2, hu2, ru2⟩ := rv2.get huy
    refine codeAny_builtin F.entry_extend_loop ?_
    rw [Around.under_plainId F.plain_extend_loop _]
    show wpAny _ A.in1 (pyNext (.ref z) >>= _) _ _ s
    refine wpAny_bind (dz_pyNext_item D hz hf0 hTI hTO h1 h2 ⟨_, e1, rfl, _, rfl⟩ ⟨_, e2, rfl, _, rfl⟩ (x := u) (y := u2) (by simpa using hu) (by simpa using hu2) fun h' g0 g1 a' b' z' hg0 TO' h1' h2' hT hsz hkp => ?_)
    have new : ObjOk X.prog X.w (upd H s.heap.objs.size (.tup [ux, uy])) h' s.heap.objs.size (.tup [ux, uy]) :=
      ⟨by show 2 ≤ sizeLine; decide, [u, u2], .cons ru (.cons ru2 .nil), ⟨_, hT, rfl, _, rfl⟩⟩
    have hTn : H s.heap.objs.size = none := I.hok.fresh (Nat.le_refl _)
    have I1 : Inv X pins σ (upd H s.heap.objs.size (.tup [ux, uy])) { s with heap := h' } :=
      I.turnedNew (t' := s.toks) (ch := [z, TI, TO, i1, i2]) (fun c o hb q => hkp c o (fun q' => hb (by simp [q'])) (fun q' => hb (by simp [q'])) (fun q' => hb (by simp [q'])) (fun q' => hb (by simp [q'])) q) hf (Nat.le_refl _) new
    have hST : S ≠ s.heap.objs.size := ne_of_none hS1 hTn
    have hS2 : (upd H s.heap.objs.size (.tup [ux, uy])) S = some (.lst vs) := by rw [upd_ne hST]; exact hS1
    obtain ⟨itsS, nS, rS, eS, zS⟩ := I1.lst hS2
    have lS := rS.length
    have lr := r.length
    rw [List.length_take] at lr
    show wpAny _ A.in1 (updateSeq S (·.push (.ref s.heap.objs.size)) >>= _) _ _ _
    refine wpAny_bind ?_
    have hmap : Obj.mapSeq (·.push (Value.ref s.heap.objs.size)) { cls := .type "list", data := .seq itsS.toArray nS } = { cls := .type "list", data := .seq (itsS ++ [Value.ref s.heap.objs.size]).toArray (nS + 1) } := by simp [Obj.mapSeq]
    have I2 := I1.lstUpd (ys := vs ++ [.ref s.heap.objs.size]) hS2 eS hmap (rS.append (show Vals [V.ref s.heap.objs.size] [Value.ref s.heap.objs.size] from .cons rfl .nil)) (by rw [List.length_append]; simp; omega) s.toks
    have xT : Ext X.K G H (upd G s.heap.objs.size (.tup [ux, uy])) (upd H s.heap.objs.size (.tup [ux, uy])) := .new x.sub hTn
    have gS2 : upd G s.heap.objs.size (.tup [ux, uy]) S = none := by rw [upd_ne hST]; exact gS
    have x2 : Ext X.K G0 H0 (upd G s.heap.objs.size (.tup [ux, uy])) (upd (upd H s.heap.objs.size (.tup [ux, uy])) S (.lst (vs ++ [.ref s.heap.objs.size]))) := by
      have x3 := x.trans xT
      refine ⟨x3.g, x3.h.own hS0 hS2, fun c o q => ?_, x3.fr⟩
      · have : c ≠ S := fun w => by subst w; rw [gS2] at q; cases q
        rw [upd_ne this]; exact x3.sub c o q
    have up : ∀ c o, c ≠ S → h'.get? c = some o → (h'.update S (Obj.mapSeq (·.push (Value.ref s.heap.objs.size)))).get? c = some o := fun c o hc e => (Heap.get?_update_other _ _ (Ne.symm hc)).trans e
    have neS : ∀ c ∈ [z, TI, TO, i1, i2], c ≠ S := fun c hc => Nat.ne_of_lt (hS c hc)
    refine wpAny_updateSeq eS rfl (wpAny_pure ⟨plainId_quiet F.plain_extend_loop _, ih (i + 1) _ (upd G s.heap.objs.size (.tup [ux, uy])) _ (vs ++ [.ref s.heap.objs.size]) (by omega) hil x2 gS2 upd_same ?_ I2 ⟨g0, g1, a', b', up _ _ (neS z (by simp)) z', hg0, up _ _ (neS TI (by simp)) ?_, up _ _ (neS TO (by simp)) TO', h1'.at fun o e => up _ o (neS i1 (by simp)) e, h2'.at fun o e => up _ o (neS i2 (by simp)) e⟩ fun c hcm => ?_⟩) (by simp; omega) (by simp; omega)
    · have tk : (zipD xs ys).take (i + 1) = (zipD xs ys).take i ++ [.tup [dx, dy]] := by rw [List.take_succ, zipD_get hdx hdy]; rfl
      rw [tk]
      have m1 := x.g
      exact (r.mono xT.g).append (.cons (.tup (.inl (.inl upd_same)) (.cons ((rux.mono m1).mono xT.g) (.cons ((ruy.mono m1).mono xT.g) .nil))) .nil)
    · exact hkp _ _ D.TIz D.TITO D.TIi1 D.TIi2 hTI
    · have hcl : c < s.heap.objs.size := by
        have e' : c = z ∨ c = TI ∨ c = TO ∨ c = i1 ∨ c = i2 := by simpa using hcm
        rcases e' with q | q | q | q | q
        · rw [q]; exact Heap.lt_size hz
        · rw [q]; exact Heap.lt_size hTI
        · rw [q]; exact Heap.lt_size hTO
        · rw [q]; obtain ⟨_, e1, _⟩ := h1; exact Heap.lt_size e1
        · rw [q]; obtain ⟨_, e2, _⟩ := h2; exact Heap.lt_size e2
      obtain ⟨q1, q2⟩ := hf c hcm
      exact ⟨by rw [upd_ne (neS c hcm), upd_ne (Nat.ne_of_lt hcl)]; exact q1, q2⟩
end DL
namespace DL
open PySem PySem.Spec PyProof.Rows L2
/-- list(z), z a new zip -/
theorem dz_list {X : Cx} {pins : List (Addr × Obj)} {σ : L2.St} {G0 H0 : Hp} {xs ys : List D} {vx vy : List V} {Q : Value → Shared → Prop} {Er : Value → Shared → Prop} {z TI TO i1 i2 a b : Addr} {s : Shared} {A : Around}
    (hc : A.handled = none) (D : ZipApart z TI TO i1 i2 a b) (hx : H0 a = some (.lst vx)) (hy : H0 b = some (.lst vy)) (rx : Reps X.K G0 xs vx) (ry : Reps X.K G0 ys vy) (hn : (zipD xs ys).length ≤ sizeLine) (sub : Same G0 H0)
    (I : Inv X pins σ H0 s) (st : DzSt z TI TO i1 i2 a b 0 s.heap) (hf : ∀ c ∈ [z, TI, TO, i1, i2], FpOk X pins H0 c)
    (hQ : ∀ S s' G H vs, Ext X.K G0 H0 G H → H0 S = none → G S = none → H S = some (.lst vs) → Reps X.K G (zipD xs ys) vs → Inv X pins σ H s' → Q (.ref S) s') :
    wpAny (model X.prog X.w) A (call (.type "list") [.ref z]) Q Er s := by
  obtain ⟨f0, f1, x0, y0, hz, hf0, hTI, hTO, h1, h2⟩ := st
  have hzl : z < s.heap.objs.size := Heap.lt_size hz
  have hSa : s.heap.objs.size ≠ z := Nat.ne_of_gt hzl
  have hS0 : H0 s.heap.objs.size = none := I.hok.fresh (Nat.le_refl _)
  have hlow : ∀ c ∈ [z, TI, TO, i1, i2], c < s.heap.objs.size := fun c hcm => by
    have e' : c = z ∨ c = TI ∨ c = TO ∨ c = i1 ∨ c = i2 := by simpa using hcm
    rcases e' with q | q | q | q | q
    · rw [q]; exact Heap.lt_size hz
    · rw [q]; exact Heap.lt_size hTI
    · rw [q]; exact Heap.lt_size hTO
    · rw [q]; obtain ⟨_, e1, _⟩ := h1; exact Heap.lt_size e1
    · rw [q]; obtain ⟨_, e2, _⟩ := h2; exact Heap.lt_size e2
  refine callType_codes (Q₁ := fun obj s₁ => obj = .ref s.heap.objs.size ∧ s₁ = { s with heap := s.heap.push { cls := .type "list", data := .seq #[] } }) F.called_list (F.typeCall_list_1 _) F.entry_list_init
    (code_list_new _ ⟨rfl, rfl⟩) fun obj s₁ h₁ => ?_
  obtain ⟨rfl, rfl⟩ := h₁
  have hS : (s.heap.push { cls := .type "list", data := .seq #[] }).get? s.heap.objs.size = some { cls := .type "list", data := .seq #[] } := Heap.get?_push_size _ rfl
  refine ⟨⟨_, hS, rfl⟩, F.args_list_init_2 _ _, ?_⟩
  show wpAny _ A.in1.in1 (do let old ← Builtin.List.listItems (.ref s.heap.objs.size); Builtin.List.listUpdate (.ref s.heap.objs.size) (fun _ => #[]); letGo old.toList.reverse; Builtin.List.listExtendWith (.ref s.heap.objs.size) (.ref z) .none) _ _ _
  refine wpAny_bind ?_
  unfold Builtin.List.listItems
  refine wpAny_bind (wpAny_seqItems hS rfl (wpAny_pure ?_))
  show wpAny _ A.in1.in1 (updateSeq s.heap.objs.size (fun _ => #[]) >>= fun _ => letGo (#[] : Array Value).toList.reverse >>= fun _ => Builtin.List.listExtendWith (.ref s.heap.objs.size) (.ref z) .none) _ _ _
  refine wpAny_bind (wpAny_updateSeq hS rfl ?_)
  have hS2 := Heap.get?_update_self (Obj.mapSeq (fun _ => (#[] : Array Value))) hS rfl
  refine wpAny_bind (wpAny_letGo ?_)
  unfold Builtin.List.listExtendWith
  have up : ∀ (h : Heap) (f : Obj → Obj), (∀ b o, s.heap.get? b = some o → h.get? b = some o) → ∀ b o, s.heap.get? b = some o → (h.update s.heap.objs.size f).get? b = some o := fun h f q b o e =>
    (Heap.get?_update_other _ _ (Ne.symm (Nat.ne_of_lt (Heap.lt_size e)))).trans (q b o e)
  have k1 : ∀ b o, s.heap.get? b = some o → (s.heap.push { cls := .type "list", data := .seq #[] }).get? b = some o := fun b o e => Heap.get?_push_of_some _ e
  have k2 := up _ (Obj.mapSeq (fun _ => (#[] : Array Value))) k1
  refine wpAny_bind (wpAny_typeOf (T := "zip") (show Shared.TypeIs { s with heap := _ } (.ref z) "zip" from ⟨_, k2 _ _ hz, rfl⟩) ?_)
  have e1 : Builtin.List.listSameRef (.ref s.heap.objs.size) (.ref z) = false := by simp [Builtin.List.listSameRef, hSa]
  have e2 : (Value.type "zip" == Value.type "list") = false := by decide
  have e3 : (Value.type "zip" == Value.type "tuple") = false := by decide
  simp only [e1, e2, e3, Bool.or_false, Bool.false_eq_true, if_false]
  refine wpAny_bind (dz_pyIter (s := { s with heap := _ }) (k2 _ _ hz) ?_)
  refine wpAny_bind (wpAny_holding ?_)
  unfold Builtin.List.listLengthHint
  refine wpAny_bind (wpAny_specialOf (show Shared.TypeIs { s with heap := _ } (.ref z) "zip" from ⟨_, k2 _ _ hz, rfl⟩) F.zip_no_len ?_)
  show wpAny _ A.in1.in1 (specialOf (Value.ref z) (Str.ofString "__length_hint__") >>= _) _ _ _
  refine wpAny_bind (wpAny_specialOf (show Shared.TypeIs { s with heap := _ } (.ref z) "zip" from ⟨_, k2 _ _ hz, rfl⟩) F.zip_no_hint ?_)
  refine wpAny_pure ?_
  show wpAny _ A.in1.in1 (rule "list.extend.makes-room" >>= fun _ => Builtin.List.listTouch (.ref s.heap.objs.size) >>= fun _ =>
    again (.builtin "list.extend.loop" ⟨[.ref s.heap.objs.size, .ref z, .none], []⟩)) _ _ _
  refine wpAny_bind (wpAny_rule ?_)
  refine wpAny_bind ?_
  show wpAny _ A.in1.in1 (updateSeq s.heap.objs.size (·.push .none) >>= fun _ => updateSeq s.heap.objs.size (·.pop)) _ _ _
  refine wpAny_bind (wpAny_updateSeq hS2 rfl ?_)
  have hS3 := Heap.get?_update_self (Obj.mapSeq (·.push Value.none)) hS2 rfl
  refine wpAny_updateSeq (hz := by seq_fits) hS3 rfl ?_
  have hS4 := Heap.get?_update_self (Obj.mapSeq (·.pop)) hS3 rfl
  have k4 := up _ (Obj.mapSeq (·.pop)) (up _ (Obj.mapSeq (·.push Value.none)) k2)
  refine wpAny_pure ⟨plainId_quiet F.plain_extend_loop _, ?_⟩
  have I1 := I.laid (t' := s.toks) (a := s.heap.objs.size) (o := .lst []) k4 (Nat.le_refl _) ⟨Nat.zero_le _, [], _, .nil, hS4⟩
  have neS : ∀ c ∈ [z, TI, TO, i1, i2], c ≠ s.heap.objs.size := fun c hcm => Nat.ne_of_lt (hlow c hcm)
  exact dz_drain (A := A.in1) (res := .none) hc D hlow hS0 hx hy rx ry hn (fun s' G H vs x gS hSl r I' => ⟨rfl, hQ _ s' G H vs x hS0 gS hSl r I'⟩) _ 0 _ G0 _ [] (Nat.sub_zero _) (Nat.zero_le _) (.newOwn sub hS0) (sub.free hS0) upd_same (by rw [List.take_zero]; exact .nil) I1
    ⟨f0, f1, x0, y0, k4 _ _ hz, hf0, k4 _ _ hTI, k4 _ _ hTO, h1.at fun o e => k4 _ o e, h2.at fun o e => k4 _ o e⟩ fun c hcm => by
      obtain ⟨q1, q2⟩ := hf c hcm
      exact ⟨by rw [upd_ne (neS c hcm)]; exact q1, q2⟩
variable {X : Cx} {E : En} {e1 e2 : Expr} {Γ : List Sl} {xs ys : List D} {p p2 pos pos2 : Pos}
theorem eo_listzip (ha : EX X E e1 Γ (.lst xs)) (hb : EX X E e2 Γ (.lst ys)) (hn : (zipD xs ys).length ≤ sizeLine) (hm : X.mg "list" = none) (hm2 : X.mg "zip" = none) (hc : X.calm = true := by exact rfl) (hg : Gl X "list" := by (show PySem.Env.kindOf _ _ = _); kernel_rfl) (hg2 : Gl X "zip" := by (show PySem.Env.kindOf _ _ = _); kernel_rfl)
    (hs1 : noStar e1 = true := by exact rfl) (hs2 : noStar e2 = true := by exact rfl) : EO X E (.Call (.Name "list" p) [.Call (.Name "zip" p2) [e1, e2] [] pos2] [] pos) Γ (.ol (zipD xs ys)) := ⟨fun σ G H Q v k pins s I => by
  refine wpAny_Call_Name_kw (ld_blt I hg hm (u := .type "list") (by decide +kernel) ?_ (by decide +kernel) (by decide +kernel))
  refine PyProof.Rows.callWith_type1 ?_ (starEach_cons rfl) rfl
  rw [starEach_cons rfl]
  refine Calls.spliced_cons ?_
  refine wpAny_Call_Name_kw (ld_blt I hg2 hm2 PyProof.Rows.boot_zip ?_)
  refine PyProof.Rows.callWith_type1 (thn ((EA.run (ea_cons ha (ea_cons hb ea_nil hs2) hs1) v (Q := fun vs H1 => ∃ G1, Ext X.K G H G1 H1 ∧ Reps X.K G1 [.lst xs, .lst ys] vs) fun us G1 H1 v1 x1 r1 => ⟨G1, x1, r1⟩) pos2 pins s I) fun us s1 ⟨vs, H1, I1, r1, G1, x1, rr⟩ => ?_) (starEach_cons hs1) (starEach_any (by simp [hs2]))
  cases rr with
  | cons ra rr =>
    cases rr with
    | cons rb rr =>
      cases rr
      cases ra with
      | lst ga qa =>
        cases rb with
        | lst gb qb =>
          rename_i a vx b vy
          cases r1 with
          | cons r rr =>
            cases rr with
            | cons r' rr =>
              cases rr
              cases r
              cases r'
              obtain ⟨its, rv, p1, _⟩ := I1.list (SqL.of (x1.sub _ _ ga))
              obtain ⟨its2, rv2, p2, _⟩ := I1.list (SqL.of (x1.sub _ _ gb))
              have la : a < s1.heap.objs.size := p1.lt
              have lb : b < s1.heap.objs.size := p2.lt
              refine call_zip_2 p1.isList p2.isList fun h' hz hTI hTO h1 h2 hsz hk => ?_
              have I2 : Inv X pins σ H1 { s1 with heap := h' } := I1.kept (t' := s1.toks) hk
              refine Calls.spliced_nil ?_
              refine dz_list (A := X.A) (I.ok.hd hc) (PySem.W.ktu_apart s1.heap.objs.size a b la lb) (x1.sub _ _ ga) (x1.sub _ _ gb) qa qb hn x1.sub I2 ⟨_, _, _, _, hz, .inl rfl, hTI, hTO, h1, h2⟩ (fun c hcm => ?_) (fun S s' G2 H2 vs x2 hS0 gS hS r I3 => ?_)
              · have e' : c = s1.heap.objs.size + 4 ∨ c = s1.heap.objs.size + 2 ∨ c = s1.heap.objs.size + 3 ∨ c = s1.heap.objs.size ∨ c = s1.heap.objs.size + 1 := by simpa using hcm
                have hle : s1.heap.objs.size ≤ c := by
                  rcases e' with z | z | z | z | z
                  · rw [z]; exact Nat.le_add_right _ _
                  · rw [z]; exact Nat.le_add_right _ _
                  · rw [z]; exact Nat.le_add_right _ _
                  · rw [z]; exact Nat.le_refl _
                  · rw [z]; exact Nat.le_add_right _ _
                exact I1.fpOk hle (I1.hok.fresh hle)
              · exact ⟨.ref S, H2, I3, rfl, k S _ G2 H2 (x1.trans x2) (x1.h.free hS0) hS gS ⟨vs, rfl, r⟩⟩⟩
end DL
set_option maxHeartbeats 2000000
/-! DL9: zip walked, comprehensions stored by places, deep in, more tests -/
namespace DL
open PySem PySem.Spec PyProof.Rows L2
section
variable {X : Cx} {E : En} {e e1 e2 e3 c : Expr} {es : List Expr} {Γ : List Sl} {d x y z : D} {Φ Φ' : D → Prop} {b : Bool} {pos apos cpos p : Pos} {i j : Int} {N : N4} {sa sb sc : Str}
theorem wk_zipN {xs ys : List D} {n : Str} {npos : Pos} (h1 : EX X E e1 Γ (.lst xs)) (h2 : EX X E e2 Γ (.lst ys)) (hm : X.mg "zip" = none) (hg : Gl X "zip" := by (show PySem.Env.kindOf _ _ = _); kernel_rfl) (hs1 : noStar e1 = true := by exact rfl) (hs2 : noStar e2 = true := by exact rfl) :
    WK X E (.Name n npos) (.Call (.Name "zip" p) [e1, e2] [] pos) Γ (zipD xs ys) := ⟨fun σ G H R v k => by
  refine iW_of (pi_zipN hg hm pa_W (starEach_cons hs1) (starEach_any (by simp [hs2]))) ((ea_cons h1 (ea_cons h2 ea_nil hs2) hs1).run v fun us G1 H1 v1 x1 r1 => ?_)
  cases r1 with
  | cons r t =>
    cases t with
    | cons r' t =>
      cases t
      cases r with
      | lst q r =>
        cases r' with
        | lst q' r' =>
          rename_i a vs a' vs'
          refine ⟨a, a', vs, vs', rfl, SqL.of (x1.sub _ _ q), SqL.of (x1.sub _ _ q'), k _ G1 H1 x1 ⟨fun i G2 H2 s1 s2 hi => ?_, fun i G2 H2 s1 s2 hi => ?_, fun i G2 H2 x H' s1 s2 y hi => ?_⟩⟩
          · rw [zipD_len, r.length, r'.length] at hi
            exact ⟨vs, vs', vs[i]'(by omega), vs'[i]'(by omega), SqL.of (s2 _ _ (s1 _ _ q)), SqL.of (s2 _ _ (s1 _ _ q')), List.getElem?_eq_getElem _, List.getElem?_eq_getElem _⟩
          · rw [zipD_len, r.length, r'.length] at hi
            exact ⟨vs, vs', SqL.of (s2 _ _ (s1 _ _ q)), SqL.of (s2 _ _ (s1 _ _ q')), by omega⟩
          · obtain ⟨T, w, w', rfl, hT, rfl, y1, y2⟩ := y
            have z1 := y1 vs (SqL.of (s2 _ _ (s1 _ _ q)))
            have z2 := y2 vs' (SqL.of (s2 _ _ (s1 _ _ q')))
            obtain ⟨d, hd, rd⟩ := r.get' z1
            obtain ⟨d', hd', rd'⟩ := r'.get' z2
            have xx : Ext X.K G2 H2 (upd G2 T (.tup [w, w'])) (upd H2 T (.tup [w, w'])) := .new s2 hT
            exact ⟨_, .tup [d, d'], zipD_get hd hd', xx, .tup (.inl (.inl upd_same)) (.cons ((rd.mono s1).mono xx.g) (.cons ((rd'.mono s1).mono xx.g) .nil))⟩⟩
theorem ex_neg (h : EX X E e Γ (.int i)) : EX X E (.UnaryOp .USub e pos) Γ (.int (-i)) :=
  ex_of (pe_un un_neg pe_W) fun σ G H Q v k => h.run v fun u G1 H1 v1 x1 r1 => by cases r1; exact ⟨i, rfl, k _ G1 H1 x1 (.int _)⟩
theorem ex_neD {k : Nat} (hr : Room k X.A) (ha : EX X E e1 Γ x) (hb : EX X E e2 Γ y) (hx : pureD x = true) (hy : pureD y = true) (h1 : SeqAt.shaped (toP x) = true) (h2 : SeqAt.shaped (toP y) = true) : EX X E (.Compare e1 [.NotEq] [e2] pos) Γ (.bl (!PyData.eqv (toP x) (toP y))) := ex_cmp (op_neD hr.units) (rx_neD hx hy h1 h2) ha hb (nomark _)
theorem room65 {k : Nat} {A : Around} (hr : Room k A) : A.units + 65 < cLine := by have := hr.un; omega
theorem rx_inDeep {K : PySem.W.Frag} {ys : List D} (hx : pureD x = true) (hy : pureD (.lst ys) = true) (h1 : SeqAt.shaped (toP x) = true) (h2 : SeqAt.shaped (toP (.lst ys)) = true) : RX K (rInD K) x (.lst ys) (.bl ((toPs ys).any fun z => PyData.eqv z (toP x))) := fun G H v u Q s r1 r2 k => by
  have q2 := dp_mono s (rep_dp r2 hy)
  rw [toP] at q2 h2
  exact ⟨_, _, dp_mono s (rep_dp r1 hx), q2, h1, h2, k _ G H (.refl s) (.bl _)⟩
theorem ex_inDeep {k : Nat} {ys : List D} (hr : Room k X.A) (ha : EX X E e1 Γ x) (hb : EX X E e2 Γ (.lst ys)) (hx : pureD x = true) (hy : pureD (.lst ys) = true) (h1 : SeqAt.shaped (toP x) = true) (h2 : SeqAt.shaped (toP (.lst ys)) = true) (hm : notSet e2 = true := by exact rfl) :
    EX X E (.Compare e1 [.In] [e2] pos) Γ (.bl ((toPs ys).any fun z => PyData.eqv z (toP x))) := ex_cmp (op_inD (room65 hr)) (rx_inDeep hx hy h1 h2) ha hb (noMarks hm)
end
section
variable {X : Cx} {E : En} {elt iter : Expr} {n : Str} {npos pos : Pos} {scope : Scope} {Γ : List Sl} {N : N4}
/-- y = [elt for n in iter] -/
theorem sx_setCI {m : Str} {py spos : Pos} {ds es : List D} (y : Nat) (j : Nat) (hi : WK X E (.Name n npos) iter Γ ds)
    (he : ∀ (s : Shared) (H : Hp) (C : Addr) (cl : List (Str × Addr)) (fp : List Addr) (i : Nat) (d e : D), ds[i]? = some d → es[i]? = some e → EX (X.blk s H scope (compEnvC scope cl C X.env) fp) E elt (Γ.set j (.im d)) e)
    (p : N.nx (Γ.set y (.ol es))) (hes : es.length = ds.length) (hds : ds.length ≤ sizeLine) (hN : X.N.Nodup := by assumption) (hj : X.N[j]? = some n := by exact rfl)
    (hx : ∀ (s : Shared) (H : Hp) (C : Addr) (cl : List (Str × Addr)) (fp : List Addr), (X.blk s H scope (compEnvC scope cl C X.env) fp).env.scope.names.lookup n = some .local := by intro _ _ _ _ _; kernel_rfl)
    (hsw : swapsWith (.ListComp elt [⟨.Name n npos, iter, [], 0⟩] scope pos) (some (.Name m py)) spos.line X.env = pure true := by kernel_rfl)
    (hc : X.calm = true := by exact rfl) (hy : X.N[y]? = some m := by exact rfl) (hyl : X.env.scope.names.lookup m = some .local := by kernel_rfl)
    (ok : BlkOk X.N X.env.scope scope [(n, j)] := by exact blkOk_by (by kernel_rfl)) (hs : notSet iter = true := by exact rfl) :
    SX X E (.Assign [.Name m py] (.ListComp elt [⟨.Name n npos, iter, [], 0⟩] scope pos) spos) N Γ := ⟨fun σ G H Dn v r =>
  sW_of (ps_setLc (own := [(n, j)]) (tt := fun σ H Q => ∀ s H0 C cl fp, tsW (X.blk s H0 scope (compEnvC scope cl C X.env) fp) [] σ H Q) (te := fun σ H Q => ∀ s H0 C cl fp, eW (X.blk s H0 scope (compEnvC scope cl C X.env) fp) elt σ H Q) hc hN hy hyl hsw pi_W ok (fun s H C cl fp => pg_name (X := X.blk s H scope (compEnvC scope cl C X.env) fp) hN hj (.inl (hx s H C cl fp)) (.inr (hx s H C cl fp)))
    (fun s H0 C cl fp => ⟨fun pins s2 σ2 H2 Q2 I2 h2 => pts_W.run pins s2 σ2 H2 Q2 I2 (h2 s H0 C cl fp)⟩) (fun s H0 C cl fp => ⟨fun pins s2 σ2 H2 Q2 I2 h2 => pe_W.run pins s2 σ2 H2 Q2 I2 (h2 s H0 C cl fp)⟩) (fun _ => noFold hs))
    (lc_readI v hds hes (fun R kk => hi.w σ G H R v kk) (fun i d σ2 G2 H2 Q2 hd v2 k2 s H0 C cl fp => ets_nil.w σ2 G2 H2 Q2 v2 k2)
      (fun i d e σ2 G2 H2 Q2 hd he' v2 k2 s H0 C cl fp => EX.run (he s H0 C cl fp i d e hd he') v2 fun u G3 H3 v3 x3 r3 => k2 u G3 H3 x3 r3)
      fun a o G1 H1 x1 ha h1 hg1 ok1 => r.nx _ _ G1 H1 x1.g (own_new v x1 ha h1 hg1 ok1 rfl rfl y) p)⟩
/-- y = [elt for n in iter if c] -/
theorem sx_setCF {m : Str} {py spos : Pos} {c : Expr} {ds : List D} (y : Nat) (j : Nat) (keep : D → Bool) (f : D → D) (hi : WK X E (.Name n npos) iter Γ ds)
    (ht : ∀ (s : Shared) (H : Hp) (C : Addr) (cl : List (Str × Addr)) (fp : List Addr) (i : Nat) (d : D), ds[i]? = some d → ET (X.blk s H scope (compEnvC scope cl C X.env) fp) E c (Γ.set j (.im d)) (keep d))
    (he : ∀ (s : Shared) (H : Hp) (C : Addr) (cl : List (Str × Addr)) (fp : List Addr) (i : Nat) (d : D), ds[i]? = some d → keep d = true → EX (X.blk s H scope (compEnvC scope cl C X.env) fp) E elt (Γ.set j (.im d)) (f d))
    (p : N.nx (Γ.set y (.ol ((ds.filter keep).map f)))) (hds : ds.length ≤ sizeLine) (hN : X.N.Nodup := by assumption) (hj : X.N[j]? = some n := by exact rfl)
    (hx : ∀ (s : Shared) (H : Hp) (C : Addr) (cl : List (Str × Addr)) (fp : List Addr), (X.blk s H scope (compEnvC scope cl C X.env) fp).env.scope.names.lookup n = some .local := by intro _ _ _ _ _; kernel_rfl)
    (hsw : swapsWith (.ListComp elt [⟨.Name n npos, iter, [c], 0⟩] scope pos) (some (.Name m py)) spos.line X.env = pure true := by kernel_rfl)
    (hc : X.calm = true := by exact rfl) (hy : X.N[y]? = some m := by exact rfl) (hyl : X.env.scope.names.lookup m = some .local := by kernel_rfl)
    (ok : BlkOk X.N X.env.scope scope [(n, j)] := by exact blkOk_by (by kernel_rfl)) (hs : notSet iter = true := by exact rfl) :
    SX X E (.Assign [.Name m py] (.ListComp elt [⟨.Name n npos, iter, [c], 0⟩] scope pos) spos) N Γ :=
  sx_setC y j keep f hi (fun s H C cl fp i d hd => ets_one (ht s H C cl fp i d hd)) he p hN hds (fun s H C cl fp => pg_name (X := X.blk s H scope (compEnvC scope cl C X.env) fp) hN hj (.inl (hx s H C cl fp)) (.inr (hx s H C cl fp))) hsw hc hy hyl ok hs
end
end DL
set_option maxHeartbeats 2000000
/-! DK: sorted(names, key=..), the key (len(n), n): by a def, by a lambda -/
namespace DL
open PySem PySem.Spec PyProof.Rows L2 PySem.W
abbrev rankK (x : Str) : PyData := .tuple [.int x.length, .str x]
section
variable {X : Cx} {pins : List (Addr × Obj)} {σ : L2.St} {H : Hp} {s1 : Shared} {n : Str} {x : Str} {p1 p2 p3 p4 p5 : Pos} {k : Nat}
theorem key_expr {Er : Value → Shared → Prop} (I : Inv X pins σ H s1) (hN : X.N[0]? = some n) (hσ : σ[0]? = some (some (.str x))) (hv : X.env.scope.names.lookup n = some .local) (hg : Gl X "len") (hm : X.mg "len" = none) (hl : x.length ≤ sizeLine) (hd : (n == ("__debug__" : Str)) = false) :
    wpAny (model X.prog X.w) X.A (eval (.Tuple [.Call (.Name "len" p1) [.Name n p2] [] p3, .Name n p4] k p5) X.env) (KeyPure (rankK x) s1) Er s1 := by
  obtain ⟨m, hn, hl'⟩ := I.loc
  obtain ⟨u, r, l⟩ := hl' 0 n (.str x) hN hσ (.inl hv)
  obtain ⟨t, rfl⟩ := r
  have hk : X.env.kindOf n = some .local := hv
  have hmn : m n = some (.str x t) := by
    rcases l with ⟨_, h⟩ | ⟨h, _⟩
    · exact h
    · rcases h with h | h
      · rw [hk] at h; cases h
      · rw [hk] at h; cases h
  have h63 := line63
  refine wpAny_Tuple_spliced ?_
  rw [starEach_cons rfl]
  refine Calls.spliced_cons ?_
  refine wpAny_Call_Name_kw (ld_blt I hg hm (u := .builtin "len") (by decide +kernel) ?_ (by decide +kernel) (by decide +kernel))
  refine PyProof.Rows.callWith_builtin1 ?_ (starEach_cons rfl) rfl
  rw [starEach_cons rfl]
  refine Calls.spliced_cons (wpAny_Name (wpAny_loadName_local I.ok.kind hk hn hmn ?_) hd)
  refine Calls.spliced_nil ?_
  refine len_str (by omega) ?_
  rw [starEach_cons rfl]
  refine Calls.spliced_cons (wpAny_Name (wpAny_loadName_local I.ok.kind hk hn hmn ?_) hd)
  refine Calls.spliced_nil ⟨by show 2 ≤ sizeLine; decide, _, _, rfl, fun b o e => Heap.get?_push_of_some _ e, ?_⟩
  exact .tuple (Heap.get?_push_size _ rfl) rfl rfl (.cons (as := []) (.int _ _) (.cons (as := []) (.str _ _) .nil))
end
end DL
namespace DL
open PySem PySem.Spec PyProof.Rows L2 PySem.W
section
variable {X : Cx} {pins : List (Addr × Obj)} {σ : L2.St} {H : Hp} {s : Shared} {n : Str} {x : Str} {p1 p2 p3 p4 p5 p6 : Pos} {k : Nat}
/-- the body of a key function over a fresh frame -/
theorem key_frame {scope : Scope} {qual : Str} {f : Addr} {cd : Value} {A : Around} {s1 : Shared} {t : Tok} (I : Inv X pins σ H s) (S : FnScope [n] [n] scope) (hA : A.handled = none) (hfr : A.frames = X.A.frames) (hlc : scope.names.lookup n = some .local) (hgl : scope.names.lookup ("len" : Str) = some .globalImplicit) (hm : X.mg "len" = none) (hl : x.length ≤ sizeLine) (hd : (n == ("__debug__" : Str)) = false)
    (y : InCallC s s.heap.objs.size (bindL (envOfC qual scope s.heap.objs.size f cd).kindOf ([n].zip [Value.str x t]) fun _ => none) (cellsFrom (s.heap.objs.size + 1) scope.names []) (bindC (envOfC qual scope s.heap.objs.size f cd).kindOf ([n].zip [Value.str x t]) fun _ => none) s1) (Er : Value → Shared → Prop) :
    wpAny (model X.prog X.w) (A.deeper (envOfC qual scope s.heap.objs.size f cd)) (eval (.Tuple [.Call (.Name "len" p1) [.Name n p2] [] p3, .Name n p4] k p5) (envOfC qual scope s.heap.objs.size f cd)) (KeyPure (rankK x) s) Er s1 := by
  have e0 : Env0 X.prog X.w X.K X.mg X.base A X.stack s H := by
    obtain ⟨a1, a2, a3, a4, a5, a6, a7, a8⟩ := I.env0
    exact ⟨by rw [hfr]; exact a1, a2, a3, a4, a5, a6, a7, a8⟩
  have I1 : Inv (cxOf CX0 X.prog X.w X.K X.mg X.base [n] qual scope f cd A X.stack s H (fun _ _ _ => False)) [] (L2.start [n] [.str x]) H s1 := inv_start (us := [Value.str x t]) (ps := [n]) S hA e0 rfl (.cons ⟨t, rfl⟩ .nil) y
  have kp := y.toInCall.keep
  refine wpAny_mono (key_expr (X := cxOf CX0 X.prog X.w X.K X.mg X.base [n] qual scope f cd A X.stack s H (fun _ _ _ => False)) (p1 := p1) (p2 := p2) (p3 := p3) (p4 := p4) (p5 := p5) (k := k) (Er := Er) I1 rfl rfl hlc hgl hm hl hd) (fun v s' h => ?_) fun _ _ e => e
  obtain ⟨h', tk, rfl, k1, k2⟩ := h
  obtain ⟨h1, tk1, rfl, hk1⟩ := y.done
  exact ⟨h', tk, rfl, fun b o e => k1 b o (hk1 b o e), k2⟩
theorem key_def {qual name : Str} {params : Arguments} {scope : Scope} {f : Addr} {fd : FuncData} {A : Around} (I : Inv X pins σ H s) (F : FunD X.K name qual params [.Return (some (.Tuple [.Call (.Name "len" p1) [.Name n p2] [] p3, .Name n p4] k p5)) p6] scope [] [] f fd) (S : FnScope [n] [n] scope)
    (hA : A.handled = none) (hfr : A.frames = X.A.frames) (hdp : A.depth < recursionLimit) (hlc : scope.names.lookup n = some .local) (hgl : scope.names.lookup ("len" : Str) = some .globalImplicit) (hm : X.mg "len" = none) (hl : x.length ≤ sizeLine) (hd : (n == ("__debug__" : Str)) = false)
    (bi : Binds X.K fd [n] []) (t : Tok) :
    wpAny (model X.prog X.w) A (call (.ref f) [.str x t]) (KeyPure (rankK x) s) (fun _ _ => False) s := by
  obtain ⟨oc, od, dV, kV, doc, pm, an, cdv, ct, osl, rfl, lk, hcd, _, _⟩ := F.ex
  have e0 := I.env0
  have KX : X.K.In s.heap := e0.mod.kin.keeps fun b o e => (e0.bs b o e).1
  have lim : s.heap.NoLimit := e0.mod.nolimit.keeps fun b o e => (e0.bs b o e).1
  refine wpAny_call (codeAny_call_function hdp (KX _ _ lk) rfl S.co S.gen rfl (PySem.W.codeRec_of KX hcd) (bi s [.str x t] KX rfl _ _ _ _ ?_))
  refine wpAny_newFunctionEnv_cells S.kind (fun y hy => ?_) fun env he s1 y => ?_
  · have : y = (n, Value.str x t) := by simpa using hy
    subst this
    exact .inl hlc
  subst he
  refine ⟨lim.keeps y.toInCall.keep, codeAny_func ?_⟩
  refine wpAny_execs_cons (wpAny_Return_some (wpAny_mono (key_frame (p1 := p1) (p2 := p2) (p3 := p3) (p4 := p4) (p5 := p5) (k := k) I S hA hfr hlc hgl hm hl hd y _) (fun v s' h => ?_) fun _ _ e => e))
  exact h
end
end DL
namespace DL
open PySem PySem.Spec PyProof.Rows L2 PySem.W
def rankSort (ws : List Str) : List Str := ws.mergeSort (dataLe false rankK)
def StrV (v : Value) (x : Str) : Prop := ∃ t, v = .str x t
theorem strs_each : ∀ {ws : List Str} {its : List Value}, Vals (ws.map V.str) its → EachIs StrV its ws
  | [], _, h => by cases h; exact .nil
  | x :: ws, _, h => by
    cases h with
    | cons a b => exact .cons a (strs_each b)
theorem each_strs : ∀ {ws : List Str} {its : List Value}, EachIs StrV its ws → Vals (ws.map V.str) its
  | _, _, .nil => .nil
  | _, _, .cons a b => .cons a (each_strs b)
section
variable {X : Cx} {pins : List (Addr × Obj)} {σ : L2.St} {H : Hp} {s : Shared} {ws : List Str} {Q : VK}
theorem sorted_names {a f : Addr} (I : Inv X pins σ H s) (hs : SqL X.K H a (ws.map V.str)) (hu : X.A.units + 64 < cLine)
    (turn : ∀ (x : Str) (t : Tok), x ∈ ws → ∀ (h : Heap) (tk : Nat), (∀ b o, s.heap.get? b = some o → h.get? b = some o) → wpAny (model X.prog X.w) X.A.in1.in1 (call (.ref f) [.str x t]) (KeyPure (rankK x) { s with heap := h, toks := tk }) (fun _ _ => False) { s with heap := h, toks := tk })
    (q : ∀ p, H p = none → Q (.ref p) (upd H p (.lst ((rankSort ws).map V.str)))) :
    wpAny (model X.prog X.w) X.A (call (.builtin "sorted") [.ref a] [(Str.ofString "key", .ref f)]) (EP X pins σ Q) X.xe s := by
  obtain ⟨its, rv, hl, hz⟩ := I.list hs
  rw [List.length_map] at hz
  refine sorted_key_data (b := false) rankK hl.isList (strs_each rv) (AllAlike.of fun _ _ => by simp [alike, alikeAll]) (Sortable.tuples fun _ => ⟨_, _, rfl⟩) hz (fun x _ => ?_) (PyProof.Rows.ksk_s1 _ _) (fun _ => PyProof.Rows.ksk_l1 _ _) (fun _ => PyProof.Rows.ksk_t1 _ _)
    (fun v x ⟨t, e⟩ hx h tk kp => by subst e; exact turn x t hx h tk kp) fun out c h' tk kp _ hD hlen eo => ?_
  · have hd : (rankK x).depth = 1 := by simp [PyData.depth, PyData.depthAll]
    omega
  · have hl2 : ((rankSort ws).map V.str).length ≤ sizeLine := by
      rw [List.length_map]
      unfold rankSort
      rw [List.length_mergeSort]; exact hz
    exact ⟨.ref _, upd H (s.heap.objs.size + 1) (.lst ((rankSort ws).map V.str)), I.laid (t' := tk) kp (Nat.le_succ _) ⟨hl2, out, c, each_strs eo, hD⟩, rfl, q _ (I.hok.fresh (Nat.le_succ _))⟩
variable {E : En} {e : Expr} {Γ : List Sl} {n m : Str} {p p1 p2 p3 p4 p5 p6 p7 p8 pos : Pos} {k k2 : Nat}
/-- sorted(e, key=m), m a def of the text whose answer is (len(n), n) -/
theorem eo_sortedDef {name qual : Str} {params : Arguments} {scope : Scope} {f : Addr} {fd : FuncData} (ha : EX X E e Γ (.lst (ws.map .str))) (hr : Room (k2 + 1) X.A) (F : FunD X.K name qual params [.Return (some (.Tuple [.Call (.Name "len" p1) [.Name n p2] [] p3, .Name n p4] k p5)) p6] scope [] [] f fd) (S : FnScope [n] [n] scope)
    (hw : ∀ x ∈ ws, x.length ≤ sizeLine) (hg : X.mg m = some (.ref f)) (hm : X.mg "sorted" = none) (hml : X.mg "len" = none)
    (bi : Binds X.K fd [n] []) (hlc : scope.names.lookup n = some .local := by kernel_rfl) (hgl : scope.names.lookup ("len" : Str) = some .globalImplicit := by kernel_rfl) (hd : (n == ("__debug__" : Str)) = false := by decide +kernel) (hdm : (m == ("__debug__" : Str)) = false := by decide +kernel)
    (hgm : Gl X m := by (show PySem.Env.kindOf _ _ = _); kernel_rfl) (hgs : Gl X "sorted" := by (show PySem.Env.kindOf _ _ = _); kernel_rfl) (he : noStar e = true := by exact rfl) :
    EO X E (.Call (.Name "sorted" p) [e] [⟨some "key", .Name m p7, p8⟩] pos) Γ (.ol ((rankSort ws).map .str)) := ⟨fun σ G H Q v kk pins s I => by
  refine wpAny_Call_Name_kw (ld_blt I hgs hm (u := .builtin "sorted") (by decide +kernel) ?_ (by decide +kernel) (by decide +kernel))
  refine PyProof.Rows.callWith_kw (thn ((EA.run (ea_cons ha ea_nil he) v (Q := fun vs H1 => ∃ G1, Ext X.K G H G1 H1 ∧ Reps X.K G1 [.lst (ws.map .str)] vs) fun us G1 H1 v1 x1 r1 => ⟨G1, x1, r1⟩) pos pins s I) fun us s1 ⟨vs, H1, I1, r1, G1, x1, rr⟩ => ?_) (by rw [starEach_cons he]; rfl) (starEach_any (by simp [he])) rfl rfl
  refine thn ((pk_cons (nm := some "key") (kpos := p8) (pe_glob (v := .ref f) hgm hg rfl hdm) pk_nil).run pos pins s1 σ H1 (fun zs H2 => H2 = H1 ∧ zs = [.ref f]) I1 ⟨rfl, rfl⟩) fun ws' s2 ⟨zs, H2, I2, r2, e2, e3⟩ => ?_
  subst e2 e3
  cases rr with
  | cons ra rr =>
    cases rr
    cases ra with
    | lst ga qa =>
      have := qa.of_strs
      subst this
      rename_i a
      obtain rfl := Vals.ref1 r1
      obtain rfl := Vals.ref1 r2
      refine sorted_names I2 (SqL.of (x1.sub _ _ ga)) hr.units (fun x t hx h tk kp => ?_) fun q hq => ?_
      · have I3 : Inv X pins σ H2 { s2 with heap := h, toks := tk } := I2.kept kp
        exact key_def (A := X.A.in1.in1) I3 F S hr.hd rfl hr.depth hlc hgl hml (hw x hx) hd bi t
      · exact kk q _ G1 _ (x1.trans (.newOwn x1.sub hq)) (x1.h.free hq) upd_same (x1.sub.free hq) ⟨_, rfl, .strs⟩⟩
end
end DL
set_option maxHeartbeats 2000000
/-! DK2: sorted(names, key=lambda n: (len(n), n)) -/
namespace DL
open PySem PySem.Spec PyProof.Rows L2 PySem.W
section
variable {X : Cx} {pins : List (Addr × Obj)} {σ : L2.St} {H : Hp} {s : Shared}
/-- a lambda without captured names is made -/
theorem lam_make {T : List (Addr × Str)} {c P : Addr} {params : Arguments} {body : Expr} {scope : Scope} {pos : Pos} {E : Value → Shared → Prop} {Q : Value → Shared → Prop} (I : Inv X pins σ H s) (TB : LamX.TabB X.base X.mg c P) (hcode : X.env.code = .ref c)
    (hm : (P, X.env.qual ++ "<lambda>") ∈ T) (hu : ∀ p ∈ T, p.1 = P → p.2 = X.env.qual ++ "<lambda>") (hT : LamX.Tabs T H) (hdef : defaultsOf params X.env = ([], [])) (hcl : closureFor scope X.env = pure [])
    (h : ∀ (f c' : Addr) (pm ctv : Value) (H1 : Hp) (s' : Shared), Inv X pins σ H1 s' → (∀ b o, b ≠ P → H b = some o → H1 b = some o) → (∀ b, H1 b = none → H b = none) → (∀ b, H b = none → H1 b ≠ none → s.heap.objs.size ≤ b) → LamX.Tabs T H1 →
      s'.heap.get? f = some (PySem.W.kla_obj "<lambda>" (X.env.qual ++ "<lambda>") params body scope [] pm c' ctv) → s'.heap.CodeRec (.ref c') (X.env.qual ++ "<lambda>") → Q (.ref f) s') :
    wpAny (model X.prog X.w) X.A (eval (.Lambda params body scope pos) X.env) Q E s := by
  obtain ⟨ps, hP, ht, ha⟩ := hT _ hm
  refine PySem.W.kla_eval hdef ?_
  have bP : s.heap.BuiltinsAt X.mg P := TB.bm.keeps I.bk
  have hP' : s.heap.get? P = some { cls := .none, data := .fields ps } := I.hok P _ hP
  cases hc : codeAmong pos ps.toList with
  | none =>
    refine PySem.W.kla_makeFunction (mg := X.mg) (c := c) (P := P) (ps := ps) hcl I.ok.glob (I.mod.glob.keeps I.bk) hcode (TB.code.keeps I.bk) hP' ht hc TB.gP bP fun c' ctv h' tk hx hge hlt hrec htb => ?_
    have hrec' := hrec
    obtain ⟨c2, oc, vs, t, e2, hoc, hd, hv⟩ := hrec
    cases e2
    have nC : H c' = none := I.hok.fresh hge
    have I1 := LamX.inv_table (t' := tk) (more := #[rawInt pos.line, rawInt pos.col, .ref c']) (h' := h'.push (PySem.W.kla_obj "<lambda>" (X.env.qual ++ "<lambda>") params body scope [] ((X.mg "__name__").getD .none) c' ctv)) I hP
      (fun b o hb e => Heap.get?_push_of_some _ (hx b o hb e)) (Heap.get?_push_of_some _ htb) hge ⟨oc, vs, t, Heap.get?_push_of_some _ hoc, hd, hv⟩
    have hE : LamX.ExtN H (upd (upd H P (.tbl (ps ++ #[rawInt pos.line, rawInt pos.col, .ref c']))) c' (LamX.CodeO c' (X.env.qual ++ "<lambda>"))) := fun b o e n => by
      rw [upd_ne (ne_of_none e nC), upd_ne (fun z => n ps (Option.some.inj (e.symm.trans (by rw [z]; exact hP))))]
      exact e
    have eL : (ps ++ #[rawInt pos.line, rawInt pos.col, .ref c']).toList = ps.toList ++ [rawInt pos.line, rawInt pos.col, .ref c'] := by simp
    refine h h'.objs.size c' ((X.mg "__name__").getD .none) ctv _ _ I1 (fun b o hb e => by rw [upd_ne (ne_of_none e nC), upd_ne hb]; exact e) (fun b hb => ?_) (fun b hb hb2 => ?_) (fun p hp => ?_) (Heap.get?_push_size _ rfl) ⟨c', oc, vs, t, rfl, Heap.get?_push_of_some _ hoc, hd, hv⟩
    · by_cases w1 : b = c'
      · subst w1; exact nC
      · rw [upd_ne w1] at hb
        by_cases w2 : b = P
        · subst w2; rw [upd_same] at hb; cases hb
        · rw [upd_ne w2] at hb; exact hb
    · by_cases w1 : b = c'
      · subst w1; exact hge
      · rw [upd_ne w1] at hb2
        by_cases w2 : b = P
        · subst w2; rw [hP] at hb; cases hb
        · rw [upd_ne w2] at hb2; exact absurd hb hb2
    · by_cases hb : p.1 = P
      · rw [hu p hp hb, hb]
        refine ⟨_, by rw [upd_ne (ne_of_none hP nC), upd_same], by rw [eL]; exact PySem.TriplesOk_snoc _ _ _ _ ht, fun p' cv hcv => ?_⟩
        rw [eL] at hcv
        rcases LamX.among_app _ ht hcv with z | z
        · obtain ⟨c0, e1, e2⟩ := ha p' cv z
          exact ⟨c0, e1, hE _ _ e2 LamX.codeO_ne⟩
        · exact ⟨c', z, upd_same⟩
      · obtain ⟨ps', a1, a2, a3⟩ := hT p hp
        refine ⟨ps', by rw [upd_ne (ne_of_none a1 nC), upd_ne hb]; exact a1, a2, fun p' cv hcv => ?_⟩
        obtain ⟨c0, e1, e2⟩ := a3 p' cv hcv
        exact ⟨c0, e1, hE _ _ e2 LamX.codeO_ne⟩
  | some cv =>
    obtain ⟨c', e, hco⟩ := ha pos cv hc
    subst e
    refine PySem.W.kla_makeFunctionHit (mg := X.mg) (c := c) (P := P) (ps := ps) hcl I.ok.glob (I.mod.glob.keeps I.bk) hcode (TB.code.keeps I.bk) hP' ht hc bP fun ctv h' tk hx hsz => ?_
    have I1 : Inv X pins σ H { s with heap := h'.push (PySem.W.kla_obj "<lambda>" (X.env.qual ++ "<lambda>") params body scope [] ((X.mg "__name__").getD .none) c' ctv), toks := tk } := I.kept fun b o e => Heap.get?_push_of_some _ (hx b o e)
    obtain ⟨⟨oc, vs, t, q1, q2, q3⟩, _, _⟩ := I1.hok _ _ hco
    exact h h'.objs.size c' ((X.mg "__name__").getD .none) ctv H _ I1 (fun b o _ e => e) (fun b h => h) (fun b h1 h2 => absurd h1 h2) hT (Heap.get?_push_size _ rfl) ⟨c', oc, vs, t, rfl, q1, q2, q3⟩
variable {n : Str} {x : Str} {p1 p2 p3 p4 p5 p6 : Pos} {k : Nat}
theorem key_lam {q : Str} {params : Arguments} {scope : Scope} {pm ctv : Value} {f c' : Addr} {A : Around} (I : Inv X pins σ H s) (ho : s.heap.get? f = some (PySem.W.kla_obj "<lambda>" q params (.Tuple [.Call (.Name "len" p1) [.Name n p2] [] p3, .Name n p4] k p5) scope [] pm c' ctv)) (hcd : s.heap.CodeRec (.ref c') q) (S : FnScope [n] [n] scope)
    (hA : A.handled = none) (hfr : A.frames = X.A.frames) (hdp : A.depth < recursionLimit) (hlc : scope.names.lookup n = some .local) (hgl : scope.names.lookup ("len" : Str) = some .globalImplicit) (hm : X.mg "len" = none) (hl : x.length ≤ sizeLine) (hd : (n == ("__debug__" : Str)) = false)
    (bi : ∀ u : Value, bindArgs (PySem.W.kla_fn "<lambda>" q params (.Tuple [.Call (.Name "len" p1) [.Name n p2] [] p3, .Name n p4] k p5) scope [] pm (.ref c') ctv) ⟨[u], []⟩ = pure ([n].zip [u])) (t : Tok) :
    wpAny (model X.prog X.w) A (call (.ref f) [.str x t]) (KeyPure (rankK x) s) (fun _ _ => False) s := by
  have e0 := I.env0
  have lim : s.heap.NoLimit := e0.mod.nolimit.keeps fun b o e => (e0.bs b o e).1
  refine wpAny_call (kla_callFunE hdp ho rfl S.co S.gen rfl hcd ?_)
  rw [bi]
  refine wpAny_pure ?_
  refine wpAny_newFunctionEnv_cells S.kind (fun y hy => ?_) fun env he s1 y => ?_
  · have : y = (n, Value.str x t) := by simpa using hy
    subst this
    exact .inl hlc
  subst he
  refine ⟨lim.keeps y.toInCall.keep, kla_codeExpr ?_⟩
  exact wpAny_mono (key_frame (qual := q) (p1 := p1) (p2 := p2) (p3 := p3) (p4 := p4) (p5 := p5) (k := k) I S hA hfr hlc hgl hm hl hd y _) (fun v s' h => h) fun _ _ e => e
end
section
variable {X : Cx} {E : En} {e : Expr} {Γ : List Sl} {ws : List Str} {n : Str} {p p1 p2 p3 p4 p5 p6 p7 p8 pos : Pos} {k k2 : Nat}
/-- sorted(e, key=lambda n: (len(n), n)) -/
theorem eo_sortedLam {c P : Addr} {params : Arguments} {scope : Scope} (ha : EX X E e Γ (.lst (ws.map .str))) (hr : Room (k2 + 1) X.A) (TB : LamX.TabB X.base X.mg c P) (hcode : X.env.code = .ref c) (hm : (P, X.env.qual ++ "<lambda>") ∈ TK X.K) (hu : ∀ p ∈ TK X.K, p.1 = P → p.2 = X.env.qual ++ "<lambda>")
    (S : FnScope [n] [n] scope) (hw : ∀ x ∈ ws, x.length ≤ sizeLine) (hms : X.mg "sorted" = none) (hml : X.mg "len" = none) (hdef : defaultsOf params X.env = ([], [])) (hcl : closureFor scope X.env = pure [])
    (bi : ∀ (q : Str) (pm ctv : Value) (c' : Addr) (u : Value), bindArgs (PySem.W.kla_fn "<lambda>" q params (.Tuple [.Call (.Name "len" p1) [.Name n p2] [] p3, .Name n p4] k p5) scope [] pm (.ref c') ctv) ⟨[u], []⟩ = pure ([n].zip [u]))
    (hlc : scope.names.lookup n = some .local := by kernel_rfl) (hgl : scope.names.lookup ("len" : Str) = some .globalImplicit := by kernel_rfl) (hd : (n == ("__debug__" : Str)) = false := by decide +kernel)
    (hgs : Gl X "sorted" := by (show PySem.Env.kindOf _ _ = _); kernel_rfl) (he : noStar e = true := by exact rfl) :
    EO X E (.Call (.Name "sorted" p) [e] [⟨some "key", .Lambda params (.Tuple [.Call (.Name "len" p1) [.Name n p2] [] p3, .Name n p4] k p5) scope p7, p8⟩] pos) Γ (.ol ((rankSort ws).map .str)) := ⟨fun σ G H Q v kk pins s I => by
  refine wpAny_Call_Name_kw (ld_blt I hgs hms (u := .builtin "sorted") (by decide +kernel) ?_ (by decide +kernel) (by decide +kernel))
  refine PyProof.Rows.callWith_kw (thn ((EA.run (ea_cons ha ea_nil he) v (Q := fun vs H1 => ∃ G1, Env X.K E Γ σ G1 H1 ∧ Ext X.K G H G1 H1 ∧ Reps X.K G1 [.lst (ws.map .str)] vs) fun us G1 H1 v1 x1 r1 => ⟨G1, v1, x1, r1⟩) pos pins s I) fun us s1 ⟨vs, H1, I1, r1, G1, v1, x1, rr⟩ => ?_) (by rw [starEach_cons he]; rfl) (starEach_any (by simp [he])) rfl rfl
  show wpAny _ _ (evalAll [(do let v ← eval (.Lambda params (.Tuple [.Call (.Name "len" p1) [.Name n p2] [] p3, .Name n p4] k p5) scope p7) X.env; standAt pos; pure v)]) _ _ _
  refine wpAny_evalAll_cons (wpAny_bind (lam_make I1 TB hcode hm hu v1.tb.1 hdef hcl fun f c' pm ctv H2 s2 I2 xn xf xl tb2 ho hcd => wpAny_bind (wpAny_standAt (wpAny_pure (wpAny_evalAll_nil ?_)))))
  cases rr with
  | cons ra rr =>
    cases rr
    cases ra with
    | lst ga qa =>
      have := qa.of_strs
      subst this
      rename_i a
      obtain rfl := Vals.ref1 r1
      have x2 : Ext X.K G1 H1 G1 H2 := ⟨Same.refl G1, ⟨fun b o h nt => xn b o (fun z => by
        obtain ⟨ps, h1, _⟩ := v1.tb.1 _ hm
        rw [z, h1] at h; exact nt ps (Option.some.inj h).symm) h, xf, fun _ => tb2⟩, fun b o hb => xn b o (fun z => by rw [z, v1.tb.2 _ hm] at hb; cases hb) (x1.sub b o hb), fun b o h n => n⟩
      have x3 := x1.trans x2
      have ga2 : H2 a = some (.lst (ws.map V.str)) := x2.sub _ _ ga
      show wpAny _ _ (call (.builtin "sorted") [.ref a] [(Str.ofString "key", .ref f)]) _ _ _
      refine sorted_names I2 (SqL.of ga2) hr.units (fun x t hx h tk kp => ?_) fun q hq => ?_
      · have I3 : Inv X pins σ H2 { s2 with heap := h, toks := tk } := I2.kept kp
        obtain ⟨c2, oc, vs2, t2, q1, q2, q3, q4⟩ := hcd
        exact key_lam (A := X.A.in1.in1) I3 (kp _ _ ho) ⟨c2, oc, vs2, t2, q1, kp _ _ q2, q3, q4⟩ S hr.hd rfl hr.depth hlc hgl hml (hw x hx) hd (bi _ pm ctv c') t
      · exact kk q _ G1 _ (x3.trans (.newOwn x2.sub hq)) (x3.h.free hq) upd_same (x2.sub.free hq) ⟨_, rfl, .strs⟩⟩
end
end DL
set_option maxHeartbeats 2000000
/-! DK3: defs that hand out an own (new) object; defs that make lambdas -/
namespace DL
open PySem PySem.Spec PyProof.Rows L2
/-- a specification: for these data a new object of this content -/
abbrev SpecO := List D → Sl → Prop
def spO (K : PySem.W.Frag) (S : SpecO) : Sp := fun vs H Q _ => ∃ (G : Hp) (ds : List D) (s : Sl), Same G H ∧ TabsG K G H ∧ Reps K G ds vs ∧ S ds s ∧ ∀ p o G' H', Ext K G H G' H' → H p = none → H' p = some o → G' p = none → OwnOk K G' s o → Q (.ref p) H'
/-- the module's def n hands out a new object -/
structure CalO (P : Program) (w : World) (K : PySem.W.Frag) (mg : Str → Option Value) (base : Heap) (n : Str) (k : Nat) (ps : List Str) (S : SpecO) : Prop where
  ex : ∃ (f : Addr) (fd : FuncData), FnOk P w K mg base CX0 k f fd ps (spO K S) ∧ mg n = some (.ref f) ∧ PySem.W.keepIn K (.ref f) = true ∧ Binds K fd ps []
section
variable {P : Program} {w : World} {K : PySem.W.Frag} {mg : Str → Option Value} {base : Heap} {x qual : Str} {params : Arguments} {body : List Stmt} {scope : Scope} {f : Addr} {fd : FuncData}
theorem fn_okO {N ps : List Str} {k : Nat} {S : SpecO} (F : FunD K x qual params body scope [] [] f fd) (sc : FnScope N ps scope) (hl : ∀ ds s, S ds s → ds.length = ps.length)
    (hb : ∀ (c : Addr), (∃ oc od osl, K.lookup f = some ⟨oc, od, .func fd, osl⟩ ∧ fd.code = .ref c) → ∀ (A : Around) (outer : List PySem.Env) (s : Shared) (H : Hp) (Ew : XK) (E : En) (ds : List D) (sl : Sl), Room k (A.deeper (envOfC qual scope s.heap.objs.size f (.ref c))) → S ds sl →
      ∀ (σ : L2.St) (G H1 : Hp) (Dn : Ends), Env K E (ds.map .im ++ List.replicate (N.length - ds.length) .un) σ G H1 → (∀ p o G' H', Ext K G H1 G' H' → H1 p = none → H' p = some o → G' p = none → OwnOk K G' sl o → Dn.rt (.ref p) H') → ssW (cxOf CX0 P w K mg base N qual scope f (.ref c) A outer s H Ew).nox body Dn σ H1) : FnOk P w K mg base CX0 (k + 1) f fd ps (spO K S) := by
  have hpn : ps.length ≤ N.length := by have := congrArg List.length sc.pre; rw [List.length_take] at this; omega
  obtain ⟨oc, od, dV, kV, doc, pm, an, cdv, ct, osl, rfl, lk, hcd, _, _⟩ := F.ex
  obtain ⟨c, rfl⟩ := He.codeIn_ref hcd
  refine fn_of lk hcd sc (fun vs H Q Ew h => ?_) (fun A outer s H vs Q Ew hr h => ?_)
  · obtain ⟨G, ds, sl, _, _, r, q, _⟩ := h
    rw [← r.length]; exact hl ds sl q
  · obtain ⟨G, ds, sl, sg, tb, r, q, k2⟩ := h
    refine ⟨_, PSs.nox pss_W, ?_⟩
    have v0 := env_start (X := (cxOf CX0 P w K mg base N qual scope f (.ref c) A outer s H Ew).nox) (N := N) sg tb r (by rw [hl ds sl q]; exact hpn)
    exact hb c ⟨oc, od, osl, lk, rfl⟩ A outer s H Ew ⟨G, H, none⟩ ds sl hr q _ G H _ v0 fun p o G' H' x hp hp' hg ok => k2 p o G' H' x hp hp' hg ok
theorem calO_mk {n qual : Str} {params : Arguments} {body : List Stmt} {scope : Scope} {N ps : List Str} {S : SpecO} (k : Nat) (d : ∃ fd, FunD K n qual params body scope [] [] (He.ga K n) fd) (g : mg n = some (.ref (He.ga K n))) (sc : FnScope N ps scope)
    (bi : ∀ (kV doc pm : Value) (an : Option Addr) (cdv ct : Value) (us : List Value), us.length = ps.length → bindArgs (PySem.W.fnOf n qual params body scope .none kV doc pm an cdv ct) ⟨us, []⟩ = pure (ps.zip us)) (hl : ∀ ds s, S ds s → ds.length = ps.length)
    (hb : ∀ (c : Addr), He.codeOf K (n, none) = c → ∀ (A : Around) (outer : List PySem.Env) (s : Shared) (H : Hp) (Ew : XK) (E : En) (ds : List D) (sl : Sl), Room k (cxOf CX0 P w K mg base N qual scope (He.ga K n) (.ref c) A outer s H Ew).nox.A → S ds sl →
      ∀ (σ : L2.St) (G H1 : Hp) (Dn : Ends), Env K E (ds.map .im ++ List.replicate (N.length - ds.length) .un) σ G H1 → (∀ p o G' H', Ext K G H1 G' H' → H1 p = none → H' p = some o → G' p = none → OwnOk K G' sl o → Dn.rt (.ref p) H') → ssW (cxOf CX0 P w K mg base N qual scope (He.ga K n) (.ref c) A outer s H Ew).nox body Dn σ H1) : CalO P w K mg base n (k + 1) ps S := by
  obtain ⟨fd, F⟩ := d
  exact ⟨_, fd, fn_okO F sc hl fun c ⟨oc, od, osl, lk, e⟩ A outer s H Ew E ds sl hr => hb c (He.codeOf_eq lk e) A outer s H Ew E ds sl hr, g, F.kp, F.bindsN bi⟩
/-- .. as data -/
theorem CalO.cal {n : Str} {k : Nat} {ps : List Str} {S : SpecO} (C : CalO P w K mg base n k ps S) {S' : Spec} (h : ∀ ds Φ, S' ds Φ → ∃ s d, S ds s ∧ Φ d ∧ ∀ (G' : Hp) (a : Addr) (o : HO), G' a = some o → OwnOk K G' s o → Rep K G' d (.ref a)) : Cal P w K mg base n k ps S' := by
  obtain ⟨f, fd, F, g, kp, b⟩ := C.ex
  refine ⟨f, fd, F.imp fun vs H Q Ew h1 => ?_, g, kp, b⟩
  obtain ⟨G, ds, Φ, sg, tb, r, q, k2⟩ := h1
  obtain ⟨s, d, q1, q2, q3⟩ := h ds Φ q
  refine ⟨G, ds, s, sg, tb, r, q1, fun p o G1 H1 x hp hp1 hg ok => ?_⟩
  have sg1 : Same G1 (upd G1 p o) := same_new hg
  refine k2 d (.ref p) (upd G1 p o) H1 q2 ⟨x.g.trans sg1, x.h, fun b u e => ?_, fun b u e n => ?_⟩ (q3 _ p o upd_same (ok.mono sg1))
  · by_cases hb : b = p
    · subst hb; rw [upd_same] at e; rw [← e]; exact hp1
    · rw [upd_ne hb] at e; exact x.sub b u e
  · rw [upd_ne (ne_of_none e hp)]; exact x.fr b u e n
end
section
variable {X : Cx} {E : En} {e : Expr} {es : List Expr} {Γ : List Sl} {ds : List D} {sl : Sl} {pos p : Pos}
theorem eo_cal {k : Nat} {ps : List Str} {S : SpecO} {n : Str} (C : CalO X.prog X.w X.K X.mg X.base n k ps S) (hr : Room k X.A) (ha : EA X E (e :: es) Γ ds) (hS : S ds sl) (hg : Gl X n := by (show PySem.Env.kindOf _ _ = _); kernel_rfl) (hdb : (n == ("__debug__" : Str)) = false := by decide +kernel)
    (he : noStar e = true := by exact rfl) (hpl : es.all noStar = true := by exact rfl) : EO X E (.Call (.Name n p) (e :: es) [] pos) Γ sl := by
  obtain ⟨f, fd, F, g, kp, b⟩ := C.ex
  exact ⟨fun σ G H Q v k => eW_of (pe_call F hr hg g kp b .nil pass0 pa_W hdb (starEach_cons he) (starEach_any hpl)) (ha.run v fun us G1 H1 v1 x1 r1 => by
    rw [List.append_nil]
    exact ⟨G1, ds, sl, x1.sub, v1.tb, r1, hS, fun p o G2 H2 x2 hp hp2 hg ok => k p o G2 H2 (x1.trans x2) (x1.h.free hp) hp2 hg ok⟩)⟩
/-- return of a new object -/
theorem ss_retO {Dn : Ends} {σ : L2.St} {G H : Hp} (h : EO X E e Γ sl) (v : Env X.K E Γ σ G H) (k : ∀ p o G' H', Ext X.K G H G' H' → H p = none → H' p = some o → G' p = none → OwnOk X.K G' sl o → Dn.rt (.ref p) H') : ssW X [.Return (some e) pos] Dn σ H :=
  ssW_of (pss_one (ps_ret pe_W)) (h.w σ G H _ v fun p o G1 H1 x hp hp1 hg ok => k p o G1 H1 x hp hp1 hg ok)
end
end DL
namespace DL
open PySem PySem.Spec PyProof.Rows L2
section
variable {X : Cx} {E : En} {e c : Expr} {Γ : List Sl} {d : D} {b : Bool} {pos pos1 pos' : Pos} {N : N4}
theorem set_self {Γ : List Sl} {i : Nat} {s : Sl} (h : Γ[i]? = some s) : Γ.set i s = Γ := by
  obtain ⟨hi, e⟩ := List.getElem?_eq_some_iff.mp h
  rw [← e]
  exact List.set_getElem_self hi
/-- if c: x = e; x is d both ways -/
theorem sx_if_set {n : Str} (i : Nat) (h : ET X E c Γ b) (h1 : b = true → EX X E e Γ d) (h2 : b = false → Γ[i]? = some (.im d)) (p : N.nx (Γ.set i (.im d))) (hN : X.N.Nodup := by assumption) (hi : X.N[i]? = some n := by exact rfl) (hx : Loc X.env.scope n := by exact Or.inl (by kernel_rfl))
    (hs : notComp e = true := by exact rfl) (hf : X.fn n = true ∨ X.env.scope.names.lookup n = some .local := by exact .inl rfl) : SX X E (.If c [.Assign [.Name n pos'] e pos1] [] pos) N Γ :=
  sx_if h (fun hb => sxs_one (sx_set i (h1 hb) p hN hi hx hs hf)) (fun hb => sxs_nil (by rw [← set_self (h2 hb)]; exact p))
end
end DL
set_option maxHeartbeats 200000
/-! DW: for sign in "(),": told = told.replace(sign, " " + sign + " ") -/
namespace DL
open PySem PySem.Spec PyProof.Rows L2
section
variable {X : Cx} {pins : List (Addr × Obj)} {σ : L2.St} {H : Hp} {s : Shared} {ns nt : Str} {c u : Nat} {j0 j1 : Nat} {p1 p2 p3 p4 p5 : Pos}
theorem sign_arg {m : Str → Option Value} {E : Value → Shared → Prop} (I : L2.Inv X pins σ H s) (hk : X.env.kindOf ns = some .local) (hn : s.heap.Ns X.env.locals m) (hm : m ns = some (.str ⟨#[c]⟩ u)) (hd : (ns == ("__debug__" : Str)) = false) :
    wpAny (model X.prog X.w) X.A (eval (.BinOp (.BinOp (.Constant (.str " ") j0 p1) .Add (.Name ns p2) p3) .Add (.Constant (.str " ") j1 p4) p5) X.env) (fun v s' => ∃ tv tk, v = .str ((" " : Str) ++ ⟨#[c]⟩ ++ " ") tv ∧ s.toks ≤ tv ∧ s.toks ≤ tk ∧ s' = { s with toks := tk }) E s := by
  refine wpAny_BinOp (wpAny_BinOp (Calls.Constant_str (wpAny_Name (wpAny_loadName_local I.ok.kind hk hn hm ?_) hd)))
  have l1 : (⟨#[c]⟩ : Str).length = 1 := rfl
  have l2 : ((" " : Str) ++ ⟨#[c]⟩).length = 2 := by rw [Str.length_append]; rfl
  refine PySem.P.add_str ?_
  rw [if_neg (by decide), if_neg (by rw [l1]; decide)]
  refine ⟨by rw [l2]; decide, Calls.Constant_str (PySem.P.add_str ?_)⟩
  rw [if_neg (by rw [l2]; decide), if_neg (by decide)]
  refine ⟨by rw [Str.length_append, l2]; decide, _, _, rfl, ?_, ?_, rfl⟩
  · show s.toks ≤ s.toks + 1 + 1 + 1; omega
  · show s.toks ≤ s.toks + 1 + 1 + 1 + 1; omega
def rep1 (c : Nat) (x : Str) : Str := Txt.replace x ⟨#[c]⟩ ((" " : Str) ++ ⟨#[c]⟩ ++ " ")
theorem sign_repl {m : Str → Option Value} {E : Value → Shared → Prop} {x : Str} {t : Tok} {p6 p7 p8 pos : Pos} (I : L2.Inv X pins σ H s) (hk : X.env.kindOf ns = some .local) (hn : s.heap.Ns X.env.locals m) (hm : m ns = some (.str ⟨#[c]⟩ u)) (hd : (ns == ("__debug__" : Str)) = false)
    (hk2 : X.env.kindOf nt = some .local) (hm2 : m nt = some (.str x t)) (hd2 : (nt == ("__debug__" : Str)) = false) (hu : u ≠ 0) (hut : u < s.toks) (hl : x.length ≤ 100000) (hline : (p6.endLine == pos.line) = true) :
    wpAny (model X.prog X.w) X.A (eval (.Call (.Attribute (.Name nt p7) "replace" p6) [.Name ns p8, .BinOp (.BinOp (.Constant (.str " ") j0 p1) .Add (.Name ns p2) p3) .Add (.Constant (.str " ") j1 p4) p5] [] pos) X.env) (fun v s' => ∃ tv tk, v = .str (rep1 c x) tv ∧ s.toks ≤ tk ∧ s' = { s with toks := tk }) E s := by
  have l3 : ((" " : Str) ++ ⟨#[c]⟩ ++ " ").length = 3 := by rw [Str.length_append, Str.length_append]; rfl
  have hyz : ((⟨#[c]⟩ : Str) == (" " : Str) ++ ⟨#[c]⟩ ++ " ") = false := beq_eq_false_iff_ne.mpr fun z => by
    have := congrArg Str.length z
    rw [l3] at this
    exact absurd this (by show ¬ (1 = 3); decide)
  refine PySem.Call_method2 (attrBase rfl) (starEach_two rfl rfl) hline (wpAny_Name (wpAny_loadName_local I.ok.kind hk2 hn hm2 ?_) hd2)
  refine ⟨"str", _, PySem.F.plainAttrs_str, PySem.F.slot_str_replace, PySem.F.type_str_replace, typeIs_str _ _ _, (fun _ e => nomatch e), Calls.callWith_builtin rfl (Calls.evalArgs_plain (Calls.spliced_cons ?_))⟩
  refine wpAny_Name (wpAny_loadName_local I.ok.kind hk hn hm (Calls.spliced_cons (wpAny_mono (sign_arg I hk hn hm hd) (fun v s1 h1 => Calls.spliced_nil ?_) fun _ _ e => e))) hd
  obtain ⟨tv, tk, rfl, h1, h2, rfl⟩ := h1
  exact PySem.wpAny_with_toks (n := s.toks) h2 (PySem.SC.replace hu (Nat.pos_iff_ne_zero.mp (Nat.lt_of_lt_of_le (Nat.lt_of_le_of_lt (Nat.zero_le _) hut) h1)) (Nat.ne_of_lt (Nat.lt_of_lt_of_le hut h1)) hyz (by rw [l3]; omega) fun t' k hk => ⟨t', k, rfl, hk, rfl⟩)
/-- a store of exactly this value -/
theorem store_exact {M : Model} {A : Around} {E : Value → Shared → Prop} {i : Nat} {x : Str} {v : V} {u : Value} {m : Str → Option Value} {Q : Unit → Shared → Prop} (I : L2.Inv X pins σ H s) (hN : X.N.Nodup) (hi : X.N[i]? = some x) (hk : X.env.scope.names.lookup x = some .local) (r : RelV v u) (hn : s.heap.Ns X.env.locals m)
    (h : ∀ h', h'.Ns X.env.locals (fun y => if y = x then some u else m y) → Heap.SameBut X.env.locals s.heap h' → L2.Inv X pins (σ.set i (some v)) H { s with heap := h', toks := s.toks + 1 } → Q () { s with heap := h', toks := s.toks + 1 }) : wpAny M A (storeName X.env x u) Q E s := by
  obtain ⟨m0, hn0, hl⟩ := id I.loc
  have hcls : (X.env.scope.kind == .class || (X.env.scope.kind == .module && X.env.locals != X.env.globals)) = false := by rw [I.ok.kind]; rfl
  have em : m0 = m := funext fun y => by
    obtain ⟨o, es, ep, e1, e2, _, e4⟩ := hn0
    obtain ⟨o', es', ep', f1, f2, _, f4⟩ := hn
    rw [e1] at f1; cases f1
    rw [e2] at f2; cases f2
    rw [← e4 y, ← f4 y]
  subst em
  have hiσ : i < σ.length := by rw [I.len]; exact (List.getElem?_eq_some_iff.mp hi).1
  refine wpAny_storeName_local hk hn (fun h' hn' hs => h h' hn' hs ?_) hcls
  have ne : ∀ b o, X.s_0.heap.get? b = some o → b ≠ X.env.locals := fun b o e => Nat.ne_of_lt (Nat.lt_of_lt_of_le (Heap.lt_size e) I.ok.above)
  refine ⟨I.ok, I.os, I.bare, ⟨fun b o e n hb hx => ?_, fun b o e n hb hx => ?_, I.base.free, fun b o e hx => ?_, I.base.tups, I.base.frzs, I.base.tbls⟩, ⟨_, hn', fun j y v' e1 e2 e3 => ?_⟩, fun y c e => ?_, I.free, I.freeC, fun p hp => ?_, fun b ob e => ?_, by simpa using I.len⟩
  · exact (hs.2 b (ne b o e)).trans (I.base.keep b o e n hb hx)
  · obtain ⟨sl, e1⟩ := I.base.slot b o e n hb hx
    exact ⟨sl, (hs.2 b (ne b o e)).trans e1⟩
  · obtain ⟨o', e1⟩ := I.base.there b o e hx
    exact ⟨o', (hs.2 b (ne b o e)).trans e1⟩
  · by_cases hj : j = i
    · subst hj
      rw [hi] at e1; cases e1
      rw [List.getElem?_set_self hiσ] at e2
      cases e2
      exact ⟨u, r, .inl ⟨hk, by simp⟩⟩
    · rw [List.getElem?_set_ne (Ne.symm hj)] at e2
      obtain ⟨u', r', q⟩ := hl j y v' e1 e2 e3
      refine ⟨u', r', ?_⟩
      rcases q with ⟨k, e⟩ | ⟨k, c, e, z⟩
      · refine .inl ⟨k, ?_⟩
        have : y ≠ x := fun e => hj (nodup_ix hN e1 (e ▸ hi))
        simp [this, e]
      · exact .inr ⟨k, c, e, z.sameBut hs (I.cne y c e)⟩
  · obtain ⟨w', z⟩ := I.cell y c e
    exact ⟨w', z.sameBut hs (I.cne y c e)⟩
  · obtain ⟨e, n, ne, nf, d⟩ := I.pin p hp
    exact ⟨(hs.2 p.1 ne).trans e, n, ne, nf, d⟩
  · refine (I.hok b ob e).stay (fun c w' hc q => (hs.2 c ?_).trans q) (fun _ q => q) fun _ _ q => q
    rintro rfl
    rcases hc with rfl | hc
    · rw [I.free] at e; cases e
    · rw [I.free] at hc; cases hc
def signC (i : Nat) : Nat := if i = 0 then 40 else if i = 1 then 41 else 44
def repI (x : Str) : Nat → Str
  | 0 => x
  | i + 1 => rep1 (signC i) (repI x i)
theorem repI_len (x : Str) (h : x.length ≤ 1000) : ∀ i, i ≤ 2 → (repI x i).length ≤ 100000 := fun i hi => by
  have step : ∀ c y, (rep1 c y).length ≤ 4 * y.length + 3 := fun c y => by
    have := _root_.TK.replace_len y ⟨#[c]⟩ ((" " : Str) ++ ⟨#[c]⟩ ++ " ")
    have l3 : ((" " : Str) ++ ⟨#[c]⟩ ++ " ").length = 3 := by rw [Str.length_append, Str.length_append]; rfl
    rw [l3] at this
    unfold rep1; omega
  match i, hi with
  | 0, _ => show x.length ≤ _; omega
  | 1, _ => have := step (signC 0) x; show (rep1 (signC 0) x).length ≤ _; omega
  | 2, _ =>
    have h1 := step (signC 0) x
    have h2 := step (signC 1) (rep1 (signC 0) x)
    show (rep1 (signC 1) (rep1 (signC 0) x)).length ≤ _; omega
theorem sign_at0 : ("()," : Str).cps[0]? = some 40 := by kernel_rfl
theorem sign_at1 : ("()," : Str).cps[1]? = some 41 := by kernel_rfl
theorem sign_at2 : ("()," : Str).cps[2]? = some 44 := by kernel_rfl
theorem sign_at3 : ("()," : Str).cps[3]? = none := by kernel_rfl
theorem sign_at (i : Nat) (h : i < 3) : ("()," : Str).cps[i]? = some (signC i) := by
  have : i = 0 ∨ i = 1 ∨ i = 2 := by omega
  rcases this with rfl | rfl | rfl
  · exact sign_at0
  · exact sign_at1
  · exact sign_at2
variable {E : En} {Γ : List Sl} {N : N4} {p6 p7 p8 p9 q1 q2 q3 q4 q5 : Pos} {j2 : Nat}
theorem sx_signs {x : Str} (it is : Nat) (hs : Γ[it]? = some (.im (.str x)) := by exact rfl) (hl : x.length ≤ 1000) (p : N.nx ((Γ.set is (.im (.str ⟨#[44]⟩))).set it (.im (.str (repI x 3))))) (hN : X.N.Nodup := by assumption) (hit : X.N[it]? = some nt := by exact rfl) (his : X.N[is]? = some ns := by exact rfl) (hne : it ≠ is := by decide)
    (hkt : X.env.scope.names.lookup nt = some .local := by kernel_rfl) (hks : X.env.scope.names.lookup ns = some .local := by kernel_rfl) (hd : (ns == ("__debug__" : Str)) = false := by decide +kernel) (hd2 : (nt == ("__debug__" : Str)) = false := by decide +kernel) (hc : X.calm = true := by exact rfl) (hline : (p6.endLine == p9.line) = true := by exact rfl)
    (hsw : ∀ (z : Option Expr) (l : Nat), swapsWith (.Call (.Attribute (.Name nt p7) "replace" p6) [.Name ns p8, .BinOp (.BinOp (.Constant (.str " ") j0 p1) .Add (.Name ns p2) p3) .Add (.Constant (.str " ") j1 p4) p5] [] p9) z l X.env = pure false := by intro _ _; rfl) :
    SX X E (.For (.Name ns q1) (.Constant (.str "(),") j2 q2) [.Assign [.Name nt q3] (.Call (.Attribute (.Name nt p7) "replace" p6) [.Name ns p8, .BinOp (.BinOp (.Constant (.str " ") j0 p1) .Add (.Name ns p2) p3) .Add (.Constant (.str " ") j1 p4) p5] [] p9) q4] [] q5) N Γ := ⟨fun σ G H Dn v r => fun pins s I => by
  refine wpAny_For (Calls.Constant_str (wpAny_pyIter_ascii (by decide +kernel) ?_)) (fun x => noFold rfl)
  have nf : ∀ {b : Addr}, s.heap.objs.size ≤ b → FpOk X pins H b := fun {b} hb => I.fpOk hb (I.hok.fresh hb)
  obtain ⟨f1, f2, f3, f4, f5, f6⟩ := nf (Nat.le_refl _)
  have I0 : L2.Inv X pins σ H { s with heap := s.heap.push { cls := .type "str_ascii_iterator", data := .fields #[.str "()," s.toks, .int 0 0] }, toks := s.toks + 1 } := I.kept fun b o e => Heap.get?_push_of_some _ e
  refine codeAny_forLoop_any (fun k s' => ∃ (i : Nat) (Γ' : List Sl) (σ' : L2.St), i ≤ 3 ∧ k = 4 - i ∧ 1 ≤ s'.toks ∧ L2.Inv X pins σ' H s' ∧ s'.heap.IsStrIter s.heap.objs.size "str_ascii_iterator" "()," s.toks i ∧ Env X.K E Γ' σ' G H ∧ Γ'[it]? = some (.im (.str (repI x i))) ∧ Γ'.length = Γ.length ∧ (∀ a b, (Γ'.set is a).set it b = (Γ.set is a).set it b) ∧ (i = 3 → Γ' = (Γ.set is (.im (.str ⟨#[44]⟩))).set it (.im (.str (repI x 3))))) ?_ 4
    ⟨0, Γ, σ, by decide, rfl, Nat.succ_pos _, I0, ⟨_, Heap.get?_push_size _ rfl, rfl, rfl⟩, v, hs, rfl, fun _ _ => rfl, fun z => by cases z⟩
  rintro k s' ⟨i, Γ', σ', hi, rfl, ht, I', hst, v', hy, hlen, habs, hfin⟩
  by_cases h3 : i = 3
  · subst h3
    refine wpAny_pyNext_ascii_end (I.ok.hd hc) hst sign_at3 fun h' he => ?_
    refine wpAny_execs_nil ?_
    have I1 : L2.Inv X pins σ' H { s' with heap := h' } := I'.turned (t' := s'.toks) (fun b o hb e => he b o hb e) f1 f2 f4 f5 f6
    exact ⟨σ', H, I1, r.nx _ _ G H (Same.refl G) v' (by rw [hfin rfl]; exact p)⟩
  · have hi3 : i < 3 := by omega
    have hc' := sign_at i hi3
    refine wpAny_pyNext_ascii_item hst hc' fun h' hst' he => ?_
    refine wpAny_pure ?_
    have I1 : L2.Inv X pins σ' H { s' with heap := h', toks := s'.toks + 1 } := I'.turned (fun b o hb e => (he.2 b hb).trans e) f1 f2 f4 f5 f6
    obtain ⟨m, hn, hlk⟩ := id I1.loc
    refine wpAny_assign_Name (store_exact I1 hN his hks (v := .str ⟨#[signC i]⟩) ⟨_, rfl⟩ hn fun h2 hn2 hs2 I2 => ?_)
    obtain ⟨z, hz1, hz2⟩ := v'.im hy
    cases hz2
    obtain ⟨uu, ⟨tt, rfl⟩, lk⟩ := hlk it nt _ hit hz1 (.inl hkt)
    have hkt' : X.env.kindOf nt = some .local := hkt
    have hmt : m nt = some (.str (repI x i) tt) := by
      rcases lk with ⟨_, h⟩ | ⟨h, _⟩
      · exact h
      · rcases h with h | h
        · rw [hkt'] at h; cases h
        · rw [hkt'] at h; cases h
    have hnn : nt ≠ ns := fun e => hne (nodup_ix hN hit (e ▸ his))
    have ht0 : s'.toks ≠ 0 := Nat.pos_iff_ne_zero.mp ht
    refine wpAny_execs_cons (wpAny_Assign_Name (wpAny_mono (sign_repl I2 hks hn2 (if_pos rfl) hd hkt ((if_neg hnn).trans hmt) hd2 ht0 (Nat.lt_succ_of_le (Nat.le_succ _)) (repI_len x hl i (by omega)) hline) (fun w s3 h3 => ?_) fun _ _ e => e) (hsw _ _))
    obtain ⟨tv, tk, rfl, htk, rfl⟩ := h3
    have I3 : L2.Inv X pins (σ'.set is (some (.str ⟨#[signC i]⟩))) H { s' with heap := h2, toks := tk } := I2.tok tk
    refine store_exact I3 hN hit hkt (v := .str (repI x (i + 1))) ⟨tv, rfl⟩ hn2 fun h4 hn4 hs4 I4 => ?_
    refine wpAny_execs_nil ?_
    have v4 := (v'.setIm (i := is) (d := .str ⟨#[signC i]⟩) (.str _)).setIm (i := it) (d := .str (repI x (i + 1))) (.str _)
    have hil : it < Γ'.length := (List.getElem?_eq_some_iff.mp hy).1
    refine ⟨4 - (i + 1), by omega, i + 1, _, _, hi3, rfl, ?_, I4, ?_, v4, ?_, ?_, fun a b => ?_, fun e => ?_⟩
    · show 1 ≤ tk + 1; omega
    · have n1 : s.heap.objs.size ≠ X.env.locals := f2
      exact (hst'.extBut hs2.extBut n1).extBut hs4.extBut n1
    · rw [List.getElem?_set, if_pos rfl, if_pos (by rw [List.length_set]; exact hil)]
    · rw [List.length_set, List.length_set]; exact hlen
    · rw [← habs a b]
      have e1 : ((Γ'.set is (.im (.str ⟨#[signC i]⟩))).set it (.im (.str (repI x (i + 1))))).set is a = ((Γ'.set is (.im (.str ⟨#[signC i]⟩))).set is a).set it (.im (.str (repI x (i + 1)))) := List.set_comm _ _ hne
      rw [e1, List.set_set, List.set_set]
    · have : i = 2 := by omega
      subst this
      exact habs _ _⟩
end
end DL
set_option maxHeartbeats 2000000
/-! DL10: methods that change self: what a caller knows of them, their bodies; instances as own objects; a def read off a class -/
namespace DL
open PySem PySem.Spec PyProof.Rows L2

/-! ### a frame behind a call that changed self -/
theorem Env.afterM {K : PySem.W.Frag} {E : En} {Γ : List Sl} {σ : L2.St} {G H G2 H2 : Hp} {q : Nat} {c : Str} {fs fs' : List (Str × D)} {a dx' : Addr} {us' : List (Str × V)} (v : Env K E Γ σ G H) (hs : Γ[q]? = some (.me c fs)) (h1 : σ[q]? = some (some (.ref a)))
    (x2 : ExtM K a G H G2 H2) (q1 : H2 a = some (.ins (He.ga K c) dx' us')) (q2 : Repf K G2 fs' us') : Env K E (Γ.set q (.me c fs')) σ G2 H2 := by
  obtain ⟨a', o, h1', h2, h3, ⟨dx, us, rfl, r0⟩, h5⟩ := v.own hs rfl
  rw [h1] at h1'
  cases h1'
  have hme : E.m = some a := h5
  have hi : q < Γ.length := (List.getElem?_eq_some_iff.mp hs).1
  refine ⟨by simp [v.len], fun j t y a1 a2 => ?_, fun j l t u b a1 a2 a3 a4 a5 a6 => ?_, v.g.trans x2.g, x2.sub, fun b o e n nt => x2.h b o (v.h b o e n nt) (by intro z; subst z; exact n hme) nt, fun b o e n => ?_, fun b hb => ?_, fun b hb => v.hf b (x2.f b hb), x2.t, fun p hp => by
    obtain ⟨ps, h, _⟩ := v.tb.1 p hp
    exact x2.fr _ _ h (v.tb.2 p hp)⟩
  · rw [List.getElem?_set] at a1
    by_cases e : q = j
    · subst e
      rw [if_pos rfl, if_pos hi] at a1
      cases a1
      rw [h1] at a2; cases a2
      exact ⟨a, _, rfl, q1, x2.fr _ _ h2 h3, ⟨dx', us', rfl, q2⟩, hme⟩
    · rw [if_neg e] at a1
      have z := v.ok j t y a1 a2
      by_cases ht : t.isOwn = true
      · obtain ⟨b, w, z1, z2, z3, z4, z5⟩ := v.own a1 ht
        have hb : b ≠ a := fun w => by
          subst w
          exact e (v.inj q j _ t b hs a1 rfl ht h1 z1)
        rw [a2] at z1; cases z1
        exact slOk_own ht ⟨b, w, rfl, x2.h _ _ z2 hb z4.ntb, x2.fr _ _ z2 z3, z4.mono x2.g, z5⟩
      · cases t with
        | un => trivial
        | im d => obtain ⟨w, w1, w2⟩ := z; exact ⟨w, w1, w2.mono x2.g⟩
        | ol _ => exact absurd rfl ht
        | od _ => exact absurd rfl ht
        | ot _ => exact absurd rfl ht
        | me _ _ => exact absurd rfl ht
  · have g : ∀ (l : Nat) (t : Sl), (Γ.set q (.me c fs'))[l]? = some t → t.isOwn = true → ∃ t', Γ[l]? = some t' ∧ t'.isOwn = true := fun l t w z => by
      rw [List.getElem?_set] at w
      by_cases e : q = l
      · subst e; exact ⟨_, hs, rfl⟩
      · rw [if_neg e] at w; exact ⟨t, w, z⟩
    obtain ⟨t', g1, g2⟩ := g j t a1 a3
    obtain ⟨u', g3, g4⟩ := g l u a2 a4
    exact v.inj j l t' u' b g1 g3 g2 g4 a5 a6
  · by_cases hm : E.m = some b
    · obtain ⟨⟨o', w1⟩, w2⟩ := v.mh b hm
      exact x2.fr b o' w1 w2
    · cases z : H b with
      | none => rw [v.hf b z] at e; cases e
      | some o' => exact x2.fr b o' z (v.fr b o e n)
  · rw [hme] at hb; cases hb
    exact ⟨⟨_, q1⟩, x2.fr _ _ h2 h3⟩

/-! ### what a caller knows -/
structure CalS (P : Program) (w : World) (K : PySem.W.Frag) (mg : Str → Option Value) (base : Heap) (c m : Str) (k : Nat) (ps : List Str) (S : SpecM) : Prop where
  ex : ∃ (f : Addr) (fd : FuncData), FnOk P w K mg base CX0 k f fd ps (spM K c S) ∧ Cls K (He.ga K c) ∧ Meth K (He.ga K c) m f ∧ Binds K fd ps []
theorem CalS.up {P : Program} {w : World} {K : PySem.W.Frag} {mg : Str → Option Value} {base : Heap} {c m : Str} {j k : Nat} {ps : List Str} {S : SpecM} (C : CalS P w K mg base c m j ps S) (h : j ≤ k) : CalS P w K mg base c m k ps S := by
  obtain ⟨f, fd, F, g, kp, b⟩ := C.ex
  exact ⟨f, fd, F.mono h, g, kp, b⟩
theorem CalM.up {P : Program} {w : World} {K : PySem.W.Frag} {mg : Str → Option Value} {base : Heap} {c m : Str} {j k : Nat} {ps : List Str} {S : Spec} (C : CalM P w K mg base c m j ps S) (h : j ≤ k) : CalM P w K mg base c m k ps S := by
  obtain ⟨f, fd, F, g, kp, b⟩ := C.ex
  exact ⟨f, fd, F.mono h, g, kp, b⟩
/-- a class that is made by its name -/
structure CalI (P : Program) (w : World) (K : PySem.W.Frag) (mg : Str → Option Value) (base : Heap) (c : Str) (k : Nat) (ps : List Str) (S : SpecM) : Prop where
  ex : ∃ (f : Addr) (fd : FuncData), FnOk P w K mg base CX0 k f fd ps (spM K c S) ∧ Mk K (He.ga K c) f ∧ Binds K fd ps [] ∧ mg c = some (.ref (He.ga K c))
theorem CalI.up {P : Program} {w : World} {K : PySem.W.Frag} {mg : Str → Option Value} {base : Heap} {c : Str} {j k : Nat} {ps : List Str} {S : SpecM} (C : CalI P w K mg base c j ps S) (h : j ≤ k) : CalI P w K mg base c k ps S := by
  obtain ⟨f, fd, F, g, kp, b⟩ := C.ex
  exact ⟨f, fd, F.mono h, g, kp, b⟩

theorem env_me {K : PySem.W.Frag} {Γ : List Sl} {σ : L2.St} {G H : Hp} {r dx : Addr} {c : Str} {us : List (Str × V)} {fs : List (Str × D)} (v : Env K ⟨G, H, none⟩ (.im (.raw (.ref r)) :: Γ) σ G H) (hΓ : ∀ s ∈ Γ, s.isOwn = false)
    (h : H r = some (.ins (He.ga K c) dx us)) (g : G r = none) (rf : Repf K G fs us) : Env K ⟨G, H, some r⟩ (.me c fs :: Γ) σ G H := by
  have no : ∀ (j : Nat) (t : Sl), Γ[j]? = some t → t.isOwn = true → False := fun j t h1 h2 => by
    rw [hΓ t (List.mem_of_getElem? h1)] at h2; cases h2
  refine ⟨by have := v.len; simpa using this, fun i s x h1 h2 => ?_, fun i j s t a h1 h2 h3 h4 h5 h6 => ?_, Same.refl G, v.sub, fun b o e _ _ => e, fun b o _ e => e, fun a e => ?_, fun b e => e, v.tb⟩
  · cases i with
    | zero =>
      cases h1
      obtain ⟨y, e1, e2⟩ := v.ok 0 _ x rfl h2
      cases e2
      exact ⟨r, _, e1, h, g, ⟨dx, us, rfl, rf⟩, rfl⟩
    | succ i =>
      have z := v.ok (i + 1) s x h1 h2
      cases s with
      | un => trivial
      | im d => exact z
      | ol _ => exact (no i _ h1 rfl).elim
      | od _ => exact (no i _ h1 rfl).elim
      | ot _ => exact (no i _ h1 rfl).elim
      | me _ _ => exact (no i _ h1 rfl).elim
  · cases i with
    | succ i => exact (no i _ h1 h3).elim
    | zero =>
      cases j with
      | zero => rfl
      | succ j => exact (no j _ h2 h4).elim
  · cases e; exact ⟨⟨_, h⟩, g⟩
section
variable {P : Program} {w : World} {K : PySem.W.Frag} {mg : Str → Option Value} {base : Heap} {x qual : Str} {params : Arguments} {body : List Stmt} {scope : Scope} {f : Addr} {fd : FuncData}
theorem fn_okM {N ps : List Str} {p0 c : Str} {k : Nat} {S : SpecM} (F : FunD K x qual params body scope [] [] f fd) (sc : FnScope N (p0 :: ps) scope) (hl : ∀ fs ds Φ, S fs ds Φ → ds.length = ps.length)
    (hb : ∀ (cdv : Value) (A : Around) (outer : List PySem.Env) (s : Shared) (H : Hp) (Ew : XK) (E : En) (fs : List (Str × D)) (ds : List D) (Φ : D → List (Str × D) → Prop), Room k (A.deeper (envOfC qual scope s.heap.objs.size f cdv)) → S fs ds Φ →
      SXs (cxOf CX0 P w K mg base N qual scope f cdv A outer s H Ew).nox E body ⟨fun Γ => ∃ fs', Γ[0]? = some (.me c fs') ∧ Φ .non fs', fun d Γ => ∃ fs', Γ[0]? = some (.me c fs') ∧ Φ d fs', fun _ => False, fun _ => False⟩ (.me c fs :: (ds.map .im ++ List.replicate (N.length - (ds.length + 1)) .un))) : FnOk P w K mg base CX0 (k + 1) f fd (p0 :: ps) (spM K c S) := by
  have hpn : (p0 :: ps).length ≤ N.length := by have := congrArg List.length sc.pre; rw [List.length_take] at this; omega
  refine F.ok sc (fun vs H Q Ew h => ?_) (fun cdv A outer s H vs Q Ew hr h => ?_)
  · obtain ⟨G, r, dx, us, ws, fs, ds, Φ, rfl, _, _, _, _, _, r', q, _⟩ := h
    rw [List.length_cons, ← r'.length, hl fs ds Φ q]; rfl
  · obtain ⟨G, r, dx, us, ws, fs, ds, Φ, rfl, hr', hg, sg, tb, rf, r', q, k2⟩ := h
    refine ⟨_, PSs.nox pss_W, ?_⟩
    have v0 := env_start (X := (cxOf CX0 P w K mg base N qual scope f cdv A outer s H Ew).nox) (N := N) (ds := .raw (.ref r) :: ds) sg tb (.cons (.raw _) r') (by rw [List.length_cons, hl fs ds Φ q]; exact hpn)
    have v1 := env_me (c := c) v0 (fun s hs => by
      rcases List.mem_append.mp hs with hs | hs
      · obtain ⟨d, _, rfl⟩ := List.mem_map.mp hs; rfl
      · rw [(List.mem_replicate.mp hs).2]; rfl) hr' hg rf
    have fin : ∀ (Γ : List Sl) (σ : L2.St) (G' H' : Hp) (d : D) (u : V), Env K ⟨G, H, some r⟩ Γ σ G' H' → Rep K G' d u → (∃ fs', Γ[0]? = some (.me c fs') ∧ Φ d fs') → Q u H' := fun Γ σ G' H' d u v' r2 n => by
      obtain ⟨fs', e1, e2⟩ := n
      obtain ⟨a, o, z1, z2, z3, ⟨dx', us', rfl, z4⟩, z5⟩ := v'.own e1 rfl
      have : r = a := by
        have z5' : (some r : Option Addr) = some a := z5
        cases z5'; rfl
      subst this
      exact k2 d u fs' G' H' dx' us' e2 v'.extM z2 z4 r2
    exact (hb cdv A outer s H Ew ⟨G, H, some r⟩ fs ds Φ hr q).w _ G H _ v1 ⟨fun Γ σ G' H' _ v' n => fin Γ σ G' H' .non .non v' .non n, fun d u Γ σ G' H' _ v' r' n => fin Γ σ G' H' d u v' r' n, fun Γ σ G' H' _ v' n => n, fun Γ σ G' H' _ v' n => n⟩
theorem calS_mk {c m p0 : Str} {N ps : List Str} {S : SpecM} (k : Nat) (d : ∃ fd, FunD K x qual params body scope [] [] f fd) (c1 : Cls K (He.ga K c)) (g : Meth K (He.ga K c) m f) (sc : FnScope N (p0 :: ps) scope)
    (bi : ∀ (kV doc pm : Value) (an : Option Addr) (cdv ct : Value) (us : List Value), us.length = (p0 :: ps).length → bindArgs (PySem.W.fnOf x qual params body scope .none kV doc pm an cdv ct) ⟨us, []⟩ = pure ((p0 :: ps).zip us)) (hl : ∀ fs ds Φ, S fs ds Φ → ds.length = ps.length)
    (hb : ∀ (cdv : Value) (A : Around) (outer : List PySem.Env) (s : Shared) (H : Hp) (Ew : XK) (E : En) (fs : List (Str × D)) (ds : List D) (Φ : D → List (Str × D) → Prop), Room k (cxOf CX0 P w K mg base N qual scope f cdv A outer s H Ew).nox.A → (cxOf CX0 P w K mg base N qual scope f cdv A outer s H Ew).nox.N.Nodup → S fs ds Φ →
      SXs (cxOf CX0 P w K mg base N qual scope f cdv A outer s H Ew).nox E body ⟨fun Γ => ∃ fs', Γ[0]? = some (.me c fs') ∧ Φ .non fs', fun d Γ => ∃ fs', Γ[0]? = some (.me c fs') ∧ Φ d fs', fun _ => False, fun _ => False⟩ (.me c fs :: (ds.map .im ++ List.replicate (N.length - (ds.length + 1)) .un))) : CalS P w K mg base c m (k + 1) (p0 :: ps) S := by
  obtain ⟨fd, F⟩ := d
  exact ⟨_, fd, fn_okM F sc hl fun cdv A outer s H Ew E fs ds Φ hr => hb cdv A outer s H Ew E fs ds Φ hr sc.nd, c1, g, F.bindsN bi⟩
theorem calI_mk {c p0 : Str} {N ps : List Str} {S : SpecM} (k : Nat) (d : ∃ fd, FunD K x qual params body scope [] [] f fd) (g : Mk K (He.ga K c) f) (hm : mg c = some (.ref (He.ga K c))) (sc : FnScope N (p0 :: ps) scope)
    (bi : ∀ (kV doc pm : Value) (an : Option Addr) (cdv ct : Value) (us : List Value), us.length = (p0 :: ps).length → bindArgs (PySem.W.fnOf x qual params body scope .none kV doc pm an cdv ct) ⟨us, []⟩ = pure ((p0 :: ps).zip us)) (hl : ∀ fs ds Φ, S fs ds Φ → ds.length = ps.length)
    (hb : ∀ (cdv : Value) (A : Around) (outer : List PySem.Env) (s : Shared) (H : Hp) (Ew : XK) (E : En) (fs : List (Str × D)) (ds : List D) (Φ : D → List (Str × D) → Prop), Room k (cxOf CX0 P w K mg base N qual scope f cdv A outer s H Ew).nox.A → (cxOf CX0 P w K mg base N qual scope f cdv A outer s H Ew).nox.N.Nodup → S fs ds Φ →
      SXs (cxOf CX0 P w K mg base N qual scope f cdv A outer s H Ew).nox E body ⟨fun Γ => ∃ fs', Γ[0]? = some (.me c fs') ∧ Φ .non fs', fun d Γ => ∃ fs', Γ[0]? = some (.me c fs') ∧ Φ d fs', fun _ => False, fun _ => False⟩ (.me c fs :: (ds.map .im ++ List.replicate (N.length - (ds.length + 1)) .un))) : CalI P w K mg base c (k + 1) (p0 :: ps) S := by
  obtain ⟨fd, F⟩ := d
  exact ⟨_, fd, fn_okM F sc hl fun cdv A outer s H Ew E fs ds Φ hr => hb cdv A outer s H Ew E fs ds Φ hr sc.nd, g, F.bindsN bi, hm⟩
end

/-! ### a def read off a class -/
structure CFn (K : PySem.W.Frag) (C f : Addr) (m : Str) : Prop where
  rd : PySem.W.readsIn K C (.type "type") = true
  ga : PySem.W.specialIn K (.ref C) "__getattribute__" = some (some (.builtin "type.__getattribute__"))
  at_ : PySem.W.findCls K (.ref C) (.type "type") m = some (.val (.ref f))
  kp : PySem.W.keepIn K (.ref f) = true
def cfnB (K : PySem.W.Frag) (x m : Str) : Bool := PySem.W.readsIn K (He.ga K x) (.type "type") && (decide (PySem.W.specialIn K (.ref (He.ga K x)) "__getattribute__" = some (some (.builtin "type.__getattribute__"))) &&
  ((match PySem.W.findCls K (.ref (He.ga K x)) (.type "type") m with
    | some (.val (.ref g)) => decide (g = He.ma K (He.ga K x) m)
    | _ => false) && PySem.W.keepIn K (.ref (He.ma K (He.ga K x) m))))
theorem cfnB_ok {K : PySem.W.Frag} {x m : Str} (h : cfnB K x m = true) : CFn K (He.ga K x) (He.ma K (He.ga K x) m) m := by
  unfold cfnB at h
  simp only [Bool.and_eq_true, decide_eq_true_eq] at h
  obtain ⟨h1, h2, h3, h4⟩ := h
  refine ⟨h1, h2, ?_, h4⟩
  split at h3
  · rename_i g e
    rw [e, of_decide_eq_true h3]
  · cases h3
theorem pe_clsfn {X : Cx} {k : Nat} {f C : Addr} {fd : FuncData} {ps : List Str} {sp : Sp} {m : Str} {pos apos : Pos} {e o : Expr} {es : List Expr} {t : TA} {pl : Sem Bool} (ho : PE X o (tC (.ref C))) (c : CFn X.K C f m) (F : FnOk X.prog X.w X.K X.mg X.base CX0 k f fd ps sp) (hr : Room k X.A) (hb : Binds X.K fd ps []) (ha : PA X (e :: es) t)
    (hst : starEach (e :: es) X.env = (false, eval e X.env) :: starEach es X.env) (hpl : (backTo pos (starEach es X.env)).any (·.1) = false)
    (ht : eval (.Call (.Attribute o m apos) (e :: es) [] pos) X.env = (do
      let ov ← eval o X.env
      standAt apos.atName
      let (f, first) ← holding [ov] (getMethod ov m pl)
      callWith pos f first (backTo pos (starEach (e :: es) X.env)) (backToKw pos (keywordEach [] X.env)))) :
    PE X (.Call (.Attribute o m apos) (e :: es) [] pos) (tCall sp [] E0 t) := by
  refine ⟨fun pins s σ H Q I h => ?_⟩
  refine PySem.W.methodCall_KW (pl := pl) (thn (ho.run pins s σ H (fun x H1 => x = .ref C ∧ tCall sp [] E0 t σ H1 Q) I ⟨rfl, h⟩) fun u s1 ⟨x, H1, I1, rx, ex, q⟩ => ?_) ht
  subst ex
  obtain rfl : u = Value.ref C := rx
  refine PySem.W.method_cls I1.kIn c.ga (PySem.W.cls_value I1.kIn c.rd c.at_ rfl ?_)
  have I2 := I1.tok (s1.toks + 1)
  exact PySem.W.callWith_K (first := []) (h₀ := X.base) I2.ok.mod.kin c.kp (thn (ha.run pos pins _ σ H1 _ I2 q) fun us s3 ⟨vs, H2, I3, r, q2⟩ => ⟨I3.kIn, run_fn F hr hb .nil pass0 I3 r q2⟩) hst hpl

section
variable {X : Cx} {E : En} {e e1 e2 e3 e4 c' : Expr} {es : List Expr} {Γ : List Sl} {d x y z : D} {Φ Φ' : D → Prop} {b : Bool} {pos apos cpos : Pos} {i j : Int} {N : N4} {ss : List Sl} {s : Sl} {Ψ Ψ' : D → List Sl → Prop}
theorem fz_me {K : PySem.W.Frag} {c : Str} {fs : List (Str × D)} (G' : Hp) (a : Addr) (o : HO) (h : G' a = some o) (ok : OwnOk K G' (.me c fs) o) : Rep K G' (.ins c fs) (.ref a) := by
  obtain ⟨dx, vs, rfl, r⟩ := ok
  exact .ins h r
/-- self.m(..), a method that changes self; its arguments do not -/
theorem exm_meth1 {k : Nat} {S : SpecM} {ps : List Str} {m c n : Str} {npos : Pos} {fs : List (Str × D)} {ds : List D} (q : Nat) (C : CalS X.prog X.w X.K X.mg X.base c m k ps S) (hr : Room k X.A) (ha : EA X E (e :: es) Γ ds)
    (hS : S fs ds fun d fs' => Ψ d (Γ.set q (.me c fs'))) (hs : Γ[q]? = some (.me c fs) := by exact rfl) (hn : fs.lookup m = none := by exact rfl) (hN : X.N[q]? = some n := by exact rfl) (hv : Vis X.env.scope n := by exact Or.inl (by kernel_rfl)) (hd : (n == ("__debug__" : Str)) = false := by decide +kernel) (hcd : (n == ("__classdict__" : Str)) = false := by decide +kernel)
    (hst : noStar e = true := by exact rfl) (hpl : es.all noStar = true := by exact rfl) (hlen : es.length < 28 := by decide) (hline : (apos.endLine == pos.line) = true := by exact rfl) : EXM X E (.Call (.Attribute (.Name n npos) m apos) (e :: es) [] pos) Γ Ψ := by
  obtain ⟨f, fd, F, c1, hm, hb⟩ := C.ex
  exact ⟨fun σ G H Q v kk =>
  eW_of (pe_meth (pe_var hN hv hd hcd) c1 hm F hr hb .nil pass0 pa_W (starEach_cons hst) (starEach_any hpl) (methEq rfl (by simp [hst]; simpa using hpl) (by simp; omega) hline)) (by
    obtain ⟨a, o, h1, h2, h3, ⟨dx, us, rfl, r0⟩, h5⟩ := v.own hs rfl
    refine ⟨.ref a, h1, a, dx, us, rfl, h2, r0.none_of hn, ha.run v fun ws G1 H1 v1 x1 r1 => ?_⟩
    rw [List.append_nil]
    obtain ⟨a', o, h1', h2', h3', ⟨dx', us', rfl, r0'⟩, h5'⟩ := v1.own hs rfl
    rw [h1] at h1'; cases h1'
    refine ⟨G1, a, dx', us', ws, fs, ds, _, rfl, h2', h3', v1.sub, v1.tb, r0', r1, hS, fun d u fs' G2 H2 dx2 us2 p2 x2 q1 q2 q3 => ?_⟩
    exact kk d u _ G2 H2 p2 (x1.g.trans x2.g) (v1.afterM hs h1 x2 q1 q2) q3)⟩
theorem exm_meth {k : Nat} {S : SpecM} {ps : List Str} {m c n : Str} {npos : Pos} {fs : List (Str × D)} (q : Nat) (C : CalS X.prog X.w X.K X.mg X.base c m k ps S) (hr : Room k X.A)
    (hS : S fs [] fun d fs' => Ψ d (Γ.set q (.me c fs'))) (hs : Γ[q]? = some (.me c fs) := by exact rfl) (hn : fs.lookup m = none := by exact rfl) (hN : X.N[q]? = some n := by exact rfl) (hv : Vis X.env.scope n := by exact Or.inl (by kernel_rfl)) (hd : (n == ("__debug__" : Str)) = false := by decide +kernel) (hcd : (n == ("__classdict__" : Str)) = false := by decide +kernel)
    (hline : (apos.endLine == pos.line) = true := by exact rfl) : EXM X E (.Call (.Attribute (.Name n npos) m apos) [] [] pos) Γ Ψ := by
  obtain ⟨f, fd, F, c1, hm, hb⟩ := C.ex
  exact exm_meth0 q c1 hm F hr hb hS hs hn hN hv hd hcd hline
/-- B.m(self, ..): a def read off a class, given self -/
theorem exm_clsfn {k : Nat} {f : Addr} {fd : FuncData} {ps : List Str} {S : SpecM} {m c n B : Str} {npos bpos : Pos} {fs : List (Str × D)} {ds : List D} (q : Nat) (cf : CFn X.K (He.ga X.K B) f m) (F : FnOk X.prog X.w X.K X.mg X.base CX0 k f fd ps (spM X.K c S)) (hr : Room k X.A) (hb : Binds X.K fd ps []) (hmB : X.mg B = some (.ref (He.ga X.K B))) (ha : EA X E es Γ ds)
    (hS : S fs ds fun d fs' => Ψ d (Γ.set q (.me c fs'))) (hs : Γ[q]? = some (.me c fs) := by exact rfl) (hN : X.N[q]? = some n := by exact rfl) (hv : Vis X.env.scope n := by exact Or.inl (by kernel_rfl)) (hd : (n == ("__debug__" : Str)) = false := by decide +kernel) (hcd : (n == ("__classdict__" : Str)) = false := by decide +kernel)
    (hg : Gl X B := by (show PySem.Env.kindOf _ _ = _); kernel_rfl) (hdb : (B == ("__debug__" : Str)) = false := by decide +kernel) (hpl : es.all noStar = true := by exact rfl) (hlen : es.length < 28 := by decide) (hline : (apos.endLine == pos.line) = true := by exact rfl) : EXM X E (.Call (.Attribute (.Name B bpos) m apos) (.Name n npos :: es) [] pos) Γ Ψ := ⟨fun σ G H Q v kk =>
  eW_of (pe_clsfn (pe_glob (v := .ref (He.ga X.K B)) hg hmB rfl hdb) cf F hr hb (pa_cons (pe_var hN hv hd hcd) pa_W (starEach_cons rfl)) (starEach_cons rfl) (starEach_any hpl) (methEq rfl (by simp only [List.all_cons, Bool.and_eq_true]; exact ⟨rfl, hpl⟩) (by simp; omega) hline)) (by
    obtain ⟨a, o, h1, h2, h3, ⟨dx, us, rfl, r0⟩, h5⟩ := v.own hs rfl
    refine ⟨.ref a, h1, ha.run v fun ws G1 H1 v1 x1 r1 => ?_⟩
    show spM X.K c S ((.ref a :: ws) ++ []) H1 Q E0
    rw [List.append_nil]
    obtain ⟨a', o, h1', h2', h3', ⟨dx', us', rfl, r0'⟩, h5'⟩ := v1.own hs rfl
    rw [h1] at h1'; cases h1'
    refine ⟨G1, a, dx', us', ws, fs, ds, _, rfl, h2', h3', v1.sub, v1.tb, r0', r1, hS, fun d u fs' G2 H2 dx2 us2 p2 x2 q1 q2 q3 => ?_⟩
    exact kk d u _ G2 H2 p2 (x1.g.trans x2.g) (v1.afterM hs h1 x2 q1 q2) q3)⟩
/-- C(..) as data -/
theorem ex_mk {k : Nat} {S : SpecM} {ps : List Str} {c : Str} {p : Pos} {fs : List (Str × D)} (C : CalI X.prog X.w X.K X.mg X.base c k ps S) (hr : Room (k + 1) X.A) (ha : EAR X E (e :: es) Γ fun ds => S [] ds fun d fs' => d = .non ∧ fs' = fs) (hg : Gl X c := by (show PySem.Env.kindOf _ _ = _); kernel_rfl) (hdb : (c == ("__debug__" : Str)) = false := by decide +kernel) (he : noStar e = true := by exact rfl) (hpl : es.all noStar = true := by exact rfl) : EX X E (.Call (.Name c p) (e :: es) [] pos) Γ (.ins c fs) := by
  obtain ⟨f, fd, F, M, hb, hm⟩ := C.ex
  exact ex_make M F hr hm hb ha hg hdb he hpl
theorem exm_mk {k : Nat} {S : SpecM} {ps : List Str} {c : Str} {p : Pos} (C : CalI X.prog X.w X.K X.mg X.base c k ps S) (hr : Room (k + 1) X.A) (ha : EAM X E (e :: es) Γ fun ds Γ' => S [] ds fun d fs' => d = .non ∧ Ψ (.ins c fs') Γ') (hg : Gl X c := by (show PySem.Env.kindOf _ _ = _); kernel_rfl) (hdb : (c == ("__debug__" : Str)) = false := by decide +kernel) (he : noStar e = true := by exact rfl) (hpl : es.all noStar = true := by exact rfl) : EXM X E (.Call (.Name c p) (e :: es) [] pos) Γ Ψ := by
  obtain ⟨f, fd, F, M, hb, hm⟩ := C.ex
  exact exm_make M F hr hm hb ha hg hdb he hpl
/-- C(..) as an own object -/
theorem eo_mk {k : Nat} {S : SpecM} {ps : List Str} {c : Str} {p : Pos} {fs : List (Str × D)} (C : CalI X.prog X.w X.K X.mg X.base c k ps S) (hr : Room (k + 1) X.A) (ha : EAR X E (e :: es) Γ fun ds => S [] ds fun d fs' => d = .non ∧ fs' = fs) (hg : Gl X c := by (show PySem.Env.kindOf _ _ = _); kernel_rfl) (hdb : (c == ("__debug__" : Str)) = false := by decide +kernel) (he : noStar e = true := by exact rfl) (hpl : es.all noStar = true := by exact rfl) : EO X E (.Call (.Name c p) (e :: es) [] pos) Γ (.me c fs) := by
  obtain ⟨f, fd, F, M, hb, hm⟩ := C.ex
  exact ⟨fun σ G H Q v k => eW_of (pe_make M F hr hg hm hb .nil pass0 pa_W hdb (starEach_cons he) (starEach_any hpl)) (ha.w σ G H _ v fun ds us G1 H1 s x1 r1 => fun a dx na ndx ne => by
    rw [List.append_nil]
    have h1 : Same H1 (upd (upd H1 dx (.own a)) a (.ins (He.ga X.K c) dx [])) := fun b o q => by rw [upd_ne (ne_of_none q na), upd_ne (ne_of_none q ndx)]; exact q
    have ga : G1 a = none := x1.sub.free na
    refine ⟨G1, a, dx, [], us, [], ds, _, rfl, upd_same, ga, x1.sub.trans h1, ⟨(v.mono x1).tb.1.ext h1, (v.mono x1).tb.2⟩, .nil, r1, s, fun d u fs' G2 H2 dx' us' ⟨p1, p2⟩ x2 q1 q2 q3 => ?_⟩
    subst p1 p2
    cases q3
    refine ⟨rfl, ?_⟩
    have g2 : G2 a = none := x2.fr a _ upd_same ga
    have hH : Grow X.K H1 H2 := ⟨fun b o q nt => x2.h b o (h1 b o q) (ne_of_none q na) nt, fun b q => h1.free (x2.f b q), fun _ => x2.t⟩
    exact k a _ G2 H2 (x1.trans ⟨x2.g, hH, x2.sub, fun b o q n => x2.fr b o (h1 b o q) n⟩) (x1.h.free na) q1 g2 ⟨dx', us', rfl, q2⟩)⟩
/-- C(..).m() -/
theorem exr_newMeth {k : Nat} {S : SpecM} {ps : List Str} {m c : Str} {o : Expr} {fs : List (Str × D)} (C : CalS X.prog X.w X.K X.mg X.base c m k ps S) (hr : Room k X.A) (ho : EO X E o Γ (.me c fs)) (hS : S fs [] fun d fs' => Φ d) (hn : fs.lookup m = none := by exact rfl) (hso : notSuper o = true := by exact rfl) (hline : (apos.endLine == pos.line) = true := by exact rfl) :
    EXR X E (.Call (.Attribute o m apos) [] [] pos) Γ Φ := by
  obtain ⟨f, fd, F, c1, hm, hb⟩ := C.ex
  exact exr_of (pe_meth0 pe_W c1 hm F hr hb .nil pass0 (methEq hso rfl (by decide) hline)) fun σ G H Q v k => ho.w σ G H _ v fun a o G1 H1 x1 hp hp1 hg ok => by
    obtain ⟨dx, us, rfl, r0⟩ := ok
    refine ⟨a, dx, us, rfl, hp1, r0.none_of hn, ?_⟩
    show spM X.K c S (.ref a :: ([] ++ [])) H1 Q E0
    have v1 := v.mono x1
    refine ⟨G1, a, dx, us, [], fs, [], _, rfl, hp1, hg, x1.sub, v1.tb, r0, .nil, hS, fun d u fs' G2 H2 dx' us' p2 x2 q1 q2 q3 => ?_⟩
    refine k d u G2 H2 p2 ⟨x1.g.trans x2.g, ⟨fun b o q nt => x2.h b o (x1.h.k b o q nt) (ne_of_none q hp) nt, fun b q => x1.h.f b (x2.f b q), fun _ => x2.t⟩, x2.sub, fun b o q n => ?_⟩ q3
    cases z : H1 b with
    | none => rw [x1.h.f b z] at q; cases q
    | some o' => exact x2.fr b o' z (x1.fr b o q n)
/-! changing expressions: if, lists, appended -/
theorem exm_if {c a : Expr} (h : ET X E c Γ b) (h1 : b = true → EXM X E a Γ Ψ) (h2 : b = false → EXM X E e Γ Ψ) : EXM X E (.IfExp c a e pos) Γ Ψ := ⟨fun σ G H Q v k =>
  eW_of (pe_ifExp pt_W pe_W pe_W) (h.run v fun G1 H1 v1 x1 => by
    cases b with
    | true => exact iteT ((h1 rfl).w σ G1 H1 Q v1 fun d u Γ' G2 H2 p s v2 r => k d u Γ' G2 H2 p (x1.g.trans s) v2 r)
    | false => exact iteF ((h2 rfl).w σ G1 H1 Q v1 fun d u Γ' G2 H2 p s v2 r => k d u Γ' G2 H2 p (x1.g.trans s) v2 r))⟩
theorem sx_setOM {n : Str} {pos' : Pos} {Ψs : List D → List Sl → Prop} (k : Nat) (h : EAM X E es Γ Ψs) (p : ∀ ds Γ', Ψs ds Γ' → N.nx (Γ'.set k (.ol ds))) (hl : es.length ≤ 1000 := by decide) (hN : X.N.Nodup := by assumption) (hi : X.N[k]? = some n := by exact rfl) (hx : Loc X.env.scope n := by exact Or.inl (by kernel_rfl))
    (hlen : ∀ ds Γ', Ψs ds Γ' → ds.length ≤ sizeLine) (hf : X.fn n = true ∨ X.env.scope.names.lookup n = some .local := by exact .inl rfl) : SX X E (.Assign [.Name n pos'] (.List es cpos) pos) N Γ := ⟨fun σ G H Dn v r =>
  sW_of (ps_set hN hi hx (pe_lst pa_W) (swapsNo rfl) hf) (h.w σ G H _ v fun ds us Γ1 G1 H1 q s1 v1 r1 => ⟨by rw [← r1.length]; exact hlen ds Γ1 q, fun a ha => by
    have hg : G1 a = none := v1.sub.free ha
    have x2 : Ext X.K G1 H1 G1 (upd H1 a (.lst us)) := .newOwn v1.sub ha
    exact r.nx _ _ G1 _ s1 (own_new (s := .ol ds) v1 x2 ha upd_same hg ⟨us, rfl, r1⟩ rfl rfl k) (p ds Γ1 q)⟩)⟩
theorem sx_appendM {xs : List D} {n : Str} {npos apos cpos : Pos} (i : Nat) (h : EXM X E e Γ Ψ) (p : ∀ d Γ', Ψ d Γ' → Γ'[i]? = some (.ol xs) ∧ N.nx (Γ'.set i (.ol (xs ++ [d])))) (hl : xs.length < sizeLine) (hs : Γ[i]? = some (.ol xs) := by exact rfl) (hN : X.N[i]? = some n := by exact rfl) (hv : Vis X.env.scope n := by exact Or.inl (by kernel_rfl)) (hd : (n == ("__debug__" : Str)) = false := by decide +kernel)
    (hcd : (n == ("__classdict__" : Str)) = false := by decide +kernel) (hline : (apos.endLine == cpos.line) = true := by exact rfl) (hst : noStar e = true := by exact rfl) : SX X E (.Expr (.Call (.Attribute (.Name n npos) "append" apos) [e] [] cpos) pos) N Γ := ⟨fun σ G H Dn v r => by
  obtain ⟨a, o, h1, h2, h3, vs, rfl, h4⟩ := own_ref v i hs rfl
  refine sW_of (ps_expr (pe_bm PySem.F.plainAttrs_list PySem.F.slot_list_append PySem.F.type_list_append mt_append (pe_var hN hv hd hcd) (pa_cons pe_W pa_nil (starEach_cons hst)) (attrBase rfl) (fewArgs hst) hline (starEach_cons hst) rfl) rfl) ?_
  refine ⟨.ref a, h1, .inl ⟨rfl, vs, SqL.of h2⟩, ?_⟩
  refine h.w σ G H _ v fun d u Γ' G1 H1 q s1 v1 r1 => ?_
  obtain ⟨e1, e2⟩ := p d Γ' q
  obtain ⟨a', o, g1, g2, g3, vs', rfl, g4⟩ := own_ref v1 i e1 rfl
  rw [h1] at g1; cases g1
  refine ⟨a, vs', u, rfl, rfl, g2, by rw [← g4.length]; exact hl, ?_⟩
  exact r.nx _ σ G1 _ s1 (v1.change (s' := .ol (xs ++ [d])) e1 rfl h1 rfl rfl ⟨_, rfl, g4.append (.cons r1 .nil)⟩) e2⟩
/-- self.f += e, ints -/
theorem sx_fldadd {c f : Str} {fs : List (Str × D)} {n : Str} {npos fpos : Pos} (k : Nat) (c1 : Cls X.K (He.ga X.K c)) (c2 : NoAttr X.K (He.ga X.K c) f) (he : EX X E e Γ (.int j)) (p : N.nx (Γ.set k (.me c (putD f (.int (i + j)) fs)))) (hs : Γ[k]? = some (.me c fs) := by exact rfl) (hf : fs.lookup f = some (.int i) := by exact rfl) (hl : fs.length < 1000 := by first | decide | exact Nat.le_of_ble_eq_true (by kernel_rfl)) (hN : X.N[k]? = some n := by exact rfl) (hv : Vis X.env.scope n := by exact Or.inl (by kernel_rfl))
    (hd : (n == ("__debug__" : Str)) = false := by decide +kernel) (hcd : (n == ("__classdict__" : Str)) = false := by decide +kernel) : SX X E (.AugAssign (.Attribute (.Name n npos) f fpos) .Add e pos) N Γ := ⟨fun σ G H Dn v r => by
  obtain ⟨a, o, h1, h2, h3, ⟨dx, vs, rfl, r0⟩, h5⟩ := v.own hs rfl
  obtain ⟨w, hw, rw⟩ := r0.get hf
  cases rw
  refine sW_of (ps_fldaug (pe_var hN hv hd hcd) pe_W in_add) ⟨.ref a, h1, a, _, dx, vs, _, rfl, h2, c1, c2, hw, he.run v fun u G1 H1 v1 x1 r1 => ?_⟩
  cases r1
  refine ⟨i, j, rfl, rfl, dx, vs, x1.h.at h2, by rw [← r0.length]; exact hl, ?_⟩
  exact r.nx _ σ G1 _ x1.g (v1.change (s' := .me c (putD f (.int (i + j)) fs)) hs rfl h1 rfl rfl ⟨dx, _, rfl, repf_put (.int _) (r0.mono x1.g)⟩) p⟩
end
end DL
set_option maxHeartbeats 2000000
/-! DL11: expressions that change self, told: their value d, the frame behind them -/
namespace DL
open PySem PySem.Spec PyProof.Rows L2
def EXQ (X : Cx) (E : En) (e : Expr) (Γ : List Sl) (d : D) (Γ1 : List Sl) : Prop := EXM X E e Γ fun d' Γ' => d' = d ∧ Γ' = Γ1
def EAQ (X : Cx) (E : En) (es : List Expr) (Γ : List Sl) (ds : List D) (Γ1 : List Sl) : Prop := EAM X E es Γ fun d' Γ' => d' = ds ∧ Γ' = Γ1
section
variable {X : Cx} {E : En} {e e1 e2 e3 e4 c' : Expr} {es : List Expr} {Γ Γ1 Γ2 : List Sl} {d x y z : D} {ds : List D} {b : Bool} {pos apos cpos : Pos} {N : N4}
theorem EX.Q (h : EX X E e Γ d) : EXQ X E e Γ d Γ := EX.M h ⟨rfl, rfl⟩
theorem EXQ.M {Ψ : D → List Sl → Prop} (h : EXQ X E e Γ d Γ1) (p : Ψ d Γ1) : EXM X E e Γ Ψ := EXM.imp h fun d' Γ' q => by obtain ⟨rfl, rfl⟩ := q; exact p
theorem eaq_nil : EAQ X E [] Γ [] Γ := eam_nil ⟨rfl, rfl⟩
theorem eaq_q (h : EXQ X E e Γ d Γ1) (hr : EAQ X E es Γ1 ds Γ2) (hs : noStar e = true := by exact rfl) : EAQ X E (e :: es) Γ (d :: ds) Γ2 :=
  eam_cons h (fun d' Γ' q => by
    obtain ⟨rfl, rfl⟩ := q
    exact ⟨fun σ G H Q v k => hr.w σ G H Q v fun ds' us Γ' G' H' p => k ds' us Γ' G' H' ⟨by rw [p.1], p.2⟩⟩) hs
theorem eaq_x (h : EX X E e Γ d) (hr : EAQ X E es Γ ds Γ2) (hs : noStar e = true := by exact rfl) : EAQ X E (e :: es) Γ (d :: ds) Γ2 := eaq_q h.Q hr hs
theorem exq_lst (h : EAQ X E es Γ ds Γ1) (hl : ds.length ≤ sizeLine := by (refine len_small ?_; first | decide | simp)) : EXQ X E (.List es pos) Γ (.lst ds) Γ1 :=
  exm_lst ⟨fun σ G H Q v k => h.w σ G H Q v fun ds' us Γ' G' H' p => by obtain ⟨rfl, rfl⟩ := p; exact k _ us _ G' H' ⟨hl, rfl, rfl⟩⟩
theorem exq_mk {k : Nat} {S : SpecM} {ps : List Str} {c : Str} {p : Pos} {fs : List (Str × D)} (C : CalI X.prog X.w X.K X.mg X.base c k ps S) (hr : Room (k + 1) X.A) (ha : EAQ X E (e :: es) Γ ds Γ1) (hS : S [] ds fun d fs' => d = .non ∧ D.ins c fs' = D.ins c fs ∧ Γ1 = Γ1) (hg : Gl X c := by (show PySem.Env.kindOf _ _ = _); kernel_rfl) (hdb : (c == ("__debug__" : Str)) = false := by decide +kernel) (he : noStar e = true := by exact rfl) (hpl : es.all noStar = true := by exact rfl) :
    EXQ X E (.Call (.Name c p) (e :: es) [] pos) Γ (.ins c fs) Γ1 :=
  exm_mk (Ψ := fun d' Γ' => d' = .ins c fs ∧ Γ' = Γ1) C hr ⟨fun σ G H Q v k => EAM.w ha σ G H Q v fun ds' us Γ' G' H' p => by obtain ⟨rfl, rfl⟩ := p; exact k _ us _ G' H' hS⟩ hg hdb he hpl
theorem exq_m0 {k : Nat} {S : SpecM} {ps : List Str} {m c n : Str} {npos : Pos} {fs fs' : List (Str × D)} (q : Nat) (C : CalS X.prog X.w X.K X.mg X.base c m k ps S) (hr : Room k X.A)
    (hS : S fs [] fun d' fs2 => d' = d ∧ Γ.set q (.me c fs2) = Γ.set q (.me c fs')) (hs : Γ[q]? = some (.me c fs) := by exact rfl) (hn : fs.lookup m = none := by exact rfl) (hN : X.N[q]? = some n := by exact rfl) (hv : Vis X.env.scope n := by exact Or.inl (by kernel_rfl)) (hd : (n == ("__debug__" : Str)) = false := by decide +kernel) (hcd : (n == ("__classdict__" : Str)) = false := by decide +kernel)
    (hline : (apos.endLine == pos.line) = true := by exact rfl) : EXQ X E (.Call (.Attribute (.Name n npos) m apos) [] [] pos) Γ d (Γ.set q (.me c fs')) :=
  exm_meth (Ψ := fun d' Γ' => d' = d ∧ Γ' = Γ.set q (.me c fs')) q C hr hS hs hn hN hv hd hcd hline
theorem exq_m1 {k : Nat} {S : SpecM} {ps : List Str} {m c n : Str} {npos : Pos} {fs fs' : List (Str × D)} (q : Nat) (C : CalS X.prog X.w X.K X.mg X.base c m k ps S) (hr : Room k X.A) (ha : EA X E (e :: es) Γ ds)
    (hS : S fs ds fun d' fs2 => d' = d ∧ Γ.set q (.me c fs2) = Γ.set q (.me c fs')) (hs : Γ[q]? = some (.me c fs) := by exact rfl) (hn : fs.lookup m = none := by exact rfl) (hN : X.N[q]? = some n := by exact rfl) (hv : Vis X.env.scope n := by exact Or.inl (by kernel_rfl)) (hd : (n == ("__debug__" : Str)) = false := by decide +kernel) (hcd : (n == ("__classdict__" : Str)) = false := by decide +kernel)
    (hst : noStar e = true := by exact rfl) (hpl : es.all noStar = true := by exact rfl) (hlen : es.length < 28 := by decide) (hline : (apos.endLine == pos.line) = true := by exact rfl) : EXQ X E (.Call (.Attribute (.Name n npos) m apos) (e :: es) [] pos) Γ d (Γ.set q (.me c fs')) :=
  exm_meth1 (Ψ := fun d' Γ' => d' = d ∧ Γ' = Γ.set q (.me c fs')) q C hr ha hS hs hn hN hv hd hcd hst hpl hlen hline
theorem exq_if {c a : Expr} (h : ET X E c Γ b) (h1 : b = true → EXQ X E a Γ d Γ1) (h2 : b = false → EXQ X E e Γ d Γ1) : EXQ X E (.IfExp c a e pos) Γ d Γ1 := exm_if h h1 h2
theorem sx_setQ {n : Str} {pos' : Pos} (k : Nat) (h : EXQ X E e Γ d Γ1) (p : N.nx (Γ1.set k (.im d))) (hN : X.N.Nodup := by assumption) (hi : X.N[k]? = some n := by exact rfl) (hx : Loc X.env.scope n := by exact Or.inl (by kernel_rfl))
    (hs : notComp e = true := by exact rfl) (hf : X.fn n = true ∨ X.env.scope.names.lookup n = some .local := by exact .inl rfl) : SX X E (.Assign [.Name n pos'] e pos) N Γ := sx_setM k h (fun _ _ q => by obtain ⟨rfl, rfl⟩ := q; exact p) hN hi hx hs hf
theorem sx_dropQ (h : EXQ X E e Γ d Γ1) (p : N.nx Γ1) (hs : notComp e = true := by exact rfl) : SX X E (.Expr e pos) N Γ := sx_dropM h (fun _ _ q => by obtain ⟨rfl, rfl⟩ := q; exact p) hs
theorem sx_retQ (h : EXQ X E e Γ d Γ1) (p : N.rt d Γ1) : SX X E (.Return (some e) pos) N Γ := sx_retM h (fun _ _ q => by obtain ⟨rfl, rfl⟩ := q; exact p)
theorem sx_setOQ {n : Str} {pos' : Pos} (k : Nat) (h : EAQ X E es Γ ds Γ1) (p : N.nx (Γ1.set k (.ol ds))) (hlen : ds.length ≤ sizeLine := by (refine len_small ?_; first | decide | simp)) (hN : X.N.Nodup := by assumption) (hi : X.N[k]? = some n := by exact rfl) (hx : Loc X.env.scope n := by exact Or.inl (by kernel_rfl))
    (hf : X.fn n = true ∨ X.env.scope.names.lookup n = some .local := by exact .inl rfl) (hl : es.length ≤ 1000 := by decide) : SX X E (.Assign [.Name n pos'] (.List es cpos) pos) N Γ := sx_setOM k h (fun _ _ q => by obtain ⟨rfl, rfl⟩ := q; exact p) hl hN hi hx (fun _ _ q => by obtain ⟨rfl, rfl⟩ := q; exact hlen) hf
theorem sx_appendQ {xs : List D} {n : Str} {npos apos cpos : Pos} (i : Nat) (h : EXQ X E e Γ d Γ1) (p : N.nx (Γ1.set i (.ol (xs ++ [d])))) (hl : xs.length < sizeLine) (hs : Γ[i]? = some (.ol xs) := by exact rfl) (hs1 : Γ1[i]? = some (.ol xs) := by exact rfl) (hN : X.N[i]? = some n := by exact rfl) (hv : Vis X.env.scope n := by exact Or.inl (by kernel_rfl)) (hd : (n == ("__debug__" : Str)) = false := by decide +kernel)
    (hcd : (n == ("__classdict__" : Str)) = false := by decide +kernel) (hline : (apos.endLine == cpos.line) = true := by exact rfl) (hst : noStar e = true := by exact rfl) : SX X E (.Expr (.Call (.Attribute (.Name n npos) "append" apos) [e] [] cpos) pos) N Γ := sx_appendM i h (fun _ _ q => by obtain ⟨rfl, rfl⟩ := q; exact ⟨hs1, p⟩) hl hs hN hv hd hcd hline hst
end
end DL
set_option maxHeartbeats 2000000
/-! DL12: extend, dicts by tuples of keys, dicts as data looked into -/
namespace DL
open PySem PySem.Spec PyProof.Rows L2
section
variable {X : Cx} {E : En} {e e1 e2 e3 c : Expr} {es : List Expr} {Γ : List Sl} {d x y z : D} {Φ Φ' : D → Prop} {b : Bool} {pos apos cpos p : Pos} {i j : Int} {N : N4} {sa sb sc : Str}
/-- x.extend(e) -/
theorem sx_extend {xs ys : List D} {n : Str} {npos apos cpos : Pos} (i : Nat) (h : EX X E e Γ (.lst ys)) (p : N.nx (Γ.set i (.ol (xs ++ ys)))) (hl : xs.length + ys.length ≤ sizeLine) (hs : Γ[i]? = some (.ol xs) := by exact rfl) (hN : X.N[i]? = some n := by exact rfl) (hv : Vis X.env.scope n := by exact Or.inl (by kernel_rfl)) (hd : (n == ("__debug__" : Str)) = false := by decide +kernel)
    (hcd : (n == ("__classdict__" : Str)) = false := by decide +kernel) (hline : (apos.endLine == cpos.line) = true := by exact rfl) (hst : noStar e = true := by exact rfl) : SX X E (.Expr (.Call (.Attribute (.Name n npos) "extend" apos) [e] [] cpos) pos) N Γ := ⟨fun σ G H Dn v r => by
  obtain ⟨a, o, h1, h2, h3, vs, rfl, h4⟩ := own_ref v i hs rfl
  refine sW_of (ps_expr (pe_bm PySem.F.plainAttrs_list PySem.F.slot_list_extend PySem.F.type_list_extend mt_extend (pe_var hN hv hd hcd) (pa_cons pe_W pa_nil (starEach_cons hst)) (attrBase rfl) (fewArgs hst) hline (starEach_cons hst) rfl) rfl) ?_
  refine ⟨.ref a, h1, .inl ⟨rfl, vs, SqL.of h2⟩, ?_⟩
  refine h.run v fun u G1 H1 v1 x1 r1 => ?_
  have g1 := x1.h.at h2
  cases r1 with
  | lst q r1 =>
    rename_i a2 vs2
    refine ⟨a, a2, vs, vs2, rfl, rfl, g1, x1.sub _ _ q, by rw [← h4.length, ← r1.length]; exact hl, ?_⟩
    exact r.nx _ σ G1 _ x1.g (v1.change (s' := .ol (xs ++ ys)) hs rfl h1 rfl rfl ⟨_, rfl, (h4.mono x1.g).append r1⟩) p⟩
/-! dicts by tuples -/
def keysD : List D → Option (List Key)
  | [] => some []
  | d :: r => match keyD d, keysD r with
    | some k, some ks => some (k :: ks)
    | _, _ => none
theorem rep_keys {K : PySem.W.Frag} {G : Hp} : ∀ {ds : List D} {vs : List V} {ks : List Key}, Reps K G ds vs → keysD ds = some ks → vs = ks.map kV
  | _, _, ks, .nil, h => by cases h; rfl
  | _, _, ks, .cons (d := d) (ds := ds) r t, h => by
    unfold keysD at h
    cases h1 : keyD d with
    | none => rw [h1] at h; cases h
    | some k =>
      cases h2 : keysD ds with
      | none => rw [h1, h2] at h; cases h
      | some ks' =>
        rw [h1, h2] at h
        cases h
        rw [rep_key r h1, rep_keys t h2]; rfl
theorem sx_tput {n : Str} {opos spos : Pos} {ks : List Key} {xs : List D} {kvs : List (List Key × D)} {k : Nat} (i : Nat) (hr : Room k X.A) (hk : EX X E e1 Γ (.tux xs)) (he : EX X E e2 Γ d) (hq : keysD xs = some ks) (hl : kvs.length < sizeLine) (p : N.nx (Γ.set i (.ot (putKD kvs ks d)))) (hs : Γ[i]? = some (.ot kvs) := by exact rfl) (hN : X.N[i]? = some n := by exact rfl) (hv : Vis X.env.scope n := by exact Or.inl (by kernel_rfl)) (hd : (n == ("__debug__" : Str)) = false := by decide +kernel)
    (hcd : (n == ("__classdict__" : Str)) = false := by decide +kernel) (hsw : notComp e2 = true := by exact rfl) : SX X E (.Assign [.Subscript (.Name n opos) e1 spos] e2 pos) N Γ := ⟨fun σ G H Dn v r => by
  obtain ⟨a, o, h1, h2, h3, vs, rfl, h4⟩ := own_ref v i hs rfl
  refine sW_of (ps_dput (hu_of hr) (pe_var hN hv hd hcd) pe_W pe_W (swapsNo hsw)) ?_
  refine he.run v fun u G1 H1 v1 x1 r1 => ⟨.ref a, h1, hk.run v1 fun w G2 H2 v2 x2 r2 => ?_⟩
  have g2 := (x1.trans x2).h.at h2
  cases r2 with
  | tux q rs =>
    have e := rep_keys rs hq
    subst e
    refine ⟨a, _, rfl, DPut.t g2 (x2.sub _ _ q) (by rw [← h4.length]; exact hl), ?_⟩
    exact r.nx _ σ G2 _ (x1.trans x2).g (v2.change (s' := .ot (putKD kvs ks d)) hs rfl h1 rfl rfl ⟨_, rfl, (h4.mono (x1.trans x2).g).put ks (r1.mono x2.g)⟩) p⟩
theorem fz_t {K : PySem.W.Frag} {kvs : List (List Key × D)} (G' : Hp) (a : Addr) (o : HO) (h : G' a = some o) (ok : OwnOk K G' (.ot kvs) o) : Rep K G' (.dit kvs) (.ref a) := by
  obtain ⟨vs, rfl, r⟩ := ok
  exact .dit h r
theorem freezeT {sts : List Stmt} {xs : List (List Key × D)} (i : Nat) (h : SXs X E sts N (Γ.set i (.im (.dit xs)))) (hs : Γ[i]? = some (.ot xs) := by exact rfl) : SXs X E sts N Γ := freeze i fz_t h hs
/-- for pair in zip(a, b): each pair an exact tuple -/
def zipX (xs ys : List D) : List D := (xs.zip ys).map fun p => .tux [p.1, p.2]
theorem zipX_len (xs ys : List D) : (zipX xs ys).length = min xs.length ys.length := by simp [zipX]
theorem zipX_get {xs ys : List D} {i : Nat} {d d' : D} (h : xs[i]? = some d) (h' : ys[i]? = some d') : (zipX xs ys)[i]? = some (.tux [d, d']) := by
  unfold zipX
  rw [List.getElem?_map, List.getElem?_zip_eq_some (z := (d, d')) |>.mpr ⟨h, h'⟩]; rfl
theorem wk_zipX {xs ys : List D} {n : Str} {npos : Pos} (h1 : EX X E e1 Γ (.lst xs)) (h2 : EX X E e2 Γ (.lst ys)) (hm : X.mg "zip" = none) (hg : Gl X "zip" := by (show PySem.Env.kindOf _ _ = _); kernel_rfl) (hs1 : noStar e1 = true := by exact rfl) (hs2 : noStar e2 = true := by exact rfl) :
    WK X E (.Name n npos) (.Call (.Name "zip" p) [e1, e2] [] pos) Γ (zipX xs ys) := ⟨fun σ G H R v k => by
  refine iW_of (pi_zipN hg hm pa_W (starEach_cons hs1) (starEach_any (by simp [hs2]))) ((ea_cons h1 (ea_cons h2 ea_nil hs2) hs1).run v fun us G1 H1 v1 x1 r1 => ?_)
  cases r1 with
  | cons r t =>
    cases t with
    | cons r' t =>
      cases t
      cases r with
      | lst q r =>
        cases r' with
        | lst q' r' =>
          rename_i a vs a' vs'
          refine ⟨a, a', vs, vs', rfl, SqL.of (x1.sub _ _ q), SqL.of (x1.sub _ _ q'), k _ G1 H1 x1 ⟨fun i G2 H2 s1 s2 hi => ?_, fun i G2 H2 s1 s2 hi => ?_, fun i G2 H2 x H' s1 s2 y hi => ?_⟩⟩
          · rw [zipX_len, r.length, r'.length] at hi
            exact ⟨vs, vs', vs[i]'(by omega), vs'[i]'(by omega), SqL.of (s2 _ _ (s1 _ _ q)), SqL.of (s2 _ _ (s1 _ _ q')), List.getElem?_eq_getElem _, List.getElem?_eq_getElem _⟩
          · rw [zipX_len, r.length, r'.length] at hi
            exact ⟨vs, vs', SqL.of (s2 _ _ (s1 _ _ q)), SqL.of (s2 _ _ (s1 _ _ q')), by omega⟩
          · obtain ⟨T, w, w', rfl, hT, rfl, y1, y2⟩ := y
            have z1 := y1 vs (SqL.of (s2 _ _ (s1 _ _ q)))
            have z2 := y2 vs' (SqL.of (s2 _ _ (s1 _ _ q')))
            obtain ⟨d, hd, rd⟩ := r.get' z1
            obtain ⟨d', hd', rd'⟩ := r'.get' z2
            have xx : Ext X.K G2 H2 (upd G2 T (.tup [w, w'])) (upd H2 T (.tup [w, w'])) := .new s2 hT
            exact ⟨_, .tux [d, d'], zipX_get hd hd', xx, .tux upd_same (.cons ((rd.mono s1).mono xx.g) (.cons ((rd'.mono s1).mono xx.g) .nil))⟩⟩
/-- e1 in e2, e2 a dict as data -/
theorem ex_inDD {q : Key} {kvs : List (Key × D)} {k : Nat} (hr : Room k X.A) (hk : EX X E e1 Γ x) (hd : EX X E e2 Γ (.dic kvs)) (hq : keyD x = some q) (hm : notSet e2 = true := by exact rfl) : EX X E (.Compare e1 [.In] [e2] pos) Γ (.bl (valD kvs q).isSome) :=
  ex_of (pe_cmp (pc_din (hu_of hr) pe_W pe_W) (noMarks hm)) fun σ G H Q v k => hk.run v fun w G1 H1 v1 x1 r1 => hd.run v1 fun u G2 H2 v2 x2 r2 => by
    cases r2 with
    | dic q2 r2 =>
      rw [rep_key r1 hq]
      refine ⟨_, _, rfl, DGet.k (x2.sub _ _ q2), ?_⟩
      rw [valD_some r2]
      exact k _ G2 H2 (x1.trans x2) (.bl _)
theorem valT_some {K : PySem.W.Frag} {G : Hp} {kvs : List (List Key × D)} {vs : List (List Key × V)} (r : RepT K G kvs vs) (q : List Key) : (valV vs q).isSome = (valD kvs q).isSome := by
  rcases r.val q with ⟨d, v, h1, h2, _⟩ | ⟨h1, h2⟩ <;> rw [h1, h2] <;> rfl
/-- (a, b, ..) in e2, e2 a dict by tuples as data -/
theorem ex_inTT {ks : List Key} {ds : List D} {kvs : List (List Key × D)} {k : Nat} {x1 : _} {tpos : Pos} (hr : Room k X.A) (hk : EA X E es Γ ds) (hd : EX X E e2 Γ (.dit kvs)) (hq : keysD ds = some ks) (hl : ds.length ≤ sizeLine := by (refine len_small ?_; first | decide | simp)) (hm : notSet e2 = true := by exact rfl) : EX X E (.Compare (.Tuple es x1 tpos) [.In] [e2] pos) Γ (.bl (valD kvs ks).isSome) :=
  ex_of (pe_cmp (pc_din (hu_of hr) (pe_tup pa_W) pe_W) (noMarks hm)) fun σ G H Q v k => hk.run v fun us G1 H1 v1 x1 r1 => ⟨by rw [← r1.length]; exact hl, fun a ha => by
    have x2 : Ext X.K G1 H1 (upd G1 a (.tup us)) (upd H1 a (.tup us)) := .new x1.sub ha
    refine hd.run (v1.mono x2) fun u G2 H2 v2 x3 r2 => ?_
    cases r2 with
    | dit q2 r2 =>
      have e := rep_keys r1 hq
      subst e
      refine ⟨_, _, rfl, DGet.t (x3.sub _ _ q2) (x3.h.at upd_same), ?_⟩
      rw [valT_some r2]
      exact k _ G2 H2 ((x1.trans x2).trans x3) (.bl _)⟩
theorem ex_inT {xs : List D} (ha : EX X E e1 Γ x) (hb : EX X E e2 Γ (.tup xs)) (hx : flatD x = true := by exact rfl) (hs : xs.all flatD = true := by exact rfl) (hm : notSet e2 = true := by exact rfl) : EX X E (.Compare e1 [.In] [e2] pos) Γ (.bl (inF x xs)) := ex_cmp op_in_seq (rx_inT hx hs) ha hb (noMarks hm)
end
end DL
set_option maxHeartbeats 2000000
/-! DL13: walking by hand: heaps that differ at known objects; statements one by one -/
namespace DL
open PySem PySem.Spec PyProof.Rows L2
/-- all but the objects at M is as it was -/
structure ExtL (K : PySem.W.Frag) (M : List Addr) (G H G' H' : Hp) : Prop where
  g : Same G G'
  h : ∀ b o, H b = some o → b ∉ M → (∀ ps, o ≠ .tbl ps) → H' b = some o
  sub : Same G' H'
  fr : ∀ b o, H b = some o → G b = none → G' b = none
  f : ∀ b, H' b = none → H b = none
  t : LamX.Tabs (TK K) H → LamX.Tabs (TK K) H'
section
variable {K : PySem.W.Frag} {M M' : List Addr} {G H G1 H1 G2 H2 : Hp} {a : Addr} {o o' : HO}
theorem Ext.L (x : Ext K G H G1 H1) : ExtL K M G H G1 H1 := ⟨x.g, fun b o h _ n => x.h.k b o h n, x.sub, x.fr, x.h.f, x.h.t⟩
theorem ExtL.refl (s : Same G H) : ExtL K M G H G H := (Ext.refl s).L
theorem ExtL.trans (x : ExtL K M G H G1 H1) (y : ExtL K M G1 H1 G2 H2) : ExtL K M G H G2 H2 :=
  ⟨x.g.trans y.g, fun b o h m n => y.h b o (x.h b o h m n) m n, y.sub, fun b o h n => by
    cases q : H1 b with
    | none => rw [x.f b q] at h; cases h
    | some o' => exact y.fr b o' q (x.fr b o h n), fun b h => x.f b (y.f b h), fun t => y.t (x.t t)⟩
/-- objects that did not stand at first need no naming -/
theorem ExtL.drop (x : ExtL K M G H G1 H1) (hm : ∀ b ∈ M, b ∈ M' ∨ H b = none) : ExtL K M' G H G1 H1 :=
  ⟨x.g, fun b o h m n => x.h b o h (fun z => by rcases hm b z with q | q; exact m q; rw [q] at h; cases h) n, x.sub, x.fr, x.f, x.t⟩
theorem ExtL.ext (x : ExtL K M G H G1 H1) (hm : ∀ b ∈ M, H b = none) : Ext K G H G1 H1 :=
  ⟨x.g, ⟨fun b o h n => x.h b o h (fun z => by rw [hm b z] at h; cases h) n, x.f, x.t⟩, x.sub, x.fr⟩
theorem ExtL.upd (s : Same G H) (ha : a ∈ M) (h : H a = some o) (g : G a = none) (n1 : ∀ ps, o ≠ .tbl ps := by intro _ z; cases z) (n2 : ∀ c q, o ≠ LamX.CodeO c q := by intro _ _ z; cases z) : ExtL K M G H G (L2.upd H a o') :=
  ⟨Same.refl G, fun b u e m _ => by rw [upd_ne (fun z => m (by rw [z]; exact ha))]; exact e, fun b u e => by rw [upd_ne (fun z => by rw [z, g] at e; cases e)]; exact s b u e, fun b u _ n => n, fun b e => by
    by_cases w : b = a
    · rw [w, upd_same] at e; cases e
    · rw [upd_ne w] at e; exact e, fun t => tabs_upd h n1 n2 t⟩
theorem ExtL.at {b : Addr} {u : HO} (x : ExtL K M G H G1 H1) (h : H b = some u) (m : b ∉ M) (n : ∀ ps, u ≠ .tbl ps := by intro _ z; cases z) : H1 b = some u := x.h b u h m n
theorem TabsG.L (t : TabsG K G H) (x : ExtL K M G H G1 H1) : TabsG K G1 H1 := ⟨x.t t.1, fun p hp => by
  obtain ⟨ps, h, _⟩ := t.1 p hp
  exact x.fr _ _ h (t.2 p hp)⟩
/-- no own objects -/
def noOwns (Γ : List Sl) : Prop := ∀ s ∈ Γ, s.isOwn = false
theorem noOwns_by {Γ : List Sl} (h : Γ.all (fun s => !s.isOwn) = true := by rfl) : noOwns Γ := fun s hs => by
  have := List.all_eq_true.mp h s hs
  simpa using this
theorem Env.base {E : En} {Γ : List Sl} {σ : L2.St} (v : Env K E Γ σ G H) (hn : noOwns Γ) : Env K ⟨G, H, none⟩ Γ σ G H := by
  have no : ∀ (j : Nat) (t : Sl), Γ[j]? = some t → t.isOwn = true → False := fun j t h1 h2 => by
    rw [hn t (List.mem_of_getElem? h1)] at h2; cases h2
  refine ⟨v.len, fun i s x h1 h2 => ?_, fun i j s t a h1 _ h3 => (no i s h1 h3).elim, Same.refl G, v.sub, fun b o e _ _ => e, fun b o _ e => e, (fun a e => nomatch e), fun b e => e, v.tb⟩
  have z := v.ok i s x h1 h2
  cases s with
  | un => trivial
  | im d => exact z
  | ol _ => exact (no i _ h1 rfl).elim
  | od _ => exact (no i _ h1 rfl).elim
  | ot _ => exact (no i _ h1 rfl).elim
  | me _ _ => exact (no i _ h1 rfl).elim
/-- .. behind a change by hand -/
theorem Env.L {E : En} {Γ : List Sl} {σ : L2.St} (v : Env K E Γ σ G H) (hn : noOwns Γ) (x : ExtL K M G H G1 H1) : Env K ⟨G1, H1, none⟩ Γ σ G1 H1 := by
  have no : ∀ (j : Nat) (t : Sl), Γ[j]? = some t → t.isOwn = true → False := fun j t h1 h2 => by
    rw [hn t (List.mem_of_getElem? h1)] at h2; cases h2
  refine ⟨v.len, fun i s y h1 h2 => ?_, fun i j s t a h1 _ h3 => (no i s h1 h3).elim, Same.refl G1, x.sub, fun b o e _ _ => e, fun b o _ e => e, (fun a e => nomatch e), fun b e => e, v.tb.L x⟩
  have z := v.ok i s y h1 h2
  cases s with
  | un => trivial
  | im d => obtain ⟨u, e1, e2⟩ := z; exact ⟨u, e1, e2.mono x.g⟩
  | ol _ => exact (no i _ h1 rfl).elim
  | od _ => exact (no i _ h1 rfl).elim
  | ot _ => exact (no i _ h1 rfl).elim
  | me _ _ => exact (no i _ h1 rfl).elim
/-- a slot is given a value that is known only by itself -/
theorem Env.setRaw {E : En} {Γ : List Sl} {σ : L2.St} (v : Env K E Γ σ G H) (i : Nat) (u : V) : Env K E (Γ.set i (.im (.raw u))) (σ.set i (some u)) G H := v.setIm (.raw u)
theorem Env.rawAt {E : En} {Γ : List Sl} {σ : L2.St} {i : Nat} {u : V} (v : Env K E Γ σ G H) (h : Γ[i]? = some (.im (.raw u))) : σ[i]? = some (some u) := by
  obtain ⟨x, h1, h2⟩ := v.im h
  cases h2
  exact h1
/-- more is data -/
theorem Env.lend {E : En} {Γ : List Sl} {σ : L2.St} (v : Env K E Γ σ G H) (hn : noOwns Γ) (h : H a = some o) (n : ∀ ps, o ≠ .tbl ps := by intro _ z; cases z) : Env K ⟨L2.upd G a o, H, none⟩ Γ σ (L2.upd G a o) H := by
  have no : ∀ (j : Nat) (t : Sl), Γ[j]? = some t → t.isOwn = true → False := fun j t h1 h2 => by
    rw [hn t (List.mem_of_getElem? h1)] at h2; cases h2
  have sub : Same (L2.upd G a o) H := fun b u e => by
    by_cases w : b = a
    · subst w; rw [upd_same] at e; rw [← e]; exact h
    · rw [upd_ne w] at e; exact v.sub b u e
  have sg : Same G (L2.upd G a o) := fun b u e => by
    by_cases w : b = a
    · subst w; rw [upd_same, ← v.sub _ _ e, h]
    · rw [upd_ne w]; exact e
  refine ⟨v.len, fun i s y h1 h2 => ?_, fun i j s t a h1 _ h3 => (no i s h1 h3).elim, Same.refl _, sub, fun b o e _ _ => e, fun b o _ e => e, (fun a e => nomatch e), fun b e => e, tabsG_upd v.tb h n⟩
  have z := v.ok i s y h1 h2
  cases s with
  | un => trivial
  | im d => obtain ⟨u, e1, e2⟩ := z; exact ⟨u, e1, e2.mono sg⟩
  | ol _ => exact (no i _ h1 rfl).elim
  | od _ => exact (no i _ h1 rfl).elim
  | ot _ => exact (no i _ h1 rfl).elim
  | me _ _ => exact (no i _ h1 rfl).elim
end
section
variable {X : Cx} {E : En} {e c : Expr} {Γ : List Sl} {d : D} {b : Bool} {pos : Pos} {N : N4} {st : Stmt} {rest sa sb : List Stmt} {σ : L2.St} {G H : Hp} {Dn : Ends}
/-- a statement that goes on -/
theorem ss_step (h : SX X ⟨G, H, none⟩ st N Γ) (v : Env X.K ⟨G, H, none⟩ Γ σ G H) (k : ∀ Γ' σ' G' H', N.nx Γ' → Ext X.K G H G' H' → Env X.K ⟨G, H, none⟩ Γ' σ' G' H' → ssW X rest Dn σ' H') (h1 : ∀ d Γ', N.rt d Γ' → False := by exact fun _ _ h => h) (h2 : ∀ Γ', N.bk Γ' → False := by exact fun _ h => h) (h3 : ∀ Γ', N.ct Γ' → False := by exact fun _ h => h) : ssW X (st :: rest) Dn σ H :=
  ssW_of (pss_cons ps_W pss_W) (h.w σ G H _ v ⟨fun Γ' σ' G' H' s v' q => k Γ' σ' G' H' q (v'.ext rfl) v', fun d u Γ' σ' G' H' _ _ _ q => (h1 d Γ' q).elim, fun Γ' σ' G' H' _ _ q => (h2 Γ' q).elim, fun Γ' σ' G' H' _ _ q => (h3 Γ' q).elim⟩)
theorem ss_nil (h : Dn.nx σ H) : ssW X [] Dn σ H := ssW_of pss_nil h
theorem ss_if (h : ET X E c Γ b) (v : Env X.K E Γ σ G H) (k1 : b = true → ∀ G1 H1, Env X.K E Γ σ G1 H1 → Ext X.K G H G1 H1 → ssW X sa { Dn with nx := ssW X rest Dn } σ H1) (k2 : b = false → ∀ G1 H1, Env X.K E Γ σ G1 H1 → Ext X.K G H G1 H1 → ssW X sb { Dn with nx := ssW X rest Dn } σ H1) : ssW X (.If c sa sb pos :: rest) Dn σ H :=
  ssW_of (pss_cons (ps_if pt_W pss_W pss_W) pss_W) (h.run v fun G1 H1 v1 x1 => by
    cases b with
    | true => exact iteT (k1 rfl G1 H1 v1 x1)
    | false => exact iteF (k2 rfl G1 H1 v1 x1))
theorem ss_for {tg iter : Expr} {body : List Stmt} {ds : List D} (w : WK X E tg iter Γ ds) (v : Env X.K E Γ σ G H)
    (k : ∀ G1 H1, Ext X.K G H G1 H1 → ∃ I : Nat → L2.St → Hp → Hp → Prop, I 0 σ G1 H1 ∧ (∀ i σ' G' H', I i σ' G' H' → Same G1 G' ∧ Same G' H') ∧
      (∀ i d x σ' G' H' G2 H2 (D' : Ends), ds[i]? = some d → I i σ' G' H' → Ext X.K G' H' G2 H2 → Rep X.K G2 d x → (∀ σ3 G3 H3, I (i + 1) σ3 G3 H3 → D'.nx σ3 H3) → D'.rt = Dn.rt → gW X tg x σ' H2 fun σ3 H3 => ssW X body D' σ3 H3) ∧
      (∀ σ' G' H', I ds.length σ' G' H' → ssW X rest Dn σ' H'))
    (hc : X.calm = true := by exact rfl) (hp : PassesOwn (model X.prog X.w) X.A X.env X.xe := by exact PassesOwn.never) (hf : notSet iter = true := by exact rfl) : ssW X (.For tg iter body [] pos :: rest) Dn σ H :=
  ssW_of (pss_cons (ps_for hp hc pi_W pg_W pss_W fun _ => noFold hf) pss_W) (w.w σ G H _ v fun J G1 H1 x1 jk => by
    obtain ⟨I, i0, is, ib, ie⟩ := k G1 H1 x1
    refine ⟨fun i m σ' H' => m = ds.length - i ∧ i ≤ ds.length ∧ ∃ G', I i σ' G' H', ⟨ds.length, by simp, Nat.zero_le _, G1, i0⟩, ?_⟩
    rintro i m σ' H' ⟨rfl, hi, G', p⟩
    obtain ⟨sg, sub⟩ := is i σ' G' H' p
    by_cases hlt : i < ds.length
    · refine .inr ⟨jk.go i G' H' sg sub hlt, fun σ2 H2 => ∃ G', I (i + 1) σ2 G' H2, fun σ2 H2 q => ⟨ds.length - (i + 1), by omega, rfl, hlt, q⟩, fun x H2 y => ?_⟩
      obtain ⟨G2, d, hd', x2, rd⟩ := jk.yld i G' H' x H2 sg sub y hlt
      exact ib i d x σ' G' H' G2 H2 _ hd' p x2 rd (fun σ3 G3 H3 q => ⟨G3, q⟩) rfl
    · have e : i = ds.length := by omega
      subst e
      exact .inl ⟨jk.stop _ G' H' sg sub (Nat.le_refl _), ie σ' G' H' p⟩)
/-- a target within such a loop -/
theorem gW_tg {tg : Expr} {x : V} {Γ' : List Sl} {Q : L2.St → Hp → Prop} (t : TGX X E tg d Γ Γ') (v : Env X.K E Γ σ G H) (r : Rep X.K G d x) (k : ∀ σ', Env X.K E Γ' σ' G H → Q σ' H) : gW X tg x σ H Q := t.w σ G H x Q v r k
end
end DL
set_option maxHeartbeats 2000000
/-! DL14: objects that are known by the entry alone (E.H), read by their addresses -/
namespace DL
open PySem PySem.Spec PyProof.Rows L2
theorem inV_strs (y : Str) : ∀ ys : List Str, inV (V.str y) (ys.map V.str) = decide (y ∈ ys)
  | [] => rfl
  | z :: r => by
    have e2 : eqV (V.str z) (V.str y) = decide (y = z) := by
      by_cases h : y = z
      · subst h; simp [eqV]
      · simp [eqV, h]; exact fun q => h q.symm
    show (eqV (V.str z) (V.str y) || inV (V.str y) (r.map V.str)) = _
    rw [e2, inV_strs y r]
    by_cases h : y = z <;> simp [h]
section
variable {X : Cx} {E : En} {e e1 e2 c : Expr} {es : List Expr} {Γ : List Sl} {d x : D} {b : Bool} {pos p apos cpos : Pos} {a : Addr}
theorem Env.keep {K : PySem.W.Frag} {Γ : List Sl} {σ : L2.St} {G H : Hp} {o : HO} (v : Env K E Γ σ G H) (hm : E.m = none) (h : E.H a = some o) (n : ∀ ps, o ≠ .tbl ps := by intro _ z; cases z) : H a = some o := v.h a o h (by rw [hm]; intro z; cases z) n
/-- e.f, e's object known -/
theorem ex_fldR {c f : Str} {dx : Addr} {fs : List (Str × V)} {u : V} (hm : E.m = none) (hE : E.H a = some (.ins (He.ga X.K c) dx fs)) (c1 : Cls X.K (He.ga X.K c)) (c2 : NoAttr X.K (He.ga X.K c) f) (ha : EX X E e Γ (.raw (.ref a))) (h : fs.lookup f = some u) (hr : ∀ G, Rep X.K G d u) (hb : notSuper e = true := by exact rfl) : EX X E (.Attribute e f pos) Γ d :=
  ex_of (pe_fld pe_W (attrBase hb)) fun σ G H Q v k => ha.run v fun w G1 H1 v1 x1 r1 => by
    cases r1
    exact ⟨a, _, dx, fs, u, rfl, v1.keep hm hE, c1, c2, h, k u G1 H1 x1 (hr G1)⟩
theorem eo_listR {n : Str} {xs : List D} {vs : List V} (hm' : E.m = none) (hE : E.H a = some (.lst vs)) (hr : ∀ G, Reps X.K G xs vs) (ha : EX X E e Γ (.raw (.ref a))) (hm : X.mg n = none) (hv : bootBuiltins n = some (.type "list") := by decide +kernel) (hg : Gl X n := by (show PySem.Env.kindOf _ _ = _); kernel_rfl) (hn : n ≠ "__name__" := by decide +kernel) (hdb : (n == ("__debug__" : Str)) = false := by decide +kernel)
    (he : noStar e = true := by exact rfl) : EO X E (.Call (.Name n p) [e] [] pos) Γ (.ol xs) := ⟨fun σ G H Q v k =>
  eW_of (pe_callTy call_list_of hg hm hv (pa_cons pe_W pa_nil (starEach_cons he)) hn hdb (starEach_cons he) rfl) (ha.run v fun u G1 H1 v1 x1 r1 => by
    cases r1
    exact ⟨a, vs, rfl, .inl (SqL.of (v1.keep hm' hE)), fun p hp => k p _ G1 _ (x1.trans (.newOwn x1.sub hp)) (x1.h.free hp) upd_same (x1.sub.free hp) ⟨_, rfl, hr G1⟩⟩)⟩
theorem eo_keysR {n : Str} {ks : List Str} {kvs : List (Key × V)} (hc : X.calm = true) (hm' : E.m = none) (hE : E.H a = some (.dK kvs)) (hk : kvs.map (·.1) = ks.map Sum.inr) (ha : EX X E e Γ (.raw (.ref a))) (hm : X.mg n = none) (hv : bootBuiltins n = some (.type "list") := by decide +kernel) (hg : Gl X n := by (show PySem.Env.kindOf _ _ = _); kernel_rfl) (hn : n ≠ "__name__" := by decide +kernel) (hdb : (n == ("__debug__" : Str)) = false := by decide +kernel)
    (he : noStar e = true := by exact rfl) : EO X E (.Call (.Name n p) [e] [] pos) Γ (.ol (ks.map .str)) := ⟨fun σ G H Q v k =>
  eW_of (pe_callTy (call_list_dK hc) hg hm hv (pa_cons pe_W pa_nil (starEach_cons he)) hn hdb (starEach_cons he) rfl) (ha.run v fun u G1 H1 v1 x1 r1 => by
    cases r1
    have e : kvs.map (fun kv => kV kv.1) = ks.map V.str := by
      have := congrArg (List.map kV) hk
      rw [List.map_map, List.map_map] at this
      exact this
    refine ⟨a, kvs, rfl, v1.keep hm' hE, fun p hp => k p _ G1 _ (x1.trans (.newOwn x1.sub hp)) (x1.h.free hp) upd_same (x1.sub.free hp) ⟨_, rfl, ?_⟩⟩
    rw [e]; exact .strs)⟩
theorem et_niR {n : Str} {npos : Pos} {y : Str} {ys : List Str} (i : Nat) (hm' : E.m = none) (hE : E.H a = some (.lst (ys.map .str))) (ha : EX X E e1 Γ (.str y)) (hs : Γ[i]? = some (.im (.raw (.ref a))) := by exact rfl) (hN : X.N[i]? = some n := by exact rfl) (hvis : Vis X.env.scope n := by exact Or.inl (by kernel_rfl)) (hd : (n == ("__debug__" : Str)) = false := by decide +kernel) (hcd : (n == ("__classdict__" : Str)) = false := by decide +kernel) :
    ET X E (.Compare e1 [.NotIn] [.Name n npos] pos) Γ (!decide (y ∈ ys)) :=
  et_of (pt_cmpR op_notIn_seq pe_W (pe_var hN hvis hd hcd) (noMarks rfl)) fun σ G H Q v k => ha.run v fun u G1 H1 v1 x1 r1 => by
    cases r1
    refine ⟨_, v1.rawAt hs, a, ys.map .str, rfl, .inl (SqL.of (v1.keep hm' hE)), rfl, ?_, ?_⟩
    · rw [List.all_map]; exact List.all_eq_true.mpr fun _ _ => rfl
    · rw [inV_strs]
      exact ⟨_, rfl, k G1 H1 x1⟩
end
end DL
set_option maxHeartbeats 2000000
/-! DL15: an if whose test reads what is lent; insert; a new object either way -/
namespace DL
open PySem PySem.Spec PyProof.Rows L2
section
variable {X : Cx} {E E' : En} {e e1 e2 c : Expr} {Γ Γ' : List Sl} {d : D} {b : Bool} {pos : Pos} {N : N4} {rest sa sb : List Stmt} {σ : L2.St} {G G' H : Hp} {Dn : Ends} {s : Sl}
theorem ss_ifL (v : Env X.K E Γ σ G H) (v' : Env X.K E' Γ' σ G' H) (sG : Same G G') (h : ET X E' c Γ' b) (k1 : b = true → ∀ H1, Ext X.K G H G H1 → Env X.K E Γ σ G H1 → ssW X sa { Dn with nx := ssW X rest Dn } σ H1) (k2 : b = false → ∀ H1, Ext X.K G H G H1 → Env X.K E Γ σ G H1 → ssW X sb { Dn with nx := ssW X rest Dn } σ H1) : ssW X (.If c sa sb pos :: rest) Dn σ H :=
  ssW_of (pss_cons (ps_if pt_W pss_W pss_W) pss_W) (h.run v' fun G1 H1 v1 x1 => by
    have x : Ext X.K G H G H1 := ⟨Same.refl G, x1.h, sG.trans (x1.g.trans x1.sub), fun _ _ _ n => n⟩
    cases b with
    | true => exact iteT (k1 rfl H1 x (v.mono x))
    | false => exact iteF (k2 rfl H1 x (v.mono x)))
theorem eo_if {a : Expr} (h : ET X E c Γ b) (h1 : b = true → EO X E a Γ s) (h2 : b = false → EO X E e Γ s) : EO X E (.IfExp c a e pos) Γ s := ⟨fun σ G H Q v k =>
  eW_of (pe_ifExp pt_W pe_W pe_W) (h.run v fun G1 H1 v1 x1 => by
    cases b with
    | true => exact iteT ((h1 rfl).w σ G1 H1 Q v1 fun p o G2 H2 x2 hp hp2 hg ok => k p o G2 H2 (x1.trans x2) (x1.h.free hp) hp2 hg ok)
    | false => exact iteF ((h2 rfl).w σ G1 H1 Q v1 fun p o G2 H2 x2 hp hp2 hg ok => k p o G2 H2 (x1.trans x2) (x1.h.free hp) hp2 hg ok))⟩
/-- x.insert(e1, e2) -/
theorem sx_insert {xs : List D} {n : Str} {npos apos cpos : Pos} {j : Int} (i : Nat) (h1 : EX X E e1 Γ (.int j)) (h2 : EX X E e2 Γ d) (h0 : 0 ≤ j) (hj : j < 2 ^ 63) (p : N.nx (Γ.set i (.ol (xs.take j.toNat ++ [d] ++ xs.drop j.toNat)))) (hl : xs.length < sizeLine) (hs : Γ[i]? = some (.ol xs) := by exact rfl) (hN : X.N[i]? = some n := by exact rfl) (hv : Vis X.env.scope n := by exact Or.inl (by kernel_rfl)) (hd : (n == ("__debug__" : Str)) = false := by decide +kernel)
    (hcd : (n == ("__classdict__" : Str)) = false := by decide +kernel) (hline : (apos.endLine == cpos.line) = true := by exact rfl) (hst : noStar e1 = true := by exact rfl) (hst2 : noStar e2 = true := by exact rfl)
    (hfew : ((backTo cpos (starEach (e1 :: [e2]) X.env)).all (fun x => !x.1) && (backToKw cpos (keywordEach [] X.env)).all (fun x => x.1.isSome) && decide ((e1 :: [e2]).length + ([] : List Keyword).length + (if ([] : List Keyword).isEmpty then 0 else 1) < 30)) = true) : SX X E (.Expr (.Call (.Attribute (.Name n npos) "insert" apos) [e1, e2] [] cpos) pos) N Γ := ⟨fun σ G H Dn v r => by
  obtain ⟨a, o, g1, g2, g3, vs, rfl, g4⟩ := own_ref v i hs rfl
  refine sW_of (ps_expr (pe_bm PySem.F.plainAttrs_list PySem.F.slot_list_insert PySem.F.type_list_insert mt_insert (pe_var hN hv hd hcd) (pa_cons pe_W (pa_cons pe_W pa_nil (starEach_cons hst2)) (starEach_cons hst)) (attrBase rfl) hfew hline (starEach_cons hst) (starEach_any (by simp [hst2]))) rfl) ?_
  refine ⟨.ref a, g1, .inl ⟨rfl, vs, SqL.of g2⟩, ?_⟩
  refine h1.run v fun u1 G1 H1 v1 x1 r1 => ?_
  cases r1
  refine h2.run v1 fun u2 G2 H2 v2 x2 r2 => ?_
  have gg := (x1.trans x2).h.at g2
  have rr := g4.mono (x1.trans x2).g
  refine ⟨a, vs, j, u2, rfl, rfl, gg, by rw [← g4.length]; exact hl, h0, hj, ?_⟩
  exact r.nx _ σ G2 _ (x1.trans x2).g (v2.change (s' := .ol (xs.take j.toNat ++ [d] ++ xs.drop j.toNat)) hs rfl g1 rfl rfl ⟨_, rfl, ((rr.take _).append (.cons r2 .nil)).append (rr.drop _)⟩) p⟩
theorem Ext.lend {K : PySem.W.Frag} {G H G1 H1 : Hp} {a : Addr} {o : HO} (x : Ext K G H G1 H1) (h : H1 a = some o) (n : H a = none) : Ext K G H (upd G1 a o) H1 := by
  refine ⟨fun b u e => ?_, x.h, fun b u e => ?_, fun b u e z => ?_⟩
  · have := x.g b u e
    by_cases w : b = a
    · subst w; rw [upd_same, ← x.sub _ _ this, h]
    · rw [upd_ne w]; exact this
  · by_cases w : b = a
    · subst w; rw [upd_same] at e; rw [← e]; exact h
    · rw [upd_ne w] at e; exact x.sub b u e
  · rw [upd_ne (fun w => by rw [w, n] at e; cases e)]; exact x.fr b u e z
theorem st_self {σ : L2.St} {i : Nat} {x : V} (h : σ[i]? = some (some x)) : σ.set i (some x) = σ := by
  obtain ⟨hi, e⟩ := List.getElem?_eq_some_iff.mp h
  rw [← e]; exact List.set_getElem_self hi
end
end DL
set_option maxHeartbeats 2000000
/-! DHk: what the head tells, the statics' table within it (reads off a class look there) -/
namespace DL
open PySem PySem.Spec PyProof.Rows L2
section
variable (n : Nat) (fa : List He.Fa) (fn : List He.DefD) (tf : List He.Defn) (ex : PySem.W.Frag → Bool)
/-- the addresses that are not yet in the set (bits of a number) -/
def newY : Nat → List Addr → (Nat → List Addr → List Addr) → List Addr
  | m, [], k => k m []
  | m, a :: r, k => match Nat.land (Nat.shiftRight m a) 1 with
    | 0 => HandSHeadRun.frNat (Nat.lor m (Nat.shiftLeft 1 a)) fun m' => newY m' r fun m2 l => k m2 (a :: l)
    | _ + 1 => newY m r k
/-- what is met from the addresses fr, in so many rounds -/
def asY (g : Addr → Option Obj) : Nat → Nat → List Addr → List Addr
  | 0, _, fr => fr
  | i + 1, m, fr => fr ++ newY m (fr.flatMap fun a => match g a with
    | some o => He.refsD o
    | none => []) fun m' nw => asY g i m' nw
/-- the part of the heap that is told -/
def fragY (g : Addr → Option Obj) : PySem.W.Frag := He.frT g (asY g n (Nat.shiftLeft 1 mainGlobals) [mainGlobals] ++ [PySem.cStatics])
def toldY (g : Addr → Option Obj) : He.AlX := ⟨He.obsT fa fn [] (fragY n g), ex (fragY n g) && He.tabsB g tf (fragY n g)⟩
theorem saysY {w : World} {h : Heap} (e : toldY n fa fn tf ex h.get? = He.valX fn [] w) : (fragY n h.get?).In h ∧ He.SaysX fa fn [] tf ex w h (fragY n h.get?) := by
  obtain ⟨K, hK⟩ : ∃ K, fragY n h.get? = K := ⟨_, rfl⟩
  have hin : (fragY n h.get?).In h := He.frT_in
  have e1 := congrArg Prod.fst e
  have e2 := congrArg Prod.snd e
  change He.obsT fa fn [] (fragY n h.get?) = He.valT fn [] w at e1
  change (ex (fragY n h.get?) && He.tabsB h.get? tf (fragY n h.get?)) = true at e2
  rw [Bool.and_eq_true] at e2
  have per : ∀ p ∈ tf, (PySem.W.codeHdIn (fragY n h.get?) (He.cT (fragY n h.get?) p).1 (He.cT (fragY n h.get?) p).2 && (match h.get? (He.cT (fragY n h.get?) p).2 with | some o => He.emptyTab o | none => false)) = true := fun p hp => List.all_eq_true.mp e2.2 p hp
  have tab : ∀ p ∈ tf, ∃ o, h.get? (He.cT (fragY n h.get?) p).2 = some o ∧ He.emptyTab o = true := fun p hp => by
    have q := per p hp
    rw [Bool.and_eq_true] at q
    have q2 := q.2
    split at q2
    · rename_i o ho; exact ⟨o, ho, q2⟩
    · cases q2
  refine ⟨hin, ⟨e1, e2.1, fun p hp => ?_, fun p hp => ?_, fun p hp => ?_⟩⟩
  · have q := per p hp
    rw [Bool.and_eq_true] at q
    exact q.1
  · obtain ⟨o, ho, z⟩ := tab p hp
    exact He.frT_none ho z
  · obtain ⟨o, ho, z⟩ := tab p hp
    rw [ho, He.emptyTab_eq z]
def hookY : PySem.W.Hook where
  α := He.AlX
  obs := fun s => toldY n fa fn tf ex s.heap.get?
  val := fun w => He.valX fn [] w
  says := fun w h => ∃ K : PySem.W.Frag, K.In h ∧ He.SaysX fa fn [] tf ex w h K
  of := fun _ _ e => ⟨_, saysY n fa fn tf ex e⟩
  keeps := fun _ _ _ ⟨K, hK, c⟩ k => ⟨K, hK.keeps k, c.t, c.more, c.hd, c.out, fun p hp => k _ _ (c.empty p hp)⟩
theorem toldY_eq {g : Addr → Option Obj} {s : Shared} (h : ∀ a, g a = s.heap.get? a) : toldY n fa fn tf ex g = (hookY n fa fn tf ex).obs s := by
  have : g = s.heap.get? := funext h
  subst this; rfl
end
end DL
set_option maxHeartbeats 1000000
/-! MA0: texts as lists of signs; names; conditions and deeds as trees, their words, their two writings as data -/
namespace DL
open PySem PySem.Spec PyProof.Rows L2

/-! ### texts -/
abbrev cd (x : Str) : List Nat := x.cps.toList
theorem cd_len (x : Str) : x.length = (cd x).length := by simp [Str.length]
theorem cd_app (a b : Str) : cd (a ++ b) = cd a ++ cd b := by
  show (a.cps ++ b.cps).toList = _
  simp
theorem len_app (a b : Str) : (a ++ b).length = a.length + b.length := by rw [cd_len, cd_len, cd_len, cd_app, List.length_append]
theorem len_one (c : Nat) : (⟨#[c]⟩ : Str).length = 1 := rfl
theorem cd_ext {a b : Str} (h : cd a = cd b) : a = b := by
  cases a; cases b
  congr 1
  exact Array.toList_inj.mp h
theorem cd_cut (z : Str) (lo hi : Option Int) : cd (cutS z lo hi) = ((cd z).drop (HT.sIx z.length 0 lo)).take (HT.sIx z.length z.length hi - HT.sIx z.length 0 lo) := by simp [cutS]
theorem cut_to (z : Str) (n : Nat) : cd (cutS z none (some (n : Int))) = (cd z).take n := by
  rw [cd_cut]
  show ((cd z).drop 0).take (HT.sIx z.length z.length (some (n : Int)) - 0) = _
  rw [HT.sIx_nat, List.drop_zero, Nat.sub_zero, cd_len, ← List.take_take, List.take_length]
/-- a name: 1 to 10 small letters -/
def isLet (c : Nat) : Bool := decide (97 ≤ c) && decide (c ≤ 122)
def NameS (x : Str) : Prop := 1 ≤ (cd x).length ∧ (cd x).length ≤ 10 ∧ ∀ c ∈ cd x, isLet c = true
instance (x : Str) : Decidable (NameS x) := by unfold NameS; exact inferInstance

/-! ### conditions -/
inductive Cn where
  | any | has (n : Str) | first (n : Str) | last (n : Str) | pair (a b : Str) | frm (n : Str) | over (s : Str) | marked (n : Str)
  | not (c : Cn) | br (c : Cn) | and (l : List Cn) | or (l : List Cn)
mutual
/-- the words -/
def Cn.toks : Cn → List Str
  | .any => ["any"] | .has n => ["has", n] | .first n => ["first", n] | .last n => ["last", n] | .pair a b => ["pair", a, b] | .frm n => ["from", n] | .over s => ["over", s] | .marked n => ["marked", n]
  | .not c => ("not" : Str) :: c.toks
  | .br c => ("(" : Str) :: c.toks ++ [(")" : Str)]
  | .and l => Cn.toksL "and" l
  | .or l => Cn.toksL "or" l
def Cn.toksL (w : Str) : List Cn → List Str
  | [] => []
  | [c] => c.toks
  | c :: r => c.toks ++ w :: Cn.toksL w r
/-- as the law writes it -/
def Cn.encL : Cn → D
  | .any => .tup [.str "any"] | .has n => .tup [.str "has", .str n] | .first n => .tup [.str "first", .str n] | .last n => .tup [.str "last", .str n] | .pair a b => .tup [.str "pair", .str a, .str b] | .frm n => .tup [.str "from", .str n]
  | .over s => .tup [.str "over", .str s] | .marked n => .tup [.str "marked", .str n]
  | .not c => .tup [.str "not", c.encL]
  | .br c => .tup [.str "(", c.encL]
  | .and l => .tup [.str "and", .lst (Cn.encLs l)]
  | .or l => .tup [.str "or", .lst (Cn.encLs l)]
def Cn.encLs : List Cn → List D
  | [] => []
  | c :: r => c.encL :: Cn.encLs r
/-- the program's objects -/
def Cn.encP : Cn → D
  | .any => .ins "Fact" [("words", .lst [.str "any"])] | .has n => .ins "Has" [("words", .lst [.str "has", .str n])] | .first n => .ins "First" [("words", .lst [.str "first", .str n])]
  | .last n => .ins "Last" [("words", .lst [.str "last", .str n])] | .pair a b => .ins "Pair" [("words", .lst [.str "pair", .str a, .str b])] | .frm n => .ins "From" [("words", .lst [.str "from", .str n])]
  | .over s => .ins "Over" [("words", .lst [.str "over", .str s])] | .marked n => .ins "Marked" [("words", .lst [.str "marked", .str n])]
  | .not c => .ins "Turned" [("words", .lst [.str "not"]), ("inner", c.encP)]
  | .br c => .ins "Bracket" [("words", .lst [.str "not"]), ("inner", c.encP)]
  | .and l => .ins "Joined" [("words", .lst [.str "and"]), ("parts", .lst (Cn.encPs l))]
  | .or l => .ins "Joined" [("words", .lst [.str "or"]), ("parts", .lst (Cn.encPs l))]
def Cn.encPs : List Cn → List D
  | [] => []
  | c :: r => c.encP :: Cn.encPs r
/-- facts in it -/
def Cn.facts : Cn → List Cn
  | .not c => c.facts
  | .br c => c.facts
  | .and l => Cn.factsL l
  | .or l => Cn.factsL l
  | c => [c]
def Cn.factsL : List Cn → List Cn
  | [] => []
  | c :: r => c.facts ++ Cn.factsL r
/-- how deep it is -/
def Cn.deep : Cn → Nat
  | .not c => c.deep + 1
  | .br c => c.deep + 1
  | .and l => Cn.deepL l + 1
  | .or l => Cn.deepL l + 1
  | _ => 0
def Cn.deepL : List Cn → Nat
  | [] => 0
  | c :: r => max c.deep (Cn.deepL r)
end
/-- a fact as words -/
def Cn.isFact : Cn → Bool
  | .not _ => false | .br _ => false | .and _ => false | .or _ => false | _ => true
mutual
/-- a unit | units joined by and | these joined by or, as they are read -/
def Cn.isU : Cn → Bool
  | .not c => c.isU
  | .br c => c.isE
  | .and _ => false
  | .or _ => false
  | _ => true
def Cn.isB : Cn → Bool
  | .and l => decide (2 ≤ l.length) && Cn.allU l
  | .or _ => false
  | .not c => c.isU
  | .br c => c.isE
  | _ => true
def Cn.isE : Cn → Bool
  | .or l => decide (2 ≤ l.length) && Cn.allB l
  | .and l => decide (2 ≤ l.length) && Cn.allU l
  | .not c => c.isU
  | .br c => c.isE
  | _ => true
def Cn.allU : List Cn → Bool
  | [] => true
  | c :: r => c.isU && Cn.allU r
def Cn.allB : List Cn → Bool
  | [] => true
  | c :: r => c.isB && Cn.allB r
end
/-- a written size -/
def SizeS (x : Str) : Prop := 1 ≤ (cd x).length ∧ (cd x).length ≤ 5 ∧ (∀ c ∈ cd x, 48 ≤ c ∧ c ≤ 57) ∧ (x = "0" ∨ (cd x).head? ≠ some 48)
instance (x : Str) : Decidable (SizeS x) := by unfold SizeS; exact inferInstance
/-- a fact's words are in order; the names that it speaks of are among S -/
def Cn.fine (S : List Str) : Cn → Prop
  | .any => True | .has n => NameS n ∧ n ∈ S | .first n => NameS n ∧ n ∈ S | .last n => NameS n ∧ n ∈ S | .pair a b => NameS a ∧ NameS b ∧ a ∈ S ∧ b ∈ S | .frm n => NameS n | .over s => SizeS s | .marked n => NameS n
  | _ => False
/-- a condition that can be read -/
structure Cn.Ok (S : List Str) (c : Cn) : Prop where
  e : c.isE = true
  f : ∀ a ∈ c.facts, a.fine S
  n : c.toks.length ≤ 40
  d : c.deep ≤ 6

/-! ### deeds, rules, letters -/
inductive Dd where
  | mark (n : Str) | unmark (n : Str) | file (n : Str) | pass (n : Str) | stop
def Dd.toks : Dd → List Str
  | .mark n => ["mark", n] | .unmark n => ["unmark", n] | .file n => ["file", n] | .pass n => ["pass", n] | .stop => ["stop"]
def Dd.encL (d : Dd) : D := .tup (d.toks.map .str)
def Dd.encP (d : Dd) : D := .lst (d.toks.map .str)
def Dd.fine : Dd → Prop
  | .mark n => NameS n | .unmark n => NameS n | .file n => NameS n | .pass n => NameS n | .stop => True
abbrev Ru := Cn × List Dd
def Ru.encL (r : Ru) : D := .tup [r.1.encL, .lst (r.2.map Dd.encL)]
def Ru.encP (r : Ru) : D := .ins "Rule" [("condition", r.1.encP), ("deeds", .lst (r.2.map Dd.encP))]
def deedToks : List Dd → List Str
  | [] => []
  | [d] => d.toks
  | d :: r => d.toks ++ ("," : Str) :: deedToks r
def Ru.toks (r : Ru) : List Str := ("if" : Str) :: r.1.toks ++ ("then" : Str) :: deedToks r.2
structure Ru.Ok (S : List Str) (r : Ru) : Prop where
  c : r.1.Ok S
  d : ∀ d ∈ r.2, d.fine
  n : 1 ≤ r.2.length ∧ r.2.length ≤ 6
structure Let where
  from_ : Str
  words : List Str
  size : Int
def Let.enc (l : Let) : D := .tup [.str l.from_, .lst (l.words.map .str), .int l.size]
structure Let.Ok (l : Let) : Prop where
  f : NameS l.from_
  w : ∀ x ∈ l.words, NameS x
  s : 0 ≤ l.size ∧ l.size ≤ 99999
theorem encLs_map : ∀ l : List Cn, Cn.encLs l = l.map Cn.encL
  | [] => by rw [Cn.encLs]; rfl
  | c :: r => by rw [Cn.encLs, encLs_map r]; rfl
theorem encPs_map : ∀ l : List Cn, Cn.encPs l = l.map Cn.encP
  | [] => by rw [Cn.encPs]; rfl
  | c :: r => by rw [Cn.encPs, encPs_map r]; rfl
end DL
set_option maxHeartbeats 2000000
namespace DL
open PySem PySem.Spec PyProof.Rows L2
/-! ### the text: the places of the top's statements (printed by gen_tx.py) -/
def top (i : Nat) : Stmt := PySem.Challenge.pw_sortpost_k01_sort.main.body.getD i (.Pass ⟨0, 0, 0, 0⟩)
abbrev s_BadRule_init : Stmt := inClass (top 2) 0
abbrev s_Seen_init : Stmt := inClass (top 7) 0
abbrev s_Fact_init : Stmt := inClass (top 8) 0
abbrev s_Fact_holds : Stmt := inClass (top 8) 1
abbrev s_Fact_told : Stmt := inClass (top 8) 2
abbrev s_Fact_facts : Stmt := inClass (top 8) 3
abbrev s_From_holds : Stmt := inClass (top 9) 0
abbrev s_Has_holds : Stmt := inClass (top 10) 0
abbrev s_First_holds : Stmt := inClass (top 11) 0
abbrev s_Last_holds : Stmt := inClass (top 12) 0
abbrev s_Pair_holds : Stmt := inClass (top 13) 0
abbrev s_Over_holds : Stmt := inClass (top 14) 0
abbrev s_Marked_holds : Stmt := inClass (top 15) 0
abbrev s_Turned_init : Stmt := inClass (top 16) 0
abbrev s_Turned_holds : Stmt := inClass (top 16) 1
abbrev s_Turned_told : Stmt := inClass (top 16) 2
abbrev s_Turned_facts : Stmt := inClass (top 16) 3
abbrev s_Bracket_holds : Stmt := inClass (top 17) 0
abbrev s_Bracket_told : Stmt := inClass (top 17) 1
abbrev s_Joined_init : Stmt := inClass (top 18) 0
abbrev s_Joined_holds : Stmt := inClass (top 18) 1
abbrev s_Joined_told : Stmt := inClass (top 18) 2
abbrev s_Joined_facts : Stmt := inClass (top 18) 3
abbrev s_is_name : Stmt := top 27
abbrev s_is_size : Stmt := top 28
abbrev s_in_order : Stmt := top 29
abbrev s_words_of : Stmt := top 30
abbrev s_spaced : Stmt := top 31
abbrev s_Rule_init : Stmt := inClass (top 32) 0
abbrev s_Rule_told : Stmt := inClass (top 32) 1
abbrev s_Reader_init : Stmt := inClass (top 33) 0
abbrev s_Reader_wrong : Stmt := inClass (top 33) 1
abbrev s_Reader_here : Stmt := inClass (top 33) 2
abbrev s_Reader_step : Stmt := inClass (top 33) 3
abbrev s_Reader_due : Stmt := inClass (top 33) 4
abbrev s_Reader_name_here : Stmt := inClass (top 33) 5
abbrev s_Reader_size_here : Stmt := inClass (top 33) 6
abbrev s_Reader_fact : Stmt := inClass (top 33) 7
abbrev s_Reader_unit : Stmt := inClass (top 33) 8
abbrev s_Reader_both : Stmt := inClass (top 33) 9
abbrev s_Reader_either : Stmt := inClass (top 33) 10
abbrev s_Reader_deed : Stmt := inClass (top 33) 11
abbrev s_Reader_rule : Stmt := inClass (top 33) 12
abbrev s_says_nothing : Stmt := top 34
abbrev s_spoken : Stmt := top 35
abbrev s_check_few : Stmt := top 36
abbrev s_rules_of : Stmt := top 37
abbrev s_Fate_init : Stmt := inClass (top 39) 0
abbrev s_Fate_do : Stmt := inClass (top 39) 1
abbrev s_Fate_told : Stmt := inClass (top 39) 2
abbrev s_fate_of : Stmt := top 40
abbrev s_is_letter : Stmt := top 41
abbrev s_check_letter : Stmt := top 42
abbrev s_seen_of : Stmt := top 43
abbrev s_sort : Stmt := top 44
abbrev s_acting : Stmt := top 45
abbrev s__law_draw : Stmt := top 47
abbrev s__law_cell_at : Stmt := top 48
abbrev s__law_digits : Stmt := top 49
abbrev s__law_words : Stmt := top 50
abbrev s__law_fact : Stmt := top 51
abbrev s__law_unit : Stmt := top 52
abbrev s__law_condition : Stmt := top 53
abbrev s__law_deeds : Stmt := top 54
abbrev s__law_rules : Stmt := top 55
abbrev s__law_told : Stmt := top 56
abbrev s__law_rule_words : Stmt := top 57
abbrev s__law_text : Stmt := top 58
abbrev s__law_holds : Stmt := top 59
abbrev s__law_rank : Stmt := top 60
abbrev s__law_sort : Stmt := top 61
abbrev s__law_letter : Stmt := top 62
abbrev s__law_sort_right : Stmt := top 63
abbrev s_law : Stmt := top 64
def d_is_name : He.DefD := ⟨("is_name", none), "is_name", "is_name", defArgs s_is_name, defBody s_is_name, defScope s_is_name, [], []⟩
def d_is_size : He.DefD := ⟨("is_size", none), "is_size", "is_size", defArgs s_is_size, defBody s_is_size, defScope s_is_size, [], []⟩
def d_in_order : He.DefD := ⟨("in_order", none), "in_order", "in_order", defArgs s_in_order, defBody s_in_order, defScope s_in_order, [], []⟩
def d_words_of : He.DefD := ⟨("words_of", none), "words_of", "words_of", defArgs s_words_of, defBody s_words_of, defScope s_words_of, [], []⟩
def d_spaced : He.DefD := ⟨("spaced", none), "spaced", "spaced", defArgs s_spaced, defBody s_spaced, defScope s_spaced, [], []⟩
def d_says_nothing : He.DefD := ⟨("says_nothing", none), "says_nothing", "says_nothing", defArgs s_says_nothing, defBody s_says_nothing, defScope s_says_nothing, [], []⟩
def d_spoken : He.DefD := ⟨("spoken", none), "spoken", "spoken", defArgs s_spoken, defBody s_spoken, defScope s_spoken, [], []⟩
def d_check_few : He.DefD := ⟨("check_few", none), "check_few", "check_few", defArgs s_check_few, defBody s_check_few, defScope s_check_few, [], []⟩
def d_rules_of : He.DefD := ⟨("rules_of", none), "rules_of", "rules_of", defArgs s_rules_of, defBody s_rules_of, defScope s_rules_of, [], []⟩
def d_fate_of : He.DefD := ⟨("fate_of", none), "fate_of", "fate_of", defArgs s_fate_of, defBody s_fate_of, defScope s_fate_of, [], []⟩
def d_is_letter : He.DefD := ⟨("is_letter", none), "is_letter", "is_letter", defArgs s_is_letter, defBody s_is_letter, defScope s_is_letter, [], []⟩
def d_check_letter : He.DefD := ⟨("check_letter", none), "check_letter", "check_letter", defArgs s_check_letter, defBody s_check_letter, defScope s_check_letter, [], []⟩
def d_seen_of : He.DefD := ⟨("seen_of", none), "seen_of", "seen_of", defArgs s_seen_of, defBody s_seen_of, defScope s_seen_of, [], []⟩
def d_sort : He.DefD := ⟨("sort", none), "sort", "sort", defArgs s_sort, defBody s_sort, defScope s_sort, [], []⟩
def d_acting : He.DefD := ⟨("acting", none), "acting", "acting", defArgs s_acting, defBody s_acting, defScope s_acting, [], []⟩
def d__law_draw : He.DefD := ⟨("_law_draw", none), "_law_draw", "_law_draw", defArgs s__law_draw, defBody s__law_draw, defScope s__law_draw, [], []⟩
def d__law_cell_at : He.DefD := ⟨("_law_cell_at", none), "_law_cell_at", "_law_cell_at", defArgs s__law_cell_at, defBody s__law_cell_at, defScope s__law_cell_at, [], []⟩
def d__law_digits : He.DefD := ⟨("_law_digits", none), "_law_digits", "_law_digits", defArgs s__law_digits, defBody s__law_digits, defScope s__law_digits, [], []⟩
def d__law_words : He.DefD := ⟨("_law_words", none), "_law_words", "_law_words", defArgs s__law_words, defBody s__law_words, defScope s__law_words, [], []⟩
def d__law_fact : He.DefD := ⟨("_law_fact", none), "_law_fact", "_law_fact", defArgs s__law_fact, defBody s__law_fact, defScope s__law_fact, [], []⟩
def d__law_unit : He.DefD := ⟨("_law_unit", none), "_law_unit", "_law_unit", defArgs s__law_unit, defBody s__law_unit, defScope s__law_unit, [], []⟩
def d__law_condition : He.DefD := ⟨("_law_condition", none), "_law_condition", "_law_condition", defArgs s__law_condition, defBody s__law_condition, defScope s__law_condition, [], []⟩
def d__law_deeds : He.DefD := ⟨("_law_deeds", none), "_law_deeds", "_law_deeds", defArgs s__law_deeds, defBody s__law_deeds, defScope s__law_deeds, [], []⟩
def d__law_rules : He.DefD := ⟨("_law_rules", none), "_law_rules", "_law_rules", defArgs s__law_rules, defBody s__law_rules, defScope s__law_rules, [], []⟩
def d__law_told : He.DefD := ⟨("_law_told", none), "_law_told", "_law_told", defArgs s__law_told, defBody s__law_told, defScope s__law_told, [], []⟩
def d__law_rule_words : He.DefD := ⟨("_law_rule_words", none), "_law_rule_words", "_law_rule_words", defArgs s__law_rule_words, defBody s__law_rule_words, defScope s__law_rule_words, [], []⟩
def d__law_text : He.DefD := ⟨("_law_text", none), "_law_text", "_law_text", defArgs s__law_text, defBody s__law_text, defScope s__law_text, [], []⟩
def d__law_holds : He.DefD := ⟨("_law_holds", none), "_law_holds", "_law_holds", defArgs s__law_holds, defBody s__law_holds, defScope s__law_holds, [], []⟩
def d__law_rank : He.DefD := ⟨("_law_rank", none), "_law_rank", "_law_rank", defArgs s__law_rank, defBody s__law_rank, defScope s__law_rank, [], []⟩
def d__law_sort : He.DefD := ⟨("_law_sort", none), "_law_sort", "_law_sort", defArgs s__law_sort, defBody s__law_sort, defScope s__law_sort, [], []⟩
def d__law_letter : He.DefD := ⟨("_law_letter", none), "_law_letter", "_law_letter", defArgs s__law_letter, defBody s__law_letter, defScope s__law_letter, [], []⟩
def d__law_sort_right : He.DefD := ⟨("_law_sort_right", none), "_law_sort_right", "_law_sort_right", defArgs s__law_sort_right, defBody s__law_sort_right, defScope s__law_sort_right, [], []⟩
def d_law : He.DefD := ⟨("law", none), "law", "law", defArgs s_law, defBody s_law, defScope s_law, [], []⟩
def d_BadRule_init : He.DefD := ⟨("BadRule", some "__init__"), "__init__", "BadRule.__init__", defArgs s_BadRule_init, defBody s_BadRule_init, defScope s_BadRule_init, [], []⟩
def d_Seen_init : He.DefD := ⟨("Seen", some "__init__"), "__init__", "Seen.__init__", defArgs s_Seen_init, defBody s_Seen_init, defScope s_Seen_init, [], []⟩
def d_Fact_init : He.DefD := ⟨("Fact", some "__init__"), "__init__", "Fact.__init__", defArgs s_Fact_init, defBody s_Fact_init, defScope s_Fact_init, [], []⟩
def d_Fact_holds : He.DefD := ⟨("Fact", some "holds"), "holds", "Fact.holds", defArgs s_Fact_holds, defBody s_Fact_holds, defScope s_Fact_holds, [], []⟩
def d_Fact_told : He.DefD := ⟨("Fact", some "told"), "told", "Fact.told", defArgs s_Fact_told, defBody s_Fact_told, defScope s_Fact_told, [], []⟩
def d_Fact_facts : He.DefD := ⟨("Fact", some "facts"), "facts", "Fact.facts", defArgs s_Fact_facts, defBody s_Fact_facts, defScope s_Fact_facts, [], []⟩
def d_From_holds : He.DefD := ⟨("From", some "holds"), "holds", "From.holds", defArgs s_From_holds, defBody s_From_holds, defScope s_From_holds, [], []⟩
def d_From_init : He.DefD := ⟨("From", some "__init__"), "__init__", "Fact.__init__", defArgs s_Fact_init, defBody s_Fact_init, defScope s_Fact_init, [], []⟩
def d_From_told : He.DefD := ⟨("From", some "told"), "told", "Fact.told", defArgs s_Fact_told, defBody s_Fact_told, defScope s_Fact_told, [], []⟩
def d_From_facts : He.DefD := ⟨("From", some "facts"), "facts", "Fact.facts", defArgs s_Fact_facts, defBody s_Fact_facts, defScope s_Fact_facts, [], []⟩
def d_Has_holds : He.DefD := ⟨("Has", some "holds"), "holds", "Has.holds", defArgs s_Has_holds, defBody s_Has_holds, defScope s_Has_holds, [], []⟩
def d_Has_init : He.DefD := ⟨("Has", some "__init__"), "__init__", "Fact.__init__", defArgs s_Fact_init, defBody s_Fact_init, defScope s_Fact_init, [], []⟩
def d_Has_told : He.DefD := ⟨("Has", some "told"), "told", "Fact.told", defArgs s_Fact_told, defBody s_Fact_told, defScope s_Fact_told, [], []⟩
def d_Has_facts : He.DefD := ⟨("Has", some "facts"), "facts", "Fact.facts", defArgs s_Fact_facts, defBody s_Fact_facts, defScope s_Fact_facts, [], []⟩
def d_First_holds : He.DefD := ⟨("First", some "holds"), "holds", "First.holds", defArgs s_First_holds, defBody s_First_holds, defScope s_First_holds, [], []⟩
def d_First_init : He.DefD := ⟨("First", some "__init__"), "__init__", "Fact.__init__", defArgs s_Fact_init, defBody s_Fact_init, defScope s_Fact_init, [], []⟩
def d_First_told : He.DefD := ⟨("First", some "told"), "told", "Fact.told", defArgs s_Fact_told, defBody s_Fact_told, defScope s_Fact_told, [], []⟩
def d_First_facts : He.DefD := ⟨("First", some "facts"), "facts", "Fact.facts", defArgs s_Fact_facts, defBody s_Fact_facts, defScope s_Fact_facts, [], []⟩
def d_Last_holds : He.DefD := ⟨("Last", some "holds"), "holds", "Last.holds", defArgs s_Last_holds, defBody s_Last_holds, defScope s_Last_holds, [], []⟩
def d_Last_init : He.DefD := ⟨("Last", some "__init__"), "__init__", "Fact.__init__", defArgs s_Fact_init, defBody s_Fact_init, defScope s_Fact_init, [], []⟩
def d_Last_told : He.DefD := ⟨("Last", some "told"), "told", "Fact.told", defArgs s_Fact_told, defBody s_Fact_told, defScope s_Fact_told, [], []⟩
def d_Last_facts : He.DefD := ⟨("Last", some "facts"), "facts", "Fact.facts", defArgs s_Fact_facts, defBody s_Fact_facts, defScope s_Fact_facts, [], []⟩
def d_Pair_holds : He.DefD := ⟨("Pair", some "holds"), "holds", "Pair.holds", defArgs s_Pair_holds, defBody s_Pair_holds, defScope s_Pair_holds, [], []⟩
def d_Pair_init : He.DefD := ⟨("Pair", some "__init__"), "__init__", "Fact.__init__", defArgs s_Fact_init, defBody s_Fact_init, defScope s_Fact_init, [], []⟩
def d_Pair_told : He.DefD := ⟨("Pair", some "told"), "told", "Fact.told", defArgs s_Fact_told, defBody s_Fact_told, defScope s_Fact_told, [], []⟩
def d_Pair_facts : He.DefD := ⟨("Pair", some "facts"), "facts", "Fact.facts", defArgs s_Fact_facts, defBody s_Fact_facts, defScope s_Fact_facts, [], []⟩
def d_Over_holds : He.DefD := ⟨("Over", some "holds"), "holds", "Over.holds", defArgs s_Over_holds, defBody s_Over_holds, defScope s_Over_holds, [], []⟩
def d_Over_init : He.DefD := ⟨("Over", some "__init__"), "__init__", "Fact.__init__", defArgs s_Fact_init, defBody s_Fact_init, defScope s_Fact_init, [], []⟩
def d_Over_told : He.DefD := ⟨("Over", some "told"), "told", "Fact.told", defArgs s_Fact_told, defBody s_Fact_told, defScope s_Fact_told, [], []⟩
def d_Over_facts : He.DefD := ⟨("Over", some "facts"), "facts", "Fact.facts", defArgs s_Fact_facts, defBody s_Fact_facts, defScope s_Fact_facts, [], []⟩
def d_Marked_holds : He.DefD := ⟨("Marked", some "holds"), "holds", "Marked.holds", defArgs s_Marked_holds, defBody s_Marked_holds, defScope s_Marked_holds, [], []⟩
def d_Marked_init : He.DefD := ⟨("Marked", some "__init__"), "__init__", "Fact.__init__", defArgs s_Fact_init, defBody s_Fact_init, defScope s_Fact_init, [], []⟩
def d_Marked_told : He.DefD := ⟨("Marked", some "told"), "told", "Fact.told", defArgs s_Fact_told, defBody s_Fact_told, defScope s_Fact_told, [], []⟩
def d_Marked_facts : He.DefD := ⟨("Marked", some "facts"), "facts", "Fact.facts", defArgs s_Fact_facts, defBody s_Fact_facts, defScope s_Fact_facts, [], []⟩
def d_Turned_init : He.DefD := ⟨("Turned", some "__init__"), "__init__", "Turned.__init__", defArgs s_Turned_init, defBody s_Turned_init, defScope s_Turned_init, [], []⟩
def d_Turned_holds : He.DefD := ⟨("Turned", some "holds"), "holds", "Turned.holds", defArgs s_Turned_holds, defBody s_Turned_holds, defScope s_Turned_holds, [], []⟩
def d_Turned_told : He.DefD := ⟨("Turned", some "told"), "told", "Turned.told", defArgs s_Turned_told, defBody s_Turned_told, defScope s_Turned_told, [], []⟩
def d_Turned_facts : He.DefD := ⟨("Turned", some "facts"), "facts", "Turned.facts", defArgs s_Turned_facts, defBody s_Turned_facts, defScope s_Turned_facts, [], []⟩
def d_Bracket_holds : He.DefD := ⟨("Bracket", some "holds"), "holds", "Bracket.holds", defArgs s_Bracket_holds, defBody s_Bracket_holds, defScope s_Bracket_holds, [], []⟩
def d_Bracket_told : He.DefD := ⟨("Bracket", some "told"), "told", "Bracket.told", defArgs s_Bracket_told, defBody s_Bracket_told, defScope s_Bracket_told, [], []⟩
def d_Bracket_init : He.DefD := ⟨("Bracket", some "__init__"), "__init__", "Turned.__init__", defArgs s_Turned_init, defBody s_Turned_init, defScope s_Turned_init, [], []⟩
def d_Bracket_facts : He.DefD := ⟨("Bracket", some "facts"), "facts", "Turned.facts", defArgs s_Turned_facts, defBody s_Turned_facts, defScope s_Turned_facts, [], []⟩
def d_Joined_init : He.DefD := ⟨("Joined", some "__init__"), "__init__", "Joined.__init__", defArgs s_Joined_init, defBody s_Joined_init, defScope s_Joined_init, [], []⟩
def d_Joined_holds : He.DefD := ⟨("Joined", some "holds"), "holds", "Joined.holds", defArgs s_Joined_holds, defBody s_Joined_holds, defScope s_Joined_holds, [], []⟩
def d_Joined_told : He.DefD := ⟨("Joined", some "told"), "told", "Joined.told", defArgs s_Joined_told, defBody s_Joined_told, defScope s_Joined_told, [], []⟩
def d_Joined_facts : He.DefD := ⟨("Joined", some "facts"), "facts", "Joined.facts", defArgs s_Joined_facts, defBody s_Joined_facts, defScope s_Joined_facts, [], []⟩
def d_Rule_init : He.DefD := ⟨("Rule", some "__init__"), "__init__", "Rule.__init__", defArgs s_Rule_init, defBody s_Rule_init, defScope s_Rule_init, [], []⟩
def d_Rule_told : He.DefD := ⟨("Rule", some "told"), "told", "Rule.told", defArgs s_Rule_told, defBody s_Rule_told, defScope s_Rule_told, [], []⟩
def d_Reader_init : He.DefD := ⟨("Reader", some "__init__"), "__init__", "Reader.__init__", defArgs s_Reader_init, defBody s_Reader_init, defScope s_Reader_init, [], []⟩
def d_Reader_wrong : He.DefD := ⟨("Reader", some "wrong"), "wrong", "Reader.wrong", defArgs s_Reader_wrong, defBody s_Reader_wrong, defScope s_Reader_wrong, [], []⟩
def d_Reader_here : He.DefD := ⟨("Reader", some "here"), "here", "Reader.here", defArgs s_Reader_here, defBody s_Reader_here, defScope s_Reader_here, [], []⟩
def d_Reader_step : He.DefD := ⟨("Reader", some "step"), "step", "Reader.step", defArgs s_Reader_step, defBody s_Reader_step, defScope s_Reader_step, [], []⟩
def d_Reader_due : He.DefD := ⟨("Reader", some "due"), "due", "Reader.due", defArgs s_Reader_due, defBody s_Reader_due, defScope s_Reader_due, [], []⟩
def d_Reader_name_here : He.DefD := ⟨("Reader", some "name_here"), "name_here", "Reader.name_here", defArgs s_Reader_name_here, defBody s_Reader_name_here, defScope s_Reader_name_here, [], []⟩
def d_Reader_size_here : He.DefD := ⟨("Reader", some "size_here"), "size_here", "Reader.size_here", defArgs s_Reader_size_here, defBody s_Reader_size_here, defScope s_Reader_size_here, [], []⟩
def d_Reader_fact : He.DefD := ⟨("Reader", some "fact"), "fact", "Reader.fact", defArgs s_Reader_fact, defBody s_Reader_fact, defScope s_Reader_fact, [], []⟩
def d_Reader_unit : He.DefD := ⟨("Reader", some "unit"), "unit", "Reader.unit", defArgs s_Reader_unit, defBody s_Reader_unit, defScope s_Reader_unit, [], []⟩
def d_Reader_both : He.DefD := ⟨("Reader", some "both"), "both", "Reader.both", defArgs s_Reader_both, defBody s_Reader_both, defScope s_Reader_both, [], []⟩
def d_Reader_either : He.DefD := ⟨("Reader", some "either"), "either", "Reader.either", defArgs s_Reader_either, defBody s_Reader_either, defScope s_Reader_either, [], []⟩
def d_Reader_deed : He.DefD := ⟨("Reader", some "deed"), "deed", "Reader.deed", defArgs s_Reader_deed, defBody s_Reader_deed, defScope s_Reader_deed, [], []⟩
def d_Reader_rule : He.DefD := ⟨("Reader", some "rule"), "rule", "Reader.rule", defArgs s_Reader_rule, defBody s_Reader_rule, defScope s_Reader_rule, [], []⟩
def d_Fate_init : He.DefD := ⟨("Fate", some "__init__"), "__init__", "Fate.__init__", defArgs s_Fate_init, defBody s_Fate_init, defScope s_Fate_init, [], []⟩
def d_Fate_do : He.DefD := ⟨("Fate", some "do"), "do", "Fate.do", defArgs s_Fate_do, defBody s_Fate_do, defScope s_Fate_do, [], []⟩
def d_Fate_told : He.DefD := ⟨("Fate", some "told"), "told", "Fate.told", defArgs s_Fate_told, defBody s_Fate_told, defScope s_Fate_told, [], []⟩
def fn0 : List He.DefD := [d_is_name, d_is_size, d_in_order, d_words_of, d_spaced, d_says_nothing, d_spoken, d_check_few, d_rules_of, d_fate_of, d_is_letter, d_check_letter, d_seen_of, d_sort, d_acting, d__law_draw, d__law_cell_at, d__law_digits, d__law_words, d__law_fact, d__law_unit, d__law_condition, d__law_deeds, d__law_rules, d__law_told, d__law_rule_words, d__law_text, d__law_holds, d__law_rank, d__law_sort]
def fn1 : List He.DefD := [d__law_letter, d__law_sort_right, d_law, d_BadRule_init, d_Seen_init, d_Fact_init, d_Fact_holds, d_Fact_told, d_Fact_facts, d_From_holds, d_From_init, d_From_told, d_From_facts, d_Has_holds, d_Has_init, d_Has_told, d_Has_facts, d_First_holds, d_First_init, d_First_told, d_First_facts, d_Last_holds, d_Last_init, d_Last_told, d_Last_facts, d_Pair_holds, d_Pair_init, d_Pair_told, d_Pair_facts, d_Over_holds]
def fn2 : List He.DefD := [d_Over_init, d_Over_told, d_Over_facts, d_Marked_holds, d_Marked_init, d_Marked_told, d_Marked_facts, d_Turned_init, d_Turned_holds, d_Turned_told, d_Turned_facts, d_Bracket_holds, d_Bracket_told, d_Bracket_init, d_Bracket_facts, d_Joined_init, d_Joined_holds, d_Joined_told, d_Joined_facts, d_Rule_init, d_Rule_told, d_Reader_init, d_Reader_wrong, d_Reader_here, d_Reader_step, d_Reader_due, d_Reader_name_here, d_Reader_size_here, d_Reader_fact, d_Reader_unit]
def fn3 : List He.DefD := [d_Reader_both, d_Reader_either, d_Reader_deed, d_Reader_rule, d_Fate_init, d_Fate_do, d_Fate_told]
def fn : List He.DefD := fn0 ++ fn1 ++ fn2 ++ fn3
def fa0 : List He.Fa := [.glo "SortError", .glo "BadRule", .glo "BadText", .glo "BadLetter", .glo "TooMany", .glo "Seen", .glo "Fact", .glo "From", .glo "Has", .glo "First", .glo "Last", .glo "Pair", .glo "Over", .glo "Marked", .glo "Turned", .glo "Bracket", .glo "Joined", .glo "is_name", .glo "is_size", .glo "in_order", .glo "words_of", .glo "spaced", .glo "Rule", .glo "Reader", .glo "says_nothing", .glo "spoken", .glo "check_few", .glo "rules_of", .glo "Fate", .glo "fate_of"]
def fa1 : List He.Fa := [.glo "is_letter", .glo "check_letter", .glo "seen_of", .glo "sort", .glo "acting", .glo "_law_draw", .glo "_law_cell_at", .glo "_law_digits", .glo "_law_words", .glo "_law_fact", .glo "_law_unit", .glo "_law_condition", .glo "_law_deeds", .glo "_law_rules", .glo "_law_told", .glo "_law_rule_words", .glo "_law_text", .glo "_law_holds", .glo "_law_rank", .glo "_law_sort", .glo "_law_letter", .glo "_law_sort_right", .glo "law", .str "LETTERS" "abcdefghijklmnopqrstuvwxyz", .str "FIGURES" "0123456789", .int "LONGEST" 10, .int "GREATEST" 99999, .int "MOST_WORDS" 60, .int "MOST_NAMES" 4, .free "len"]
def fa2 : List He.Fa := [.free "str", .free "int", .free "list", .free "all", .free "any", .free "isinstance", .free "sorted", .free "enumerate", .free "zip", .free "range", .free "abs", .free "sum", .free "max", .free "min", .free "tuple", .free "bool", .free "ValueError", .cls "Seen", .noat "Seen" "sender", .noat "Seen" "size", .noat "Seen" "first", .noat "Seen" "last", .noat "Seen" "some", .noat "Seen" "pairs", .noat "Seen" "marks", .mkr "Seen", .cls "Fact", .noat "Fact" "words", .meth "Fact" "holds", .meth "Fact" "told"]
def fa3 : List He.Fa := [.meth "Fact" "facts", .mkr "Fact", .cls "From", .noat "From" "words", .meth "From" "holds", .meth "From" "told", .meth "From" "facts", .mkr "From", .cls "Has", .noat "Has" "words", .meth "Has" "holds", .meth "Has" "told", .meth "Has" "facts", .mkr "Has", .cls "First", .noat "First" "words", .meth "First" "holds", .meth "First" "told", .meth "First" "facts", .mkr "First", .cls "Last", .noat "Last" "words", .meth "Last" "holds", .meth "Last" "told", .meth "Last" "facts", .mkr "Last", .cls "Pair", .noat "Pair" "words", .meth "Pair" "holds", .meth "Pair" "told"]
def fa4 : List He.Fa := [.meth "Pair" "facts", .mkr "Pair", .cls "Over", .noat "Over" "words", .meth "Over" "holds", .meth "Over" "told", .meth "Over" "facts", .mkr "Over", .cls "Marked", .noat "Marked" "words", .meth "Marked" "holds", .meth "Marked" "told", .meth "Marked" "facts", .mkr "Marked", .cls "Turned", .noat "Turned" "inner", .noat "Turned" "words", .meth "Turned" "holds", .meth "Turned" "told", .meth "Turned" "facts", .mkr "Turned", .cls "Bracket", .noat "Bracket" "inner", .noat "Bracket" "words", .meth "Bracket" "holds", .meth "Bracket" "told", .meth "Bracket" "facts", .mkr "Bracket", .cls "Joined", .noat "Joined" "parts"]
def fa5 : List He.Fa := [.noat "Joined" "words", .meth "Joined" "holds", .meth "Joined" "told", .meth "Joined" "facts", .mkr "Joined", .cls "Rule", .noat "Rule" "condition", .noat "Rule" "deeds", .meth "Rule" "told", .mkr "Rule", .cls "Reader", .noat "Reader" "row", .noat "Reader" "words", .noat "Reader" "spot", .meth "Reader" "wrong", .meth "Reader" "here", .meth "Reader" "step", .meth "Reader" "due", .meth "Reader" "name_here", .meth "Reader" "size_here", .meth "Reader" "fact", .meth "Reader" "unit", .meth "Reader" "both", .meth "Reader" "either", .meth "Reader" "deed", .meth "Reader" "rule", .mkr "Reader", .cls "Fate", .noat "Fate" "seen", .noat "Fate" "files"]
def fa6 : List He.Fa := [.noat "Fate" "passes", .noat "Fate" "ended", .meth "Fate" "do", .meth "Fate" "told", .mkr "Fate", .glo "SPOKEN"]
def fa : List He.Fa := fa0 ++ fa1 ++ fa2 ++ fa3 ++ fa4 ++ fa5 ++ fa6
def lo0 : List PySem.Str := ["__name__", "SortError", "BadRule", "BadText", "BadLetter", "TooMany", "Seen", "Fact", "From", "Has", "First", "Last", "Pair", "Over", "Marked", "Turned", "Bracket", "Joined", "LETTERS", "FIGURES", "LONGEST", "GREATEST", "MOST_WORDS", "MOST_NAMES", "SPOKEN", "is_name", "is_size", "in_order", "words_of", "spaced"]
def lo1 : List PySem.Str := ["Rule", "Reader", "says_nothing", "spoken", "check_few", "rules_of", "Fate", "fate_of", "is_letter", "check_letter", "seen_of", "sort", "acting", "_law_draw", "_law_cell_at", "_law_digits", "_law_words", "_law_fact", "_law_unit", "_law_condition", "_law_deeds", "_law_rules", "_law_told", "_law_rule_words", "_law_text", "_law_holds", "_law_rank", "_law_sort", "_law_letter", "_law_sort_right"]
def lo : List PySem.Str := lo0 ++ lo1
def exB (K : PySem.W.Frag) : Bool := DL.cfnB K "Fact" "__init__" && He.tupB K "SPOKEN" [.str "has", .str "first", .str "last", .str "pair"]
/-- what the top has left -/
structure Tx (K : PySem.W.Frag) (mg : Str → Option Value) : Prop where
  says : He.SaysD fa fn K
  ex : exB K = true
  at_ : ∃ h : Heap, K.In h ∧ h.Ns mainGlobals mg
namespace Tx
variable {K : PySem.W.Frag} {mg : Str → Option Value} (T : Tx K mg)
include T
theorem g_SortError : mg "SortError" = some (.ref (He.ga K "SortError")) := by
  obtain ⟨h, X, G⟩ := T.at_
  exact He.glo_ok X G (T.says.fact 0 (f := .glo "SortError") rfl)
theorem g_BadRule : mg "BadRule" = some (.ref (He.ga K "BadRule")) := by
  obtain ⟨h, X, G⟩ := T.at_
  exact He.glo_ok X G (T.says.fact 1 (f := .glo "BadRule") rfl)
theorem g_BadText : mg "BadText" = some (.ref (He.ga K "BadText")) := by
  obtain ⟨h, X, G⟩ := T.at_
  exact He.glo_ok X G (T.says.fact 2 (f := .glo "BadText") rfl)
theorem g_BadLetter : mg "BadLetter" = some (.ref (He.ga K "BadLetter")) := by
  obtain ⟨h, X, G⟩ := T.at_
  exact He.glo_ok X G (T.says.fact 3 (f := .glo "BadLetter") rfl)
theorem g_TooMany : mg "TooMany" = some (.ref (He.ga K "TooMany")) := by
  obtain ⟨h, X, G⟩ := T.at_
  exact He.glo_ok X G (T.says.fact 4 (f := .glo "TooMany") rfl)
theorem g_Seen : mg "Seen" = some (.ref (He.ga K "Seen")) := by
  obtain ⟨h, X, G⟩ := T.at_
  exact He.glo_ok X G (T.says.fact 5 (f := .glo "Seen") rfl)
theorem g_Fact : mg "Fact" = some (.ref (He.ga K "Fact")) := by
  obtain ⟨h, X, G⟩ := T.at_
  exact He.glo_ok X G (T.says.fact 6 (f := .glo "Fact") rfl)
theorem g_From : mg "From" = some (.ref (He.ga K "From")) := by
  obtain ⟨h, X, G⟩ := T.at_
  exact He.glo_ok X G (T.says.fact 7 (f := .glo "From") rfl)
theorem g_Has : mg "Has" = some (.ref (He.ga K "Has")) := by
  obtain ⟨h, X, G⟩ := T.at_
  exact He.glo_ok X G (T.says.fact 8 (f := .glo "Has") rfl)
theorem g_First : mg "First" = some (.ref (He.ga K "First")) := by
  obtain ⟨h, X, G⟩ := T.at_
  exact He.glo_ok X G (T.says.fact 9 (f := .glo "First") rfl)
theorem g_Last : mg "Last" = some (.ref (He.ga K "Last")) := by
  obtain ⟨h, X, G⟩ := T.at_
  exact He.glo_ok X G (T.says.fact 10 (f := .glo "Last") rfl)
theorem g_Pair : mg "Pair" = some (.ref (He.ga K "Pair")) := by
  obtain ⟨h, X, G⟩ := T.at_
  exact He.glo_ok X G (T.says.fact 11 (f := .glo "Pair") rfl)
theorem g_Over : mg "Over" = some (.ref (He.ga K "Over")) := by
  obtain ⟨h, X, G⟩ := T.at_
  exact He.glo_ok X G (T.says.fact 12 (f := .glo "Over") rfl)
theorem g_Marked : mg "Marked" = some (.ref (He.ga K "Marked")) := by
  obtain ⟨h, X, G⟩ := T.at_
  exact He.glo_ok X G (T.says.fact 13 (f := .glo "Marked") rfl)
theorem g_Turned : mg "Turned" = some (.ref (He.ga K "Turned")) := by
  obtain ⟨h, X, G⟩ := T.at_
  exact He.glo_ok X G (T.says.fact 14 (f := .glo "Turned") rfl)
theorem g_Bracket : mg "Bracket" = some (.ref (He.ga K "Bracket")) := by
  obtain ⟨h, X, G⟩ := T.at_
  exact He.glo_ok X G (T.says.fact 15 (f := .glo "Bracket") rfl)
theorem g_Joined : mg "Joined" = some (.ref (He.ga K "Joined")) := by
  obtain ⟨h, X, G⟩ := T.at_
  exact He.glo_ok X G (T.says.fact 16 (f := .glo "Joined") rfl)
theorem g_is_name : mg "is_name" = some (.ref (He.ga K "is_name")) := by
  obtain ⟨h, X, G⟩ := T.at_
  exact He.glo_ok X G (T.says.fact 17 (f := .glo "is_name") rfl)
theorem g_is_size : mg "is_size" = some (.ref (He.ga K "is_size")) := by
  obtain ⟨h, X, G⟩ := T.at_
  exact He.glo_ok X G (T.says.fact 18 (f := .glo "is_size") rfl)
theorem g_in_order : mg "in_order" = some (.ref (He.ga K "in_order")) := by
  obtain ⟨h, X, G⟩ := T.at_
  exact He.glo_ok X G (T.says.fact 19 (f := .glo "in_order") rfl)
theorem g_words_of : mg "words_of" = some (.ref (He.ga K "words_of")) := by
  obtain ⟨h, X, G⟩ := T.at_
  exact He.glo_ok X G (T.says.fact 20 (f := .glo "words_of") rfl)
theorem g_spaced : mg "spaced" = some (.ref (He.ga K "spaced")) := by
  obtain ⟨h, X, G⟩ := T.at_
  exact He.glo_ok X G (T.says.fact 21 (f := .glo "spaced") rfl)
theorem g_Rule : mg "Rule" = some (.ref (He.ga K "Rule")) := by
  obtain ⟨h, X, G⟩ := T.at_
  exact He.glo_ok X G (T.says.fact 22 (f := .glo "Rule") rfl)
theorem g_Reader : mg "Reader" = some (.ref (He.ga K "Reader")) := by
  obtain ⟨h, X, G⟩ := T.at_
  exact He.glo_ok X G (T.says.fact 23 (f := .glo "Reader") rfl)
theorem g_says_nothing : mg "says_nothing" = some (.ref (He.ga K "says_nothing")) := by
  obtain ⟨h, X, G⟩ := T.at_
  exact He.glo_ok X G (T.says.fact 24 (f := .glo "says_nothing") rfl)
theorem g_spoken : mg "spoken" = some (.ref (He.ga K "spoken")) := by
  obtain ⟨h, X, G⟩ := T.at_
  exact He.glo_ok X G (T.says.fact 25 (f := .glo "spoken") rfl)
theorem g_check_few : mg "check_few" = some (.ref (He.ga K "check_few")) := by
  obtain ⟨h, X, G⟩ := T.at_
  exact He.glo_ok X G (T.says.fact 26 (f := .glo "check_few") rfl)
theorem g_rules_of : mg "rules_of" = some (.ref (He.ga K "rules_of")) := by
  obtain ⟨h, X, G⟩ := T.at_
  exact He.glo_ok X G (T.says.fact 27 (f := .glo "rules_of") rfl)
theorem g_Fate : mg "Fate" = some (.ref (He.ga K "Fate")) := by
  obtain ⟨h, X, G⟩ := T.at_
  exact He.glo_ok X G (T.says.fact 28 (f := .glo "Fate") rfl)
theorem g_fate_of : mg "fate_of" = some (.ref (He.ga K "fate_of")) := by
  obtain ⟨h, X, G⟩ := T.at_
  exact He.glo_ok X G (T.says.fact 29 (f := .glo "fate_of") rfl)
theorem g_is_letter : mg "is_letter" = some (.ref (He.ga K "is_letter")) := by
  obtain ⟨h, X, G⟩ := T.at_
  exact He.glo_ok X G (T.says.fact 30 (f := .glo "is_letter") rfl)
theorem g_check_letter : mg "check_letter" = some (.ref (He.ga K "check_letter")) := by
  obtain ⟨h, X, G⟩ := T.at_
  exact He.glo_ok X G (T.says.fact 31 (f := .glo "check_letter") rfl)
theorem g_seen_of : mg "seen_of" = some (.ref (He.ga K "seen_of")) := by
  obtain ⟨h, X, G⟩ := T.at_
  exact He.glo_ok X G (T.says.fact 32 (f := .glo "seen_of") rfl)
theorem g_sort : mg "sort" = some (.ref (He.ga K "sort")) := by
  obtain ⟨h, X, G⟩ := T.at_
  exact He.glo_ok X G (T.says.fact 33 (f := .glo "sort") rfl)
theorem g_acting : mg "acting" = some (.ref (He.ga K "acting")) := by
  obtain ⟨h, X, G⟩ := T.at_
  exact He.glo_ok X G (T.says.fact 34 (f := .glo "acting") rfl)
theorem g__law_draw : mg "_law_draw" = some (.ref (He.ga K "_law_draw")) := by
  obtain ⟨h, X, G⟩ := T.at_
  exact He.glo_ok X G (T.says.fact 35 (f := .glo "_law_draw") rfl)
theorem g__law_cell_at : mg "_law_cell_at" = some (.ref (He.ga K "_law_cell_at")) := by
  obtain ⟨h, X, G⟩ := T.at_
  exact He.glo_ok X G (T.says.fact 36 (f := .glo "_law_cell_at") rfl)
theorem g__law_digits : mg "_law_digits" = some (.ref (He.ga K "_law_digits")) := by
  obtain ⟨h, X, G⟩ := T.at_
  exact He.glo_ok X G (T.says.fact 37 (f := .glo "_law_digits") rfl)
theorem g__law_words : mg "_law_words" = some (.ref (He.ga K "_law_words")) := by
  obtain ⟨h, X, G⟩ := T.at_
  exact He.glo_ok X G (T.says.fact 38 (f := .glo "_law_words") rfl)
theorem g__law_fact : mg "_law_fact" = some (.ref (He.ga K "_law_fact")) := by
  obtain ⟨h, X, G⟩ := T.at_
  exact He.glo_ok X G (T.says.fact 39 (f := .glo "_law_fact") rfl)
theorem g__law_unit : mg "_law_unit" = some (.ref (He.ga K "_law_unit")) := by
  obtain ⟨h, X, G⟩ := T.at_
  exact He.glo_ok X G (T.says.fact 40 (f := .glo "_law_unit") rfl)
theorem g__law_condition : mg "_law_condition" = some (.ref (He.ga K "_law_condition")) := by
  obtain ⟨h, X, G⟩ := T.at_
  exact He.glo_ok X G (T.says.fact 41 (f := .glo "_law_condition") rfl)
theorem g__law_deeds : mg "_law_deeds" = some (.ref (He.ga K "_law_deeds")) := by
  obtain ⟨h, X, G⟩ := T.at_
  exact He.glo_ok X G (T.says.fact 42 (f := .glo "_law_deeds") rfl)
theorem g__law_rules : mg "_law_rules" = some (.ref (He.ga K "_law_rules")) := by
  obtain ⟨h, X, G⟩ := T.at_
  exact He.glo_ok X G (T.says.fact 43 (f := .glo "_law_rules") rfl)
theorem g__law_told : mg "_law_told" = some (.ref (He.ga K "_law_told")) := by
  obtain ⟨h, X, G⟩ := T.at_
  exact He.glo_ok X G (T.says.fact 44 (f := .glo "_law_told") rfl)
theorem g__law_rule_words : mg "_law_rule_words" = some (.ref (He.ga K "_law_rule_words")) := by
  obtain ⟨h, X, G⟩ := T.at_
  exact He.glo_ok X G (T.says.fact 45 (f := .glo "_law_rule_words") rfl)
theorem g__law_text : mg "_law_text" = some (.ref (He.ga K "_law_text")) := by
  obtain ⟨h, X, G⟩ := T.at_
  exact He.glo_ok X G (T.says.fact 46 (f := .glo "_law_text") rfl)
theorem g__law_holds : mg "_law_holds" = some (.ref (He.ga K "_law_holds")) := by
  obtain ⟨h, X, G⟩ := T.at_
  exact He.glo_ok X G (T.says.fact 47 (f := .glo "_law_holds") rfl)
theorem g__law_rank : mg "_law_rank" = some (.ref (He.ga K "_law_rank")) := by
  obtain ⟨h, X, G⟩ := T.at_
  exact He.glo_ok X G (T.says.fact 48 (f := .glo "_law_rank") rfl)
theorem g__law_sort : mg "_law_sort" = some (.ref (He.ga K "_law_sort")) := by
  obtain ⟨h, X, G⟩ := T.at_
  exact He.glo_ok X G (T.says.fact 49 (f := .glo "_law_sort") rfl)
theorem g__law_letter : mg "_law_letter" = some (.ref (He.ga K "_law_letter")) := by
  obtain ⟨h, X, G⟩ := T.at_
  exact He.glo_ok X G (T.says.fact 50 (f := .glo "_law_letter") rfl)
theorem g__law_sort_right : mg "_law_sort_right" = some (.ref (He.ga K "_law_sort_right")) := by
  obtain ⟨h, X, G⟩ := T.at_
  exact He.glo_ok X G (T.says.fact 51 (f := .glo "_law_sort_right") rfl)
theorem g_law : mg "law" = some (.ref (He.ga K "law")) := by
  obtain ⟨h, X, G⟩ := T.at_
  exact He.glo_ok X G (T.says.fact 52 (f := .glo "law") rfl)
theorem z_LETTERS : ∃ t, mg "LETTERS" = some (.str "abcdefghijklmnopqrstuvwxyz" t) := by
  obtain ⟨h, X, G⟩ := T.at_
  exact He.str_ok X G (T.says.fact 53 (f := .str "LETTERS" "abcdefghijklmnopqrstuvwxyz") rfl)
theorem z_FIGURES : ∃ t, mg "FIGURES" = some (.str "0123456789" t) := by
  obtain ⟨h, X, G⟩ := T.at_
  exact He.str_ok X G (T.says.fact 54 (f := .str "FIGURES" "0123456789") rfl)
theorem i_LONGEST : ∃ t, mg "LONGEST" = some (.int 10 t) := by
  obtain ⟨h, X, G⟩ := T.at_
  exact He.int_ok X G (T.says.fact 55 (f := .int "LONGEST" 10) rfl)
theorem i_GREATEST : ∃ t, mg "GREATEST" = some (.int 99999 t) := by
  obtain ⟨h, X, G⟩ := T.at_
  exact He.int_ok X G (T.says.fact 56 (f := .int "GREATEST" 99999) rfl)
theorem i_MOST_WORDS : ∃ t, mg "MOST_WORDS" = some (.int 60 t) := by
  obtain ⟨h, X, G⟩ := T.at_
  exact He.int_ok X G (T.says.fact 57 (f := .int "MOST_WORDS" 60) rfl)
theorem i_MOST_NAMES : ∃ t, mg "MOST_NAMES" = some (.int 4 t) := by
  obtain ⟨h, X, G⟩ := T.at_
  exact He.int_ok X G (T.says.fact 58 (f := .int "MOST_NAMES" 4) rfl)
theorem b_len : mg "len" = none := by
  obtain ⟨h, X, G⟩ := T.at_
  exact He.free_ok X G (T.says.fact 59 (f := .free "len") rfl)
theorem b_str : mg "str" = none := by
  obtain ⟨h, X, G⟩ := T.at_
  exact He.free_ok X G (T.says.fact 60 (f := .free "str") rfl)
theorem b_int : mg "int" = none := by
  obtain ⟨h, X, G⟩ := T.at_
  exact He.free_ok X G (T.says.fact 61 (f := .free "int") rfl)
theorem b_list : mg "list" = none := by
  obtain ⟨h, X, G⟩ := T.at_
  exact He.free_ok X G (T.says.fact 62 (f := .free "list") rfl)
theorem b_all : mg "all" = none := by
  obtain ⟨h, X, G⟩ := T.at_
  exact He.free_ok X G (T.says.fact 63 (f := .free "all") rfl)
theorem b_any : mg "any" = none := by
  obtain ⟨h, X, G⟩ := T.at_
  exact He.free_ok X G (T.says.fact 64 (f := .free "any") rfl)
theorem b_isinstance : mg "isinstance" = none := by
  obtain ⟨h, X, G⟩ := T.at_
  exact He.free_ok X G (T.says.fact 65 (f := .free "isinstance") rfl)
theorem b_sorted : mg "sorted" = none := by
  obtain ⟨h, X, G⟩ := T.at_
  exact He.free_ok X G (T.says.fact 66 (f := .free "sorted") rfl)
theorem b_enumerate : mg "enumerate" = none := by
  obtain ⟨h, X, G⟩ := T.at_
  exact He.free_ok X G (T.says.fact 67 (f := .free "enumerate") rfl)
theorem b_zip : mg "zip" = none := by
  obtain ⟨h, X, G⟩ := T.at_
  exact He.free_ok X G (T.says.fact 68 (f := .free "zip") rfl)
theorem b_range : mg "range" = none := by
  obtain ⟨h, X, G⟩ := T.at_
  exact He.free_ok X G (T.says.fact 69 (f := .free "range") rfl)
theorem b_abs : mg "abs" = none := by
  obtain ⟨h, X, G⟩ := T.at_
  exact He.free_ok X G (T.says.fact 70 (f := .free "abs") rfl)
theorem b_sum : mg "sum" = none := by
  obtain ⟨h, X, G⟩ := T.at_
  exact He.free_ok X G (T.says.fact 71 (f := .free "sum") rfl)
theorem b_max : mg "max" = none := by
  obtain ⟨h, X, G⟩ := T.at_
  exact He.free_ok X G (T.says.fact 72 (f := .free "max") rfl)
theorem b_min : mg "min" = none := by
  obtain ⟨h, X, G⟩ := T.at_
  exact He.free_ok X G (T.says.fact 73 (f := .free "min") rfl)
theorem b_tuple : mg "tuple" = none := by
  obtain ⟨h, X, G⟩ := T.at_
  exact He.free_ok X G (T.says.fact 74 (f := .free "tuple") rfl)
theorem b_bool : mg "bool" = none := by
  obtain ⟨h, X, G⟩ := T.at_
  exact He.free_ok X G (T.says.fact 75 (f := .free "bool") rfl)
theorem b_ValueError : mg "ValueError" = none := by
  obtain ⟨h, X, G⟩ := T.at_
  exact He.free_ok X G (T.says.fact 76 (f := .free "ValueError") rfl)
theorem c_Seen : Cls K (He.ga K "Seen") := He.cls_ok (T.says.fact 77 (f := .cls "Seen") rfl)
theorem n_Seen_sender : NoAttr K (He.ga K "Seen") "sender" := He.noat_ok (T.says.fact 78 (f := .noat "Seen" "sender") rfl)
theorem n_Seen_size : NoAttr K (He.ga K "Seen") "size" := He.noat_ok (T.says.fact 79 (f := .noat "Seen" "size") rfl)
theorem n_Seen_first : NoAttr K (He.ga K "Seen") "first" := He.noat_ok (T.says.fact 80 (f := .noat "Seen" "first") rfl)
theorem n_Seen_last : NoAttr K (He.ga K "Seen") "last" := He.noat_ok (T.says.fact 81 (f := .noat "Seen" "last") rfl)
theorem n_Seen_some : NoAttr K (He.ga K "Seen") "some" := He.noat_ok (T.says.fact 82 (f := .noat "Seen" "some") rfl)
theorem n_Seen_pairs : NoAttr K (He.ga K "Seen") "pairs" := He.noat_ok (T.says.fact 83 (f := .noat "Seen" "pairs") rfl)
theorem n_Seen_marks : NoAttr K (He.ga K "Seen") "marks" := He.noat_ok (T.says.fact 84 (f := .noat "Seen" "marks") rfl)
theorem k_Seen : Mk K (He.ga K "Seen") (He.ma K (He.ga K "Seen") "__init__") := He.mkr_ok (T.says.fact 85 (f := .mkr "Seen") rfl)
theorem c_Fact : Cls K (He.ga K "Fact") := He.cls_ok (T.says.fact 86 (f := .cls "Fact") rfl)
theorem n_Fact_words : NoAttr K (He.ga K "Fact") "words" := He.noat_ok (T.says.fact 87 (f := .noat "Fact" "words") rfl)
theorem m_Fact_holds : Meth K (He.ga K "Fact") "holds" (He.ma K (He.ga K "Fact") "holds") := He.meth_ok (T.says.fact 88 (f := .meth "Fact" "holds") rfl)
theorem m_Fact_told : Meth K (He.ga K "Fact") "told" (He.ma K (He.ga K "Fact") "told") := He.meth_ok (T.says.fact 89 (f := .meth "Fact" "told") rfl)
theorem m_Fact_facts : Meth K (He.ga K "Fact") "facts" (He.ma K (He.ga K "Fact") "facts") := He.meth_ok (T.says.fact 90 (f := .meth "Fact" "facts") rfl)
theorem k_Fact : Mk K (He.ga K "Fact") (He.ma K (He.ga K "Fact") "__init__") := He.mkr_ok (T.says.fact 91 (f := .mkr "Fact") rfl)
theorem c_From : Cls K (He.ga K "From") := He.cls_ok (T.says.fact 92 (f := .cls "From") rfl)
theorem n_From_words : NoAttr K (He.ga K "From") "words" := He.noat_ok (T.says.fact 93 (f := .noat "From" "words") rfl)
theorem m_From_holds : Meth K (He.ga K "From") "holds" (He.ma K (He.ga K "From") "holds") := He.meth_ok (T.says.fact 94 (f := .meth "From" "holds") rfl)
theorem m_From_told : Meth K (He.ga K "From") "told" (He.ma K (He.ga K "From") "told") := He.meth_ok (T.says.fact 95 (f := .meth "From" "told") rfl)
theorem m_From_facts : Meth K (He.ga K "From") "facts" (He.ma K (He.ga K "From") "facts") := He.meth_ok (T.says.fact 96 (f := .meth "From" "facts") rfl)
theorem k_From : Mk K (He.ga K "From") (He.ma K (He.ga K "From") "__init__") := He.mkr_ok (T.says.fact 97 (f := .mkr "From") rfl)
theorem c_Has : Cls K (He.ga K "Has") := He.cls_ok (T.says.fact 98 (f := .cls "Has") rfl)
theorem n_Has_words : NoAttr K (He.ga K "Has") "words" := He.noat_ok (T.says.fact 99 (f := .noat "Has" "words") rfl)
theorem m_Has_holds : Meth K (He.ga K "Has") "holds" (He.ma K (He.ga K "Has") "holds") := He.meth_ok (T.says.fact 100 (f := .meth "Has" "holds") rfl)
theorem m_Has_told : Meth K (He.ga K "Has") "told" (He.ma K (He.ga K "Has") "told") := He.meth_ok (T.says.fact 101 (f := .meth "Has" "told") rfl)
theorem m_Has_facts : Meth K (He.ga K "Has") "facts" (He.ma K (He.ga K "Has") "facts") := He.meth_ok (T.says.fact 102 (f := .meth "Has" "facts") rfl)
theorem k_Has : Mk K (He.ga K "Has") (He.ma K (He.ga K "Has") "__init__") := He.mkr_ok (T.says.fact 103 (f := .mkr "Has") rfl)
theorem c_First : Cls K (He.ga K "First") := He.cls_ok (T.says.fact 104 (f := .cls "First") rfl)
theorem n_First_words : NoAttr K (He.ga K "First") "words" := He.noat_ok (T.says.fact 105 (f := .noat "First" "words") rfl)
theorem m_First_holds : Meth K (He.ga K "First") "holds" (He.ma K (He.ga K "First") "holds") := He.meth_ok (T.says.fact 106 (f := .meth "First" "holds") rfl)
theorem m_First_told : Meth K (He.ga K "First") "told" (He.ma K (He.ga K "First") "told") := He.meth_ok (T.says.fact 107 (f := .meth "First" "told") rfl)
theorem m_First_facts : Meth K (He.ga K "First") "facts" (He.ma K (He.ga K "First") "facts") := He.meth_ok (T.says.fact 108 (f := .meth "First" "facts") rfl)
theorem k_First : Mk K (He.ga K "First") (He.ma K (He.ga K "First") "__init__") := He.mkr_ok (T.says.fact 109 (f := .mkr "First") rfl)
theorem c_Last : Cls K (He.ga K "Last") := He.cls_ok (T.says.fact 110 (f := .cls "Last") rfl)
theorem n_Last_words : NoAttr K (He.ga K "Last") "words" := He.noat_ok (T.says.fact 111 (f := .noat "Last" "words") rfl)
theorem m_Last_holds : Meth K (He.ga K "Last") "holds" (He.ma K (He.ga K "Last") "holds") := He.meth_ok (T.says.fact 112 (f := .meth "Last" "holds") rfl)
theorem m_Last_told : Meth K (He.ga K "Last") "told" (He.ma K (He.ga K "Last") "told") := He.meth_ok (T.says.fact 113 (f := .meth "Last" "told") rfl)
theorem m_Last_facts : Meth K (He.ga K "Last") "facts" (He.ma K (He.ga K "Last") "facts") := He.meth_ok (T.says.fact 114 (f := .meth "Last" "facts") rfl)
theorem k_Last : Mk K (He.ga K "Last") (He.ma K (He.ga K "Last") "__init__") := He.mkr_ok (T.says.fact 115 (f := .mkr "Last") rfl)
theorem c_Pair : Cls K (He.ga K "Pair") := He.cls_ok (T.says.fact 116 (f := .cls "Pair") rfl)
theorem n_Pair_words : NoAttr K (He.ga K "Pair") "words" := He.noat_ok (T.says.fact 117 (f := .noat "Pair" "words") rfl)
theorem m_Pair_holds : Meth K (He.ga K "Pair") "holds" (He.ma K (He.ga K "Pair") "holds") := He.meth_ok (T.says.fact 118 (f := .meth "Pair" "holds") rfl)
theorem m_Pair_told : Meth K (He.ga K "Pair") "told" (He.ma K (He.ga K "Pair") "told") := He.meth_ok (T.says.fact 119 (f := .meth "Pair" "told") rfl)
theorem m_Pair_facts : Meth K (He.ga K "Pair") "facts" (He.ma K (He.ga K "Pair") "facts") := He.meth_ok (T.says.fact 120 (f := .meth "Pair" "facts") rfl)
theorem k_Pair : Mk K (He.ga K "Pair") (He.ma K (He.ga K "Pair") "__init__") := He.mkr_ok (T.says.fact 121 (f := .mkr "Pair") rfl)
theorem c_Over : Cls K (He.ga K "Over") := He.cls_ok (T.says.fact 122 (f := .cls "Over") rfl)
theorem n_Over_words : NoAttr K (He.ga K "Over") "words" := He.noat_ok (T.says.fact 123 (f := .noat "Over" "words") rfl)
theorem m_Over_holds : Meth K (He.ga K "Over") "holds" (He.ma K (He.ga K "Over") "holds") := He.meth_ok (T.says.fact 124 (f := .meth "Over" "holds") rfl)
theorem m_Over_told : Meth K (He.ga K "Over") "told" (He.ma K (He.ga K "Over") "told") := He.meth_ok (T.says.fact 125 (f := .meth "Over" "told") rfl)
theorem m_Over_facts : Meth K (He.ga K "Over") "facts" (He.ma K (He.ga K "Over") "facts") := He.meth_ok (T.says.fact 126 (f := .meth "Over" "facts") rfl)
theorem k_Over : Mk K (He.ga K "Over") (He.ma K (He.ga K "Over") "__init__") := He.mkr_ok (T.says.fact 127 (f := .mkr "Over") rfl)
theorem c_Marked : Cls K (He.ga K "Marked") := He.cls_ok (T.says.fact 128 (f := .cls "Marked") rfl)
theorem n_Marked_words : NoAttr K (He.ga K "Marked") "words" := He.noat_ok (T.says.fact 129 (f := .noat "Marked" "words") rfl)
theorem m_Marked_holds : Meth K (He.ga K "Marked") "holds" (He.ma K (He.ga K "Marked") "holds") := He.meth_ok (T.says.fact 130 (f := .meth "Marked" "holds") rfl)
theorem m_Marked_told : Meth K (He.ga K "Marked") "told" (He.ma K (He.ga K "Marked") "told") := He.meth_ok (T.says.fact 131 (f := .meth "Marked" "told") rfl)
theorem m_Marked_facts : Meth K (He.ga K "Marked") "facts" (He.ma K (He.ga K "Marked") "facts") := He.meth_ok (T.says.fact 132 (f := .meth "Marked" "facts") rfl)
theorem k_Marked : Mk K (He.ga K "Marked") (He.ma K (He.ga K "Marked") "__init__") := He.mkr_ok (T.says.fact 133 (f := .mkr "Marked") rfl)
theorem c_Turned : Cls K (He.ga K "Turned") := He.cls_ok (T.says.fact 134 (f := .cls "Turned") rfl)
theorem n_Turned_inner : NoAttr K (He.ga K "Turned") "inner" := He.noat_ok (T.says.fact 135 (f := .noat "Turned" "inner") rfl)
theorem n_Turned_words : NoAttr K (He.ga K "Turned") "words" := He.noat_ok (T.says.fact 136 (f := .noat "Turned" "words") rfl)
theorem m_Turned_holds : Meth K (He.ga K "Turned") "holds" (He.ma K (He.ga K "Turned") "holds") := He.meth_ok (T.says.fact 137 (f := .meth "Turned" "holds") rfl)
theorem m_Turned_told : Meth K (He.ga K "Turned") "told" (He.ma K (He.ga K "Turned") "told") := He.meth_ok (T.says.fact 138 (f := .meth "Turned" "told") rfl)
theorem m_Turned_facts : Meth K (He.ga K "Turned") "facts" (He.ma K (He.ga K "Turned") "facts") := He.meth_ok (T.says.fact 139 (f := .meth "Turned" "facts") rfl)
theorem k_Turned : Mk K (He.ga K "Turned") (He.ma K (He.ga K "Turned") "__init__") := He.mkr_ok (T.says.fact 140 (f := .mkr "Turned") rfl)
theorem c_Bracket : Cls K (He.ga K "Bracket") := He.cls_ok (T.says.fact 141 (f := .cls "Bracket") rfl)
theorem n_Bracket_inner : NoAttr K (He.ga K "Bracket") "inner" := He.noat_ok (T.says.fact 142 (f := .noat "Bracket" "inner") rfl)
theorem n_Bracket_words : NoAttr K (He.ga K "Bracket") "words" := He.noat_ok (T.says.fact 143 (f := .noat "Bracket" "words") rfl)
theorem m_Bracket_holds : Meth K (He.ga K "Bracket") "holds" (He.ma K (He.ga K "Bracket") "holds") := He.meth_ok (T.says.fact 144 (f := .meth "Bracket" "holds") rfl)
theorem m_Bracket_told : Meth K (He.ga K "Bracket") "told" (He.ma K (He.ga K "Bracket") "told") := He.meth_ok (T.says.fact 145 (f := .meth "Bracket" "told") rfl)
theorem m_Bracket_facts : Meth K (He.ga K "Bracket") "facts" (He.ma K (He.ga K "Bracket") "facts") := He.meth_ok (T.says.fact 146 (f := .meth "Bracket" "facts") rfl)
theorem k_Bracket : Mk K (He.ga K "Bracket") (He.ma K (He.ga K "Bracket") "__init__") := He.mkr_ok (T.says.fact 147 (f := .mkr "Bracket") rfl)
theorem c_Joined : Cls K (He.ga K "Joined") := He.cls_ok (T.says.fact 148 (f := .cls "Joined") rfl)
theorem n_Joined_parts : NoAttr K (He.ga K "Joined") "parts" := He.noat_ok (T.says.fact 149 (f := .noat "Joined" "parts") rfl)
theorem n_Joined_words : NoAttr K (He.ga K "Joined") "words" := He.noat_ok (T.says.fact 150 (f := .noat "Joined" "words") rfl)
theorem m_Joined_holds : Meth K (He.ga K "Joined") "holds" (He.ma K (He.ga K "Joined") "holds") := He.meth_ok (T.says.fact 151 (f := .meth "Joined" "holds") rfl)
theorem m_Joined_told : Meth K (He.ga K "Joined") "told" (He.ma K (He.ga K "Joined") "told") := He.meth_ok (T.says.fact 152 (f := .meth "Joined" "told") rfl)
theorem m_Joined_facts : Meth K (He.ga K "Joined") "facts" (He.ma K (He.ga K "Joined") "facts") := He.meth_ok (T.says.fact 153 (f := .meth "Joined" "facts") rfl)
theorem k_Joined : Mk K (He.ga K "Joined") (He.ma K (He.ga K "Joined") "__init__") := He.mkr_ok (T.says.fact 154 (f := .mkr "Joined") rfl)
theorem c_Rule : Cls K (He.ga K "Rule") := He.cls_ok (T.says.fact 155 (f := .cls "Rule") rfl)
theorem n_Rule_condition : NoAttr K (He.ga K "Rule") "condition" := He.noat_ok (T.says.fact 156 (f := .noat "Rule" "condition") rfl)
theorem n_Rule_deeds : NoAttr K (He.ga K "Rule") "deeds" := He.noat_ok (T.says.fact 157 (f := .noat "Rule" "deeds") rfl)
theorem m_Rule_told : Meth K (He.ga K "Rule") "told" (He.ma K (He.ga K "Rule") "told") := He.meth_ok (T.says.fact 158 (f := .meth "Rule" "told") rfl)
theorem k_Rule : Mk K (He.ga K "Rule") (He.ma K (He.ga K "Rule") "__init__") := He.mkr_ok (T.says.fact 159 (f := .mkr "Rule") rfl)
theorem c_Reader : Cls K (He.ga K "Reader") := He.cls_ok (T.says.fact 160 (f := .cls "Reader") rfl)
theorem n_Reader_row : NoAttr K (He.ga K "Reader") "row" := He.noat_ok (T.says.fact 161 (f := .noat "Reader" "row") rfl)
theorem n_Reader_words : NoAttr K (He.ga K "Reader") "words" := He.noat_ok (T.says.fact 162 (f := .noat "Reader" "words") rfl)
theorem n_Reader_spot : NoAttr K (He.ga K "Reader") "spot" := He.noat_ok (T.says.fact 163 (f := .noat "Reader" "spot") rfl)
theorem m_Reader_wrong : Meth K (He.ga K "Reader") "wrong" (He.ma K (He.ga K "Reader") "wrong") := He.meth_ok (T.says.fact 164 (f := .meth "Reader" "wrong") rfl)
theorem m_Reader_here : Meth K (He.ga K "Reader") "here" (He.ma K (He.ga K "Reader") "here") := He.meth_ok (T.says.fact 165 (f := .meth "Reader" "here") rfl)
theorem m_Reader_step : Meth K (He.ga K "Reader") "step" (He.ma K (He.ga K "Reader") "step") := He.meth_ok (T.says.fact 166 (f := .meth "Reader" "step") rfl)
theorem m_Reader_due : Meth K (He.ga K "Reader") "due" (He.ma K (He.ga K "Reader") "due") := He.meth_ok (T.says.fact 167 (f := .meth "Reader" "due") rfl)
theorem m_Reader_name_here : Meth K (He.ga K "Reader") "name_here" (He.ma K (He.ga K "Reader") "name_here") := He.meth_ok (T.says.fact 168 (f := .meth "Reader" "name_here") rfl)
theorem m_Reader_size_here : Meth K (He.ga K "Reader") "size_here" (He.ma K (He.ga K "Reader") "size_here") := He.meth_ok (T.says.fact 169 (f := .meth "Reader" "size_here") rfl)
theorem m_Reader_fact : Meth K (He.ga K "Reader") "fact" (He.ma K (He.ga K "Reader") "fact") := He.meth_ok (T.says.fact 170 (f := .meth "Reader" "fact") rfl)
theorem m_Reader_unit : Meth K (He.ga K "Reader") "unit" (He.ma K (He.ga K "Reader") "unit") := He.meth_ok (T.says.fact 171 (f := .meth "Reader" "unit") rfl)
theorem m_Reader_both : Meth K (He.ga K "Reader") "both" (He.ma K (He.ga K "Reader") "both") := He.meth_ok (T.says.fact 172 (f := .meth "Reader" "both") rfl)
theorem m_Reader_either : Meth K (He.ga K "Reader") "either" (He.ma K (He.ga K "Reader") "either") := He.meth_ok (T.says.fact 173 (f := .meth "Reader" "either") rfl)
theorem m_Reader_deed : Meth K (He.ga K "Reader") "deed" (He.ma K (He.ga K "Reader") "deed") := He.meth_ok (T.says.fact 174 (f := .meth "Reader" "deed") rfl)
theorem m_Reader_rule : Meth K (He.ga K "Reader") "rule" (He.ma K (He.ga K "Reader") "rule") := He.meth_ok (T.says.fact 175 (f := .meth "Reader" "rule") rfl)
theorem k_Reader : Mk K (He.ga K "Reader") (He.ma K (He.ga K "Reader") "__init__") := He.mkr_ok (T.says.fact 176 (f := .mkr "Reader") rfl)
theorem c_Fate : Cls K (He.ga K "Fate") := He.cls_ok (T.says.fact 177 (f := .cls "Fate") rfl)
theorem n_Fate_seen : NoAttr K (He.ga K "Fate") "seen" := He.noat_ok (T.says.fact 178 (f := .noat "Fate" "seen") rfl)
theorem n_Fate_files : NoAttr K (He.ga K "Fate") "files" := He.noat_ok (T.says.fact 179 (f := .noat "Fate" "files") rfl)
theorem n_Fate_passes : NoAttr K (He.ga K "Fate") "passes" := He.noat_ok (T.says.fact 180 (f := .noat "Fate" "passes") rfl)
theorem n_Fate_ended : NoAttr K (He.ga K "Fate") "ended" := He.noat_ok (T.says.fact 181 (f := .noat "Fate" "ended") rfl)
theorem m_Fate_do : Meth K (He.ga K "Fate") "do" (He.ma K (He.ga K "Fate") "do") := He.meth_ok (T.says.fact 182 (f := .meth "Fate" "do") rfl)
theorem m_Fate_told : Meth K (He.ga K "Fate") "told" (He.ma K (He.ga K "Fate") "told") := He.meth_ok (T.says.fact 183 (f := .meth "Fate" "told") rfl)
theorem k_Fate : Mk K (He.ga K "Fate") (He.ma K (He.ga K "Fate") "__init__") := He.mkr_ok (T.says.fact 184 (f := .mkr "Fate") rfl)
theorem g_SPOKEN : mg "SPOKEN" = some (.ref (He.ga K "SPOKEN")) := by
  obtain ⟨h, X, G⟩ := T.at_
  exact He.glo_ok X G (T.says.fact 185 (f := .glo "SPOKEN") rfl)
theorem d_is_name : ∃ fd, FunD K "is_name" "is_name" (defArgs s_is_name) (defBody s_is_name) (defScope s_is_name) [] [] (He.ga K "is_name") fd := T.says.def_ 0 (d := DL.d_is_name) rfl
theorem d_is_size : ∃ fd, FunD K "is_size" "is_size" (defArgs s_is_size) (defBody s_is_size) (defScope s_is_size) [] [] (He.ga K "is_size") fd := T.says.def_ 1 (d := DL.d_is_size) rfl
theorem d_in_order : ∃ fd, FunD K "in_order" "in_order" (defArgs s_in_order) (defBody s_in_order) (defScope s_in_order) [] [] (He.ga K "in_order") fd := T.says.def_ 2 (d := DL.d_in_order) rfl
theorem d_words_of : ∃ fd, FunD K "words_of" "words_of" (defArgs s_words_of) (defBody s_words_of) (defScope s_words_of) [] [] (He.ga K "words_of") fd := T.says.def_ 3 (d := DL.d_words_of) rfl
theorem d_spaced : ∃ fd, FunD K "spaced" "spaced" (defArgs s_spaced) (defBody s_spaced) (defScope s_spaced) [] [] (He.ga K "spaced") fd := T.says.def_ 4 (d := DL.d_spaced) rfl
theorem d_says_nothing : ∃ fd, FunD K "says_nothing" "says_nothing" (defArgs s_says_nothing) (defBody s_says_nothing) (defScope s_says_nothing) [] [] (He.ga K "says_nothing") fd := T.says.def_ 5 (d := DL.d_says_nothing) rfl
theorem d_spoken : ∃ fd, FunD K "spoken" "spoken" (defArgs s_spoken) (defBody s_spoken) (defScope s_spoken) [] [] (He.ga K "spoken") fd := T.says.def_ 6 (d := DL.d_spoken) rfl
theorem d_check_few : ∃ fd, FunD K "check_few" "check_few" (defArgs s_check_few) (defBody s_check_few) (defScope s_check_few) [] [] (He.ga K "check_few") fd := T.says.def_ 7 (d := DL.d_check_few) rfl
theorem d_rules_of : ∃ fd, FunD K "rules_of" "rules_of" (defArgs s_rules_of) (defBody s_rules_of) (defScope s_rules_of) [] [] (He.ga K "rules_of") fd := T.says.def_ 8 (d := DL.d_rules_of) rfl
theorem d_fate_of : ∃ fd, FunD K "fate_of" "fate_of" (defArgs s_fate_of) (defBody s_fate_of) (defScope s_fate_of) [] [] (He.ga K "fate_of") fd := T.says.def_ 9 (d := DL.d_fate_of) rfl
theorem d_is_letter : ∃ fd, FunD K "is_letter" "is_letter" (defArgs s_is_letter) (defBody s_is_letter) (defScope s_is_letter) [] [] (He.ga K "is_letter") fd := T.says.def_ 10 (d := DL.d_is_letter) rfl
theorem d_check_letter : ∃ fd, FunD K "check_letter" "check_letter" (defArgs s_check_letter) (defBody s_check_letter) (defScope s_check_letter) [] [] (He.ga K "check_letter") fd := T.says.def_ 11 (d := DL.d_check_letter) rfl
theorem d_seen_of : ∃ fd, FunD K "seen_of" "seen_of" (defArgs s_seen_of) (defBody s_seen_of) (defScope s_seen_of) [] [] (He.ga K "seen_of") fd := T.says.def_ 12 (d := DL.d_seen_of) rfl
theorem d_sort : ∃ fd, FunD K "sort" "sort" (defArgs s_sort) (defBody s_sort) (defScope s_sort) [] [] (He.ga K "sort") fd := T.says.def_ 13 (d := DL.d_sort) rfl
theorem d_acting : ∃ fd, FunD K "acting" "acting" (defArgs s_acting) (defBody s_acting) (defScope s_acting) [] [] (He.ga K "acting") fd := T.says.def_ 14 (d := DL.d_acting) rfl
theorem d__law_draw : ∃ fd, FunD K "_law_draw" "_law_draw" (defArgs s__law_draw) (defBody s__law_draw) (defScope s__law_draw) [] [] (He.ga K "_law_draw") fd := T.says.def_ 15 (d := DL.d__law_draw) rfl
theorem d__law_cell_at : ∃ fd, FunD K "_law_cell_at" "_law_cell_at" (defArgs s__law_cell_at) (defBody s__law_cell_at) (defScope s__law_cell_at) [] [] (He.ga K "_law_cell_at") fd := T.says.def_ 16 (d := DL.d__law_cell_at) rfl
theorem d__law_digits : ∃ fd, FunD K "_law_digits" "_law_digits" (defArgs s__law_digits) (defBody s__law_digits) (defScope s__law_digits) [] [] (He.ga K "_law_digits") fd := T.says.def_ 17 (d := DL.d__law_digits) rfl
theorem d__law_words : ∃ fd, FunD K "_law_words" "_law_words" (defArgs s__law_words) (defBody s__law_words) (defScope s__law_words) [] [] (He.ga K "_law_words") fd := T.says.def_ 18 (d := DL.d__law_words) rfl
theorem d__law_fact : ∃ fd, FunD K "_law_fact" "_law_fact" (defArgs s__law_fact) (defBody s__law_fact) (defScope s__law_fact) [] [] (He.ga K "_law_fact") fd := T.says.def_ 19 (d := DL.d__law_fact) rfl
theorem d__law_unit : ∃ fd, FunD K "_law_unit" "_law_unit" (defArgs s__law_unit) (defBody s__law_unit) (defScope s__law_unit) [] [] (He.ga K "_law_unit") fd := T.says.def_ 20 (d := DL.d__law_unit) rfl
theorem d__law_condition : ∃ fd, FunD K "_law_condition" "_law_condition" (defArgs s__law_condition) (defBody s__law_condition) (defScope s__law_condition) [] [] (He.ga K "_law_condition") fd := T.says.def_ 21 (d := DL.d__law_condition) rfl
theorem d__law_deeds : ∃ fd, FunD K "_law_deeds" "_law_deeds" (defArgs s__law_deeds) (defBody s__law_deeds) (defScope s__law_deeds) [] [] (He.ga K "_law_deeds") fd := T.says.def_ 22 (d := DL.d__law_deeds) rfl
theorem d__law_rules : ∃ fd, FunD K "_law_rules" "_law_rules" (defArgs s__law_rules) (defBody s__law_rules) (defScope s__law_rules) [] [] (He.ga K "_law_rules") fd := T.says.def_ 23 (d := DL.d__law_rules) rfl
theorem d__law_told : ∃ fd, FunD K "_law_told" "_law_told" (defArgs s__law_told) (defBody s__law_told) (defScope s__law_told) [] [] (He.ga K "_law_told") fd := T.says.def_ 24 (d := DL.d__law_told) rfl
theorem d__law_rule_words : ∃ fd, FunD K "_law_rule_words" "_law_rule_words" (defArgs s__law_rule_words) (defBody s__law_rule_words) (defScope s__law_rule_words) [] [] (He.ga K "_law_rule_words") fd := T.says.def_ 25 (d := DL.d__law_rule_words) rfl
theorem d__law_text : ∃ fd, FunD K "_law_text" "_law_text" (defArgs s__law_text) (defBody s__law_text) (defScope s__law_text) [] [] (He.ga K "_law_text") fd := T.says.def_ 26 (d := DL.d__law_text) rfl
theorem d__law_holds : ∃ fd, FunD K "_law_holds" "_law_holds" (defArgs s__law_holds) (defBody s__law_holds) (defScope s__law_holds) [] [] (He.ga K "_law_holds") fd := T.says.def_ 27 (d := DL.d__law_holds) rfl
theorem d__law_rank : ∃ fd, FunD K "_law_rank" "_law_rank" (defArgs s__law_rank) (defBody s__law_rank) (defScope s__law_rank) [] [] (He.ga K "_law_rank") fd := T.says.def_ 28 (d := DL.d__law_rank) rfl
theorem d__law_sort : ∃ fd, FunD K "_law_sort" "_law_sort" (defArgs s__law_sort) (defBody s__law_sort) (defScope s__law_sort) [] [] (He.ga K "_law_sort") fd := T.says.def_ 29 (d := DL.d__law_sort) rfl
theorem d__law_letter : ∃ fd, FunD K "_law_letter" "_law_letter" (defArgs s__law_letter) (defBody s__law_letter) (defScope s__law_letter) [] [] (He.ga K "_law_letter") fd := T.says.def_ 30 (d := DL.d__law_letter) rfl
theorem d__law_sort_right : ∃ fd, FunD K "_law_sort_right" "_law_sort_right" (defArgs s__law_sort_right) (defBody s__law_sort_right) (defScope s__law_sort_right) [] [] (He.ga K "_law_sort_right") fd := T.says.def_ 31 (d := DL.d__law_sort_right) rfl
theorem d_law : ∃ fd, FunD K "law" "law" (defArgs s_law) (defBody s_law) (defScope s_law) [] [] (He.ga K "law") fd := T.says.def_ 32 (d := DL.d_law) rfl
theorem d_BadRule_init : ∃ fd, FunD K "__init__" "BadRule.__init__" (defArgs s_BadRule_init) (defBody s_BadRule_init) (defScope s_BadRule_init) [] [] (He.ma K (He.ga K "BadRule") "__init__") fd := T.says.def_ 33 (d := DL.d_BadRule_init) rfl
theorem d_Seen_init : ∃ fd, FunD K "__init__" "Seen.__init__" (defArgs s_Seen_init) (defBody s_Seen_init) (defScope s_Seen_init) [] [] (He.ma K (He.ga K "Seen") "__init__") fd := T.says.def_ 34 (d := DL.d_Seen_init) rfl
theorem d_Fact_init : ∃ fd, FunD K "__init__" "Fact.__init__" (defArgs s_Fact_init) (defBody s_Fact_init) (defScope s_Fact_init) [] [] (He.ma K (He.ga K "Fact") "__init__") fd := T.says.def_ 35 (d := DL.d_Fact_init) rfl
theorem d_Fact_holds : ∃ fd, FunD K "holds" "Fact.holds" (defArgs s_Fact_holds) (defBody s_Fact_holds) (defScope s_Fact_holds) [] [] (He.ma K (He.ga K "Fact") "holds") fd := T.says.def_ 36 (d := DL.d_Fact_holds) rfl
theorem d_Fact_told : ∃ fd, FunD K "told" "Fact.told" (defArgs s_Fact_told) (defBody s_Fact_told) (defScope s_Fact_told) [] [] (He.ma K (He.ga K "Fact") "told") fd := T.says.def_ 37 (d := DL.d_Fact_told) rfl
theorem d_Fact_facts : ∃ fd, FunD K "facts" "Fact.facts" (defArgs s_Fact_facts) (defBody s_Fact_facts) (defScope s_Fact_facts) [] [] (He.ma K (He.ga K "Fact") "facts") fd := T.says.def_ 38 (d := DL.d_Fact_facts) rfl
theorem d_From_holds : ∃ fd, FunD K "holds" "From.holds" (defArgs s_From_holds) (defBody s_From_holds) (defScope s_From_holds) [] [] (He.ma K (He.ga K "From") "holds") fd := T.says.def_ 39 (d := DL.d_From_holds) rfl
theorem d_From_init : ∃ fd, FunD K "__init__" "Fact.__init__" (defArgs s_Fact_init) (defBody s_Fact_init) (defScope s_Fact_init) [] [] (He.ma K (He.ga K "From") "__init__") fd := T.says.def_ 40 (d := DL.d_From_init) rfl
theorem d_From_told : ∃ fd, FunD K "told" "Fact.told" (defArgs s_Fact_told) (defBody s_Fact_told) (defScope s_Fact_told) [] [] (He.ma K (He.ga K "From") "told") fd := T.says.def_ 41 (d := DL.d_From_told) rfl
theorem d_From_facts : ∃ fd, FunD K "facts" "Fact.facts" (defArgs s_Fact_facts) (defBody s_Fact_facts) (defScope s_Fact_facts) [] [] (He.ma K (He.ga K "From") "facts") fd := T.says.def_ 42 (d := DL.d_From_facts) rfl
theorem d_Has_holds : ∃ fd, FunD K "holds" "Has.holds" (defArgs s_Has_holds) (defBody s_Has_holds) (defScope s_Has_holds) [] [] (He.ma K (He.ga K "Has") "holds") fd := T.says.def_ 43 (d := DL.d_Has_holds) rfl
theorem d_Has_init : ∃ fd, FunD K "__init__" "Fact.__init__" (defArgs s_Fact_init) (defBody s_Fact_init) (defScope s_Fact_init) [] [] (He.ma K (He.ga K "Has") "__init__") fd := T.says.def_ 44 (d := DL.d_Has_init) rfl
theorem d_Has_told : ∃ fd, FunD K "told" "Fact.told" (defArgs s_Fact_told) (defBody s_Fact_told) (defScope s_Fact_told) [] [] (He.ma K (He.ga K "Has") "told") fd := T.says.def_ 45 (d := DL.d_Has_told) rfl
theorem d_Has_facts : ∃ fd, FunD K "facts" "Fact.facts" (defArgs s_Fact_facts) (defBody s_Fact_facts) (defScope s_Fact_facts) [] [] (He.ma K (He.ga K "Has") "facts") fd := T.says.def_ 46 (d := DL.d_Has_facts) rfl
theorem d_First_holds : ∃ fd, FunD K "holds" "First.holds" (defArgs s_First_holds) (defBody s_First_holds) (defScope s_First_holds) [] [] (He.ma K (He.ga K "First") "holds") fd := T.says.def_ 47 (d := DL.d_First_holds) rfl
theorem d_First_init : ∃ fd, FunD K "__init__" "Fact.__init__" (defArgs s_Fact_init) (defBody s_Fact_init) (defScope s_Fact_init) [] [] (He.ma K (He.ga K "First") "__init__") fd := T.says.def_ 48 (d := DL.d_First_init) rfl
theorem d_First_told : ∃ fd, FunD K "told" "Fact.told" (defArgs s_Fact_told) (defBody s_Fact_told) (defScope s_Fact_told) [] [] (He.ma K (He.ga K "First") "told") fd := T.says.def_ 49 (d := DL.d_First_told) rfl
theorem d_First_facts : ∃ fd, FunD K "facts" "Fact.facts" (defArgs s_Fact_facts) (defBody s_Fact_facts) (defScope s_Fact_facts) [] [] (He.ma K (He.ga K "First") "facts") fd := T.says.def_ 50 (d := DL.d_First_facts) rfl
theorem d_Last_holds : ∃ fd, FunD K "holds" "Last.holds" (defArgs s_Last_holds) (defBody s_Last_holds) (defScope s_Last_holds) [] [] (He.ma K (He.ga K "Last") "holds") fd := T.says.def_ 51 (d := DL.d_Last_holds) rfl
theorem d_Last_init : ∃ fd, FunD K "__init__" "Fact.__init__" (defArgs s_Fact_init) (defBody s_Fact_init) (defScope s_Fact_init) [] [] (He.ma K (He.ga K "Last") "__init__") fd := T.says.def_ 52 (d := DL.d_Last_init) rfl
theorem d_Last_told : ∃ fd, FunD K "told" "Fact.told" (defArgs s_Fact_told) (defBody s_Fact_told) (defScope s_Fact_told) [] [] (He.ma K (He.ga K "Last") "told") fd := T.says.def_ 53 (d := DL.d_Last_told) rfl
theorem d_Last_facts : ∃ fd, FunD K "facts" "Fact.facts" (defArgs s_Fact_facts) (defBody s_Fact_facts) (defScope s_Fact_facts) [] [] (He.ma K (He.ga K "Last") "facts") fd := T.says.def_ 54 (d := DL.d_Last_facts) rfl
theorem d_Pair_holds : ∃ fd, FunD K "holds" "Pair.holds" (defArgs s_Pair_holds) (defBody s_Pair_holds) (defScope s_Pair_holds) [] [] (He.ma K (He.ga K "Pair") "holds") fd := T.says.def_ 55 (d := DL.d_Pair_holds) rfl
theorem d_Pair_init : ∃ fd, FunD K "__init__" "Fact.__init__" (defArgs s_Fact_init) (defBody s_Fact_init) (defScope s_Fact_init) [] [] (He.ma K (He.ga K "Pair") "__init__") fd := T.says.def_ 56 (d := DL.d_Pair_init) rfl
theorem d_Pair_told : ∃ fd, FunD K "told" "Fact.told" (defArgs s_Fact_told) (defBody s_Fact_told) (defScope s_Fact_told) [] [] (He.ma K (He.ga K "Pair") "told") fd := T.says.def_ 57 (d := DL.d_Pair_told) rfl
theorem d_Pair_facts : ∃ fd, FunD K "facts" "Fact.facts" (defArgs s_Fact_facts) (defBody s_Fact_facts) (defScope s_Fact_facts) [] [] (He.ma K (He.ga K "Pair") "facts") fd := T.says.def_ 58 (d := DL.d_Pair_facts) rfl
theorem d_Over_holds : ∃ fd, FunD K "holds" "Over.holds" (defArgs s_Over_holds) (defBody s_Over_holds) (defScope s_Over_holds) [] [] (He.ma K (He.ga K "Over") "holds") fd := T.says.def_ 59 (d := DL.d_Over_holds) rfl
theorem d_Over_init : ∃ fd, FunD K "__init__" "Fact.__init__" (defArgs s_Fact_init) (defBody s_Fact_init) (defScope s_Fact_init) [] [] (He.ma K (He.ga K "Over") "__init__") fd := T.says.def_ 60 (d := DL.d_Over_init) rfl
theorem d_Over_told : ∃ fd, FunD K "told" "Fact.told" (defArgs s_Fact_told) (defBody s_Fact_told) (defScope s_Fact_told) [] [] (He.ma K (He.ga K "Over") "told") fd := T.says.def_ 61 (d := DL.d_Over_told) rfl
theorem d_Over_facts : ∃ fd, FunD K "facts" "Fact.facts" (defArgs s_Fact_facts) (defBody s_Fact_facts) (defScope s_Fact_facts) [] [] (He.ma K (He.ga K "Over") "facts") fd := T.says.def_ 62 (d := DL.d_Over_facts) rfl
theorem d_Marked_holds : ∃ fd, FunD K "holds" "Marked.holds" (defArgs s_Marked_holds) (defBody s_Marked_holds) (defScope s_Marked_holds) [] [] (He.ma K (He.ga K "Marked") "holds") fd := T.says.def_ 63 (d := DL.d_Marked_holds) rfl
theorem d_Marked_init : ∃ fd, FunD K "__init__" "Fact.__init__" (defArgs s_Fact_init) (defBody s_Fact_init) (defScope s_Fact_init) [] [] (He.ma K (He.ga K "Marked") "__init__") fd := T.says.def_ 64 (d := DL.d_Marked_init) rfl
theorem d_Marked_told : ∃ fd, FunD K "told" "Fact.told" (defArgs s_Fact_told) (defBody s_Fact_told) (defScope s_Fact_told) [] [] (He.ma K (He.ga K "Marked") "told") fd := T.says.def_ 65 (d := DL.d_Marked_told) rfl
theorem d_Marked_facts : ∃ fd, FunD K "facts" "Fact.facts" (defArgs s_Fact_facts) (defBody s_Fact_facts) (defScope s_Fact_facts) [] [] (He.ma K (He.ga K "Marked") "facts") fd := T.says.def_ 66 (d := DL.d_Marked_facts) rfl
theorem d_Turned_init : ∃ fd, FunD K "__init__" "Turned.__init__" (defArgs s_Turned_init) (defBody s_Turned_init) (defScope s_Turned_init) [] [] (He.ma K (He.ga K "Turned") "__init__") fd := T.says.def_ 67 (d := DL.d_Turned_init) rfl
theorem d_Turned_holds : ∃ fd, FunD K "holds" "Turned.holds" (defArgs s_Turned_holds) (defBody s_Turned_holds) (defScope s_Turned_holds) [] [] (He.ma K (He.ga K "Turned") "holds") fd := T.says.def_ 68 (d := DL.d_Turned_holds) rfl
theorem d_Turned_told : ∃ fd, FunD K "told" "Turned.told" (defArgs s_Turned_told) (defBody s_Turned_told) (defScope s_Turned_told) [] [] (He.ma K (He.ga K "Turned") "told") fd := T.says.def_ 69 (d := DL.d_Turned_told) rfl
theorem d_Turned_facts : ∃ fd, FunD K "facts" "Turned.facts" (defArgs s_Turned_facts) (defBody s_Turned_facts) (defScope s_Turned_facts) [] [] (He.ma K (He.ga K "Turned") "facts") fd := T.says.def_ 70 (d := DL.d_Turned_facts) rfl
theorem d_Bracket_holds : ∃ fd, FunD K "holds" "Bracket.holds" (defArgs s_Bracket_holds) (defBody s_Bracket_holds) (defScope s_Bracket_holds) [] [] (He.ma K (He.ga K "Bracket") "holds") fd := T.says.def_ 71 (d := DL.d_Bracket_holds) rfl
theorem d_Bracket_told : ∃ fd, FunD K "told" "Bracket.told" (defArgs s_Bracket_told) (defBody s_Bracket_told) (defScope s_Bracket_told) [] [] (He.ma K (He.ga K "Bracket") "told") fd := T.says.def_ 72 (d := DL.d_Bracket_told) rfl
theorem d_Bracket_init : ∃ fd, FunD K "__init__" "Turned.__init__" (defArgs s_Turned_init) (defBody s_Turned_init) (defScope s_Turned_init) [] [] (He.ma K (He.ga K "Bracket") "__init__") fd := T.says.def_ 73 (d := DL.d_Bracket_init) rfl
theorem d_Bracket_facts : ∃ fd, FunD K "facts" "Turned.facts" (defArgs s_Turned_facts) (defBody s_Turned_facts) (defScope s_Turned_facts) [] [] (He.ma K (He.ga K "Bracket") "facts") fd := T.says.def_ 74 (d := DL.d_Bracket_facts) rfl
theorem d_Joined_init : ∃ fd, FunD K "__init__" "Joined.__init__" (defArgs s_Joined_init) (defBody s_Joined_init) (defScope s_Joined_init) [] [] (He.ma K (He.ga K "Joined") "__init__") fd := T.says.def_ 75 (d := DL.d_Joined_init) rfl
theorem d_Joined_holds : ∃ fd, FunD K "holds" "Joined.holds" (defArgs s_Joined_holds) (defBody s_Joined_holds) (defScope s_Joined_holds) [] [] (He.ma K (He.ga K "Joined") "holds") fd := T.says.def_ 76 (d := DL.d_Joined_holds) rfl
theorem d_Joined_told : ∃ fd, FunD K "told" "Joined.told" (defArgs s_Joined_told) (defBody s_Joined_told) (defScope s_Joined_told) [] [] (He.ma K (He.ga K "Joined") "told") fd := T.says.def_ 77 (d := DL.d_Joined_told) rfl
theorem d_Joined_facts : ∃ fd, FunD K "facts" "Joined.facts" (defArgs s_Joined_facts) (defBody s_Joined_facts) (defScope s_Joined_facts) [] [] (He.ma K (He.ga K "Joined") "facts") fd := T.says.def_ 78 (d := DL.d_Joined_facts) rfl
theorem d_Rule_init : ∃ fd, FunD K "__init__" "Rule.__init__" (defArgs s_Rule_init) (defBody s_Rule_init) (defScope s_Rule_init) [] [] (He.ma K (He.ga K "Rule") "__init__") fd := T.says.def_ 79 (d := DL.d_Rule_init) rfl
theorem d_Rule_told : ∃ fd, FunD K "told" "Rule.told" (defArgs s_Rule_told) (defBody s_Rule_told) (defScope s_Rule_told) [] [] (He.ma K (He.ga K "Rule") "told") fd := T.says.def_ 80 (d := DL.d_Rule_told) rfl
theorem d_Reader_init : ∃ fd, FunD K "__init__" "Reader.__init__" (defArgs s_Reader_init) (defBody s_Reader_init) (defScope s_Reader_init) [] [] (He.ma K (He.ga K "Reader") "__init__") fd := T.says.def_ 81 (d := DL.d_Reader_init) rfl
theorem d_Reader_wrong : ∃ fd, FunD K "wrong" "Reader.wrong" (defArgs s_Reader_wrong) (defBody s_Reader_wrong) (defScope s_Reader_wrong) [] [] (He.ma K (He.ga K "Reader") "wrong") fd := T.says.def_ 82 (d := DL.d_Reader_wrong) rfl
theorem d_Reader_here : ∃ fd, FunD K "here" "Reader.here" (defArgs s_Reader_here) (defBody s_Reader_here) (defScope s_Reader_here) [] [] (He.ma K (He.ga K "Reader") "here") fd := T.says.def_ 83 (d := DL.d_Reader_here) rfl
theorem d_Reader_step : ∃ fd, FunD K "step" "Reader.step" (defArgs s_Reader_step) (defBody s_Reader_step) (defScope s_Reader_step) [] [] (He.ma K (He.ga K "Reader") "step") fd := T.says.def_ 84 (d := DL.d_Reader_step) rfl
theorem d_Reader_due : ∃ fd, FunD K "due" "Reader.due" (defArgs s_Reader_due) (defBody s_Reader_due) (defScope s_Reader_due) [] [] (He.ma K (He.ga K "Reader") "due") fd := T.says.def_ 85 (d := DL.d_Reader_due) rfl
theorem d_Reader_name_here : ∃ fd, FunD K "name_here" "Reader.name_here" (defArgs s_Reader_name_here) (defBody s_Reader_name_here) (defScope s_Reader_name_here) [] [] (He.ma K (He.ga K "Reader") "name_here") fd := T.says.def_ 86 (d := DL.d_Reader_name_here) rfl
theorem d_Reader_size_here : ∃ fd, FunD K "size_here" "Reader.size_here" (defArgs s_Reader_size_here) (defBody s_Reader_size_here) (defScope s_Reader_size_here) [] [] (He.ma K (He.ga K "Reader") "size_here") fd := T.says.def_ 87 (d := DL.d_Reader_size_here) rfl
theorem d_Reader_fact : ∃ fd, FunD K "fact" "Reader.fact" (defArgs s_Reader_fact) (defBody s_Reader_fact) (defScope s_Reader_fact) [] [] (He.ma K (He.ga K "Reader") "fact") fd := T.says.def_ 88 (d := DL.d_Reader_fact) rfl
theorem d_Reader_unit : ∃ fd, FunD K "unit" "Reader.unit" (defArgs s_Reader_unit) (defBody s_Reader_unit) (defScope s_Reader_unit) [] [] (He.ma K (He.ga K "Reader") "unit") fd := T.says.def_ 89 (d := DL.d_Reader_unit) rfl
theorem d_Reader_both : ∃ fd, FunD K "both" "Reader.both" (defArgs s_Reader_both) (defBody s_Reader_both) (defScope s_Reader_both) [] [] (He.ma K (He.ga K "Reader") "both") fd := T.says.def_ 90 (d := DL.d_Reader_both) rfl
theorem d_Reader_either : ∃ fd, FunD K "either" "Reader.either" (defArgs s_Reader_either) (defBody s_Reader_either) (defScope s_Reader_either) [] [] (He.ma K (He.ga K "Reader") "either") fd := T.says.def_ 91 (d := DL.d_Reader_either) rfl
theorem d_Reader_deed : ∃ fd, FunD K "deed" "Reader.deed" (defArgs s_Reader_deed) (defBody s_Reader_deed) (defScope s_Reader_deed) [] [] (He.ma K (He.ga K "Reader") "deed") fd := T.says.def_ 92 (d := DL.d_Reader_deed) rfl
theorem d_Reader_rule : ∃ fd, FunD K "rule" "Reader.rule" (defArgs s_Reader_rule) (defBody s_Reader_rule) (defScope s_Reader_rule) [] [] (He.ma K (He.ga K "Reader") "rule") fd := T.says.def_ 93 (d := DL.d_Reader_rule) rfl
theorem d_Fate_init : ∃ fd, FunD K "__init__" "Fate.__init__" (defArgs s_Fate_init) (defBody s_Fate_init) (defScope s_Fate_init) [] [] (He.ma K (He.ga K "Fate") "__init__") fd := T.says.def_ 94 (d := DL.d_Fate_init) rfl
theorem d_Fate_do : ∃ fd, FunD K "do" "Fate.do" (defArgs s_Fate_do) (defBody s_Fate_do) (defScope s_Fate_do) [] [] (He.ma K (He.ga K "Fate") "do") fd := T.says.def_ 95 (d := DL.d_Fate_do) rfl
theorem d_Fate_told : ∃ fd, FunD K "told" "Fate.told" (defArgs s_Fate_told) (defBody s_Fate_told) (defScope s_Fate_told) [] [] (He.ma K (He.ga K "Fate") "told") fd := T.says.def_ 96 (d := DL.d_Fate_told) rfl
theorem t_SPOKEN (G : Hp) : Rep K G (.tup [.str "has", .str "first", .str "last", .str "pair"]) (.ref (He.ga K "SPOKEN")) := .tup (He.tupB_ok (x := "SPOKEN") (vs := [.str "has", .str "first", .str "last", .str "pair"]) (by have h := T.ex; simp only [exB, Bool.and_eq_true] at h; exact h.2) G) (by repeat constructor)
theorem f_Fact : CFn K (He.ga K "Fact") (He.ma K (He.ga K "Fact") "__init__") "__init__" := cfnB_ok (by have h := T.ex; simp only [exB, Bool.and_eq_true] at h; exact h.1)
end Tx
/-! the defs' names by slot -/
theorem sc_BadRule_init : FnScope ["self", "row", "word"] ["self", "row", "word"] (defScope s_BadRule_init) := ⟨rfl, rfl, rfl, by decide +kernel, rfl, by decide +kernel, by decide +kernel⟩
theorem sc_Seen_init : FnScope ["self", "sender", "size", "first", "last", "some", "pairs"] ["self", "sender", "size", "first", "last", "some", "pairs"] (defScope s_Seen_init) := ⟨rfl, rfl, rfl, by decide +kernel, rfl, by decide +kernel, by decide +kernel⟩
theorem sc_Fact_init : FnScope ["self", "words"] ["self", "words"] (defScope s_Fact_init) := ⟨rfl, rfl, rfl, by decide +kernel, rfl, by decide +kernel, by decide +kernel⟩
theorem sc_Fact_holds : FnScope ["self", "seen"] ["self", "seen"] (defScope s_Fact_holds) := ⟨rfl, rfl, rfl, by decide +kernel, rfl, by decide +kernel, by decide +kernel⟩
theorem sc_Fact_told : FnScope ["self"] ["self"] (defScope s_Fact_told) := ⟨rfl, rfl, rfl, by decide +kernel, rfl, by decide +kernel, by decide +kernel⟩
theorem sc_Fact_facts : FnScope ["self"] ["self"] (defScope s_Fact_facts) := ⟨rfl, rfl, rfl, by decide +kernel, rfl, by decide +kernel, by decide +kernel⟩
theorem sc_From_holds : FnScope ["self", "seen"] ["self", "seen"] (defScope s_From_holds) := ⟨rfl, rfl, rfl, by decide +kernel, rfl, by decide +kernel, by decide +kernel⟩
theorem sc_Has_holds : FnScope ["self", "seen"] ["self", "seen"] (defScope s_Has_holds) := ⟨rfl, rfl, rfl, by decide +kernel, rfl, by decide +kernel, by decide +kernel⟩
theorem sc_First_holds : FnScope ["self", "seen"] ["self", "seen"] (defScope s_First_holds) := ⟨rfl, rfl, rfl, by decide +kernel, rfl, by decide +kernel, by decide +kernel⟩
theorem sc_Last_holds : FnScope ["self", "seen"] ["self", "seen"] (defScope s_Last_holds) := ⟨rfl, rfl, rfl, by decide +kernel, rfl, by decide +kernel, by decide +kernel⟩
theorem sc_Pair_holds : FnScope ["self", "seen"] ["self", "seen"] (defScope s_Pair_holds) := ⟨rfl, rfl, rfl, by decide +kernel, rfl, by decide +kernel, by decide +kernel⟩
theorem sc_Over_holds : FnScope ["self", "seen"] ["self", "seen"] (defScope s_Over_holds) := ⟨rfl, rfl, rfl, by decide +kernel, rfl, by decide +kernel, by decide +kernel⟩
theorem sc_Marked_holds : FnScope ["self", "seen"] ["self", "seen"] (defScope s_Marked_holds) := ⟨rfl, rfl, rfl, by decide +kernel, rfl, by decide +kernel, by decide +kernel⟩
theorem sc_Turned_init : FnScope ["self", "inner"] ["self", "inner"] (defScope s_Turned_init) := ⟨rfl, rfl, rfl, by decide +kernel, rfl, by decide +kernel, by decide +kernel⟩
theorem sc_Turned_holds : FnScope ["self", "seen"] ["self", "seen"] (defScope s_Turned_holds) := ⟨rfl, rfl, rfl, by decide +kernel, rfl, by decide +kernel, by decide +kernel⟩
theorem sc_Turned_told : FnScope ["self"] ["self"] (defScope s_Turned_told) := ⟨rfl, rfl, rfl, by decide +kernel, rfl, by decide +kernel, by decide +kernel⟩
theorem sc_Turned_facts : FnScope ["self"] ["self"] (defScope s_Turned_facts) := ⟨rfl, rfl, rfl, by decide +kernel, rfl, by decide +kernel, by decide +kernel⟩
theorem sc_Bracket_holds : FnScope ["self", "seen"] ["self", "seen"] (defScope s_Bracket_holds) := ⟨rfl, rfl, rfl, by decide +kernel, rfl, by decide +kernel, by decide +kernel⟩
theorem sc_Bracket_told : FnScope ["self"] ["self"] (defScope s_Bracket_told) := ⟨rfl, rfl, rfl, by decide +kernel, rfl, by decide +kernel, by decide +kernel⟩
theorem sc_Joined_init : FnScope ["self", "word", "parts"] ["self", "word", "parts"] (defScope s_Joined_init) := ⟨rfl, rfl, rfl, by decide +kernel, rfl, by decide +kernel, by decide +kernel⟩
theorem sc_Joined_holds : FnScope ["self", "seen", "held", "part"] ["self", "seen"] (defScope s_Joined_holds) := ⟨rfl, rfl, rfl, by decide +kernel, rfl, by decide +kernel, by decide +kernel⟩
theorem sc_Joined_told : FnScope ["self", "found", "part"] ["self"] (defScope s_Joined_told) := ⟨rfl, rfl, rfl, by decide +kernel, rfl, by decide +kernel, by decide +kernel⟩
theorem sc_Joined_facts : FnScope ["self", "found", "part"] ["self"] (defScope s_Joined_facts) := ⟨rfl, rfl, rfl, by decide +kernel, rfl, by decide +kernel, by decide +kernel⟩
theorem sc_is_name : FnScope ["thing", "sign"] ["thing"] (defScope s_is_name) := ⟨rfl, rfl, rfl, by decide +kernel, rfl, by decide +kernel, by decide +kernel⟩
theorem sc_is_size : FnScope ["word", "sign"] ["word"] (defScope s_is_size) := ⟨rfl, rfl, rfl, by decide +kernel, rfl, by decide +kernel, by decide +kernel⟩
theorem sc_in_order : FnScope ["names"] ["names"] (defScope s_in_order) := ⟨rfl, rfl, rfl, by decide +kernel, rfl, by decide +kernel, by decide +kernel⟩
theorem sc_words_of : FnScope ["told", "sign", "word"] ["told"] (defScope s_words_of) := ⟨rfl, rfl, rfl, by decide +kernel, rfl, by decide +kernel, by decide +kernel⟩
theorem sc_spaced : FnScope ["words", "found", "word"] ["words"] (defScope s_spaced) := ⟨rfl, rfl, rfl, by decide +kernel, rfl, by decide +kernel, by decide +kernel⟩
theorem sc_Rule_init : FnScope ["self", "condition", "deeds"] ["self", "condition", "deeds"] (defScope s_Rule_init) := ⟨rfl, rfl, rfl, by decide +kernel, rfl, by decide +kernel, by decide +kernel⟩
theorem sc_Rule_told : FnScope ["self", "words", "at", "deed"] ["self"] (defScope s_Rule_told) := ⟨rfl, rfl, rfl, by decide +kernel, rfl, by decide +kernel, by decide +kernel⟩
theorem sc_Reader_init : FnScope ["self", "row", "words"] ["self", "row", "words"] (defScope s_Reader_init) := ⟨rfl, rfl, rfl, by decide +kernel, rfl, by decide +kernel, by decide +kernel⟩
theorem sc_Reader_wrong : FnScope ["self"] ["self"] (defScope s_Reader_wrong) := ⟨rfl, rfl, rfl, by decide +kernel, rfl, by decide +kernel, by decide +kernel⟩
theorem sc_Reader_here : FnScope ["self"] ["self"] (defScope s_Reader_here) := ⟨rfl, rfl, rfl, by decide +kernel, rfl, by decide +kernel, by decide +kernel⟩
theorem sc_Reader_step : FnScope ["self"] ["self"] (defScope s_Reader_step) := ⟨rfl, rfl, rfl, by decide +kernel, rfl, by decide +kernel, by decide +kernel⟩
theorem sc_Reader_due : FnScope ["self", "word"] ["self", "word"] (defScope s_Reader_due) := ⟨rfl, rfl, rfl, by decide +kernel, rfl, by decide +kernel, by decide +kernel⟩
theorem sc_Reader_name_here : FnScope ["self"] ["self"] (defScope s_Reader_name_here) := ⟨rfl, rfl, rfl, by decide +kernel, rfl, by decide +kernel, by decide +kernel⟩
theorem sc_Reader_size_here : FnScope ["self"] ["self"] (defScope s_Reader_size_here) := ⟨rfl, rfl, rfl, by decide +kernel, rfl, by decide +kernel, by decide +kernel⟩
theorem sc_Reader_fact : FnScope ["self", "word", "one", "words"] ["self"] (defScope s_Reader_fact) := ⟨rfl, rfl, rfl, by decide +kernel, rfl, by decide +kernel, by decide +kernel⟩
theorem sc_Reader_unit : FnScope ["self", "inner"] ["self"] (defScope s_Reader_unit) := ⟨rfl, rfl, rfl, by decide +kernel, rfl, by decide +kernel, by decide +kernel⟩
theorem sc_Reader_both : FnScope ["self", "parts"] ["self"] (defScope s_Reader_both) := ⟨rfl, rfl, rfl, by decide +kernel, rfl, by decide +kernel, by decide +kernel⟩
theorem sc_Reader_either : FnScope ["self", "parts"] ["self"] (defScope s_Reader_either) := ⟨rfl, rfl, rfl, by decide +kernel, rfl, by decide +kernel, by decide +kernel⟩
theorem sc_Reader_deed : FnScope ["self", "word"] ["self"] (defScope s_Reader_deed) := ⟨rfl, rfl, rfl, by decide +kernel, rfl, by decide +kernel, by decide +kernel⟩
theorem sc_Reader_rule : FnScope ["self", "condition", "deeds"] ["self"] (defScope s_Reader_rule) := ⟨rfl, rfl, rfl, by decide +kernel, rfl, by decide +kernel, by decide +kernel⟩
theorem sc_says_nothing : FnScope ["told"] ["told"] (defScope s_says_nothing) := ⟨rfl, rfl, rfl, by decide +kernel, rfl, by decide +kernel, by decide +kernel⟩
theorem sc_spoken : FnScope ["rules", "found", "rule", "fact", "name"] ["rules"] (defScope s_spoken) := ⟨rfl, rfl, rfl, by decide +kernel, rfl, by decide +kernel, by decide +kernel⟩
theorem sc_check_few : FnScope ["rules"] ["rules"] (defScope s_check_few) := ⟨rfl, rfl, rfl, by decide +kernel, rfl, by decide +kernel, by decide +kernel⟩
theorem sc_rules_of : FnScope ["text", "found", "row", "told"] ["text"] (defScope s_rules_of) := ⟨rfl, rfl, rfl, by decide +kernel, rfl, by decide +kernel, by decide +kernel⟩
theorem sc_Fate_init : FnScope ["self", "seen"] ["self", "seen"] (defScope s_Fate_init) := ⟨rfl, rfl, rfl, by decide +kernel, rfl, by decide +kernel, by decide +kernel⟩
theorem sc_Fate_do : FnScope ["self", "deed", "some"] ["self", "deed"] (defScope s_Fate_do) := ⟨rfl, rfl, rfl, by decide +kernel, rfl, by decide +kernel, by decide +kernel⟩
theorem sc_Fate_told : FnScope ["self"] ["self"] (defScope s_Fate_told) := ⟨rfl, rfl, rfl, by decide +kernel, rfl, by decide +kernel, by decide +kernel⟩
theorem sc_fate_of : FnScope ["rules", "seen", "fate", "acting", "at", "rule", "deed"] ["rules", "seen"] (defScope s_fate_of) := ⟨rfl, rfl, rfl, by decide +kernel, rfl, by decide +kernel, by decide +kernel⟩
theorem sc_is_letter : FnScope ["thing", "word"] ["thing"] (defScope s_is_letter) := ⟨rfl, rfl, rfl, by decide +kernel, rfl, by decide +kernel, by decide +kernel⟩
theorem sc_check_letter : FnScope ["letter"] ["letter"] (defScope s_check_letter) := ⟨rfl, rfl, rfl, by decide +kernel, rfl, by decide +kernel, by decide +kernel⟩
theorem sc_seen_of : FnScope ["letter", "sender", "words", "size", "some", "pairs", "word", "pair"] ["letter"] (defScope s_seen_of) := ⟨rfl, rfl, rfl, by decide +kernel, rfl, by decide +kernel, by decide +kernel⟩
theorem sc_sort : FnScope ["rules", "letter", "found"] ["rules", "letter"] (defScope s_sort) := ⟨rfl, rfl, rfl, by decide +kernel, rfl, by decide +kernel, by decide +kernel⟩
theorem sc_acting : FnScope ["rules", "letter", "found"] ["rules", "letter"] (defScope s_acting) := ⟨rfl, rfl, rfl, by decide +kernel, rfl, by decide +kernel, by decide +kernel⟩
theorem sc__law_draw : FnScope ["_law_cell", "_law_k", "_law_many", "_law_primes"] ["_law_cell", "_law_k", "_law_many"] (defScope s__law_draw) := ⟨rfl, rfl, rfl, by decide +kernel, rfl, by decide +kernel, by decide +kernel⟩
theorem sc__law_cell_at : FnScope ["_law_script", "_law_k"] ["_law_script", "_law_k"] (defScope s__law_cell_at) := ⟨rfl, rfl, rfl, by decide +kernel, rfl, by decide +kernel, by decide +kernel⟩
theorem sc__law_digits : FnScope ["_law_script", "_law_at", "_law_many", "_law_base", "_law_cell", "_law_found", "_law_left", "_law_turn", "_law_blend", "_law_more"] ["_law_script", "_law_at", "_law_many", "_law_base"] (defScope s__law_digits) := ⟨rfl, rfl, rfl, by decide +kernel, rfl, by decide +kernel, by decide +kernel⟩
theorem sc__law_words : FnScope ["_law_script", "_law_at", "_law_draws", "_law_found", "_law_turn", "_law_first", "_law_second", "_law_name", "_law_some", "_law_word"] ["_law_script", "_law_at"] (defScope s__law_words) := ⟨rfl, rfl, rfl, by decide +kernel, rfl, by decide +kernel, by decide +kernel⟩
theorem sc__law_fact : FnScope ["_law_draw_here", "_law_words_here", "_law_kinds", "_law_kind", "_law_one", "_law_other"] ["_law_draw_here", "_law_words_here", "_law_kinds"] (defScope s__law_fact) := ⟨rfl, rfl, rfl, by decide +kernel, rfl, by decide +kernel, by decide +kernel⟩
theorem sc__law_unit : FnScope ["_law_draws", "_law_words_here", "_law_kinds", "_law_fact_here", "_law_inner"] ["_law_draws", "_law_words_here", "_law_kinds"] (defScope s__law_unit) := ⟨rfl, rfl, rfl, by decide +kernel, rfl, by decide +kernel, by decide +kernel⟩
theorem sc__law_condition : FnScope ["_law_draws", "_law_words_here", "_law_kinds", "_law_one", "_law_other", "_law_last", "_law_joined"] ["_law_draws", "_law_words_here", "_law_kinds"] (defScope s__law_condition) := ⟨rfl, rfl, rfl, by decide +kernel, rfl, by decide +kernel, by decide +kernel⟩
theorem sc__law_deeds : FnScope ["_law_draws", "_law_words_here", "_law_found", "_law_draw_here", "_law_word"] ["_law_draws", "_law_words_here"] (defScope s__law_deeds) := ⟨rfl, rfl, rfl, by decide +kernel, rfl, by decide +kernel, by decide +kernel⟩
theorem sc__law_rules : FnScope ["_law_script", "_law_at", "_law_words_here", "_law_many", "_law_kinds", "_law_found", "_law_turn", "_law_draws"] ["_law_script", "_law_at", "_law_words_here", "_law_many", "_law_kinds"] (defScope s__law_rules) := ⟨rfl, rfl, rfl, by decide +kernel, rfl, by decide +kernel, by decide +kernel⟩
theorem sc__law_told : FnScope ["_law_condition_here", "_law_word", "_law_found", "_law_part"] ["_law_condition_here"] (defScope s__law_told) := ⟨rfl, rfl, rfl, by decide +kernel, rfl, by decide +kernel, by decide +kernel⟩
theorem sc__law_rule_words : FnScope ["_law_rule", "_law_found", "_law_at", "_law_deed"] ["_law_rule"] (defScope s__law_rule_words) := ⟨rfl, rfl, rfl, by decide +kernel, rfl, by decide +kernel, by decide +kernel⟩
theorem sc__law_text : FnScope ["_law_rules_here", "_law_rule"] ["_law_rules_here"] (defScope s__law_text) := ⟨rfl, rfl, rfl, by decide +kernel, rfl, by decide +kernel, by decide +kernel⟩
theorem sc__law_holds : FnScope ["_law_condition_here", "_law_letter_here", "_law_marks", "_law_word", "_law_sender", "_law_words_here", "_law_size", "_law_held", "_law_part"] ["_law_condition_here", "_law_letter_here", "_law_marks"] (defScope s__law_holds) := ⟨rfl, rfl, rfl, by decide +kernel, rfl, by decide +kernel, by decide +kernel⟩
theorem sc__law_rank : FnScope ["_law_name"] ["_law_name"] (defScope s__law_rank) := ⟨rfl, rfl, rfl, by decide +kernel, rfl, by decide +kernel, by decide +kernel⟩
theorem sc__law_sort : FnScope ["_law_rules_here", "_law_letter_here", "_law_files", "_law_marks", "_law_passes", "_law_some", "_law_at", "_law_condition_here", "_law_deeds_here", "_law_deed", "_law_mark"] ["_law_rules_here", "_law_letter_here"] (defScope s__law_sort) := ⟨rfl, rfl, rfl, by decide +kernel, rfl, by decide +kernel, by decide +kernel⟩
theorem sc__law_letter : FnScope ["_law_script", "_law_at", "_law_words_here", "_law_draws", "_law_some", "_law_size", "_law_row", "_law_draw_here"] ["_law_script", "_law_at", "_law_words_here"] (defScope s__law_letter) := ⟨rfl, rfl, rfl, by decide +kernel, rfl, by decide +kernel, by decide +kernel⟩
theorem sc__law_sort_right : FnScope ["_law_text_here", "_law_rules_here", "_law_letter_here", "_law_handed", "_law_told_here", "_law_some", "_law_due", "_law_acts_due", "_law_one"] ["_law_text_here", "_law_rules_here", "_law_letter_here"] (defScope s__law_sort_right) := ⟨rfl, rfl, rfl, by decide +kernel, rfl, by decide +kernel, by decide +kernel⟩
theorem sc_law : FnScope ["_law_script", "_law_words_here", "_law_kinds", "_law_by", "_law_rules_here", "_law_rows", "_law_at"] ["_law_script"] (defScope s_law) := ⟨rfl, rfl, rfl, by decide +kernel, rfl, by decide +kernel, by decide +kernel⟩
end DL
set_option maxHeartbeats 1000000
/-! MA1: texts: repeated, cut; names by them -/
namespace DL
open PySem PySem.Spec PyProof.Rows L2
theorem cd_mul10 (x : Str) (h : x.length ≠ 0) : cd (Txt.mul x 10) = (List.replicate 10 (cd x)).flatten := by
  unfold Txt.mul
  rw [if_neg (by decide), if_neg (by simp [h])]
  show ((List.replicate 10 x.cps).foldl (· ++ ·) #[]).toList = _
  simp [List.replicate]
theorem mulOk10 {x : Str} (h : x.length ≤ 1000) : MulOk x 10 := by
  refine ⟨by decide, fun _ _ => ?_, fun _ _ => ?_⟩
  · have : ((2 : Int) ^ 63 - 1) / 10 = 922337203685477580 := by decide
    rw [this]; omega
  · unfold Builtin.Str.tooLong
    rw [decide_eq_false]
    rw [sizeLine_eq]
    show ¬ x.length * 10 > _
    omega
def abc : Str := "abcdefghijklmnopqrstuvwxyz"
theorem abc_at {i : Int} (h0 : 0 ≤ i) (h1 : i < 26) : ∃ c : Nat, isLet c = true ∧ atI abc.cps.toList i = some c := by
  obtain ⟨n, rfl⟩ : ∃ n : Nat, i = (n : Int) := ⟨i.toNat, by omega⟩
  have hl : abc.cps.toList.length = 26 := by decide +kernel
  have hn : n < abc.cps.toList.length := by omega
  have ha : ∀ c ∈ abc.cps.toList, isLet c = true := by decide +kernel
  exact ⟨abc.cps.toList[n], ha _ (List.getElem_mem hn), atI_nat (List.getElem?_eq_getElem hn)⟩
theorem name_three {a b : Nat} (ha : isLet a = true) (hb : isLet b = true) (n : Nat) (h1 : 1 ≤ n) : NameS (cutS ((⟨#[a]⟩ : Str) ++ (⟨#[b]⟩ : Str) ++ (⟨#[a]⟩ : Str)) none (some (n : Int))) ∧ (cutS ((⟨#[a]⟩ : Str) ++ (⟨#[b]⟩ : Str) ++ (⟨#[a]⟩ : Str)) none (some (n : Int))).length ≤ 3 := by
  have e : cd ((⟨#[a]⟩ : Str) ++ (⟨#[b]⟩ : Str) ++ (⟨#[a]⟩ : Str)) = [a, b, a] := by rw [cd_app, cd_app]; rfl
  have e2 := cut_to ((⟨#[a]⟩ : Str) ++ (⟨#[b]⟩ : Str) ++ (⟨#[a]⟩ : Str)) n
  rw [e] at e2
  rw [cd_len]
  unfold NameS
  rw [e2]
  refine ⟨⟨by rw [List.length_take]; simp; omega, by rw [List.length_take]; simp; omega, fun c hc => ?_⟩, by rw [List.length_take]; simp; omega⟩
  have := List.mem_of_mem_take hc
  simp at this
  rcases this with rfl | rfl | rfl <;> assumption
theorem name_mul {x : Str} (h : NameS x) (n : Nat) (h1 : 1 ≤ n) (h2 : n ≤ 10) : NameS (cutS (Txt.mul x 10) none (some (n : Int))) := by
  have h0 : x.length ≠ 0 := by have := h.1; rw [cd_len]; omega
  have e2 := cut_to (Txt.mul x 10) n
  rw [cd_mul10 x h0] at e2
  unfold NameS
  rw [e2]
  have hl : (List.replicate 10 (cd x)).flatten.length = 10 * (cd x).length := by simp only [List.replicate, List.flatten_cons, List.flatten_nil, List.length_append, List.length_nil]; omega
  have := h.1
  refine ⟨by rw [List.length_take, hl]; omega, by rw [List.length_take, hl]; omega, fun c hc => ?_⟩
  have := List.mem_of_mem_take hc
  rw [List.mem_flatten] at this
  obtain ⟨l, hl1, hl2⟩ := this
  rw [List.mem_replicate] at hl1
  rw [hl1.2] at hl2
  exact h.2.2 c hl2
theorem cutD_map {α β : Type} (f : α → β) (xs : List α) (lo hi : Option Int) : cutD (xs.map f) lo hi = (cutD xs lo hi).map f := by
  unfold cutD
  rw [List.length_map, ← List.map_drop, ← List.map_take]
theorem mem_cutD {α : Type} {xs : List α} {lo hi : Option Int} {x : α} (h : x ∈ cutD xs lo hi) : x ∈ xs := List.mem_of_mem_drop (List.mem_of_mem_take h)
theorem cutD_nat {α : Type} (xs : List α) (i j : Nat) : cutD xs (some (i : Int)) (some (j : Int)) = (xs.drop (min i xs.length)).take (min j xs.length - min i xs.length) := by
  unfold cutD
  rw [HT.sIx_nat, HT.sIx_nat]
theorem cutD_from {α : Type} (xs : List α) (i : Nat) : cutD xs (some (i : Int)) none = xs.drop i := by
  unfold cutD
  rw [HT.sIx_nat, HT.sIx_none]
  by_cases h : i ≤ xs.length
  · rw [Nat.min_eq_left h, List.take_of_length_le]; simp
  · rw [Nat.min_eq_right (by omega)]
    simp [List.drop_eq_nil_of_le (show xs.length ≤ i by omega)]
theorem name_three' {a b : Nat} (ha : isLet a = true) (hb : isLet b = true) (k : Int) (h1 : 1 ≤ k) : NameS (cutS ((⟨#[a]⟩ : Str) ++ (⟨#[b]⟩ : Str) ++ (⟨#[a]⟩ : Str)) none (some k)) ∧ (cutS ((⟨#[a]⟩ : Str) ++ (⟨#[b]⟩ : Str) ++ (⟨#[a]⟩ : Str)) none (some k)).length ≤ 3 := by
  obtain ⟨n, rfl⟩ : ∃ n : Nat, k = (n : Int) := ⟨k.toNat, by omega⟩
  exact name_three ha hb n (by omega)
theorem name_mul' {x : Str} (h : NameS x) (k : Int) (h1 : 1 ≤ k) (h2 : k ≤ 10) : NameS (cutS (Txt.mul x 10) none (some k)) := by
  obtain ⟨n, rfl⟩ : ∃ n : Nat, k = (n : Int) := ⟨k.toNat, by omega⟩
  exact name_mul h n (by omega) (by omega)
end DL
set_option maxHeartbeats 1000000
/-! LF1: the law's draws: cells, digits -/
namespace DL
open PySem PySem.Spec PyProof.Rows L2
def S__law_draw : Spec := fun ds Φ => ∃ c k m : Int, ds = [.int c, .int k, .int m] ∧ 0 ≤ k ∧ 0 < m ∧ m < 2 ^ 62 ∧ ∀ r : Int, 0 ≤ r → r < m → Φ (.int r)
def S__law_cell_at : Spec := fun ds Φ => ∃ (sc : List Int) (k : Int), ds = [.lst (sc.map .int), .int k] ∧ 0 ≤ k ∧ ∀ r : Int, 0 ≤ r → Φ (.int r)
def S__law_digits : Spec := fun ds Φ => ∃ (sc : List Int) (at_ many base : Int), ds = [.lst (sc.map .int), .int at_, .int many, .int base] ∧ 0 ≤ at_ ∧ 0 ≤ many ∧ many ≤ 1000 ∧ 0 < base ∧ base < 1073741824 ∧
  ∀ ns : List Int, ns.length = many.toNat → (∀ n ∈ ns, 0 ≤ n ∧ n < base) → Φ (.lst (ns.map .int))
def primes : List D := [.int 1000003, .int 1000033, .int 1000037, .int 1000039, .int 1000081, .int 1000099, .int 1000117, .int 1000121, .int 1000133, .int 1000151, .int 1000159, .int 1000171, .int 1000183, .int 1000187, .int 1000193, .int 1000199]
theorem prime_at (i : Int) (h0 : 0 ≤ i) (h1 : i < 16) : ∃ p : Int, 0 < p ∧ atI primes i = some (.int p) := by
  obtain ⟨n, rfl⟩ : ∃ n : Nat, i = (n : Int) := ⟨i.toNat, by omega⟩
  have hn : n < 16 := by omega
  clear h0 h1
  match n, hn with
  | 0, _ => exact ⟨_, by decide, atI_nat rfl⟩
  | 1, _ => exact ⟨_, by decide, atI_nat rfl⟩
  | 2, _ => exact ⟨_, by decide, atI_nat rfl⟩
  | 3, _ => exact ⟨_, by decide, atI_nat rfl⟩
  | 4, _ => exact ⟨_, by decide, atI_nat rfl⟩
  | 5, _ => exact ⟨_, by decide, atI_nat rfl⟩
  | 6, _ => exact ⟨_, by decide, atI_nat rfl⟩
  | 7, _ => exact ⟨_, by decide, atI_nat rfl⟩
  | 8, _ => exact ⟨_, by decide, atI_nat rfl⟩
  | 9, _ => exact ⟨_, by decide, atI_nat rfl⟩
  | 10, _ => exact ⟨_, by decide, atI_nat rfl⟩
  | 11, _ => exact ⟨_, by decide, atI_nat rfl⟩
  | 12, _ => exact ⟨_, by decide, atI_nat rfl⟩
  | 13, _ => exact ⟨_, by decide, atI_nat rfl⟩
  | 14, _ => exact ⟨_, by decide, atI_nat rfl⟩
  | 15, _ => exact ⟨_, by decide, atI_nat rfl⟩
  | n + 16, h => exact absurd h (by omega)
theorem atI_ints {sc : List Int} {k : Int} (h0 : 0 ≤ k) (h1 : k < sc.length) : ∃ v : Int, v ∈ sc ∧ atI (sc.map D.int) k = some (.int v) := by
  obtain ⟨n, rfl⟩ : ∃ n : Nat, k = (n : Int) := ⟨k.toNat, by omega⟩
  have hn : n < sc.length := by omega
  exact ⟨sc[n], List.getElem_mem hn, atI_nat (by simp [hn])⟩
section
variable {P : Program} {w : World} {K : PySem.W.Frag} {mg : Str → Option Value} {base : Heap} (T : Tx K mg)
include T
theorem C__law_draw : Cal P w K mg base "_law_draw" 1 ["_law_cell", "_law_k", "_law_many"] S__law_draw := by
  refine cal_mk 0 T.d__law_draw T.g__law_draw sc__law_draw (fun _ _ _ _ _ _ us hl => match us, hl with | [_, _, _], _ => rfl) (fun ds Φ h => ?_) (fun cdv A outer s H Ew E ds Φ hr hN h => ?_)
  · obtain ⟨c, k, m, rfl, _⟩ := h; rfl
  · obtain ⟨c, k, m, rfl, hk, hm, hm2, q⟩ := h
    obtain ⟨p, hp, hat⟩ := prime_at (k % 16) (by omega) (by omega)
    show SXs _ E (_ :: _) _ _
    refine sxs_cons (sx_set 3 (ex_tup (ds := primes) ea_consts) ?_)
    refine sxs_one (sx_ret (ex_mod (ex_mod (ex_add (ex_mul (ex_var 0) ex_int) (ex_mul (ex_var 1) ex_int)) (ex_ixT (xs := primes) (z := .int p) (ex_var 3) (ex_mod (ex_var 1) ex_int) hat)) (ex_var 2)) ?_)
    exact q _ (Int.emod_nonneg _ (by omega)) (Int.emod_lt_of_pos _ hm)
theorem C__law_cell_at : Cal P w K mg base "_law_cell_at" 2 ["_law_script", "_law_k"] S__law_cell_at := by
  refine cal_mk 1 T.d__law_cell_at T.g__law_cell_at sc__law_cell_at (fun _ _ _ _ _ _ us hl => match us, hl with | [_, _], _ => rfl) (fun ds Φ h => ?_) (fun cdv A outer s H Ew E ds Φ hr hN h => ?_)
  · obtain ⟨sc, k, rfl, _⟩ := h; rfl
  · obtain ⟨sc, k, rfl, hk, q⟩ := h
    show SXs _ E (_ :: _) _ _
    refine sxs_cons (sx_if (et_lt (ex_var 1) (ex_lenL (ex_var 0) T.b_len)) (fun h => ?_) (fun h => ?_))
    · have h' : k < sc.length := by simpa using h
      obtain ⟨v, _, hv⟩ := atI_ints hk h'
      refine sxs_one (sx_ret (ex_abs (ex_ixL (ex_var 0) (ex_var 1) hv) T.b_abs) ?_)
      exact q _ (by split <;> omega)
    · refine sxs_nil ?_
      refine sxs_one (sx_retR (exr_cal (C__law_draw T) hr (EA.R (ea_cons (ex_add (ex_abs (ex_sum rfl (ex_var 0) T.b_sum) T.b_abs) (ex_mul ex_int (ex_var 1))) (ea_cons (ex_var 1) (ea_cons ex_int ea_nil))) ?_)) (fun d p => p))
      exact ⟨_, _, _, rfl, hk, by omega, by omega, fun r h1 h2 => q r h1⟩
theorem C__law_digits : Cal P w K mg base "_law_digits" 3 ["_law_script", "_law_at", "_law_many", "_law_base"] S__law_digits := by
  refine cal_mk 2 T.d__law_digits T.g__law_digits sc__law_digits (fun _ _ _ _ _ _ us hl => match us, hl with | [_, _, _, _], _ => rfl) (fun ds Φ h => ?_) (fun cdv A outer s H Ew E ds Φ hr hN h => ?_)
  · obtain ⟨sc, at_, many, base, rfl, _⟩ := h; rfl
  · obtain ⟨sc, at_, many, base, rfl, h0, h1, h2, h3, h4, q⟩ := h
    show SXs _ E (_ :: _) _ _
    refine sxs_cons (sx_par2 4 5 (em_imR (exr_cal (Φ := fun d => ∃ c : Int, d = .int c ∧ 0 ≤ c) (C__law_cell_at T) hr (EA.R (ea_cons (ex_var 0) (ea_cons (ex_var 1) ea_nil)) ⟨_, _, rfl, h0, fun r hr0 => ⟨r, rfl, hr0⟩⟩)) fun d hd => ?_))
    obtain ⟨cell, rfl, hc⟩ := hd
    refine em_own (eo_lst ea_nil) (em_nil ⟨_, _, rfl, ?_⟩)
    refine sxs_cons (sx_set 6 (ex_sub (ex_var 4) (ex_pow ex_int ex_int)) ?_)
    refine sxs_cons (sx_for (wk_range1 T.b_range (ex_var 2)) (fun i Γ' => ∃ (ns : List Int) (left : Int) (s7 s8 s9 : Sl), Γ' = [.im (.lst (sc.map .int)), .im (.int at_), .im (.int many), .im (.int base), .im (.int cell), .ol (ns.map .int), .im (.int left), s7, s8, s9] ∧ ns.length = i ∧ ∀ n ∈ ns, 0 ≤ n ∧ n < base)
      ⟨[], _, .un, .un, .un, rfl, rfl, fun n hn => by cases hn⟩ ?_ ?_ rfl)
    · rintro i d Γ' hi ⟨ns, left, s7, s8, s9, rfl, hl, hns⟩
      have hi2 : i < many.toNat := by
        have := (List.getElem?_eq_some_iff.mp hi).1
        rwa [rangeD_length] at this
      rw [rangeD_get 0 _ i hi2] at hi
      cases hi
      refine ⟨_, tg_name 7, ?_⟩
      refine sxs_one (sx_if (et_ge (ex_var 4) (ex_pow ex_int ex_int)) (fun h => ?_) (fun h => ?_))
      · refine sxs_cons (sx_append 5 (ex_mod (ex_var 6) (ex_var 3)) ?_ ?_)
        · refine sxs_one (sx_set 6 (ex_fdiv (ex_var 6) (ex_var 3)) ?_)
          exact ⟨ns ++ [left % base], left / base, _, s8, s9, by rw [List.map_append]; rfl, by simp [hl], fun n hn => by
            rcases List.mem_append.mp hn with hn | hn
            · exact hns n hn
            · simp at hn; subst hn; exact ⟨Int.emod_nonneg _ (by omega), Int.emod_lt_of_pos _ h3⟩⟩
        · simp [hl, sizeLine_eq]; omega
      · have hcell : cell < 10 ^ 18 := by simpa using h
        have e18 : (10 : Int) ^ 18 = 1000000000000000000 := by decide
        rw [e18] at hcell
        have hi3 : (i : Int) < 1000 := by omega
        refine sxs_cons (sx_setR 8 (exr_cal (Φ := fun d => ∃ c : Int, d = .int c ∧ 0 ≤ c ∧ c < 999983) (C__law_draw T) (hr.mono (by decide)) (EA.R (ea_cons (ex_mul (ex_add (ex_var 4) (ex_mul ex_int (ex_var 7))) (ex_add (ex_add (ex_var 4) (ex_mul ex_int (ex_var 7))) ex_int)) (ea_cons (ex_add (ex_mod (ex_var 7) ex_int) ex_int) (ea_cons ex_int ea_nil))) ⟨_, _, _, rfl, by omega, by omega, by omega, fun r a b => ⟨r, rfl, a, b⟩⟩)) ?_)
        rintro d ⟨b1, rfl, hb1, hb2⟩
        refine sxs_cons (sx_setR 9 (exr_cal (Φ := fun d => ∃ c : Int, d = .int c ∧ 0 ≤ c ∧ c < 1000003) (C__law_draw T) (hr.mono (by decide)) (EA.R (ea_cons (ex_add (ex_mul (ex_add (ex_var 4) (ex_mul ex_int (ex_var 7))) (ex_add (ex_var 4) ex_int)) (ex_mul ex_int (ex_var 7))) (ea_cons (ex_add (ex_mod (ex_var 7) ex_int) ex_int) (ea_cons ex_int ea_nil))) ⟨_, _, _, rfl, by omega, by omega, by omega, fun r a b => ⟨r, rfl, a, b⟩⟩)) ?_)
        rintro d ⟨b2, rfl, hb3, hb4⟩
        refine sxs_one (sx_append 5 (ex_mod (ex_add (ex_mul (ex_var 8) ex_int) (ex_var 9)) (ex_var 3)) ?_ ?_)
        · exact ⟨ns ++ [(b1 * 1000003 + b2) % base], left, _, _, _, by rw [List.map_append]; rfl, by simp [hl], fun n hn => by
            rcases List.mem_append.mp hn with hn | hn
            · exact hns n hn
            · simp at hn; subst hn; exact ⟨Int.emod_nonneg _ (by omega), Int.emod_lt_of_pos _ h3⟩⟩
        · simp [hl, sizeLine_eq]; omega
    · rintro Γ' ⟨ns, left, s7, s8, s9, rfl, hl, hns⟩
      rw [rangeD_length] at hl
      refine freezeL 5 ?_
      refine sxs_one (sx_ret (ex_var 5) ?_)
      exact q ns hl hns
end
end DL
set_option maxHeartbeats 1000000
/-! LF2: the law's words, facts, conditions, deeds, rules: what holds of whatever is drawn -/
namespace DL
open PySem PySem.Spec PyProof.Rows L2
def WordsOk (ws : List Str) : Prop := ws.length = 6 ∧ ∀ x ∈ ws, NameS x
def kindsAll : List Str := ["has", "first", "last", "pair", "from", "over", "marked", "any"]
def KindsOk (ks : List Str) : Prop := ks ≠ [] ∧ ks.length ≤ 20 ∧ ∀ k ∈ ks, k ∈ kindsAll
def DrawsOk (least : Nat) (ns : List Int) : Prop := least ≤ ns.length ∧ ns.length ≤ 1000 ∧ ∀ n ∈ ns, 0 ≤ n
structure UOk (S : List Str) (c : Cn) : Prop where
  u : c.isU = true
  f : ∀ a ∈ c.facts, a.fine S
  n : c.toks.length ≤ 10
  d : c.deep ≤ 3
def S__law_words : Spec := fun ds Φ => ∃ (sc : List Int) (at_ : Int), ds = [.lst (sc.map .int), .int at_] ∧ 0 ≤ at_ ∧ ∀ ws, WordsOk ws → Φ (.lst (ws.map .str))
def S__law_fact : Spec := fun ds Φ => ∃ (n : Int) (ws ks : List Str), ds = [.int n, .lst (ws.map .str), .tup (ks.map .str)] ∧ 0 ≤ n ∧ WordsOk ws ∧ KindsOk ks ∧ ∀ c : Cn, c.isFact = true → c.fine (ws.take 3) → Φ c.encL
def S__law_unit : Spec := fun ds Φ => ∃ (ns : List Int) (ws ks : List Str), ds = [.lst (ns.map .int), .lst (ws.map .str), .tup (ks.map .str)] ∧ DrawsOk 3 ns ∧ WordsOk ws ∧ KindsOk ks ∧ ∀ c : Cn, UOk (ws.take 3) c → Φ c.encL
def S__law_condition : Spec := fun ds Φ => ∃ (ns : List Int) (ws ks : List Str), ds = [.lst (ns.map .int), .lst (ws.map .str), .tup (ks.map .str)] ∧ DrawsOk 5 ns ∧ WordsOk ws ∧ KindsOk ks ∧ ∀ c : Cn, c.Ok (ws.take 3) → Φ c.encL
def S__law_deeds : Spec := fun ds Φ => ∃ (ns : List Int) (ws : List Str), ds = [.lst (ns.map .int), .lst (ws.map .str)] ∧ DrawsOk 4 ns ∧ WordsOk ws ∧ ∀ l : List Dd, 1 ≤ l.length → l.length ≤ 3 → (∀ d ∈ l, d.fine) → Φ (.lst (l.map Dd.encL))
def S__law_rules : Spec := fun ds Φ => ∃ (sc : List Int) (at_ many : Int) (ws ks : List Str), ds = [.lst (sc.map .int), .int at_, .lst (ws.map .str), .int many, .tup (ks.map .str)] ∧ 0 ≤ at_ ∧ 0 ≤ many ∧ many ≤ 1000 ∧ WordsOk ws ∧ KindsOk ks ∧
  ∀ rs : List Ru, rs.length = many.toNat → (∀ r ∈ rs, r.Ok (ws.take 3)) → Φ (.lst (rs.map Ru.encL))
/-! the mathematics -/
theorem eqS_str (a b : Str) : eqS (.str a) (.str b) = decide (a = b) := by
  show decide (V.str a = V.str b) = _
  by_cases h : a = b
  · subst h; simp
  · rw [decide_eq_false h, decide_eq_false]; intro z; cases z; exact h rfl
theorem eqS_int (a b : Int) : eqS (.int a) (.int b) = decide (a = b) := by
  show decide (V.int a = V.int b) = _
  by_cases h : a = b
  · subst h; simp
  · rw [decide_eq_false h, decide_eq_false]; intro z; cases z; exact h rfl
theorem words_at {ws : List Str} {i : Int} (k : Nat) (h0 : 0 ≤ i) (h1 : i < (k : Int)) (hk : k ≤ ws.length) : ∃ x, x ∈ ws.take k ∧ atI (ws.map D.str) i = some (.str x) := by
  obtain ⟨n, rfl⟩ : ∃ n : Nat, i = (n : Int) := ⟨i.toNat, by omega⟩
  have hn : n < ws.length := by omega
  have hk2 : n < k := by omega
  refine ⟨ws[n], ?_, atI_nat (by simp [hn])⟩
  rw [List.mem_take_iff_getElem]
  exact ⟨n, by omega, rfl⟩
theorem list_at {xs : List D} {i : Int} (h0 : 0 ≤ i) (h1 : i < (xs.length : Int)) : ∃ x, x ∈ xs ∧ atI xs i = some x := by
  obtain ⟨n, rfl⟩ : ∃ n : Nat, i = (n : Int) := ⟨i.toNat, by omega⟩
  have hn : n < xs.length := by omega
  exact ⟨xs[n], List.getElem_mem hn, atI_nat (List.getElem?_eq_getElem hn)⟩
theorem size_texts (v : Int) (h : v = 0 ∨ v = 1 ∨ v = 9 ∨ v = 10 ∨ v = 500 ∨ v = 99998 ∨ v = 99999) : SizeS (Str.ofString (toString v)) := by
  rcases h with rfl | rfl | rfl | rfl | rfl | rfl | rfl <;> decide +kernel
theorem atI_drop {sc : List Int} (n : Nat) : cutD (sc.map D.int) (some (n : Int)) none = (sc.drop n).map D.int := by
  unfold cutD
  rw [HT.sIx_nat, HT.sIx_none, List.length_map]
  by_cases h : n ≤ sc.length
  · rw [Nat.min_eq_left h, List.map_drop, List.take_of_length_le]
    simp
  · rw [Nat.min_eq_right (by omega)]
    simp [List.drop_eq_nil_of_le (show sc.length ≤ n by omega)]
theorem take_cut {α : Type} {xs : List α} (n : Nat) : cutD xs none (some (n : Int)) = xs.take n := by
  unfold cutD
  rw [HT.sIx_nat, HT.sIx_none, List.drop_zero, Nat.sub_zero, List.take_eq_take_iff]
  omega
theorem DrawsOk.at {least : Nat} {ns : List Int} (h : DrawsOk least ns) (i : Nat) (hi : i < least) : ∃ v : Int, 0 ≤ v ∧ atI (ns.map D.int) (i : Int) = some (.int v) := by
  obtain ⟨h1, h2, h3⟩ := h
  obtain ⟨v, hv, e⟩ := atI_ints (sc := ns) (k := (i : Int)) (by omega) (by omega)
  exact ⟨v, h3 v hv, e⟩
theorem DrawsOk.drop {least : Nat} {ns : List Int} (h : DrawsOk least ns) (n : Nat) : DrawsOk (least - n) (ns.drop n) := by
  obtain ⟨h1, h2, h3⟩ := h
  exact ⟨by rw [List.length_drop]; omega, by rw [List.length_drop]; omega, fun x hx => h3 x (List.mem_of_mem_drop hx)⟩
theorem DrawsOk.less {least l : Nat} {ns : List Int} (h : DrawsOk least ns) (hl : l ≤ least) : DrawsOk l ns := ⟨Nat.le_trans hl h.1, h.2.1, h.2.2⟩
theorem fact_facts {c : Cn} (h : c.isFact = true) : c.facts = [c] ∧ c.toks.length ≤ 3 ∧ c.deep = 0 ∧ c.isU = true ∧ c.isB = true := by
  cases c <;> first | (cases h; done) | exact ⟨by simp [Cn.facts], by simp [Cn.toks], by simp [Cn.deep], by simp [Cn.isU], by simp [Cn.isB]⟩
section
variable {P : Program} {w : World} {K : PySem.W.Frag} {mg : Str → Option Value} {base : Heap} (T : Tx K mg)
include T
theorem C__law_fact : Cal P w K mg base "_law_fact" 1 ["_law_draw_here", "_law_words_here", "_law_kinds"] S__law_fact := by
  refine cal_mk 0 T.d__law_fact T.g__law_fact sc__law_fact (fun _ _ _ _ _ _ us hl => match us, hl with | [_, _, _], _ => rfl) (fun ds Φ h => ?_) (fun cdv A outer s H Ew E ds Φ hr hN h => ?_)
  · obtain ⟨n, ws, ks, rfl, _⟩ := h; rfl
  · obtain ⟨n, ws, ks, rfl, h0, hw, hk, q⟩ := h
    show SXs _ E (_ :: _) _ _
    have hkl : 0 < ks.length := List.length_pos_iff.mpr hk.1
    obtain ⟨k, hkm, hkat⟩ := words_at (ws := ks) (i := n % (ks.map D.str).length) ks.length (by simp; exact Int.emod_nonneg _ (by omega)) (by simp; exact Int.emod_lt_of_pos _ (by omega)) (Nat.le_refl _)
    rw [List.take_length] at hkm
    have hkk := hk.2.2 k hkm
    obtain ⟨o, ho, hoat⟩ := words_at (ws := ws) (i := n / 11 % 3) 3 (by omega) (by omega) (by rw [hw.1]; decide)
    obtain ⟨u, hu, huat⟩ := words_at (ws := ws) (i := n / 33 % 3) 3 (by omega) (by omega) (by rw [hw.1]; decide)
    have hoN := hw.2 o (List.mem_of_mem_take ho)
    have huN := hw.2 u (List.mem_of_mem_take hu)
    refine sxs_cons (sx_set 3 (ex_ixT (ex_var 2) (ex_mod (ex_var 0) (ex_lenT (ex_var 2) T.b_len) (by simp; omega)) hkat) ?_)
    refine sxs_cons (sx_par2 4 5 (em_im (ex_ixL (ex_var 1) (ex_mod (ex_fdiv (ex_var 0) ex_int) ex_int) hoat) (em_im (ex_ixL (ex_var 1) (ex_mod (ex_fdiv (ex_var 0) ex_int) ex_int) huat) (em_nil ⟨_, _, rfl, ?_⟩))))
    refine sxs_cons (sx_if (et_eq (ex_var 3) ex_str) (fun h => ?_) (fun h => sxs_nil ?_))
    · exact sxs_one (sx_ret (ex_tup (ea_cons ex_str ea_nil)) (q .any rfl trivial))
    refine sxs_cons (sx_if (et_eq (ex_var 3) ex_str) (fun h => ?_) (fun h => sxs_nil ?_))
    · obtain ⟨z, hz, hzat⟩ := list_at (xs := [.int 0, .int 1, .int 9, .int 10, .int 500, .int 99998, .int 99999]) (i := n / 11 % 7) (by omega) (by simp; omega)
      have hz2 : ∃ v : Int, z = .int v ∧ (v = 0 ∨ v = 1 ∨ v = 9 ∨ v = 10 ∨ v = 500 ∨ v = 99998 ∨ v = 99999) := by
        simp only [List.mem_cons, List.not_mem_nil, or_false] at hz
        rcases hz with rfl | rfl | rfl | rfl | rfl | rfl | rfl <;> exact ⟨_, rfl, by decide⟩
      obtain ⟨v, rfl, hv⟩ := hz2
      refine sxs_one (sx_ret (ex_tup (ea_cons ex_str (ea_cons (ex_strI (ex_ixT (ex_tup ?_) (ex_mod (ex_fdiv (ex_var 0) ex_int) ex_int) hzat) T.b_str ?_) ea_nil))) (q (.over _) rfl (size_texts v hv)))
      · exact ea_consts
      · rcases hv with rfl | rfl | rfl | rfl | rfl | rfl | rfl <;> decide
    refine sxs_cons (sx_if (et_eq (ex_var 3) ex_str) (fun h => ?_) (fun h => sxs_nil ?_))
    · exact sxs_one (sx_ret (ex_tup (ea_cons ex_str (ea_cons (ex_var 4) (ea_cons (ex_var 5) ea_nil)))) (q (.pair o u) rfl ⟨hoN, huN, ho, hu⟩))
    refine sxs_cons (sx_if (et_eq (ex_var 3) ex_str) (fun h => ?_) (fun h => sxs_nil ?_))
    · obtain ⟨f, hf, hfat⟩ := words_at (ws := ws) (i := 1 + n / 11 % 5) 6 (by omega) (by omega) (by rw [hw.1]; decide)
      exact sxs_one (sx_ret (ex_tup (ea_cons ex_str (ea_cons (ex_ixL (ex_var 1) (ex_add ex_int (ex_mod (ex_fdiv (ex_var 0) ex_int) ex_int)) hfat) ea_nil))) (q (.frm f) rfl (hw.2 f (List.mem_of_mem_take hf))))
    rename_i h1 h2 h3
    simp only [eqS_str, decide_eq_false_iff_not] at h h1 h2 h3
    obtain ⟨m, hm, hmat⟩ := words_at (ws := ws) (i := n / 11 % 4) 4 (by omega) (by omega) (by rw [hw.1]; decide)
    have hmN := hw.2 m (List.mem_of_mem_take hm)
    by_cases hmk : k = "marked"
    · subst hmk
      exact sxs_one (sx_ret (ex_tup (ea_cons (ex_var 3) (ea_cons (ex_if (d := .str m) (et_eq (ex_var 3) ex_str) (fun _ => ex_ixL (ex_var 1) (ex_mod (ex_fdiv (ex_var 0) ex_int) ex_int) hmat) (fun z => absurd z (by rw [eqS_str]; decide +kernel))) ea_nil))) (q (.marked m) rfl hmN))
    · refine sxs_one (sx_ret (ex_tup (ea_cons (ex_var 3) (ea_cons (ex_if (d := .str o) (et_eq (ex_var 3) ex_str) (fun z => absurd z (by rw [eqS_str]; simpa using hmk)) (fun _ => ex_var 4)) ea_nil))) ?_)
      simp only [kindsAll, List.mem_cons, List.not_mem_nil, or_false] at hkk
      rcases hkk with rfl | rfl | rfl | rfl | rfl | rfl | rfl | rfl
      · exact q (.has o) rfl ⟨hoN, ho⟩
      · exact q (.first o) rfl ⟨hoN, ho⟩
      · exact q (.last o) rfl ⟨hoN, ho⟩
      · exact absurd rfl h3
      · exact absurd rfl h
      · exact absurd rfl h2
      · exact absurd rfl hmk
      · exact absurd rfl h1
theorem C__law_unit : Cal P w K mg base "_law_unit" 2 ["_law_draws", "_law_words_here", "_law_kinds"] S__law_unit := by
  refine cal_mk 1 T.d__law_unit T.g__law_unit sc__law_unit (fun _ _ _ _ _ _ us hl => match us, hl with | [_, _, _], _ => rfl) (fun ds Φ h => ?_) (fun cdv A outer s H Ew E ds Φ hr hN h => ?_)
  · obtain ⟨ns, ws, ks, rfl, _⟩ := h; rfl
  · obtain ⟨ns, ws, ks, rfl, hd, hw, hk, q⟩ := h
    show SXs _ E (_ :: _) _ _
    obtain ⟨d0, h0, a0⟩ := hd.at 0 (by decide)
    obtain ⟨d1, h1, a1⟩ := hd.at 1 (by decide)
    obtain ⟨d2, h2, a2⟩ := hd.at 2 (by decide)
    refine sxs_cons (sx_setR 3 (exr_cal (Φ := fun d => ∃ c : Cn, d = c.encL ∧ c.isFact = true ∧ c.fine (ws.take 3)) (C__law_fact T) (hr.mono (by decide)) (EA.R (ea_cons (ex_ixL (ex_var 0) ex_int a0) (ea_cons (ex_var 1) (ea_cons (ex_var 2) ea_nil))) ⟨d0, ws, ks, rfl, h0, hw, hk, fun c hc hf => ⟨c, rfl, hc, hf⟩⟩)) ?_)
    rintro d ⟨c, rfl, hc, hf⟩
    obtain ⟨f1, f2, f3, f4, f5⟩ := fact_facts hc
    refine sxs_cons (sx_if (et_eq (ex_mod (ex_ixL (ex_var 0) ex_int a1) ex_int) ex_int) (fun h => ?_) (fun h => sxs_nil ?_))
    · refine sxs_one (sx_ret (ex_tup (ea_cons ex_str (ea_cons (ex_var 3) ea_nil))) (q (.not c) ⟨?_, ?_, ?_, ?_⟩))
      · simpa [Cn.isU] using f4
      · intro a ha
        rw [Cn.facts, f1] at ha
        simp at ha; subst ha; exact hf
      · rw [Cn.toks]; simp; omega
      · rw [Cn.deep, f3]; decide
    refine sxs_cons (sx_if (et_eq (ex_mod (ex_ixL (ex_var 0) ex_int a1) ex_int) ex_int) (fun h => ?_) (fun h => sxs_nil ?_))
    · have key : ∀ (b : Bool) (c' : Cn), c'.isFact = true → c'.fine (ws.take 3) → UOk (ws.take 3) (.br (if b then .or [c, c'] else .and [c, c'])) ∧ UOk (ws.take 3) (.not (.br (if b then .or [c, c'] else .and [c, c']))) := fun b c' hc' hf' => by
        obtain ⟨g1, g2, g3, g4, g5⟩ := fact_facts hc'
        have k1 : (Cn.br (if b then .or [c, c'] else .and [c, c'])).facts = [c, c'] := by cases b <;> simp [Cn.facts, Cn.factsL, f1, g1]
        have k2 : (Cn.br (if b then .or [c, c'] else .and [c, c'])).toks.length ≤ 9 := by cases b <;> (simp [Cn.toks, Cn.toksL]; omega)
        have k3 : (Cn.br (if b then .or [c, c'] else .and [c, c'])).deep = 2 := by cases b <;> simp [Cn.deep, Cn.deepL, f3, g3]
        have k4 : (Cn.br (if b then .or [c, c'] else .and [c, c'])).isU = true := by cases b <;> simp [Cn.isU, Cn.isE, Cn.allU, Cn.allB, f4, g4, f5, g5]
        have k5 : ∀ a ∈ [c, c'], a.fine (ws.take 3) := fun a ha => by
          simp at ha
          rcases ha with rfl | rfl
          · exact hf
          · exact hf'
        refine ⟨⟨k4, by rw [k1]; exact k5, by omega, by omega⟩, ⟨by rw [Cn.isU]; exact k4, by rw [Cn.facts, k1]; exact k5, by rw [Cn.toks]; simp; omega, by rw [Cn.deep]; omega⟩⟩
      refine sxs_cons (sx_setR 4 (Φ := fun d => ∃ (c' : Cn), d = (if decide (d1 / 5 % 2 = 0) = true then Cn.or [c, c'] else Cn.and [c, c']).encL ∧ c'.isFact = true ∧ c'.fine (ws.take 3)) (exr_tup (ear_c (ex_if (d := .str (if decide (d1 / 5 % 2 = 0) = true then "or" else "and")) (et_eq (ex_mod (ex_fdiv (ex_ixL (ex_var 0) ex_int a1) ex_int) ex_int) ex_int) (fun h => ?_) (fun h => ?_)) (ear_cons (Φ := fun d => ∃ c' : Cn, d = .lst [c.encL, c'.encL] ∧ c'.isFact = true ∧ c'.fine (ws.take 3)) ?_ fun d hd2 => ear_nil ?_))) ?_)
      · rw [eqS_int] at h; rw [if_pos h]; exact ex_str
      · rw [eqS_int] at h; rw [if_neg (by rw [h]; decide)]; exact ex_str
      · refine exr_lst (ear_c (ex_var 3) (ear_cons (Φ := fun d => ∃ c' : Cn, d = c'.encL ∧ c'.isFact = true ∧ c'.fine (ws.take 3)) (exr_cal (C__law_fact T) (hr.mono (by decide)) (EA.R (ea_cons (ex_ixL (ex_var 0) ex_int a2) (ea_cons (ex_var 1) (ea_cons (ex_var 2) ea_nil))) ⟨d2, ws, ks, rfl, h2, hw, hk, fun c hc hf => ⟨c, rfl, hc, hf⟩⟩)) ?_))
        rintro d ⟨c', rfl, hc', hf'⟩
        exact ear_nil ⟨by simp [sizeLine_eq], c', rfl, hc', hf'⟩
      · obtain ⟨c', rfl, hc', hf'⟩ := hd2
        refine ⟨by simp [sizeLine_eq], c', ?_, hc', hf'⟩
        by_cases hb : decide (d1 / 5 % 2 = 0) = true
        · rw [if_pos hb, if_pos hb, Cn.encL, encLs_map]; rfl
        · rw [if_neg hb, if_neg hb, Cn.encL, encLs_map]; rfl
      rintro d ⟨c', rfl, hc', hf'⟩
      obtain ⟨k1, k2⟩ := key (decide (d1 / 5 % 2 = 0)) c' hc' hf'
      by_cases hb : d1 / 10 % 2 = 0
      · refine sxs_one (sx_ret (ex_if (d := (Cn.br (if decide (d1 / 5 % 2 = 0) = true then Cn.or [c, c'] else Cn.and [c, c'])).encL) (et_eq (ex_mod (ex_fdiv (ex_ixL (ex_var 0) ex_int a1) ex_int) ex_int) ex_int) (fun h => ?_) (fun h => ?_)) (q _ k1))
        · rw [Cn.encL]; exact ex_tup (ea_cons ex_str (ea_cons (ex_var 4) ea_nil))
        · rw [eqS_int, decide_eq_true hb] at h; cases h
      · refine sxs_one (sx_ret (ex_if (d := (Cn.not (Cn.br (if decide (d1 / 5 % 2 = 0) = true then Cn.or [c, c'] else Cn.and [c, c']))).encL) (et_eq (ex_mod (ex_fdiv (ex_ixL (ex_var 0) ex_int a1) ex_int) ex_int) ex_int) (fun h => ?_) (fun h => ?_)) (q _ k2))
        · rw [eqS_int, decide_eq_false hb] at h; cases h
        · rw [Cn.encL, Cn.encL]; exact ex_tup (ea_cons ex_str (ea_cons (ex_tup (ea_cons ex_str (ea_cons (ex_var 4) ea_nil))) ea_nil))
    · exact sxs_one (sx_ret (ex_var 3) (q c ⟨f4, by rw [f1]; intro a ha; simp at ha; subst ha; exact hf, by omega, by omega⟩))
omit T in
theorem b2 {S : List Str} {c : Cn} (h : UOk S c) : c.isB = true := by
  have := h.u
  cases c <;> simp_all [Cn.isU, Cn.isB]
omit T in
theorem e2 {S : List Str} {c : Cn} (h : UOk S c) : c.isE = true := by
  have := h.u
  cases c <;> simp_all [Cn.isU, Cn.isE]
omit T in
theorem Cn.Ok.of_unit {S : List Str} {c : Cn} (h : UOk S c) : c.Ok S := ⟨e2 h, h.f, by have := h.n; omega, by have := h.d; omega⟩
omit T in
theorem ok_all {S : List Str} {a b c : Cn} (ha : UOk S a) (hb : UOk S b) (hc : UOk S c) : (Cn.and [a, b]).Ok S ∧ (Cn.or [a, b]).Ok S ∧ (Cn.or [Cn.and [a, b], c]).Ok S ∧ (Cn.or [c, Cn.and [a, b]]).Ok S ∧ (Cn.and [a, b, c]).Ok S := by
  have fab : ∀ x ∈ a.facts ++ b.facts, x.fine S := fun x hx => by
    rcases List.mem_append.mp hx with h | h
    · exact ha.f x h
    · exact hb.f x h
  have a1 := ha.n
  have a2 := hb.n
  have a3 := hc.n
  have d1 := ha.d
  have d2 := hb.d
  have d3 := hc.d
  refine ⟨⟨?_, ?_, ?_, ?_⟩, ⟨?_, ?_, ?_, ?_⟩, ⟨?_, ?_, ?_, ?_⟩, ⟨?_, ?_, ?_, ?_⟩, ⟨?_, ?_, ?_, ?_⟩⟩
  all_goals first
    | (simp [Cn.isE, Cn.allU, Cn.allB, Cn.isB, ha.u, hb.u, hc.u, b2 ha, b2 hb, b2 hc]; done)
    | (simp [Cn.toks, Cn.toksL]; omega)
    | (simp only [Cn.deep, Cn.deepL]; omega)
    | (intro x hx
       simp only [Cn.facts, Cn.factsL, List.append_nil] at hx
       simp only [List.mem_append] at hx fab
       first
         | exact fab x hx
         | (rcases hx with h | h
            · first | exact fab x h | exact hc.f x h | exact ha.f x h
            · first | exact fab x h | exact hc.f x h | (rcases h with h | h; exact hb.f x h; exact hc.f x h)))
theorem C__law_condition : Cal P w K mg base "_law_condition" 3 ["_law_draws", "_law_words_here", "_law_kinds"] S__law_condition := by
  refine cal_mk 2 T.d__law_condition T.g__law_condition sc__law_condition (fun _ _ _ _ _ _ us hl => match us, hl with | [_, _, _], _ => rfl) (fun ds Φ h => ?_) (fun cdv A outer s H Ew E ds Φ hr hN h => ?_)
  · obtain ⟨ns, ws, ks, rfl, _⟩ := h; rfl
  · obtain ⟨ns, ws, ks, rfl, hd, hw, hk, q⟩ := h
    show SXs _ E (_ :: _) _ _
    obtain ⟨d4, h4, a4⟩ := hd.at 4 (by decide)
    have e1 := atI_drop (sc := ns) 1
    have e2 := atI_drop (sc := ns) 2
    refine sxs_cons (sx_par2 3 4 (em_imR (exr_cal (Φ := fun d => ∃ c : Cn, d = c.encL ∧ UOk (ws.take 3) c) (C__law_unit T) (hr.mono (by decide)) (EA.R (ea_cons (ex_var 0) (ea_cons (ex_var 1) (ea_cons (ex_var 2) ea_nil))) ⟨ns, ws, ks, rfl, hd.less (by decide), hw, hk, fun c hc => ⟨c, rfl, hc⟩⟩)) fun d hd1 => ?_))
    obtain ⟨a, rfl, ha⟩ := hd1
    refine em_imR (exr_cal (Φ := fun d => ∃ c : Cn, d = c.encL ∧ UOk (ws.take 3) c) (C__law_unit T) (hr.mono (by decide)) (EA.R (ea_cons (EX.to (ex_sliceL (l := some 1) (h := none) (ex_var 0) ex_int trivial) (congrArg D.lst e1)) (ea_cons (ex_var 1) (ea_cons (ex_var 2) ea_nil))) ⟨ns.drop 1, ws, ks, rfl, (hd.drop 1).less (by decide), hw, hk, fun c hc => ⟨c, rfl, hc⟩⟩)) fun d hd1 => ?_
    obtain ⟨b, rfl, hb⟩ := hd1
    refine em_nil ⟨_, _, rfl, ?_⟩
    refine sxs_cons (sx_setR 5 (exr_cal (Φ := fun d => ∃ c : Cn, d = c.encL ∧ UOk (ws.take 3) c) (C__law_unit T) (hr.mono (by decide)) (EA.R (ea_cons (EX.to (ex_sliceL (l := some 2) (h := none) (ex_var 0) ex_int trivial) (congrArg D.lst e2)) (ea_cons (ex_var 1) (ea_cons (ex_var 2) ea_nil))) ⟨ns.drop 2, ws, ks, rfl, (hd.drop 2).less (by decide), hw, hk, fun c hc => ⟨c, rfl, hc⟩⟩)) ?_)
    rintro d ⟨c, rfl, hc⟩
    obtain ⟨k1, k2, k3, k4, k5⟩ := ok_all ha hb hc
    refine sxs_cons (sx_set 6 (ex_tup (ea_cons (ex_var 3) (ea_cons (ex_var 3) (ea_cons (ex_tup (ea_cons ex_str (ea_cons (ex_lst (ea_cons (ex_var 3) (ea_cons (ex_var 4) ea_nil))) ea_nil))) (ea_cons (ex_tup (ea_cons ex_str (ea_cons (ex_lst (ea_cons (ex_var 3) (ea_cons (ex_var 4) ea_nil))) ea_nil))) (ea_cons (ex_tup (ea_cons ex_str (ea_cons (ex_lst (ea_cons (ex_tup (ea_cons ex_str (ea_cons (ex_lst (ea_cons (ex_var 3) (ea_cons (ex_var 4) ea_nil))) ea_nil))) (ea_cons (ex_var 5) ea_nil))) ea_nil))) ea_nil)))))) ?_)
    obtain ⟨z, hz, hzat⟩ := list_at (xs := [a.encL, a.encL, .tup [.str "and", .lst [a.encL, b.encL]], .tup [.str "or", .lst [a.encL, b.encL]], .tup [.str "or", .lst [.tup [.str "and", .lst [a.encL, b.encL]], c.encL]]] ++ [.tup [.str "or", .lst [c.encL, .tup [.str "and", .lst [a.encL, b.encL]]]], .tup [.str "and", .lst [a.encL, b.encL, c.encL]]]) (i := d4 % 7) (by omega) (by simp; omega)
    refine sxs_one (sx_ret (ex_ixT (ex_addT (ex_var 6) (ex_tup (ea_cons (ex_tup (ea_cons ex_str (ea_cons (ex_lst (ea_cons (ex_var 5) (ea_cons (ex_tup (ea_cons ex_str (ea_cons (ex_lst (ea_cons (ex_var 3) (ea_cons (ex_var 4) ea_nil))) ea_nil))) ea_nil))) ea_nil))) (ea_cons (ex_tup (ea_cons ex_str (ea_cons (ex_lst (ea_cons (ex_var 3) (ea_cons (ex_var 4) (ea_cons (ex_var 5) ea_nil)))) ea_nil))) ea_nil)))) (ex_mod (ex_ixL (ex_var 0) ex_int a4) ex_int) hzat) ?_)
    simp only [List.cons_append, List.nil_append, List.mem_cons, List.not_mem_nil, or_false] at hz
    have en : ∀ l : List Cn, (Cn.and l).encL = .tup [.str "and", .lst (l.map Cn.encL)] := fun l => by rw [Cn.encL, encLs_map]
    have eo : ∀ l : List Cn, (Cn.or l).encL = .tup [.str "or", .lst (l.map Cn.encL)] := fun l => by rw [Cn.encL, encLs_map]
    rcases hz with rfl | rfl | rfl | rfl | rfl | rfl | rfl
    · exact q a (.of_unit ha)
    · exact q a (.of_unit ha)
    · have := q _ k1; rw [en] at this; exact this
    · have := q _ k2; rw [eo] at this; exact this
    · have := q _ k3; rw [eo] at this; simp only [List.map, en] at this; exact this
    · have := q _ k4; rw [eo] at this; simp only [List.map, en] at this; exact this
    · have := q _ k5; rw [en] at this; exact this
theorem C__law_deeds : Cal P w K mg base "_law_deeds" 1 ["_law_draws", "_law_words_here"] S__law_deeds := by
  refine cal_mk 0 T.d__law_deeds T.g__law_deeds sc__law_deeds (fun _ _ _ _ _ _ us hl => match us, hl with | [_, _], _ => rfl) (fun ds Φ h => ?_) (fun cdv A outer s H Ew E ds Φ hr hN h => ?_)
  · obtain ⟨ns, ws, rfl, _⟩ := h; rfl
  · obtain ⟨ns, ws, rfl, hd, hw, q⟩ := h
    show SXs _ E (_ :: _) _ _
    obtain ⟨d3, h3, a3⟩ := hd.at 3 (by decide)
    refine sxs_cons (sx_setO 2 (eo_lst ea_nil) ?_)
    obtain ⟨m, hm⟩ : ∃ m : Nat, 1 + d3 % 3 = (m : Int) := ⟨(1 + d3 % 3).toNat, by omega⟩
    have hm1 : 1 ≤ m ∧ m ≤ 3 := by omega
    have ecut : cutD (ns.map D.int) none (some (1 + d3 % 3)) = (ns.take m).map D.int := by rw [hm, take_cut, List.map_take]
    have hlen : (ns.take m).length = m := by rw [List.length_take]; have := hd.1; omega
    refine sxs_cons (sx_for (ds := (ns.take m).map D.int) (wk_list (EX.to (ex_sliceL (l := none) (h := some (1 + d3 % 3)) (ex_var 0) trivial (ex_add ex_int (ex_mod (ex_ixL (ex_var 0) ex_int a3) ex_int))) (congrArg D.lst ecut)))
      (fun i Γ' => ∃ (l : List Dd) (s3 s4 : Sl), Γ' = [.im (.lst (ns.map .int)), .im (.lst (ws.map .str)), .ol (l.map Dd.encL), s3, s4] ∧ l.length = i ∧ ∀ d ∈ l, d.fine) ⟨[], .un, .un, rfl, rfl, fun d h => by cases h⟩ ?_ ?_ rfl)
    · rintro i d Γ' hi ⟨l, s3, s4, rfl, hl, hf⟩
      have hi2 : i < m := by
        have := (List.getElem?_eq_some_iff.mp hi).1
        rw [List.length_map, hlen] at this; exact this
      rw [List.getElem?_map] at hi
      obtain ⟨n, hn, rfl⟩ := Option.map_eq_some_iff.mp hi
      have hn0 : 0 ≤ n := hd.2.2 n (List.mem_of_mem_take (List.mem_of_getElem? hn))
      refine ⟨_, tg_name 3, ?_⟩
      obtain ⟨z, hz, hzat⟩ := words_at (ws := (["file", "file", "mark", "unmark", "pass", "mark", "stop"] : List Str)) (i := n % 7) 7 (by omega) (by omega) (by decide)
      obtain ⟨x, hx, hxat⟩ := words_at (ws := ws) (i := n / 7 % 4 + n / 28 % 2) 6 (by omega) (by omega) (by rw [hw.1]; decide)
      have hxN := hw.2 x (List.mem_of_mem_take hx)
      refine sxs_cons (sx_set 4 (ex_ixT (ex_tup ?_) (ex_mod (ex_var 3) ex_int) hzat) ?_)
      · exact ea_consts
      have fin : ∀ dd : Dd, dd.fine → dd.encL = (if z = "stop" then .tup [.str z] else .tup [.str z, .str x]) → ∃ (l' : List Dd) (t3 t4 : Sl), ([.im (.lst (ns.map .int)), .im (.lst (ws.map .str)), .ol (l.map Dd.encL ++ [if z = "stop" then .tup [.str z] else .tup [.str z, .str x]]), .im (.int n), .im (.str z)] : List Sl) = [.im (.lst (ns.map .int)), .im (.lst (ws.map .str)), .ol (l'.map Dd.encL), t3, t4] ∧ l'.length = i + 1 ∧ ∀ d ∈ l', d.fine := fun dd hdd he =>
        ⟨l ++ [dd], _, _, by rw [List.map_append, ← he]; rfl, by simp [hl], fun d h => by
          rcases List.mem_append.mp h with h | h
          · exact hf d h
          · simp at h; subst h; exact hdd⟩
      by_cases hs : z = "stop"
      · refine sxs_one (sx_append 2 (ex_if (d := .tup [.str z]) (et_eq (ex_var 4) ex_str) (fun _ => ex_tup (ea_cons (ex_var 4) ea_nil)) (fun h => absurd h (by rw [eqS_str, decide_eq_true hs]; decide))) ?_ ?_)
        · have := fin .stop trivial (by rw [if_pos hs, hs]; rfl)
          rw [if_pos hs] at this
          exact this
        · simp [hl, sizeLine_eq]; omega
      · refine sxs_one (sx_append 2 (ex_if (d := .tup [.str z, .str x]) (et_eq (ex_var 4) ex_str) (fun h => absurd h (by rw [eqS_str, decide_eq_false hs]; decide)) (fun _ => ex_tup (ea_cons (ex_var 4) (ea_cons (ex_ixL (ex_var 1) (ex_add (ex_mod (ex_fdiv (ex_var 3) ex_int) ex_int) (ex_mod (ex_fdiv (ex_var 3) ex_int) ex_int)) hxat) ea_nil)))) ?_ ?_)
        rotate_left
        · simp [hl, sizeLine_eq]; omega
        rw [if_neg hs] at fin
        simp only [List.take, List.mem_cons, List.not_mem_nil, or_false] at hz
        rcases hz with rfl | rfl | rfl | rfl | rfl | rfl | rfl
        · exact fin (.file x) hxN rfl
        · exact fin (.file x) hxN rfl
        · exact fin (.mark x) hxN rfl
        · exact fin (.unmark x) hxN rfl
        · exact fin (.pass x) hxN rfl
        · exact fin (.mark x) hxN rfl
        · exact absurd rfl hs
    · rintro Γ' ⟨l, s3, s4, rfl, hl, hf⟩
      rw [List.length_map, hlen] at hl
      refine freezeL 2 ?_
      exact sxs_one (sx_ret (ex_var 2) (q l (by omega) (by omega) hf))
theorem C__law_rules : Cal P w K mg base "_law_rules" 4 ["_law_script", "_law_at", "_law_words_here", "_law_many", "_law_kinds"] S__law_rules := by
  refine cal_mk 3 T.d__law_rules T.g__law_rules sc__law_rules (fun _ _ _ _ _ _ us hl => match us, hl with | [_, _, _, _, _], _ => rfl) (fun ds Φ h => ?_) (fun cdv A outer s H Ew E ds Φ hr hN h => ?_)
  · obtain ⟨sc, at_, many, ws, ks, rfl, _⟩ := h; rfl
  · obtain ⟨sc, at_, many, ws, ks, rfl, h0, h1, h2, hw, hk, q⟩ := h
    show SXs _ E (_ :: _) _ _
    refine sxs_cons (sx_setO 5 (eo_lst ea_nil) ?_)
    refine sxs_cons (sx_for (wk_range1 T.b_range (ex_var 3)) (fun i Γ' => ∃ (rs : List Ru) (s6 s7 : Sl), Γ' = [.im (.lst (sc.map .int)), .im (.int at_), .im (.lst (ws.map .str)), .im (.int many), .im (.tup (ks.map .str)), .ol (rs.map Ru.encL), s6, s7] ∧ rs.length = i ∧ ∀ r ∈ rs, r.Ok (ws.take 3)) ⟨[], .un, .un, rfl, rfl, fun r h => by cases h⟩ ?_ ?_ rfl)
    · rintro i d Γ' hi ⟨rs, s6, s7, rfl, hl, hf⟩
      have hi2 : i < many.toNat := by
        have := (List.getElem?_eq_some_iff.mp hi).1
        rwa [rangeD_length] at this
      rw [rangeD_get 0 _ i hi2] at hi
      cases hi
      refine ⟨_, tg_name 6, ?_⟩
      have e6 : (10 : Int) ^ 6 + 3 = 1000003 := by decide
      refine sxs_cons (sx_setR 7 (exr_cal (Φ := fun d => ∃ ns : List Int, d = .lst (ns.map .int) ∧ DrawsOk 10 ns) (C__law_digits T) (hr.mono (by decide)) (EA.R (ea_cons (ex_var 0) (ea_cons (ex_add (ex_var 1) (ex_var 6)) (ea_cons ex_int (ea_cons (ex_add (ex_pow ex_int ex_int) ex_int) ea_nil)))) ⟨sc, _, _, _, rfl, by omega, by omega, by omega, by decide, by decide, fun ns hns hall => ⟨ns, rfl, by rw [hns]; decide, by rw [hns]; decide, fun n hn => (hall n hn).1⟩⟩)) ?_)
      rintro d ⟨ns, rfl, hd⟩
      have e5 := atI_drop (sc := ns) 5
      refine sxs_one (sx_appendR 5 (Φ := fun d => ∃ r : Ru, d = r.encL ∧ r.Ok (ws.take 3)) (exr_tup (ear_cons (Φ := fun d => ∃ c : Cn, d = c.encL ∧ c.Ok (ws.take 3)) (exr_cal (C__law_condition T) (hr.mono (by decide)) (EA.R (ea_cons (ex_var 7) (ea_cons (ex_var 2) (ea_cons (ex_var 4) ea_nil))) ⟨ns, ws, ks, rfl, hd.less (by decide), hw, hk, fun c hc => ⟨c, rfl, hc⟩⟩)) fun d hd1 => ?_)) ?_ ?_)
      · obtain ⟨c, rfl, hc⟩ := hd1
        refine ear_cons (Φ := fun d => ∃ l : List Dd, d = .lst (l.map Dd.encL) ∧ 1 ≤ l.length ∧ l.length ≤ 3 ∧ ∀ d ∈ l, d.fine) (exr_cal (C__law_deeds T) (hr.mono (by decide)) (EA.R (ea_cons (EX.to (ex_sliceL (l := some 5) (h := none) (ex_var 7) ex_int trivial) (congrArg D.lst e5)) (ea_cons (ex_var 2) ea_nil)) ⟨ns.drop 5, ws, rfl, (hd.drop 5).less (by decide), hw, fun l l1 l2 l3 => ⟨l, rfl, l1, l2, l3⟩⟩)) fun d hd2 => ?_
        obtain ⟨l, rfl, l1, l2, l3⟩ := hd2
        exact ear_nil ⟨by simp [sizeLine_eq], (c, l), rfl, hc, l3, l1, by show l.length ≤ 6; omega⟩
      · rintro d ⟨r, rfl, hr1⟩
        exact ⟨rs ++ [r], _, _, by rw [List.map_append]; rfl, by simp [hl], fun x h => by
          rcases List.mem_append.mp h with h | h
          · exact hf x h
          · simp at h; subst h; exact hr1⟩
      · simp [hl, sizeLine_eq]; omega
    · rintro Γ' ⟨rs, s6, s7, rfl, hl, hf⟩
      rw [rangeD_length] at hl
      refine freezeL 5 ?_
      exact sxs_one (sx_ret (ex_var 5) (q rs hl hf))
end
end DL
set_option maxHeartbeats 1000000
/-! LF3: the law's six names -/
namespace DL
open PySem PySem.Spec PyProof.Rows L2
def someWords : List Str := ["if", "then", "and", "or", "not", "any", "from", "has", "stop", "file"]
theorem someWords_name : ∀ x ∈ someWords, NameS x := by decide +kernel
section
variable {P : Program} {w : World} {K : PySem.W.Frag} {mg : Str → Option Value} {base : Heap} (T : Tx K mg)
include T
theorem C__law_words : Cal P w K mg base "_law_words" 4 ["_law_script", "_law_at"] S__law_words := by
  refine cal_mk 3 T.d__law_words T.g__law_words sc__law_words (fun _ _ _ _ _ _ us hl => match us, hl with | [_, _], _ => rfl) (fun ds Φ h => ?_) (fun cdv A outer s H Ew E ds Φ hr hN h => ?_)
  · obtain ⟨sc, at_, rfl, _⟩ := h; rfl
  · obtain ⟨sc, at_, rfl, h0, q⟩ := h
    show SXs _ E (_ :: _) _ _
    have e2704 : (26 * 26 * 4 : Int) = 2704 := by decide
    refine sxs_cons (sx_parT (is := [2, 3]) (em_imR (exr_cal (Φ := fun d => ∃ ns : List Int, d = .lst (ns.map .int) ∧ ns.length = 7 ∧ ∀ n ∈ ns, 0 ≤ n ∧ n < 2704) (C__law_digits T) (hr.mono (by decide)) (EA.R (ea_cons (ex_var 0) (ea_cons (ex_var 1) (ea_cons ex_int (ea_cons (ex_mul (ex_mul ex_int ex_int) ex_int) ea_nil)))) ⟨sc, _, _, _, rfl, h0, by omega, by omega, by omega, by omega, fun ns hns hall => ⟨ns, rfl, hns, fun n hn => hall n hn⟩⟩)) fun d hd => ?_) (pgn_cons 2 (pgn_cons 3 pgn_nil (hx := .inr (by kernel_rfl)))))
    obtain ⟨ns, rfl, hl, hns⟩ := hd
    refine em_own (eo_lst ea_nil) (em_nil ⟨rfl, ?_⟩)
    have draw : ∀ i : Nat, i < 7 → ∃ v : Int, 0 ≤ v ∧ v < 2704 ∧ atI (ns.map D.int) (i : Int) = some (.int v) := fun i hi => by
      obtain ⟨v, hv, e⟩ := atI_ints (sc := ns) (k := (i : Int)) (by omega) (by omega)
      exact ⟨v, (hns v hv).1, (hns v hv).2, e⟩
    obtain ⟨d6, h6, h6', a6⟩ := draw 6 (by decide)
    refine sxs_cons (sx_for (wk_range1 T.b_range ex_int) (fun i Γ' => ∃ (ws : List Str) (s4 s5 s6 s7 : Sl), Γ' = [.im (.lst (sc.map .int)), .im (.int at_), .im (.lst (ns.map .int)), .ol (ws.map .str), s4, s5, s6, s7, .un, .un] ∧ ws.length = i ∧ ∀ x ∈ ws, NameS x)
      ⟨[], .un, .un, .un, .un, rfl, rfl, fun x hx => by cases hx⟩ ?_ ?_ rfl)
    · rintro i d Γ' hi ⟨ws, s4, s5, s6, s7, rfl, hw, hws⟩
      have hi2 : i < 6 := by
        have := (List.getElem?_eq_some_iff.mp hi).1
        rw [rangeD_length] at this
        exact this
      have hi3 : i < (6 : Int).toNat := hi2
      rw [rangeD_get 0 _ i hi3] at hi
      cases hi
      refine ⟨_, tg_name 4, ?_⟩
      obtain ⟨di, hdi, hdi', ai⟩ := draw i (by omega)
      have ai' : atI (ns.map D.int) ((0 : Int) + (i : Int)) = some (.int di) := by rw [Int.zero_add]; exact ai
      obtain ⟨c1, hc1, ac1⟩ := abc_at (i := (d6 + 4 * (0 + (i : Int))) % 26) (by omega) (by omega)
      obtain ⟨c2, hc2, ac2⟩ := abc_at (i := di % 26) (by omega) (by omega)
      obtain ⟨nm, hn3⟩ := name_three' hc1 hc2 (1 + di / 676) (by omega)
      have nm2 := name_mul' nm (4 + di % 7) (by omega) (by omega)
      refine sxs_cons (sx_set 5 (ex_ixS (sa := abc) ex_str (ex_mod (ex_add (ex_ixL (ex_var 2) ex_int a6) (ex_mul ex_int (ex_var 4))) ex_int) ac1 (by decide)) ?_)
      refine sxs_cons (sx_set 6 (ex_ixS (sa := abc) ex_str (ex_mod (ex_ixL (ex_var 2) (ex_var 4) ai') ex_int) ac2 (by decide)) ?_)
      refine sxs_cons (sx_set 7 (ex_sliceS (l := none) (h := some (1 + di / 676)) (ex_addS (ex_addS (ex_var 5) (ex_var 6) (by simp [len_one, sizeLine_eq])) (ex_var 5) (by simp [len_app, len_one, sizeLine_eq])) trivial (ex_add ex_int (ex_fdiv (ex_ixL (ex_var 2) (ex_var 4) ai') ex_int)) (by simp [len_app, len_one, sizeLine_eq])) ?_)
      generalize cutS ((⟨#[c1]⟩ : Str) ++ (⟨#[c2]⟩ : Str) ++ (⟨#[c1]⟩ : Str)) none (some (1 + di / 676)) = x at nm hn3 nm2 ⊢
      have fin : ∀ y : Str, NameS y → ∃ (ws' : List Str) (t4 t5 t6 t7 : Sl), ([.im (.lst (sc.map .int)), .im (.int at_), .im (.lst (ns.map .int)), .ol (ws.map .str ++ [.str y]), .im (.int (0 + (i : Int))), .im (.str ⟨#[c1]⟩), .im (.str ⟨#[c2]⟩), .im (.str x), .un, .un] : List Sl) = [.im (.lst (sc.map .int)), .im (.int at_), .im (.lst (ns.map .int)), .ol (ws'.map .str), t4, t5, t6, t7, .un, .un] ∧ ws'.length = i + 1 ∧ ∀ x ∈ ws', NameS x := fun y hy =>
        ⟨ws ++ [y], _, _, _, _, by rw [List.map_append]; rfl, by simp [hw], fun z hz => by
          rcases List.mem_append.mp hz with h | h
          · exact hws z h
          · simp at h; subst h; exact hy⟩
      by_cases hb : d6 / 26 % 3 = 0
      · refine sxs_one (sx_append 3 (ex_if (d := .str _) (et_eq (ex_mod (ex_fdiv (ex_ixL (ex_var 2) ex_int a6) ex_int) ex_int) ex_int) (fun _ => ex_sliceS (l := none) (h := some (4 + di % 7)) (ex_mulS (ex_var 7) ex_int (mulOk10 (by omega))) trivial (ex_add ex_int (ex_mod (ex_ixL (ex_var 2) (ex_var 4) ai') ex_int)) ?_) (fun h => absurd h (by rw [eqS_int, decide_eq_true hb]; decide))) ?_ ?_ (hv := .inr (.inl (by kernel_rfl))))
        · have e := cd_mul10 x (by have := nm.1; rw [cd_len]; omega)
          rw [cd_len, e, sizeLine_eq]
          have := nm.2.1
          simp only [List.replicate, List.flatten_cons, List.flatten_nil, List.length_append, List.length_nil]; omega
        · exact fin _ nm2
        · simp [hw, sizeLine_eq]; omega
      · refine sxs_one (sx_append 3 (ex_if (d := .str _) (et_eq (ex_mod (ex_fdiv (ex_ixL (ex_var 2) ex_int a6) ex_int) ex_int) ex_int) (fun h => absurd h (by rw [eqS_int, decide_eq_false hb]; decide)) (fun _ => ex_var 7)) ?_ ?_ (hv := .inr (.inl (by kernel_rfl))))
        · exact fin _ nm
        · simp [hw, sizeLine_eq]; omega
    · rintro Γ' ⟨ws, s4, s5, s6, s7, rfl, hw, hws⟩
      rw [rangeD_length] at hw
      have hw6 : ws.length = 6 := hw
      refine freezeL 3 ?_
      refine sxs_cons (sx_set 8 (ex_lst (ds := someWords.map .str) ea_consts) ?_)
      have hall : (ws.map D.str).all flatD = true := by rw [List.all_map]; exact List.all_eq_true.mpr fun _ _ => rfl
      refine sxs_cons (sx_if (ew_and (et_eq (ex_mod (ex_fdiv (ex_ixL (ex_var 2) ex_int a6) ex_int) ex_int) ex_int) (fun _ => ew_and1 (et_val (ex_all (bs := someWords.map fun x => !inF (.str x) (ws.map .str)) rfl (EX.to (ex_map 9 (fun d => .bl (!inF d (ws.map .str))) (wk_list (ex_var 8)) (fun s H C cl fp i d hd => ?_) ?_) ?_) T.b_all)))).et (fun h => ?_) (fun h => sxs_nil ?_))
      · rw [List.getElem?_map] at hd
        obtain ⟨x, hx, rfl⟩ := Option.map_eq_some_iff.mp hd
        exact ex_niL (ex_var 9) (ex_var 3 (hv := .inr (.inl (by kernel_rfl)))) rfl hall
      · rw [List.length_map]; decide
      · rw [List.map_map, List.map_map]; rfl
      · refine sxs_cons (sx_set 1 (ex_mod (ex_ixL (ex_var 2) ex_int a6) ex_int) ?_)
        obtain ⟨m, hm⟩ : ∃ m : Nat, d6 % 8 = (m : Int) := ⟨(d6 % 8).toNat, by omega⟩
        have hm8 : m < 8 := by omega
        obtain ⟨z, hz, az⟩ := words_at (ws := someWords) (i := (d6 % 8 + 3) % 10) 10 (by omega) (by omega) (by decide)
        obtain ⟨A, hA⟩ : ∃ A : List Str, cutD someWords (some (d6 % 8)) (some (d6 % 8 + 2)) = A := ⟨_, rfl⟩
        obtain ⟨B, hB⟩ : ∃ B : List Str, cutD ws (some 2) (some 4) = B := ⟨_, rfl⟩
        obtain ⟨C, hC⟩ : ∃ C : List Str, cutD ws (some 5) none = C := ⟨_, rfl⟩
        have eA : cutD (someWords.map D.str) (some (d6 % 8)) (some (d6 % 8 + 2)) = A.map D.str := by rw [cutD_map, hA]
        have eB : cutD (ws.map D.str) (some 2) (some 4) = B.map D.str := by rw [cutD_map, hB]
        have eC : cutD (ws.map D.str) (some 5) none = C.map D.str := by rw [cutD_map, hC]
        have lA : A.length = 2 := by
          rw [← hA, hm]
          have := cutD_nat someWords m (m + 2)
          rw [show ((m + 2 : Nat) : Int) = (m : Int) + 2 by omega] at this
          rw [this]
          have hl : someWords.length = 10 := rfl
          rw [List.length_take, List.length_drop, hl]; omega
        have lB : B.length = 2 := by
          rw [← hB]
          have := cutD_nat ws 2 4
          rw [show cutD ws (some 2) (some 4) = cutD ws (some ((2 : Nat) : Int)) (some ((4 : Nat) : Int)) from rfl, this, List.length_take, List.length_drop, hw6]; omega
        have lC : C.length = 1 := by
          rw [← hC]
          rw [show cutD ws (some 5) none = cutD ws (some ((5 : Nat) : Int)) none from rfl, cutD_from, List.length_drop, hw6]
        refine sxs_one (sx_set 3 (EX.to (y := .lst ((A ++ B ++ [z] ++ C).map .str)) (ex_addL (ex_addL (ex_addL (EX.to (ex_sliceL (l := some (d6 % 8)) (h := some (d6 % 8 + 2)) (ex_var 8) (ex_var 1) (ex_add (ex_var 1) ex_int)) (congrArg D.lst eA)) (EX.to (ex_sliceL (l := some 2) (h := some 4) (ex_var 3 (hv := .inr (.inl (by kernel_rfl)))) ex_int ex_int) (congrArg D.lst eB)) ?_) (ex_lst (ea_cons (ex_ixL (ex_var 8) (ex_mod (ex_add (ex_var 1) ex_int) ex_int) az) ea_nil)) ?_) (EX.to (ex_sliceL (l := some 5) (h := none) (ex_var 3 (hv := .inr (.inl (by kernel_rfl)))) ex_int trivial) (congrArg D.lst eC)) ?_) ?_) ?_ (hx := .inr (by kernel_rfl)))
        · simp [lA, lB, lC, sizeLine_eq]
        · simp [lA, lB, lC, sizeLine_eq]
        · simp [lA, lB, lC, sizeLine_eq]
        · simp
        · refine sxs_one (sx_ret (ex_var 3 (hv := .inr (.inl (by kernel_rfl)))) (q _ ⟨by simp [lA, lB, lC], fun x hx => ?_⟩))
          simp only [List.mem_append, List.mem_singleton] at hx
          rcases hx with ((hx | hx) | hx) | hx
          · rw [← hA] at hx; exact someWords_name x (mem_cutD hx)
          · rw [← hB] at hx; exact hws x (mem_cutD hx)
          · subst hx; exact someWords_name _ (List.mem_of_mem_take hz)
          · rw [← hC] at hx; exact hws x (mem_cutD hx)
      · exact sxs_one (sx_ret (ex_var 3 (hv := .inr (.inl (by kernel_rfl)))) (q ws ⟨hw6, hws⟩))
end
end DL
set_option maxHeartbeats 1000000
/-! MA2: == of rows of texts; conditions' words -/
namespace DL
open PySem PySem.Spec PyProof.Rows L2
def TokS (x : Str) : Prop := PyData.strOk x = true
theorem tok_of {x : Str} (h : ∀ c ∈ cd x, c < 1114112) : TokS x := by
  unfold TokS PyData.strOk
  rw [← Array.all_toList]
  exact List.all_eq_true.mpr fun c hc => decide_eq_true (h c hc)
theorem NameS.tok {x : Str} (h : NameS x) : TokS x := tok_of fun c hc => by
  have := h.2.2 c hc
  unfold isLet at this
  simp at this; omega
theorem SizeS.tok {x : Str} (h : SizeS x) : TokS x := tok_of fun c hc => by
  have := h.2.2.1 c hc
  omega
theorem toPs_strs : ∀ ws : List Str, toPs (ws.map .str) = ws.map .str
  | [] => by rw [List.map_nil, toPs]; rfl
  | x :: r => by rw [List.map_cons, toPs, toPs_strs r, toP]; rfl
theorem can_strs : ∀ {ws : List Str}, (∀ x ∈ ws, TokS x) → PyData.canLayAll0 (ws.map .str) = true
  | [], _ => by rw [List.map_nil, PyData.canLayAll0]
  | x :: r, h => by
    rw [List.map_cons, PyData.canLayAll0, PyData.canLay0, can_strs fun y hy => h y (List.mem_cons_of_mem _ hy)]
    rw [show PyData.strOk x = true from h x List.mem_cons_self]; rfl
theorem depth_strs : ∀ ws : List Str, PyData.depthAll (ws.map .str) = 0
  | [] => by rw [List.map_nil, PyData.depthAll]
  | x :: r => by rw [List.map_cons, PyData.depthAll, PyData.depth, depth_strs r]; rfl
theorem pures_strs : ∀ ws : List Str, puresD (ws.map .str) = true
  | [] => by rw [List.map_nil, puresD]
  | x :: r => by rw [List.map_cons, puresD, pureD, pures_strs r]; rfl
theorem pure_strs (ws : List Str) : pureD (.lst (ws.map .str)) = true := by rw [pureD, pures_strs]
theorem shaped_strs {ws : List Str} (h : ∀ x ∈ ws, TokS x) : SeqAt.shaped (toP (.lst (ws.map .str))) = true := by
  unfold SeqAt.shaped
  rw [toP, toPs_strs, PyData.canLay0, can_strs h, PyData.depth, depth_strs]
  rfl
theorem eqv_strs : ∀ (xs ys : List Str), PyData.eqvAll (xs.map .str) (ys.map .str) = decide (xs = ys)
  | [], [] => by simp [PyData.eqvAll]
  | [], y :: ys => by simp [PyData.eqvAll]
  | x :: xs, [] => by simp [PyData.eqvAll]
  | x :: xs, y :: ys => by
    simp only [List.map_cons, PyData.eqvAll, PyData.eqv, eqv_strs xs ys]
    by_cases h : x = y
    · subst h; simp
    · have : (x == y) = false := beq_eq_false_iff_ne.mpr h
      rw [this]; simp [h]
theorem eqv_lstrs (xs ys : List Str) : PyData.eqv (toP (.lst (xs.map .str))) (toP (.lst (ys.map .str))) = decide (xs = ys) := by
  rw [toP, toP, toPs_strs, toPs_strs, PyData.eqv, eqv_strs]

/-! conditions -/
theorem isE_of_B : ∀ {c : Cn}, c.isB = true → c.isE = true := fun {c} h => by cases c <;> simp_all [Cn.isB, Cn.isE]
theorem isB_of_U : ∀ {c : Cn}, c.isU = true → c.isB = true := fun {c} h => by cases c <;> simp_all [Cn.isB, Cn.isU]
theorem isE_of_U {c : Cn} (h : c.isU = true) : c.isE = true := isE_of_B (isB_of_U h)
theorem allU_mem : ∀ {l : List Cn}, Cn.allU l = true → ∀ c ∈ l, c.isU = true
  | [], _, c, h => by cases h
  | a :: r, q, c, h => by
    rw [Cn.allU, Bool.and_eq_true] at q
    rcases List.mem_cons.mp h with rfl | h
    · exact q.1
    · exact allU_mem q.2 c h
theorem allB_mem : ∀ {l : List Cn}, Cn.allB l = true → ∀ c ∈ l, c.isB = true
  | [], _, c, h => by cases h
  | a :: r, q, c, h => by
    rw [Cn.allB, Bool.and_eq_true] at q
    rcases List.mem_cons.mp h with rfl | h
    · exact q.1
    · exact allB_mem q.2 c h
theorem toksL_cons (w : Str) (c d : Cn) (r : List Cn) : Cn.toksL w (c :: d :: r) = c.toks ++ w :: Cn.toksL w (d :: r) := by rw [Cn.toksL]; intro z; cases z
theorem toksL_snoc (w : Str) : ∀ (l : List Cn) (c : Cn), l ≠ [] → Cn.toksL w (l ++ [c]) = Cn.toksL w l ++ w :: c.toks
  | [], c, h => absurd rfl h
  | [a], c, _ => by rw [List.cons_append, List.nil_append, toksL_cons, Cn.toksL, Cn.toksL]
  | a :: b :: r, c, _ => by
    have := toksL_snoc w (b :: r) c (List.cons_ne_nil _ _)
    rw [List.cons_append, List.cons_append, toksL_cons, ← List.cons_append, this, toksL_cons]
    simp
theorem toksL_take_len (w : Str) : ∀ (l : List Cn) (i : Nat), (Cn.toksL w (l.take i)).length ≤ (Cn.toksL w l).length
  | [], i => by simp
  | [a], 0 => by simp [Cn.toksL]
  | [a], i + 1 => by simp
  | a :: b :: r, 0 => by simp [Cn.toksL]
  | a :: b :: r, 1 => by rw [toksL_cons]; simp [Cn.toksL]
  | a :: b :: r, i + 2 => by
    have := toksL_take_len w (b :: r) (i + 1)
    rw [List.take_succ_cons] at this ⊢
    rw [List.take_succ_cons, toksL_cons, toksL_cons, List.length_append, List.length_append, List.length_cons, List.length_cons]
    omega
theorem toksL_mem_len (w : Str) : ∀ (l : List Cn) (c : Cn), c ∈ l → c.toks.length ≤ (Cn.toksL w l).length
  | [], c, h => by cases h
  | [a], c, h => by simp at h; subst h; simp [Cn.toksL]
  | a :: b :: r, c, h => by
    rw [toksL_cons, List.length_append, List.length_cons]
    rcases List.mem_cons.mp h with rfl | h
    · omega
    · have := toksL_mem_len w (b :: r) c h
      omega
theorem deepL_mem : ∀ (l : List Cn) (c : Cn), c ∈ l → c.deep ≤ Cn.deepL l
  | [], c, h => by cases h
  | a :: r, c, h => by
    rw [Cn.deepL]
    rcases List.mem_cons.mp h with rfl | h
    · omega
    · have := deepL_mem r c h
      omega
theorem factsL_mem : ∀ (l : List Cn) (c : Cn), c ∈ l → ∀ f ∈ c.facts, f ∈ Cn.factsL l
  | [], c, h => by cases h
  | a :: r, c, h => fun f hf => by
    rw [Cn.factsL]
    rcases List.mem_cons.mp h with rfl | h
    · exact List.mem_append_left _ hf
    · exact List.mem_append_right _ (factsL_mem r c h f hf)
/-- facts with names, sizes in order -/
def Cn.nice : Cn → Prop
  | .any => True | .has n => NameS n | .first n => NameS n | .last n => NameS n | .pair a b => NameS a ∧ NameS b | .frm n => NameS n | .over s => SizeS s | .marked n => NameS n
  | _ => False
theorem Cn.fine.nice {S : List Str} {c : Cn} (h : c.fine S) : c.nice := by
  cases c <;> first | exact h | exact h.1 | exact ⟨h.1, h.2.1⟩
/-- a condition that can be read, of any depth, length -/
structure Cn.Wf (c : Cn) : Prop where
  e : c.isE = true
  f : ∀ a ∈ c.facts, a.nice
theorem Cn.Ok.wf {S : List Str} {c : Cn} (h : c.Ok S) : c.Wf := ⟨h.e, fun a ha => (h.f a ha).nice⟩
theorem Cn.Wf.not {c : Cn} (h : (Cn.not c).Wf) : c.Wf := ⟨isE_of_U (by have := h.e; rw [Cn.isE] at this; exact this), fun a ha => h.f a (by rw [Cn.facts]; exact ha)⟩
theorem Cn.Wf.br {c : Cn} (h : (Cn.br c).Wf) : c.Wf := ⟨by have := h.e; rw [Cn.isE] at this; exact this, fun a ha => h.f a (by rw [Cn.facts]; exact ha)⟩
theorem Cn.Wf.and {l : List Cn} (h : (Cn.and l).Wf) : 2 ≤ l.length ∧ ∀ c ∈ l, c.Wf := by
  have e := h.e
  rw [Cn.isE, Bool.and_eq_true, decide_eq_true_eq] at e
  exact ⟨e.1, fun c hc => ⟨isE_of_U (allU_mem e.2 c hc), fun a ha => h.f a (by rw [Cn.facts]; exact factsL_mem l c hc a ha)⟩⟩
theorem Cn.Wf.or {l : List Cn} (h : (Cn.or l).Wf) : 2 ≤ l.length ∧ ∀ c ∈ l, c.Wf := by
  have e := h.e
  rw [Cn.isE, Bool.and_eq_true, decide_eq_true_eq] at e
  exact ⟨e.1, fun c hc => ⟨isE_of_B (allB_mem e.2 c hc), fun a ha => h.f a (by rw [Cn.facts]; exact factsL_mem l c hc a ha)⟩⟩
theorem Cn.ind {P : Cn → Prop} (hf : ∀ c : Cn, c.isFact = true → P c) (hn : ∀ c, P c → P (.not c)) (hb : ∀ c, P c → P (.br c)) (ha : ∀ l, (∀ c ∈ l, P c) → P (.and l)) (ho : ∀ l, (∀ c ∈ l, P c) → P (.or l)) : ∀ c, P c
  | .not c => hn c (Cn.ind hf hn hb ha ho c)
  | .br c => hb c (Cn.ind hf hn hb ha ho c)
  | .and l => ha l fun c hc => have := List.sizeOf_lt_of_mem hc; Cn.ind hf hn hb ha ho c
  | .or l => ho l fun c hc => have := List.sizeOf_lt_of_mem hc; Cn.ind hf hn hb ha ho c
  | .any => hf _ rfl
  | .has _ => hf _ rfl
  | .first _ => hf _ rfl
  | .last _ => hf _ rfl
  | .pair _ _ => hf _ rfl
  | .frm _ => hf _ rfl
  | .over _ => hf _ rfl
  | .marked _ => hf _ rfl
termination_by c => sizeOf c
decreasing_by all_goals (simp_wf; try omega)
theorem nice_of_fact {c : Cn} (h : c.isFact = true) (w : c.Wf) : c.nice := by
  cases c <;> first | (cases h; done) | exact w.f _ (by simp [Cn.facts])
theorem mem_toksL {w x : Str} : ∀ {l : List Cn}, x ∈ Cn.toksL w l → x = w ∨ ∃ c ∈ l, x ∈ c.toks
  | [], h => by simp [Cn.toksL] at h
  | [a], h => by rw [Cn.toksL] at h; exact .inr ⟨a, by simp, h⟩
  | a :: b :: r, h => by
    rw [toksL_cons, List.mem_append, List.mem_cons] at h
    rcases h with h | h | h
    · exact .inr ⟨a, by simp, h⟩
    · exact .inl h
    · rcases mem_toksL h with h | ⟨c, hc, h⟩
      · exact .inl h
      · exact .inr ⟨c, List.mem_cons_of_mem _ hc, h⟩
/-- a word of a condition -/
def TokN (x : Str) : Prop := NameS x ∨ SizeS x ∨ x = "(" ∨ x = ")"
theorem TokN.tok {x : Str} (h : TokN x) : TokS x := by
  rcases h with h | h | rfl | rfl
  · exact h.tok
  · exact h.tok
  · unfold TokS; decide +kernel
  · unfold TokS; decide +kernel
theorem toks_ok (c : Cn) : c.Wf → (∀ x ∈ c.toks, TokN x) ∧ c.toks ≠ [] := by
  refine Cn.ind (P := fun c => c.Wf → (∀ x ∈ c.toks, TokN x) ∧ c.toks ≠ []) (fun c hf w => ?_) (fun c ih w => ?_) (fun c ih w => ?_) (fun l ih w => ?_) (fun l ih w => ?_) c
  · have nc := nice_of_fact hf w
    have nm : ∀ s : Str, s ∈ (["any", "has", "first", "last", "pair", "from", "over", "marked"] : List Str) → NameS s := by decide +kernel
    cases c <;> first | (cases hf; done) | skip
    all_goals refine ⟨fun x hx => ?_, by rw [Cn.toks]; exact List.cons_ne_nil _ _⟩
    all_goals simp only [Cn.toks, List.mem_cons, List.not_mem_nil, or_false] at hx
    · subst hx; exact .inl (nm _ (by simp))
    · rcases hx with rfl | rfl
      · exact .inl (nm _ (by simp))
      · exact .inl nc
    · rcases hx with rfl | rfl
      · exact .inl (nm _ (by simp))
      · exact .inl nc
    · rcases hx with rfl | rfl
      · exact .inl (nm _ (by simp))
      · exact .inl nc
    · rcases hx with rfl | rfl | rfl
      · exact .inl (nm _ (by simp))
      · exact .inl nc.1
      · exact .inl nc.2
    · rcases hx with rfl | rfl
      · exact .inl (nm _ (by simp))
      · exact .inl nc
    · rcases hx with rfl | rfl
      · exact .inl (nm _ (by simp))
      · exact .inr (.inl nc)
    · rcases hx with rfl | rfl
      · exact .inl (nm _ (by simp))
      · exact .inl nc
  · refine ⟨fun x hx => ?_, by rw [Cn.toks]; exact List.cons_ne_nil _ _⟩
    rw [Cn.toks] at hx
    rcases List.mem_cons.mp hx with rfl | hx
    · exact .inl (by decide +kernel)
    · exact (ih w.not).1 x hx
  · refine ⟨fun x hx => ?_, by rw [Cn.toks]; exact List.cons_ne_nil _ _⟩
    rw [Cn.toks] at hx
    rcases List.mem_cons.mp hx with rfl | hx
    · exact .inr (.inr (.inl rfl))
    · rcases List.mem_append.mp hx with hx | hx
      · exact (ih w.br).1 x hx
      · simp at hx; subst hx; exact .inr (.inr (.inr rfl))
  · refine ⟨fun x hx => ?_, fun z => ?_⟩
    · rw [Cn.toks] at hx
      rcases mem_toksL hx with rfl | ⟨c, hc, hx⟩
      · exact .inl (by decide +kernel)
      · exact (ih c hc (w.and.2 c hc)).1 x hx
    · have := w.and.1
      match l, this with
      | a :: b :: r, _ => rw [Cn.toks, toksL_cons] at z; simp at z
  · refine ⟨fun x hx => ?_, fun z => ?_⟩
    · rw [Cn.toks] at hx
      rcases mem_toksL hx with rfl | ⟨c, hc, hx⟩
      · exact .inl (by decide +kernel)
      · exact (ih c hc (w.or.2 c hc)).1 x hx
    · have := w.or.1
      match l, this with
      | a :: b :: r, _ => rw [Cn.toks, toksL_cons] at z; simp at z
theorem inF_strs (x : Str) (ws : List Str) : inF (.str x) (ws.map .str) = decide (x ∈ ws) := by
  induction ws with
  | nil => rfl
  | cons y r ih =>
    have e : eqF (.str y) (.str x) = decide (x = y) := by
      show eqV (.str y) (.str x) = _
      by_cases h : x = y
      · subst h; simp [eqV]
      · simp [eqV, h]; exact fun z => h z.symm
    show (eqF (.str y) (.str x) || inF (.str x) (r.map .str)) = _
    rw [e, ih]
    by_cases h : x = y
    · simp [h]
    · simp [h]
end DL
set_option maxHeartbeats 1000000
/-! MA3: rules as rows of words, as texts -/
namespace DL
open PySem PySem.Spec PyProof.Rows L2
theorem deedToks_cons (a b : Dd) (r : List Dd) : deedToks (a :: b :: r) = a.toks ++ ("," : Str) :: deedToks (b :: r) := by rw [deedToks]; intro z; cases z
theorem deedToks_snoc : ∀ (l : List Dd) (d : Dd), deedToks (l ++ [d]) = deedToks l ++ (if l = [] then ([] : List Str) else [("," : Str)]) ++ d.toks
  | [], d => by simp [deedToks]
  | [a], d => by rw [List.cons_append, List.nil_append, deedToks_cons]; simp [deedToks]
  | a :: b :: r, d => by
    have := deedToks_snoc (b :: r) d
    rw [List.cons_append, List.cons_append, deedToks_cons, ← List.cons_append, this, deedToks_cons]
    simp
theorem deedToks_len : ∀ (l : List Dd), (deedToks l).length ≤ 3 * l.length
  | [] => by simp [deedToks]
  | [a] => by cases a <;> simp [deedToks, Dd.toks]
  | a :: b :: r => by
    have := deedToks_len (b :: r)
    have h2 : a.toks.length ≤ 2 := by cases a <;> simp [Dd.toks]
    rw [deedToks]
    · simp at this ⊢; omega
    · intro z; cases z
theorem Dd.toks_ok {d : Dd} (h : d.fine) : ∀ x ∈ d.toks, NameS x := by
  intro x hx
  have nm : ∀ s : Str, s ∈ (["mark", "unmark", "file", "pass", "stop"] : List Str) → NameS s := by decide +kernel
  cases d with
  | mark n => simp [Dd.toks] at hx; rcases hx with rfl | rfl; exact nm _ (by simp); exact h
  | unmark n => simp [Dd.toks] at hx; rcases hx with rfl | rfl; exact nm _ (by simp); exact h
  | file n => simp [Dd.toks] at hx; rcases hx with rfl | rfl; exact nm _ (by simp); exact h
  | pass n => simp [Dd.toks] at hx; rcases hx with rfl | rfl; exact nm _ (by simp); exact h
  | stop => simp [Dd.toks] at hx; subst hx; exact nm _ (by simp)
theorem deedToks_mem {x : Str} : ∀ {l : List Dd}, x ∈ deedToks l → x = "," ∨ ∃ d ∈ l, x ∈ d.toks
  | [], h => by simp [deedToks] at h
  | [a], h => by rw [deedToks] at h; exact .inr ⟨a, by simp, h⟩
  | a :: b :: r, h => by
    rw [deedToks] at h
    · rw [List.mem_append, List.mem_cons] at h
      rcases h with h | h | h
      · exact .inr ⟨a, by simp, h⟩
      · exact .inl h
      · rcases deedToks_mem h with h | ⟨c, hc, h⟩
        · exact .inl h
        · exact .inr ⟨c, List.mem_cons_of_mem _ hc, h⟩
    · intro z; cases z
/-- any word of a row -/
def TokR (x : Str) : Prop := TokN x ∨ x = ","
theorem TokR.len {x : Str} (h : TokR x) : 1 ≤ x.length ∧ x.length ≤ 10 := by
  rcases h with (h | h | rfl | rfl) | rfl
  · rw [cd_len]; exact ⟨h.1, h.2.1⟩
  · rw [cd_len]; exact ⟨h.1, by have := h.2.1; omega⟩
  · decide
  · decide
  · decide
theorem TokR.signs {x : Str} (h : TokR x) : ∀ c ∈ cd x, isLet c = true ∨ (48 ≤ c ∧ c ≤ 57) ∨ c = 40 ∨ c = 41 ∨ c = 44 := by
  intro c hc
  rcases h with (h | h | rfl | rfl) | rfl
  · exact .inl (h.2.2 c hc)
  · exact .inr (.inl (h.2.2.1 c hc))
  · have : c ∈ ([40] : List Nat) := hc
    simp at this; exact .inr (.inr (.inl this))
  · have : c ∈ ([41] : List Nat) := hc
    simp at this; exact .inr (.inr (.inr (.inl this)))
  · have : c ∈ ([44] : List Nat) := hc
    simp at this; exact .inr (.inr (.inr (.inr this)))
/-- what the law needs of a rule -/
structure Ru.Wf (r : Ru) : Prop where
  c : r.1.Wf
  d : ∀ d ∈ r.2, d.fine
  n : 1 ≤ r.2.length ∧ r.2.length ≤ 6
  k : r.1.toks.length ≤ 40 ∧ r.1.deep ≤ 6
theorem Ru.Ok.wf {S : List Str} {r : Ru} (h : r.Ok S) : r.Wf := ⟨h.c.wf, h.d, h.n, h.c.n, h.c.d⟩
theorem Ru.toks_ok {r : Ru} (h : r.Wf) : (∀ x ∈ r.toks, TokR x) ∧ 3 ≤ r.toks.length ∧ r.toks.length ≤ 60 := by
  have h1 := DL.toks_ok r.1 h.c
  have h2 := deedToks_len r.2
  have h3 := h.n
  have h4 := h.k.1
  refine ⟨fun x hx => ?_, ?_, ?_⟩
  · unfold Ru.toks at hx
    simp only [List.cons_append, List.mem_cons, List.mem_append] at hx
    rcases hx with rfl | hx | rfl | hx
    · exact .inl (.inl (by decide +kernel))
    · exact .inl (h1.1 x hx)
    · exact .inl (.inl (by decide +kernel))
    · rcases deedToks_mem hx with rfl | ⟨d, hd, hx⟩
      · exact .inr rfl
      · exact .inl (.inl (Dd.toks_ok (h.d d hd) x hx))
  · unfold Ru.toks
    have : r.1.toks.length ≠ 0 := fun z => h1.2 (List.eq_nil_of_length_eq_zero z)
    simp; omega
  · unfold Ru.toks; simp; omega
theorem sum_le {l : List Str} {n : Nat} (h : ∀ x ∈ l, x.length ≤ n) : (l.map (·.length)).sum ≤ n * l.length := by
  induction l with
  | nil => simp
  | cons a r ih =>
    have := ih fun x hx => h x (List.mem_cons_of_mem _ hx)
    have := h a List.mem_cons_self
    rw [List.map_cons, List.sum_cons, List.length_cons, Nat.mul_add]; omega
theorem join_len {sep : Str} {l : List Str} {n : Nat} (h : ∀ x ∈ l, x.length ≤ n) : (Txt.join sep l).length ≤ (n + sep.length) * l.length := by
  rw [TL.join_eq]
  cases l with
  | nil => simp [Str.join, Str.empty, Str.length]
  | cons a r =>
    rw [len_join_cons]
    have := sum_le h
    rw [List.length_cons] at this
    rw [List.length_cons, Nat.add_mul, Nat.mul_comm sep.length, Nat.add_mul r.length]
    omega
def rowOf (r : Ru) : Str := Txt.join " " r.toks
def textOf (rs : List Ru) : Str := Txt.join "\n" (rs.map rowOf)
theorem rowOf_len {r : Ru} (h : r.Wf) : (rowOf r).length ≤ 660 := by
  obtain ⟨h1, h2, h3⟩ := Ru.toks_ok h
  have := join_len (sep := " ") (l := r.toks) (n := 10) fun x hx => (h1 x hx).len.2
  have e : (" " : Str).length = 1 := rfl
  rw [e] at this
  have : (10 + 1) * r.toks.length ≤ 660 := by omega
  unfold rowOf; omega
end DL
set_option maxHeartbeats 1000000
/-! MA4: what a condition says of a letter; what becomes of a letter -/
namespace DL
open PySem PySem.Spec PyProof.Rows L2
def sizeV (s : Str) : Int := ((NumText.digitsVal (cd s) : Nat) : Int)
theorem sizeV_int {s : Str} (h : SizeS s) : PySem.intText? s = some (sizeV s) ∧ s.length ≤ 640 := by
  have hl : s.length ≤ 5 := by rw [cd_len]; exact h.2.1
  have e := SX.int_S (a := cd s) (List.all_eq_true.mpr fun c hc => by have := h.2.2.1 c hc; simp; omega) (fun z => by have := h.1; rw [z] at this; simp at this) (by have := h.2.1; omega)
  rw [SX.S_tl] at e
  exact ⟨e, by omega⟩
def pairsOf (ws : List Str) : List (Str × Str) := ws.zip (ws.drop 1)
mutual
def Cn.holds (l : Let) (ms : List Str) : Cn → Bool
  | .any => true
  | .has n => decide (n ∈ l.words)
  | .first n => decide (l.words.head? = some n)
  | .last n => decide (l.words.getLast? = some n)
  | .pair a b => decide ((a, b) ∈ pairsOf l.words)
  | .frm n => decide (l.from_ = n)
  | .over s => decide (sizeV s < l.size)
  | .marked n => decide (n ∈ ms)
  | .not c => !c.holds l ms
  | .br c => c.holds l ms
  | .and cs => Cn.holdsAll l ms cs
  | .or cs => Cn.holdsAny l ms cs
def Cn.holdsAll (l : Let) (ms : List Str) : List Cn → Bool
  | [] => true
  | c :: r => c.holds l ms && Cn.holdsAll l ms r
def Cn.holdsAny (l : Let) (ms : List Str) : List Cn → Bool
  | [] => false
  | c :: r => c.holds l ms || Cn.holdsAny l ms r
end
theorem holdsAll_eq (l : Let) (ms : List Str) : ∀ cs : List Cn, Cn.holdsAll l ms cs = (cs.map fun c => c.holds l ms).all id
  | [] => by rw [Cn.holdsAll]; rfl
  | c :: r => by rw [Cn.holdsAll, holdsAll_eq l ms r]; rfl
theorem holdsAny_eq (l : Let) (ms : List Str) : ∀ cs : List Cn, Cn.holdsAny l ms cs = (cs.map fun c => c.holds l ms).any id
  | [] => by rw [Cn.holdsAny]; rfl
  | c :: r => by rw [Cn.holdsAny, holdsAny_eq l ms r]; rfl
/-- what is known of a letter so far: filed under, marks (as they came), passed on to, ended -/
structure Fa where
  files : List Str
  marks : List Str
  passes : List Str
  acts : List Nat
def addTo (xs : List Str) (n : Str) : List Str := if n ∈ xs then xs else xs ++ [n]
/-- a deed is done; none: stop -/
def Fa.deed (f : Fa) : Dd → Option Fa
  | .mark n => some { f with marks := f.marks.filter (fun m => decide (m ≠ n)) ++ [n] }
  | .unmark n => some { f with marks := f.marks.filter (fun m => decide (m ≠ n)) }
  | .file n => some { f with files := addTo f.files n }
  | .pass n => some { f with passes := addTo f.passes n }
  | .stop => none
/-- deeds; whether they have stopped -/
def Fa.deeds : Fa → List Dd → Fa × Bool
  | f, [] => (f, false)
  | f, d :: r => match f.deed d with
    | some g => g.deeds r
    | none => (f, true)
def Fa.rules (l : Let) : Nat → Fa → List Ru → Fa
  | _, f, [] => f
  | i, f, r :: rs =>
    if r.1.holds l f.marks = true then
      match ({ f with acts := f.acts ++ [i] } : Fa).deeds r.2 with
      | (g, true) => g
      | (g, false) => g.rules l (i + 1) rs
    else f.rules l (i + 1) rs
def fate (rs : List Ru) (l : Let) : Fa := Fa.rules l 0 ⟨[], [], [], []⟩ rs
end DL
set_option maxHeartbeats 1000000
/-! MA5: == and in of letters' data -/
namespace DL
open PySem PySem.Spec PyProof.Rows L2
theorem inF_bls (b : Bool) (bs : List Bool) : inF (.bl b) (bs.map .bl) = decide (b ∈ bs) := by
  induction bs with
  | nil => rfl
  | cons y r ih =>
    have e : eqF (.bl y) (.bl b) = decide (b = y) := by cases b <;> cases y <;> rfl
    show (eqF (.bl y) (.bl b) || inF (.bl b) (r.map .bl)) = _
    rw [e, ih]
    by_cases h : b = y
    · simp [h]
    · simp [h]
theorem eqS_bl (a b : Bool) : eqS (.bl a) (.bl b) = decide (a = b) := by cases a <;> cases b <;> decide
def pairD (p : Str × Str) : D := .tup [.str p.1, .str p.2]
theorem zipD_strs (xs ys : List Str) : zipD (xs.map .str) (ys.map .str) = (xs.zip ys).map pairD := by
  unfold zipD
  rw [List.zip_map, List.map_map]; rfl
theorem pure_pairs : ∀ ps : List (Str × Str), puresD (ps.map pairD) = true
  | [] => by rw [List.map_nil, puresD]
  | p :: r => by rw [List.map_cons, puresD, pure_pairs r]; simp [pairD, pureD, puresD]
theorem toPs_pairs : ∀ ps : List (Str × Str), toPs (ps.map pairD) = ps.map fun p => PyData.tuple [.str p.1, .str p.2]
  | [] => by rw [List.map_nil, toPs]; rfl
  | p :: r => by rw [List.map_cons, toPs, toPs_pairs r]; simp [pairD, toP, toPs]
theorem shaped_pair {p : Str × Str} (h1 : TokS p.1) (h2 : TokS p.2) : SeqAt.shaped (toP (pairD p)) = true := by
  unfold SeqAt.shaped
  have a : PyData.strOk p.1 = true := h1
  have b : PyData.strOk p.2 = true := h2
  simp [pairD, toP, toPs, PyData.canLay0, PyData.canLayAll0, a, b, PyData.depth, PyData.depthAll]
theorem can_pairs : ∀ {ps : List (Str × Str)}, (∀ p ∈ ps, TokS p.1 ∧ TokS p.2) → PyData.canLayAll0 (ps.map fun p => PyData.tuple [.str p.1, .str p.2]) = true
  | [], _ => by rw [List.map_nil, PyData.canLayAll0]
  | p :: r, h => by
    have a : PyData.strOk p.1 = true := (h p List.mem_cons_self).1
    have b : PyData.strOk p.2 = true := (h p List.mem_cons_self).2
    rw [List.map_cons, PyData.canLayAll0, can_pairs fun y hy => h y (List.mem_cons_of_mem _ hy)]
    simp [PyData.canLay0, PyData.canLayAll0, a, b]
theorem depth_pairs : ∀ ps : List (Str × Str), PyData.depthAll (ps.map fun p => PyData.tuple [.str p.1, .str p.2]) ≤ 1
  | [] => by rw [List.map_nil, PyData.depthAll]; exact Nat.zero_le _
  | p :: r => by
    have := depth_pairs r
    rw [List.map_cons, PyData.depthAll]
    simp [PyData.depth, PyData.depthAll]
    omega
theorem shaped_pairs {ps : List (Str × Str)} (h : ∀ p ∈ ps, TokS p.1 ∧ TokS p.2) : SeqAt.shaped (toP (.lst (ps.map pairD))) = true := by
  unfold SeqAt.shaped
  have := depth_pairs ps
  rw [toP, toPs_pairs, PyData.canLay0, can_pairs h, PyData.depth]
  simp; omega
theorem any_pairs (ps : List (Str × Str)) (a b : Str) : ((toPs (ps.map pairD)).any fun z => PyData.eqv z (toP (.tup [.str a, .str b]))) = decide ((a, b) ∈ ps) := by
  rw [toPs_pairs]
  induction ps with
  | nil => rfl
  | cons p r ih =>
    rw [List.map_cons, List.any_cons, ih]
    have e : PyData.eqv (PyData.tuple [.str p.1, .str p.2]) (toP (.tup [.str a, .str b])) = decide ((a, b) = p) := by
      obtain ⟨x, y⟩ := p
      simp only [toP, toPs, PyData.eqv, PyData.eqvAll]
      by_cases h1 : x = a
      · by_cases h2 : y = b
        · subst h1; subst h2; simp
        · have : (y == b) = false := beq_eq_false_iff_ne.mpr h2
          rw [this]; simp; intro _ z; exact absurd z.symm h2
      · have : (x == a) = false := beq_eq_false_iff_ne.mpr h1
        rw [this]; simp; intro z; exact absurd z.symm h1
    rw [e]
    by_cases h : (a, b) = p
    · simp [h]
    · simp [h]
theorem pairs_mem {ws : List Str} {p : Str × Str} (h : p ∈ pairsOf ws) : p.1 ∈ ws ∧ p.2 ∈ ws := by
  unfold pairsOf at h
  obtain ⟨a, b⟩ := p
  have := List.of_mem_zip h
  exact ⟨this.1, List.mem_of_mem_drop this.2⟩
theorem last_at {ws : List Str} (h : ws ≠ []) : ∃ x : Str, ws.getLast? = some x ∧ atI (ws.map D.str) (-1) = some (.str x) := by
  obtain ⟨x, hx⟩ : ∃ x, ws.getLast? = some x := ⟨ws.getLast h, List.getLast?_eq_some_getLast h⟩
  refine ⟨x, hx, ?_⟩
  have hl := List.length_pos_iff.mpr h
  rw [List.getLast?_eq_getElem?] at hx
  unfold atI ixN
  rw [List.length_map]
  rw [if_neg (by omega), if_pos (by omega)]
  show (ws.map D.str)[_]? = _
  rw [List.getElem?_map]
  rw [show (-1 + (ws.length : Int)).toNat = ws.length - 1 by omega, hx]; rfl
end DL
set_option maxHeartbeats 1000000
/-! MA6: the names that rules speak of; dicts as rows of keys -/
namespace DL
open PySem PySem.Spec PyProof.Rows L2
def uniq (ns : List Str) : List Str := ns.foldl addTo []
theorem uniq_snoc (a : List Str) (n : Str) : uniq (a ++ [n]) = addTo (uniq a) n := by unfold uniq; rw [List.foldl_append]; rfl
theorem addTo_len (a : List Str) (n : Str) : (addTo a n).length ≤ a.length + 1 := by
  unfold addTo; split
  · omega
  · simp
theorem uniq_len (a : List Str) : (uniq a).length ≤ a.length := by
  have : ∀ (a acc : List Str), (a.foldl addTo acc).length ≤ acc.length + a.length := fun a => by
    induction a with
    | nil => intro acc; exact Nat.le_refl _
    | cons n r ih =>
      intro acc
      have h1 := ih (addTo acc n)
      have h2 := addTo_len acc n
      rw [List.foldl_cons, List.length_cons]; omega
  have := this a []
  simpa [uniq] using this
theorem mem_addTo {a : List Str} {n x : Str} : x ∈ addTo a n ↔ x ∈ a ∨ x = n := by
  unfold addTo; split
  · rename_i h
    exact ⟨.inl, fun q => q.elim id fun e => by rw [e]; exact h⟩
  · simp
theorem nodup_addTo {a : List Str} {n : Str} (h : a.Nodup) : (addTo a n).Nodup := by
  unfold addTo; split
  · exact h
  · rename_i hn
    rw [List.nodup_append]
    exact ⟨h, by simp, fun x hx y hy => by simp at hy; subst hy; intro z; subst z; exact hn hx⟩
theorem mem_foldl_addTo {x : Str} : ∀ {a acc : List Str}, x ∈ a.foldl addTo acc ↔ x ∈ acc ∨ x ∈ a
  | [], acc => by simp
  | n :: r, acc => by
    rw [List.foldl_cons, mem_foldl_addTo, mem_addTo, List.mem_cons]
    exact ⟨fun h => by rcases h with (h | h) | h; exact .inl h; exact .inr (.inl h); exact .inr (.inr h), fun h => by rcases h with h | h | h; exact .inl (.inl h); exact .inl (.inr h); exact .inr h⟩
theorem nodup_foldl_addTo : ∀ {a acc : List Str}, acc.Nodup → (a.foldl addTo acc).Nodup
  | [], _, h => h
  | n :: r, acc, h => by rw [List.foldl_cons]; exact nodup_foldl_addTo (nodup_addTo h)
theorem mem_uniq {x : Str} {a : List Str} : x ∈ uniq a ↔ x ∈ a := by unfold uniq; rw [mem_foldl_addTo]; simp
theorem nodup_uniq (a : List Str) : (uniq a).Nodup := nodup_foldl_addTo List.nodup_nil
theorem nodup_sub_len : ∀ {a b : List Str}, a.Nodup → (∀ x ∈ a, x ∈ b) → a.length ≤ b.length
  | [], _, _, _ => Nat.zero_le _
  | x :: r, b, h, s => by
    rw [List.nodup_cons] at h
    have hx := s x List.mem_cons_self
    have := nodup_sub_len (a := r) (b := b.erase x) h.2 fun y hy => by
      have hne : y ≠ x := fun z => by subst z; exact h.1 hy
      exact (List.mem_erase_of_ne hne).mpr (s y (List.mem_cons_of_mem _ hy))
    rw [List.length_erase_of_mem hx] at this
    have hb : 0 < b.length := List.length_pos_of_mem hx
    rw [List.length_cons]; omega
/-- a dict of texts, all True -/
def kt (x : Str) : Key × D := (.inr x, .bl true)
theorem putKD_kt (ks : List Str) (n : Str) : putKD (ks.map kt) (.inr n) (.bl true) = (addTo ks n).map kt := by
  unfold putKD addTo
  have e : ((ks.map kt).any fun kv => decide (kv.1 = Sum.inr n)) = decide (n ∈ ks) := by
    rw [List.any_map]
    induction ks with
    | nil => rfl
    | cons a r ih =>
      rw [List.any_cons, ih]
      by_cases h : a = n
      · subst h; simp [kt]
      · simp [kt, h]; exact fun z => absurd z.symm h
  rw [e]
  by_cases h : n ∈ ks
  · rw [if_pos h, if_pos (by simpa using h), List.map_map]
    refine List.map_congr_left fun a _ => ?_
    show (if (Sum.inr a : Key) = Sum.inr n then ((Sum.inr a : Key), D.bl true) else kt a) = kt a
    split <;> rfl
  · rw [if_neg h, if_neg (by simpa using h), List.map_append]; rfl
theorem valD_kt (ks : List Str) (n : Str) : (valD (ks.map kt) (.inr n)).isSome = decide (n ∈ ks) := by
  unfold valD
  rw [Option.isSome_map]
  induction ks with
  | nil => rfl
  | cons a r ih =>
    rw [List.map_cons, List.find?_cons]
    by_cases h : a = n
    · subst h; simp [kt]
    · have : decide ((kt a).1 = Sum.inr n) = false := decide_eq_false fun z => h (Sum.inr.inj z)
      rw [this]
      simp only [ih, List.mem_cons]
      have : ¬ n = a := fun z => h z.symm
      simp [this]
def pt (p : Str × Str) : List Key × D := ([.inr p.1, .inr p.2], .bl true)
theorem pt_inj {p q : Str × Str} (h : (pt p).1 = (pt q).1) : p = q := by
  obtain ⟨a, b⟩ := p
  obtain ⟨c, d⟩ := q
  have h1 : ([Sum.inr a, Sum.inr b] : List Key) = [Sum.inr c, Sum.inr d] := h
  injection h1 with h2 h3
  injection h3 with h4 _
  rw [Sum.inr.inj h2, Sum.inr.inj h4]
def addP (xs : List (Str × Str)) (n : Str × Str) : List (Str × Str) := if n ∈ xs then xs else xs ++ [n]
theorem putKD_pt (ks : List (Str × Str)) (n : Str × Str) : putKD (ks.map pt) (pt n).1 (.bl true) = (addP ks n).map pt := by
  unfold putKD addP
  have e : ((ks.map pt).any fun kv => decide (kv.1 = (pt n).1)) = decide (n ∈ ks) := by
    rw [List.any_map]
    induction ks with
    | nil => rfl
    | cons a r ih =>
      rw [List.any_cons, ih]
      by_cases h : a = n
      · subst h; simp
      · have : decide ((pt a).1 = (pt n).1) = false := decide_eq_false fun z => h (pt_inj z)
        have h2 : ¬ n = a := fun z => h z.symm
        simp [this, h2]
  rw [e]
  by_cases h : n ∈ ks
  · rw [if_pos h, if_pos (by simpa using h), List.map_map]
    refine List.map_congr_left fun a _ => ?_
    show (if (pt a).1 = (pt n).1 then ((pt a).1, D.bl true) else pt a) = pt a
    split <;> rfl
  · rw [if_neg h, if_neg (by simpa using h), List.map_append]; rfl
theorem valD_pt (ks : List (Str × Str)) (n : Str × Str) : (valD (ks.map pt) (pt n).1).isSome = decide (n ∈ ks) := by
  unfold valD
  rw [Option.isSome_map]
  induction ks with
  | nil => rfl
  | cons a r ih =>
    rw [List.map_cons, List.find?_cons]
    by_cases h : a = n
    · subst h; simp
    · have : decide ((pt a).1 = (pt n).1) = false := decide_eq_false fun z => h (pt_inj z)
      rw [this]
      simp only [ih, List.mem_cons]
      have : ¬ n = a := fun z => h z.symm
      simp [this]
theorem mem_foldl_addP {x : Str × Str} : ∀ {a acc : List (Str × Str)}, x ∈ a.foldl addP acc ↔ x ∈ acc ∨ x ∈ a
  | [], acc => by simp
  | n :: r, acc => by
    have h1 : x ∈ addP acc n ↔ x ∈ acc ∨ x = n := by
      unfold addP; split
      · rename_i h; exact ⟨.inl, fun q => q.elim id fun e => by rw [e]; exact h⟩
      · simp
    rw [List.foldl_cons, mem_foldl_addP, h1, List.mem_cons]
    exact ⟨fun h => by rcases h with (h | h) | h; exact .inl h; exact .inr (.inl h); exact .inr (.inr h), fun h => by rcases h with h | h | h; exact .inl (.inl h); exact .inl (.inr h); exact .inr h⟩
def uniqP (ns : List (Str × Str)) : List (Str × Str) := ns.foldl addP []
theorem uniqP_snoc (a : List (Str × Str)) (n : Str × Str) : uniqP (a ++ [n]) = addP (uniqP a) n := by unfold uniqP; rw [List.foldl_append]; rfl
theorem mem_uniqP {x : Str × Str} {a : List (Str × Str)} : x ∈ uniqP a ↔ x ∈ a := by unfold uniqP; rw [mem_foldl_addP]; simp
theorem uniqP_len (a : List (Str × Str)) : (uniqP a).length ≤ a.length := by
  have : ∀ (a acc : List (Str × Str)), (a.foldl addP acc).length ≤ acc.length + a.length := fun a => by
    induction a with
    | nil => intro acc; exact Nat.le_refl _
    | cons n r ih =>
      intro acc
      have h1 := ih (addP acc n)
      have h2 : (addP acc n).length ≤ acc.length + 1 := by
        unfold addP; split
        · omega
        · simp
      rw [List.foldl_cons, List.length_cons]; omega
  have := this a []
  simpa [uniqP] using this
/-! what rules speak of -/
def spokenW : List Str := ["has", "first", "last", "pair"]
def spokenF (f : Cn) : List Str := match f.toks with
  | w :: r => if w ∈ spokenW then r else []
  | [] => []
def spokenN (rs : List Ru) : List Str := (rs.flatMap fun r => r.1.facts).flatMap spokenF
theorem facts_fact (c : Cn) : ∀ f ∈ c.facts, f.isFact = true := by
  refine Cn.ind (P := fun c => ∀ f ∈ c.facts, f.isFact = true) (fun c h f hf => ?_) (fun c ih => ?_) (fun c ih => ?_) (fun l ih => ?_) (fun l ih => ?_) c
  · cases c <;> first | (cases h; done) | skip
    all_goals (simp only [Cn.facts, List.mem_singleton] at hf; subst hf; rfl)
  · rw [Cn.facts]; exact ih
  · rw [Cn.facts]; exact ih
  · rw [Cn.facts]
    intro f hf
    have : ∀ (l : List Cn), f ∈ Cn.factsL l → ∃ c ∈ l, f ∈ c.facts := fun l => by
      induction l with
      | nil => intro h; simp [Cn.factsL] at h
      | cons a r ih =>
        intro h
        rw [Cn.factsL, List.mem_append] at h
        rcases h with h | h
        · exact ⟨a, List.mem_cons_self, h⟩
        · obtain ⟨c, hc, h⟩ := ih h; exact ⟨c, List.mem_cons_of_mem _ hc, h⟩
    obtain ⟨c, hc, h⟩ := this l hf
    exact ih c hc f h
  · rw [Cn.facts]
    intro f hf
    have : ∀ (l : List Cn), f ∈ Cn.factsL l → ∃ c ∈ l, f ∈ c.facts := fun l => by
      induction l with
      | nil => intro h; simp [Cn.factsL] at h
      | cons a r ih =>
        intro h
        rw [Cn.factsL, List.mem_append] at h
        rcases h with h | h
        · exact ⟨a, List.mem_cons_self, h⟩
        · obtain ⟨c, hc, h⟩ := ih h; exact ⟨c, List.mem_cons_of_mem _ hc, h⟩
    obtain ⟨c, hc, h⟩ := this l hf
    exact ih c hc f h
theorem factsL_flat : ∀ l : List Cn, Cn.factsL l = l.flatMap Cn.facts
  | [] => by rw [Cn.factsL]; rfl
  | c :: r => by rw [Cn.factsL, factsL_flat r]; rfl
theorem tl_len (w : Str) : ∀ (l : List Cn), (Cn.toksL w l).length + 1 ≥ (l.map fun c => c.toks.length).sum
  | [] => by simp
  | [a] => by simp [Cn.toksL]
  | a :: b :: r => by
    have := tl_len w (b :: r)
    rw [toksL_cons, List.map_cons, List.sum_cons, List.length_append, List.length_cons]
    omega
theorem factsL_le (w : Str) : ∀ (l : List Cn), (∀ c ∈ l, c.facts.length ≤ c.toks.length) → (Cn.factsL l).length ≤ (Cn.toksL w l).length
  | [], _ => by simp [Cn.factsL]
  | [a], h => by
    have := h a List.mem_cons_self
    simpa [Cn.factsL, Cn.toksL] using this
  | a :: b :: r, h => by
    have h1 := h a List.mem_cons_self
    have h2 := factsL_le w (b :: r) fun c hc => h c (List.mem_cons_of_mem _ hc)
    rw [Cn.factsL, toksL_cons, List.length_append, List.length_append, List.length_cons]; omega
theorem facts_le (c : Cn) : c.facts.length ≤ c.toks.length := by
  refine Cn.ind (P := fun c => c.facts.length ≤ c.toks.length) (fun c h => ?_) (fun c ih => ?_) (fun c ih => ?_) (fun l ih => ?_) (fun l ih => ?_) c
  · cases c <;> first | (cases h; done) | simp [Cn.facts, Cn.toks]
  · rw [Cn.facts, Cn.toks, List.length_cons]; omega
  · rw [Cn.facts, Cn.toks]; simp; omega
  · rw [Cn.facts, Cn.toks]; exact factsL_le _ l ih
  · rw [Cn.facts, Cn.toks]; exact factsL_le _ l ih
theorem spokenF_le (f : Cn) (h : f.isFact = true) : (spokenF f).length ≤ 2 := by
  unfold spokenF
  cases f <;> first | (cases h; done) | skip
  all_goals simp only [Cn.toks]
  all_goals (split <;> simp)
theorem flat_le {α β : Type} {n : Nat} {g : α → List β} : ∀ {l : List α}, (∀ x ∈ l, (g x).length ≤ n) → (l.flatMap g).length ≤ n * l.length
  | [], _ => by simp
  | a :: r, h => by
    have h1 := h a List.mem_cons_self
    have h2 := flat_le (l := r) fun x hx => h x (List.mem_cons_of_mem _ hx)
    rw [List.flatMap_cons, List.length_append, List.length_cons, Nat.mul_add]; omega
theorem rankSort_len (ws : List Str) : (rankSort ws).length = ws.length := by unfold rankSort; exact List.length_mergeSort _
end DL
set_option maxHeartbeats 1000000
/-! LF4: the law's words of conditions, rules, texts -/
namespace DL
open PySem PySem.Spec PyProof.Rows L2
def S__law_told (n : Nat) : Spec := fun ds Φ => ∃ c : Cn, ds = [c.encL] ∧ c.Wf ∧ c.deep ≤ n ∧ c.toks.length ≤ 1000 ∧ Φ (.lst (c.toks.map .str))
theorem encL_not (c : Cn) : (Cn.not c).encL = .tup [.str "not", c.encL] := by rw [Cn.encL]
theorem encL_br (c : Cn) : (Cn.br c).encL = .tup [.str "(", c.encL] := by rw [Cn.encL]
theorem encL_and (l : List Cn) : (Cn.and l).encL = .tup [.str "and", .lst (l.map Cn.encL)] := by rw [Cn.encL, encLs_map]
theorem encL_or (l : List Cn) : (Cn.or l).encL = .tup [.str "or", .lst (l.map Cn.encL)] := by rw [Cn.encL, encLs_map]
def S__law_rule_words : Spec := fun ds Φ => ∃ r : Ru, ds = [r.encL] ∧ r.Wf ∧ Φ (.lst (r.toks.map .str))
def S__law_text : Spec := fun ds Φ => ∃ rs : List Ru, ds = [.lst (rs.map Ru.encL)] ∧ rs.length ≤ 1000 ∧ (∀ r ∈ rs, r.Wf) ∧ Φ (.str (textOf rs))
section
variable {P : Program} {w : World} {K : PySem.W.Frag} {mg : Str → Option Value} {base : Heap} (T : Tx K mg)
include T
theorem C__law_told (n : Nat) : Cal P w K mg base "_law_told" (n + 1) ["_law_condition_here"] (S__law_told n) := by
  induction n using Nat.strongRecOn with
  | _ n ih =>
  refine cal_mk n T.d__law_told T.g__law_told sc__law_told (fun _ _ _ _ _ _ us hl => match us, hl with | [_], _ => rfl) (fun ds Φ h => ?_) (fun cdv A outer s H Ew E ds Φ hr hN h => ?_)
  · obtain ⟨c, rfl, _⟩ := h; rfl
  · obtain ⟨c, rfl, hw, hd, hl, q⟩ := h
    show SXs _ E (_ :: _) _ _
    have call : ∀ c' : Cn, c'.Wf → c'.deep < n → c'.toks.length ≤ 1000 → ∀ {Γ : List Sl} {e : Expr} {p q : Pos}, EX (cxOf CX0 P w K mg base _ "_law_told" (defScope s__law_told) (He.ga K "_law_told") cdv A outer s H Ew).nox E e Γ c'.encL → noStar e = true → EX (cxOf CX0 P w K mg base _ "_law_told" (defScope s__law_told) (He.ga K "_law_told") cdv A outer s H Ew).nox E (.Call (.Name "_law_told" p) [e] [] q) Γ (.lst (c'.toks.map .str)) := fun c' h1 h2 h3 {Γ e p q} he hs =>
      ex_cal (ih c'.deep h2) (hr.mono h2) (ea_cons he ea_nil hs) ⟨c', rfl, h1, Nat.le_refl _, h3, rfl⟩ (he := hs)
    obtain ⟨tok, hne⟩ := toks_ok c hw
    have core : ∀ (wd : Str) (l : List Cn), (wd = "and" ∨ wd = "or") → c.encL = .tup [.str wd, .lst (l.map Cn.encL)] → c.toks = Cn.toksL wd l → 2 ≤ l.length → (∀ c ∈ l, c.Wf) → (∀ c' ∈ l, c'.deep < n) → SXs (cxOf CX0 P w K mg base ["_law_condition_here", "_law_word", "_law_found", "_law_part"] "_law_told" (defScope s__law_told) (He.ga K "_law_told") cdv A outer s H Ew).nox E (defBody s__law_told) ⟨fun _ => Φ .non, fun d _ => Φ d, fun _ => False, fun _ => False⟩ [.im c.encL, .un, .un, .un] := by
      intro wd l hwd e1 e2 hl2 hwf hdp
      rw [e1]
      rw [e2] at q hl
      show SXs _ E (_ :: _) _ _
      refine sxs_cons (sx_set 1 (ex_ixT (ex_var 0) ex_int) ?_)
      refine sxs_cons (sx_if (et_eq (ex_var 1) ex_str) (fun h => absurd h ?_) (fun h => sxs_nil ?_))
      · rcases hwd with rfl | rfl <;> decide +kernel
      refine sxs_cons (sx_if (et_eq (ex_var 1) ex_str) (fun h => absurd h ?_) (fun h => sxs_nil ?_))
      · rcases hwd with rfl | rfl <;> decide +kernel
      refine sxs_cons (sx_if (et_niT (xs := (["and", "or"] : List Str).map .str) (ex_var 1) (ex_tup ea_consts)) (fun h => absurd h ?_) (fun h => sxs_nil ?_))
      · rw [inF_strs]; rcases hwd with rfl | rfl <;> decide +kernel
      refine sxs_cons (sx_set 2 (ex_lst ea_nil) ?_)
      refine sxs_cons (sx_for (wk_list (ex_ixT (ex_var 0) ex_int)) (fun i Γ' => ∃ s3 : Sl, Γ' = [.im (.tup [.str wd, .lst (l.map Cn.encL)]), .im (.str wd), .im (.lst ((Cn.toksL wd (l.take i)).map .str)), s3]) ⟨.un, by rw [List.take_zero, Cn.toksL]; rfl⟩ ?_ ?_ rfl)
      · rintro i d Γ' hi ⟨s3, rfl⟩
        rw [List.getElem?_map] at hi
        obtain ⟨c', hc', rfl⟩ := Option.map_eq_some_iff.mp hi
        have hm := List.mem_of_getElem? hc'
        have hil : i < l.length := (List.getElem?_eq_some_iff.mp hc').1
        refine ⟨_, tg_name 3, ?_⟩
        have hlen := toksL_take_len wd l i
        have hlen2 := toksL_mem_len wd l c' hm
        have htk : ∀ x ∈ Cn.toksL wd (l.take i), TokS x := fun x hx => by
          rcases mem_toksL hx with rfl | ⟨c2, hc2, hx⟩
          · rcases hwd with rfl | rfl <;> (unfold TokS; decide +kernel)
          · exact ((toks_ok c2 (hwf c2 (List.mem_of_mem_take hc2))).1 x hx).tok
        have hnil : Cn.toksL wd (l.take i) = [] ↔ i = 0 := by
          constructor
          · intro z
            cases i with
            | zero => rfl
            | succ i =>
              match l, hl2 with
              | a :: r, _ =>
                rw [List.take_succ_cons] at z
                cases e : r.take i with
                | nil => rw [e, Cn.toksL] at z; exact absurd z (toks_ok a (hwf a List.mem_cons_self)).2
                | cons b r' => rw [e, toksL_cons] at z; simp at z
          · intro z; subst z; rw [List.take_zero, Cn.toksL]
        have hsnoc : Cn.toksL wd (l.take (i + 1)) = Cn.toksL wd (l.take i) ++ (if i = 0 then [] else [wd]) ++ c'.toks := by
          rw [List.take_succ, hc']
          by_cases h0 : i = 0
          · subst h0; simp [Cn.toksL]
          · rw [if_neg h0]
            show Cn.toksL wd (l.take i ++ [c']) = _
            rw [toksL_snoc wd (l.take i) c' (fun z => h0 (by rw [List.take_eq_nil_iff] at z; rcases z with z | z; exact z; subst z; simp at hl2))]
            simp
        refine sxs_one (sx_set 2 (EX.to (y := .lst ((Cn.toksL wd (l.take (i + 1))).map .str)) (ex_addL (ex_addL (xs := (Cn.toksL wd (l.take i)).map .str) (ys := (if i = 0 then [] else [wd] : List Str).map .str) (ex_var 2) (ex_if (ET.to (et_neD hr (ex_var 2) (ex_lst ea_nil) (pure_strs _) (pure_strs []) (shaped_strs htk) (shaped_strs (ws := []) fun x hx => by cases hx)) (congrArg (!·) (eqv_lstrs _ []))) (fun hb => ?_) (fun hb => ?_)) ?_) (call c' (hwf c' hm) (hdp c' hm) (by omega) (ex_var 3) rfl) ?_) ?_) ⟨_, rfl⟩)
        · rw [if_neg (fun z => by rw [decide_eq_true (hnil.mpr z)] at hb; cases hb)]
          exact ex_lst (ea_cons (ex_var 1) ea_nil)
        · rw [if_pos (hnil.mp (by simpa using hb))]
          exact ex_lst ea_nil
        · rw [List.length_map, List.length_map, sizeLine_eq]
          split <;> simp <;> omega
        · rw [List.length_append, List.length_map, List.length_map, List.length_map, sizeLine_eq]
          split <;> simp <;> omega
        · rw [hsnoc]; simp
      · rintro Γ' ⟨s3, rfl⟩
        rw [List.length_map, List.take_length]
        exact sxs_one (sx_ret (ex_var 2) q)
    by_cases hfact : c.isFact = true
    · -- a fact
      have : ∃ k ws, c.toks = k :: ws ∧ c.encL = .tup ((k :: ws).map .str) ∧ k ∈ (["any", "has", "first", "last", "pair", "from", "over", "marked"] : List Str) := by
        cases c <;> first | (cases hfact; done) | exact ⟨_, _, rfl, rfl, by simp⟩
      obtain ⟨k, ws, e1, e2, hk⟩ := this
      have key : (k = "not") = False ∧ (k = "(") = False ∧ (k ∈ (["and", "or"] : List Str)) = False := by
        simp only [List.mem_cons, List.not_mem_nil, or_false] at hk
        rcases hk with rfl | rfl | rfl | rfl | rfl | rfl | rfl | rfl <;> simp <;> decide +kernel
      rw [e1] at q
      rw [e2]
      refine sxs_cons (sx_set 1 (ex_ixT (z := .str k) (ex_var 0) ex_int (atI_nat (j := 0) rfl)) ?_)
      refine sxs_cons (sx_if (et_eq (ex_var 1) ex_str) (fun h => absurd h ?_) (fun h => sxs_nil ?_))
      · rw [eqS_str]; simpa using key.1.mp
      refine sxs_cons (sx_if (et_eq (ex_var 1) ex_str) (fun h => absurd h ?_) (fun h => sxs_nil ?_))
      · rw [eqS_str]; simpa using key.2.1.mp
      refine sxs_cons (sx_if (et_niT (xs := (["and", "or"] : List Str).map .str) (ex_var 1) (ex_tup ea_consts)) (fun h => ?_) (fun h => absurd h ?_))
      · exact sxs_one (sx_ret ((eo_listT (ex_var 0) T.b_list).ex fz_l) q)
      · rw [inF_strs]; simpa using key.2.2.mp
    · cases c with
      | any => exact absurd rfl hfact
      | has => exact absurd rfl hfact
      | first => exact absurd rfl hfact
      | last => exact absurd rfl hfact
      | pair => exact absurd rfl hfact
      | frm => exact absurd rfl hfact
      | over => exact absurd rfl hfact
      | marked => exact absurd rfl hfact
      | not c =>
        rw [encL_not]
        rw [Cn.deep] at hd
        rw [Cn.toks] at hl q
        refine sxs_cons (sx_set 1 (ex_ixT (ex_var 0) ex_int) ?_)
        refine sxs_cons (sx_if (et_eq (ex_var 1) ex_str) (fun h => ?_) (fun h => absurd h ?_))
        · exact sxs_one (sx_ret (ex_addL (ex_lst (ea_cons ex_str ea_nil)) (call c hw.not (by omega) (by simp at hl; omega) (ex_ixT (ex_var 0) ex_int) rfl) (by simp at hl ⊢; rw [sizeLine_eq]; omega)) q)
        · decide +kernel
      | br c =>
        rw [encL_br]
        rw [Cn.deep] at hd
        rw [Cn.toks] at hl q
        simp at hl
        refine sxs_cons (sx_set 1 (ex_ixT (ex_var 0) ex_int) ?_)
        refine sxs_cons (sx_if (et_eq (ex_var 1) ex_str) (fun h => absurd h ?_) (fun h => sxs_nil ?_))
        · decide +kernel
        refine sxs_cons (sx_if (et_eq (ex_var 1) ex_str) (fun h => ?_) (fun h => absurd h ?_))
        · refine sxs_one (sx_ret (EX.to (ex_addL (ex_addL (ex_lst (ea_cons ex_str ea_nil)) (call c hw.br (by omega) (by omega) (ex_ixT (ex_var 0) ex_int) rfl) ?_) (ex_lst (ea_cons ex_str ea_nil)) ?_) ?_) q)
          · simp; rw [sizeLine_eq]; omega
          · simp; rw [sizeLine_eq]; omega
          · simp
        · decide +kernel
      | and l =>
        refine core "and" l (.inl rfl) (encL_and l) (by rw [Cn.toks]) hw.and.1 hw.and.2 fun c hc => ?_
        rw [Cn.deep] at hd
        have := deepL_mem l c hc
        omega
      | or l =>
        refine core "or" l (.inr rfl) (encL_or l) (by rw [Cn.toks]) hw.or.1 hw.or.2 fun c hc => ?_
        rw [Cn.deep] at hd
        have := deepL_mem l c hc
        omega
theorem C__law_rule_words : Cal P w K mg base "_law_rule_words" 8 ["_law_rule"] S__law_rule_words := by
  refine cal_mk 7 T.d__law_rule_words T.g__law_rule_words sc__law_rule_words (fun _ _ _ _ _ _ us hl => match us, hl with | [_], _ => rfl) (fun ds Φ h => ?_) (fun cdv A outer s H Ew E ds Φ hr hN h => ?_)
  · obtain ⟨r, rfl, _⟩ := h; rfl
  · obtain ⟨r, rfl, hw, q⟩ := h
    show SXs _ E (_ :: _) _ _
    have hn := hw.n
    have hk := hw.k
    refine sxs_cons (sx_set 1 (EX.to (y := .lst ((("if" : Str) :: r.1.toks ++ [("then" : Str)]).map .str)) (ex_addL (ex_addL (ex_lst (ea_cons ex_str ea_nil)) (ex_cal (C__law_told T 6) (hr.mono (by decide)) (ea_cons (ex_ixT (z := r.1.encL) (ex_var 0) ex_int) ea_nil) ⟨r.1, rfl, hw.c, hk.2, by omega, rfl⟩) ?_) (ex_lst (ea_cons ex_str ea_nil)) ?_) ?_) ?_)
    · simp; rw [sizeLine_eq]; omega
    · simp; rw [sizeLine_eq]; omega
    · simp
    refine sxs_cons (sx_for (wk_enum T.b_enumerate (ex_ixT (z := .lst (r.2.map Dd.encL)) (ex_var 0) ex_int)) (fun i Γ' => ∃ s2 s3 : Sl, Γ' = [.im r.encL, .im (.lst ((("if" : Str) :: r.1.toks ++ ("then" : Str) :: deedToks (r.2.take i)).map .str)), s2, s3]) ⟨.un, .un, rfl⟩ ?_ ?_ rfl)
    · rintro i d Γ' hi ⟨s2, s3, rfl⟩
      have hil : i < r.2.length := by
        have := (List.getElem?_eq_some_iff.mp hi).1
        rw [enumD'_length, List.length_map] at this
        exact this
      have hdd : r.2[i]? = some r.2[i] := List.getElem?_eq_getElem hil
      have e0 := enumD'_get 0 (r.2.map Dd.encL) i _ (by rw [List.getElem?_map, hdd]; rfl)
      rw [e0] at hi
      cases hi
      refine ⟨_, tg_tup (tgs_cons (tg_name 2) (tgs_cons (tg_name 3) tgs_nil)) rfl, ?_⟩
      have htl := deedToks_len (r.2.take i)
      have htl2 : (r.2.take i).length ≤ 6 := by rw [List.length_take]; omega
      have hd2 : r.2[i].toks.length ≤ 2 := by cases r.2[i] <;> simp [Dd.toks]
      have hsn : deedToks (r.2.take (i + 1)) = deedToks (r.2.take i) ++ (if i = 0 then ([] : List Str) else [("," : Str)]) ++ r.2[i].toks := by
        rw [List.take_succ, hdd]
        show deedToks (r.2.take i ++ [r.2[i]]) = _
        rw [deedToks_snoc]
        by_cases h0 : i = 0
        · subst h0; simp
        · rw [if_neg h0, if_neg fun z => h0 (by rw [List.take_eq_nil_iff] at z; rcases z with z | z; exact z; rw [z] at hil; simp at hil)]
      refine sxs_one (sx_set 1 (EX.to (y := .lst ((("if" : Str) :: r.1.toks ++ ("then" : Str) :: deedToks (r.2.take (i + 1))).map .str)) (ex_addL (ex_addL (ys := (if i = 0 then [] else [("," : Str)] : List Str).map .str) (ex_var 1) (ex_if (et_gt (ex_var 2) ex_int) (fun hb => ?_) (fun hb => ?_)) ?_) ((eo_listT (xs := r.2[i].toks.map .str) (ex_var 3) T.b_list).ex fz_l) ?_) ?_) ⟨_, _, rfl⟩)
      · rw [if_neg (by simp at hb; omega)]; exact ex_lst (ea_cons ex_str ea_nil)
      · rw [if_pos (by simp at hb; omega)]; exact ex_lst ea_nil
      · rw [sizeLine_eq]; split <;> simp <;> omega
      · rw [sizeLine_eq]; split <;> simp <;> omega
      · rw [hsn]; simp
    · rintro Γ' ⟨s2, s3, rfl⟩
      rw [enumD'_length, List.length_map, List.take_length]
      exact sxs_one (sx_ret (ex_var 1) q)
theorem C__law_text : Cal P w K mg base "_law_text" 9 ["_law_rules_here"] S__law_text := by
  refine cal_mk 8 T.d__law_text T.g__law_text sc__law_text (fun _ _ _ _ _ _ us hl => match us, hl with | [_], _ => rfl) (fun ds Φ h => ?_) (fun cdv A outer s H Ew E ds Φ hr hN h => ?_)
  · obtain ⟨rs, rfl, _⟩ := h; rfl
  · obtain ⟨rs, rfl, hl, hw, q⟩ := h
    show SXs _ E (_ :: _) _ _
    refine sxs_one (sx_ret (ex_join (ys := rs.map rowOf) ex_str (ex_mapI 1 (wk_list (ex_var 0)) (fun s H C cl fp i d e hd he => ?_) (by simp) (by simp; rw [sizeLine_eq]; omega)) ?_) q)
    · rw [List.getElem?_map] at hd
      obtain ⟨r, hr1, rfl⟩ := Option.map_eq_some_iff.mp hd
      rw [List.getElem?_map, List.getElem?_map, hr1] at he
      cases he
      have wf := hw r (List.mem_of_getElem? hr1)
      obtain ⟨h1, h2, h3⟩ := Ru.toks_ok wf
      refine ex_join ex_str (ex_cal (C__law_rule_words T) (hr.mono (by decide)) (ea_cons (ex_var 1) ea_nil) ⟨r, rfl, wf, rfl⟩) ?_
      have := sum_le (l := r.toks) (n := 10) fun x hx => (h1 x hx).len.2
      show _ + r.toks.length * 1 ≤ _
      omega
    · have := sum_le (l := rs.map rowOf) (n := 660) fun x hx => by
        obtain ⟨r, hr1, rfl⟩ := List.mem_map.mp hx
        exact rowOf_len (hw r hr1)
      rw [List.length_map] at this ⊢
      show _ + rs.length * 1 ≤ _
      omega
end
end DL
set_option maxHeartbeats 1000000
/-! LF5: the law's holds, sort, letter -/
namespace DL
open PySem PySem.Spec PyProof.Rows L2
def S__law_holds (n : Nat) : Spec := fun ds Φ => ∃ (c : Cn) (l : Let) (ms : List Str), ds = [c.encL, l.enc, .lst (ms.map .str)] ∧ c.Wf ∧ c.deep ≤ n ∧ c.toks.length ≤ 1000 ∧ l.Ok ∧ l.words.length ≤ 1000 ∧ Φ (.bl (c.holds l ms))
theorem toksL_count (w : Str) : ∀ l : List Cn, (∀ c ∈ l, c.Wf) → l.length ≤ (Cn.toksL w l).length
  | [], _ => by simp [Cn.toksL]
  | [a], h => by
    rw [Cn.toksL]
    have := (toks_ok a (h a (by simp))).2
    have : a.toks.length ≠ 0 := fun z => this (List.eq_nil_of_length_eq_zero z)
    simp; omega
  | a :: b :: r, h => by
    have := toksL_count w (b :: r) fun c hc => h c (List.mem_cons_of_mem _ hc)
    rw [toksL_cons, List.length_append]
    simp at this ⊢; omega
section
variable {P : Program} {w : World} {K : PySem.W.Frag} {mg : Str → Option Value} {base : Heap} (T : Tx K mg)
include T
theorem C__law_holds (n : Nat) : Cal P w K mg base "_law_holds" (n + 1) ["_law_condition_here", "_law_letter_here", "_law_marks"] (S__law_holds n) := by
  induction n using Nat.strongRecOn with
  | _ n ih =>
  refine cal_mk n T.d__law_holds T.g__law_holds sc__law_holds (fun _ _ _ _ _ _ us hl => match us, hl with | [_, _, _], _ => rfl) (fun ds Φ h => ?_) (fun cdv A outer s H Ew E ds Φ hr hN h => ?_)
  · obtain ⟨c, l, ms, rfl, _⟩ := h; rfl
  · obtain ⟨c, l, ms, rfl, hw, hd, hl, hlo, hlw, q⟩ := h
    show SXs _ E (_ :: _) _ _
    have start : ∀ (k : Str) (rest : List D), c.encL = .tup (.str k :: rest) → SXs (cxOf CX0 P w K mg base ["_law_condition_here", "_law_letter_here", "_law_marks", "_law_word", "_law_sender", "_law_words_here", "_law_size", "_law_held", "_law_part"] "_law_holds" (defScope s__law_holds) (He.ga K "_law_holds") cdv A outer s H Ew).nox E (defBody s__law_holds).tail ⟨fun _ => Φ .non, fun d _ => Φ d, fun _ => False, fun _ => False⟩ [.im (.tup (.str k :: rest)), .im l.enc, .im (.lst (ms.map .str)), .im (.str k), .im (.str l.from_), .im (.lst (l.words.map .str)), .im (.int l.size), .un, .un] → SXs (cxOf CX0 P w K mg base ["_law_condition_here", "_law_letter_here", "_law_marks", "_law_word", "_law_sender", "_law_words_here", "_law_size", "_law_held", "_law_part"] "_law_holds" (defScope s__law_holds) (He.ga K "_law_holds") cdv A outer s H Ew).nox E (defBody s__law_holds) ⟨fun _ => Φ .non, fun d _ => Φ d, fun _ => False, fun _ => False⟩ [.im c.encL, .im l.enc, .im (.lst (ms.map .str)), .un, .un, .un, .un, .un, .un] := by
      intro k rest e hh
      rw [e]
      show SXs _ E (_ :: _) _ _
      refine sxs_cons (sx_asg (ex_tup (ea_cons (ex_ixT (z := .str k) (ex_var 0) ex_int (atI_nat (j := 0) rfl)) (ea_cons (ex_var 1 (hv := .inr (.inl (by kernel_rfl)))) ea_nil))) (tg_tup (tgs_cons (tg_name 3) (tgs_cons (tg_tup (tgs_cons (tg_name 4) (tgs_cons (tg_name 5) (tgs_cons (tg_name 6) tgs_nil))) rfl) tgs_nil)) rfl) hh (hw := by kernel_rfl))
    have nc : c.isFact = true → c.nice := fun hf => nice_of_fact hf hw
    have wtok : ∀ x ∈ l.words, TokS x := fun x hx => (hlo.w x hx).tok
    cases c with
    | any =>
      refine start "any" [] (by rw [Cn.encL]) ?_
      rw [Cn.holds] at q
      show SXs _ E (_ :: _) _ _
      refine sxs_cons (sx_if (et_eq (ex_var 3) ex_str) (fun h => ?_) (fun h => absurd h (by decide +kernel)))
      exact sxs_one (sx_ret ex_bl q)
    | frm n =>
      refine start "from" [.str n] (by rw [Cn.encL]) ?_
      rw [Cn.holds] at q
      show SXs _ E (_ :: _) _ _
      refine sxs_cons (sx_if (et_eq (ex_var 3) ex_str) (fun h => absurd h (by decide +kernel)) (fun h => sxs_nil ?_))
      refine sxs_cons (sx_if (et_inT (xs := (["not", "("] : List Str).map .str) (ex_var 3) (ex_tup ea_consts)) (fun h => absurd h (by decide +kernel)) (fun h => sxs_nil ?_))
      refine sxs_cons (sx_if (et_inT (xs := (["and", "or"] : List Str).map .str) (ex_var 3) (ex_tup ea_consts)) (fun h => absurd h (by decide +kernel)) (fun h => sxs_nil ?_))
      refine sxs_cons (sx_if (et_eq (ex_var 3) ex_str) (fun h => ?_) (fun h => absurd h (by decide +kernel)))
      refine sxs_one (sx_ret (EX.to (ex_eq (ex_var 4) (ex_ixT (z := .str n) (ex_var 0) ex_int)) ?_) q)
      rw [eqS_str]
    | has n =>
      refine start "has" [.str n] (by rw [Cn.encL]) ?_
      rw [Cn.holds] at q
      show SXs _ E (_ :: _) _ _
      refine sxs_cons (sx_if (et_eq (ex_var 3) ex_str) (fun h => absurd h (by decide +kernel)) (fun h => sxs_nil ?_))
      refine sxs_cons (sx_if (et_inT (xs := (["not", "("] : List Str).map .str) (ex_var 3) (ex_tup ea_consts)) (fun h => absurd h (by decide +kernel)) (fun h => sxs_nil ?_))
      refine sxs_cons (sx_if (et_inT (xs := (["and", "or"] : List Str).map .str) (ex_var 3) (ex_tup ea_consts)) (fun h => absurd h (by decide +kernel)) (fun h => sxs_nil ?_))
      refine sxs_cons (sx_if (et_eq (ex_var 3) ex_str) (fun h => absurd h (by decide +kernel)) (fun h => sxs_nil ?_))
      refine sxs_cons (sx_if (et_eq (ex_var 3) ex_str) (fun h => ?_) (fun h => absurd h (by decide +kernel)))
      refine sxs_one (sx_ret (EX.to (ex_inL (ex_ixT (z := .str n) (ex_var 0) ex_int) (ex_var 5) rfl ?_) ?_) q)
      · rw [List.all_map]; exact List.all_eq_true.mpr fun _ _ => rfl
      · rw [inF_strs]
    | first n =>
      refine start "first" [.str n] (by rw [Cn.encL]) ?_
      rw [Cn.holds] at q
      show SXs _ E (_ :: _) _ _
      refine sxs_cons (sx_if (et_eq (ex_var 3) ex_str) (fun h => absurd h (by decide +kernel)) (fun h => sxs_nil ?_))
      refine sxs_cons (sx_if (et_inT (xs := (["not", "("] : List Str).map .str) (ex_var 3) (ex_tup ea_consts)) (fun h => absurd h (by decide +kernel)) (fun h => sxs_nil ?_))
      refine sxs_cons (sx_if (et_inT (xs := (["and", "or"] : List Str).map .str) (ex_var 3) (ex_tup ea_consts)) (fun h => absurd h (by decide +kernel)) (fun h => sxs_nil ?_))
      refine sxs_cons (sx_if (et_eq (ex_var 3) ex_str) (fun h => absurd h (by decide +kernel)) (fun h => sxs_nil ?_))
      refine sxs_cons (sx_if (et_eq (ex_var 3) ex_str) (fun h => absurd h (by decide +kernel)) (fun h => sxs_nil ?_))
      refine sxs_cons (sx_if (ew_or (et_eq (ex_var 3) ex_str) (fun h => (ew_or1 (et_eq (ex_var 3) ex_str)))).et (fun h => ?_) (fun h => absurd h (by decide +kernel)))
      by_cases hnil : l.words = []
      · refine sxs_one (sx_ret (EX.to (ex_and (a := false) (EX.to (ex_neD hr (ex_var 5) (ex_lst ea_nil) (pure_strs _) (pure_strs []) (shaped_strs wtok) (shaped_strs (ws := []) fun x hx => by cases hx)) ?_) (fun z => nomatch z) (b := false)) ?_) q)
        · rw [show PyData.eqv (toP (.lst (l.words.map .str))) (toP (.lst [])) = decide (l.words = []) from eqv_lstrs _ []]; simp [hnil]
        · simp [hnil]
      · obtain ⟨x, hx, hat⟩ : ∃ x : Str, l.words.head? = some x ∧ atI (l.words.map D.str) (0) = some (.str x) := by
          cases e : l.words with
          | nil => exact absurd e hnil
          | cons x r => exact ⟨x, rfl, atI_nat (j := 0) rfl⟩
        refine sxs_one (sx_ret (EX.to (ex_and (a := true) (EX.to (ex_neD hr (ex_var 5) (ex_lst ea_nil) (pure_strs _) (pure_strs []) (shaped_strs wtok) (shaped_strs (ws := []) fun x hx => by cases hx)) ?_) (fun z => ex_one (ex_eq (ex_ixL (z := .str x) (ex_var 5) (ex_if (d := .int 0) (et_eq (ex_var 3) ex_str) (fun h => ex_int) (fun h => absurd h (by decide +kernel))) hat) (ex_ixT (z := .str n) (ex_var 0) ex_int)))) ?_) q)
        · rw [show PyData.eqv (toP (.lst (l.words.map .str))) (toP (.lst [])) = decide (l.words = []) from eqv_lstrs _ []]; simp [hnil]
        · rw [eqS_str, hx]; simp
    | last n =>
      refine start "last" [.str n] (by rw [Cn.encL]) ?_
      rw [Cn.holds] at q
      show SXs _ E (_ :: _) _ _
      refine sxs_cons (sx_if (et_eq (ex_var 3) ex_str) (fun h => absurd h (by decide +kernel)) (fun h => sxs_nil ?_))
      refine sxs_cons (sx_if (et_inT (xs := (["not", "("] : List Str).map .str) (ex_var 3) (ex_tup ea_consts)) (fun h => absurd h (by decide +kernel)) (fun h => sxs_nil ?_))
      refine sxs_cons (sx_if (et_inT (xs := (["and", "or"] : List Str).map .str) (ex_var 3) (ex_tup ea_consts)) (fun h => absurd h (by decide +kernel)) (fun h => sxs_nil ?_))
      refine sxs_cons (sx_if (et_eq (ex_var 3) ex_str) (fun h => absurd h (by decide +kernel)) (fun h => sxs_nil ?_))
      refine sxs_cons (sx_if (et_eq (ex_var 3) ex_str) (fun h => absurd h (by decide +kernel)) (fun h => sxs_nil ?_))
      refine sxs_cons (sx_if (ew_or (et_eq (ex_var 3) ex_str) (fun h => (ew_or1 (et_eq (ex_var 3) ex_str)))).et (fun h => ?_) (fun h => absurd h (by decide +kernel)))
      by_cases hnil : l.words = []
      · refine sxs_one (sx_ret (EX.to (ex_and (a := false) (EX.to (ex_neD hr (ex_var 5) (ex_lst ea_nil) (pure_strs _) (pure_strs []) (shaped_strs wtok) (shaped_strs (ws := []) fun x hx => by cases hx)) ?_) (fun z => nomatch z) (b := false)) ?_) q)
        · rw [show PyData.eqv (toP (.lst (l.words.map .str))) (toP (.lst [])) = decide (l.words = []) from eqv_lstrs _ []]; simp [hnil]
        · simp [hnil]
      · obtain ⟨x, hx, hat⟩ : ∃ x : Str, l.words.getLast? = some x ∧ atI (l.words.map D.str) (-1) = some (.str x) := by
          exact last_at hnil
        refine sxs_one (sx_ret (EX.to (ex_and (a := true) (EX.to (ex_neD hr (ex_var 5) (ex_lst ea_nil) (pure_strs _) (pure_strs []) (shaped_strs wtok) (shaped_strs (ws := []) fun x hx => by cases hx)) ?_) (fun z => ex_one (ex_eq (ex_ixL (z := .str x) (ex_var 5) (ex_if (d := .int (-1)) (et_eq (ex_var 3) ex_str) (fun h => absurd h (by decide +kernel)) (fun h => ex_neg ex_int)) hat) (ex_ixT (z := .str n) (ex_var 0) ex_int)))) ?_) q)
        · rw [show PyData.eqv (toP (.lst (l.words.map .str))) (toP (.lst [])) = decide (l.words = []) from eqv_lstrs _ []]; simp [hnil]
        · rw [eqS_str, hx]; simp
    | pair a b =>
      refine start "pair" [.str a, .str b] (by rw [Cn.encL]) ?_
      rw [Cn.holds] at q
      show SXs _ E (_ :: _) _ _
      refine sxs_cons (sx_if (et_eq (ex_var 3) ex_str) (fun h => absurd h (by decide +kernel)) (fun h => sxs_nil ?_))
      refine sxs_cons (sx_if (et_inT (xs := (["not", "("] : List Str).map .str) (ex_var 3) (ex_tup ea_consts)) (fun h => absurd h (by decide +kernel)) (fun h => sxs_nil ?_))
      refine sxs_cons (sx_if (et_inT (xs := (["and", "or"] : List Str).map .str) (ex_var 3) (ex_tup ea_consts)) (fun h => absurd h (by decide +kernel)) (fun h => sxs_nil ?_))
      refine sxs_cons (sx_if (et_eq (ex_var 3) ex_str) (fun h => absurd h (by decide +kernel)) (fun h => sxs_nil ?_))
      refine sxs_cons (sx_if (et_eq (ex_var 3) ex_str) (fun h => absurd h (by decide +kernel)) (fun h => sxs_nil ?_))
      refine sxs_cons (sx_if (ew_or (et_eq (ex_var 3) ex_str) (fun h => (ew_or1 (et_eq (ex_var 3) ex_str)))).et (fun h => absurd h (by decide +kernel)) (fun h => sxs_nil ?_))
      refine sxs_cons (sx_if (et_eq (ex_var 3) ex_str) (fun h => ?_) (fun h => absurd h (by decide +kernel)))
      have n2 := nc rfl
      have sl : cutD (l.words.map D.str) (some 1) none = (l.words.drop 1).map D.str := by
        rw [cutD_map]
        exact congrArg _ (cutD_from l.words 1)
      refine sxs_one (sx_ret (EX.to (ex_inDeep (ys := (pairsOf l.words).map pairD) hr (EX.to (y := pairD (a, b)) (ex_sliceT (ex_var 0) ex_int) rfl) (EX.to (EO.ex (eo_listzip (ex_var 5) (EX.to (ex_sliceL (l := some 1) (h := none) (ex_var 5) ex_int trivial) (congrArg D.lst sl)) ?_ T.b_list T.b_zip) fz_l) (congrArg D.lst (zipD_strs _ _))) ?_ ?_ (shaped_pair n2.1.tok n2.2.tok) (shaped_pairs fun p hp => ⟨wtok _ (pairs_mem hp).1, wtok _ (pairs_mem hp).2⟩)) ?_) q)
      · rw [zipD_len, sizeLine_eq]; simp; omega
      · simp [pairD, pureD, puresD]
      · rw [pureD]; exact pure_pairs _
      · exact congrArg D.bl (any_pairs _ a b)
    | over z =>
      refine start "over" [.str z] (by rw [Cn.encL]) ?_
      rw [Cn.holds] at q
      show SXs _ E (_ :: _) _ _
      refine sxs_cons (sx_if (et_eq (ex_var 3) ex_str) (fun h => absurd h (by decide +kernel)) (fun h => sxs_nil ?_))
      refine sxs_cons (sx_if (et_inT (xs := (["not", "("] : List Str).map .str) (ex_var 3) (ex_tup ea_consts)) (fun h => absurd h (by decide +kernel)) (fun h => sxs_nil ?_))
      refine sxs_cons (sx_if (et_inT (xs := (["and", "or"] : List Str).map .str) (ex_var 3) (ex_tup ea_consts)) (fun h => absurd h (by decide +kernel)) (fun h => sxs_nil ?_))
      refine sxs_cons (sx_if (et_eq (ex_var 3) ex_str) (fun h => absurd h (by decide +kernel)) (fun h => sxs_nil ?_))
      refine sxs_cons (sx_if (et_eq (ex_var 3) ex_str) (fun h => absurd h (by decide +kernel)) (fun h => sxs_nil ?_))
      refine sxs_cons (sx_if (ew_or (et_eq (ex_var 3) ex_str) (fun h => (ew_or1 (et_eq (ex_var 3) ex_str)))).et (fun h => absurd h (by decide +kernel)) (fun h => sxs_nil ?_))
      refine sxs_cons (sx_if (et_eq (ex_var 3) ex_str) (fun h => absurd h (by decide +kernel)) (fun h => sxs_nil ?_))
      obtain ⟨hi, hz⟩ := sizeV_int (nc rfl)
      exact sxs_one (sx_ret (ex_if (d := .bl _) (et_eq (ex_var 3) ex_str) (fun h => ex_gt (ex_var 6) (ex_intS (ex_ixT (z := .str z) (ex_var 0) ex_int) T.b_int hi hz)) (fun h => absurd h (by decide +kernel))) q)
    | marked n =>
      refine start "marked" [.str n] (by rw [Cn.encL]) ?_
      rw [Cn.holds] at q
      show SXs _ E (_ :: _) _ _
      refine sxs_cons (sx_if (et_eq (ex_var 3) ex_str) (fun h => absurd h (by decide +kernel)) (fun h => sxs_nil ?_))
      refine sxs_cons (sx_if (et_inT (xs := (["not", "("] : List Str).map .str) (ex_var 3) (ex_tup ea_consts)) (fun h => absurd h (by decide +kernel)) (fun h => sxs_nil ?_))
      refine sxs_cons (sx_if (et_inT (xs := (["and", "or"] : List Str).map .str) (ex_var 3) (ex_tup ea_consts)) (fun h => absurd h (by decide +kernel)) (fun h => sxs_nil ?_))
      refine sxs_cons (sx_if (et_eq (ex_var 3) ex_str) (fun h => absurd h (by decide +kernel)) (fun h => sxs_nil ?_))
      refine sxs_cons (sx_if (et_eq (ex_var 3) ex_str) (fun h => absurd h (by decide +kernel)) (fun h => sxs_nil ?_))
      refine sxs_cons (sx_if (ew_or (et_eq (ex_var 3) ex_str) (fun h => (ew_or1 (et_eq (ex_var 3) ex_str)))).et (fun h => absurd h (by decide +kernel)) (fun h => sxs_nil ?_))
      refine sxs_cons (sx_if (et_eq (ex_var 3) ex_str) (fun h => absurd h (by decide +kernel)) (fun h => sxs_nil ?_))
      refine sxs_one (sx_ret (EX.to (ex_if (d := .bl _) (et_eq (ex_var 3) ex_str) (fun h => absurd h (by decide +kernel)) (fun h => ex_inL (ex_ixT (z := .str n) (ex_var 0) ex_int) (ex_var 2 (hv := .inr (.inl (by kernel_rfl)))) rfl ?_)) ?_) q)
      · rw [List.all_map]; exact List.all_eq_true.mpr fun _ _ => rfl
      · rw [inF_strs]
    | not c =>
      refine start "not" [c.encL] (by rw [Cn.encL]) ?_
      rw [Cn.holds] at q
      show SXs _ E (_ :: _) _ _
      refine sxs_cons (sx_if (et_eq (ex_var 3) ex_str) (fun h => absurd h (by decide +kernel)) (fun h => sxs_nil ?_))
      refine sxs_cons (sx_if (et_inT (xs := (["not", "("] : List Str).map .str) (ex_var 3) (ex_tup ea_consts)) (fun h => ?_) (fun h => absurd h (by decide +kernel)))
      rw [Cn.deep] at hd
      rw [Cn.toks] at hl
      refine sxs_one (sx_ret (EX.to (ex_eq (ex_cal (ih c.deep (by omega)) (hr.mono (by omega)) (ea_cons (ex_ixT (z := c.encL) (ex_var 0) ex_int) (ea_cons (ex_var 1 (hv := .inr (.inl (by kernel_rfl)))) (ea_cons (ex_var 2 (hv := .inr (.inl (by kernel_rfl)))) ea_nil))) ⟨c, l, ms, rfl, hw.not, Nat.le_refl _, by simp at hl; omega, hlo, hlw, rfl⟩) (ex_eq (ex_var 3) ex_str)) ?_) q)
      rw [eqS_str, eqS_bl]
      refine congrArg D.bl ?_
      cases c.holds l ms <;> decide +kernel
    | br c =>
      refine start "(" [c.encL] (by rw [Cn.encL]) ?_
      rw [Cn.holds] at q
      show SXs _ E (_ :: _) _ _
      refine sxs_cons (sx_if (et_eq (ex_var 3) ex_str) (fun h => absurd h (by decide +kernel)) (fun h => sxs_nil ?_))
      refine sxs_cons (sx_if (et_inT (xs := (["not", "("] : List Str).map .str) (ex_var 3) (ex_tup ea_consts)) (fun h => ?_) (fun h => absurd h (by decide +kernel)))
      rw [Cn.deep] at hd
      rw [Cn.toks] at hl
      refine sxs_one (sx_ret (EX.to (ex_eq (ex_cal (ih c.deep (by omega)) (hr.mono (by omega)) (ea_cons (ex_ixT (z := c.encL) (ex_var 0) ex_int) (ea_cons (ex_var 1 (hv := .inr (.inl (by kernel_rfl)))) (ea_cons (ex_var 2 (hv := .inr (.inl (by kernel_rfl)))) ea_nil))) ⟨c, l, ms, rfl, hw.br, Nat.le_refl _, by simp at hl; omega, hlo, hlw, rfl⟩) (ex_eq (ex_var 3) ex_str)) ?_) q)
      rw [eqS_str, eqS_bl]
      simp
    | and cs =>
      refine start "and" [.lst (cs.map Cn.encL)] (encL_and cs) ?_
      rw [Cn.holds] at q
      show SXs _ E (_ :: _) _ _
      refine sxs_cons (sx_if (et_eq (ex_var 3) ex_str) (fun h => absurd h (by decide +kernel)) (fun h => sxs_nil ?_))
      refine sxs_cons (sx_if (et_inT (xs := (["not", "("] : List Str).map .str) (ex_var 3) (ex_tup ea_consts)) (fun h => absurd h (by decide +kernel)) (fun h => sxs_nil ?_))
      refine sxs_cons (sx_if (et_inT (xs := (["and", "or"] : List Str).map .str) (ex_var 3) (ex_tup ea_consts)) (fun h => ?_) (fun h => absurd h (by decide +kernel)))
      rw [Cn.deep] at hd
      rw [Cn.toks] at hl
      have hwl := hw.and
      have hcnt := toksL_count "and" cs hwl.2
      rw [holdsAll_eq] at q
      refine sxs_cons (sx_setCI (es := cs.map fun c => .bl (c.holds l ms)) 7 8 (wk_list (ex_ixT (z := .lst (cs.map Cn.encL)) (ex_var 0) ex_int)) (fun s H C cl fp i d e hd1 he1 => ?_) ?_ (by simp) (by simp; rw [sizeLine_eq]; omega))
      · rw [List.getElem?_map] at hd1 he1
        obtain ⟨c', hc', rfl⟩ := Option.map_eq_some_iff.mp hd1
        rw [hc'] at he1
        cases he1
        have hm := List.mem_of_getElem? hc'
        have h1 := deepL_mem cs c' hm
        have h2 := toksL_mem_len "and" cs c' hm
        exact ex_cal (ih c'.deep (by omega)) (hr.mono (by omega)) (ea_cons (ex_var 8) (ea_cons (ex_var 1 (hv := .inr (.inl (by kernel_rfl)))) (ea_cons (ex_var 2 (hv := .inr (.inl (by kernel_rfl)))) ea_nil))) ⟨c', l, ms, rfl, hwl.2 c' hm, Nat.le_refl _, by omega, hlo, hlw, rfl⟩
      refine freezeL 7 ?_
      refine sxs_one (sx_ret (EX.to (ex_if (d := .bl _) (et_eq (ex_var 3) ex_str) (fun h => ex_niL ex_bl (ex_var 7) rfl ?_) (fun h => absurd h (by decide +kernel))) ?_) q)
      all_goals first | (rw [List.all_map]; exact List.all_eq_true.mpr fun _ _ => rfl) | skip
      rw [show (cs.map fun c => D.bl (c.holds l ms)) = (cs.map fun c => c.holds l ms).map .bl by rw [List.map_map]; rfl, inF_bls]
      generalize (cs.map fun c => c.holds l ms) = bs
      induction bs with
      | nil => rfl
      | cons b r ih => cases b <;> simp_all
    | or cs =>
      refine start "or" [.lst (cs.map Cn.encL)] (encL_or cs) ?_
      rw [Cn.holds] at q
      show SXs _ E (_ :: _) _ _
      refine sxs_cons (sx_if (et_eq (ex_var 3) ex_str) (fun h => absurd h (by decide +kernel)) (fun h => sxs_nil ?_))
      refine sxs_cons (sx_if (et_inT (xs := (["not", "("] : List Str).map .str) (ex_var 3) (ex_tup ea_consts)) (fun h => absurd h (by decide +kernel)) (fun h => sxs_nil ?_))
      refine sxs_cons (sx_if (et_inT (xs := (["and", "or"] : List Str).map .str) (ex_var 3) (ex_tup ea_consts)) (fun h => ?_) (fun h => absurd h (by decide +kernel)))
      rw [Cn.deep] at hd
      rw [Cn.toks] at hl
      have hwl := hw.or
      have hcnt := toksL_count "or" cs hwl.2
      rw [holdsAny_eq] at q
      refine sxs_cons (sx_setCI (es := cs.map fun c => .bl (c.holds l ms)) 7 8 (wk_list (ex_ixT (z := .lst (cs.map Cn.encL)) (ex_var 0) ex_int)) (fun s H C cl fp i d e hd1 he1 => ?_) ?_ (by simp) (by simp; rw [sizeLine_eq]; omega))
      · rw [List.getElem?_map] at hd1 he1
        obtain ⟨c', hc', rfl⟩ := Option.map_eq_some_iff.mp hd1
        rw [hc'] at he1
        cases he1
        have hm := List.mem_of_getElem? hc'
        have h1 := deepL_mem cs c' hm
        have h2 := toksL_mem_len "or" cs c' hm
        exact ex_cal (ih c'.deep (by omega)) (hr.mono (by omega)) (ea_cons (ex_var 8) (ea_cons (ex_var 1 (hv := .inr (.inl (by kernel_rfl)))) (ea_cons (ex_var 2 (hv := .inr (.inl (by kernel_rfl)))) ea_nil))) ⟨c', l, ms, rfl, hwl.2 c' hm, Nat.le_refl _, by omega, hlo, hlw, rfl⟩
      refine freezeL 7 ?_
      refine sxs_one (sx_ret (EX.to (ex_if (d := .bl _) (et_eq (ex_var 3) ex_str) (fun h => absurd h (by decide +kernel)) (fun h => ex_inL ex_bl (ex_var 7) rfl ?_)) ?_) q)
      all_goals first | (rw [List.all_map]; exact List.all_eq_true.mpr fun _ _ => rfl) | skip
      rw [show (cs.map fun c => D.bl (c.holds l ms)) = (cs.map fun c => c.holds l ms).map .bl by rw [List.map_map]; rfl, inF_bls]
      generalize (cs.map fun c => c.holds l ms) = bs
      induction bs with
      | nil => rfl
      | cons b r ih => cases b <;> simp_all
end
end DL
set_option maxHeartbeats 1000000
/-! LF6: the law's sort, letter -/
namespace DL
open PySem PySem.Spec PyProof.Rows L2
def fateD (f : Fa) : D := .tup [.tup [.lst (f.files.map .str), .lst ((rankSort f.marks).map .str), .lst (f.passes.map .str)], .lst (f.acts.map fun i => .int (i : Nat))]
def S__law_sort : Spec := fun ds Φ => ∃ (rs : List Ru) (l : Let), ds = [.lst (rs.map Ru.encL), l.enc] ∧ rs.length ≤ 100 ∧ (∀ r ∈ rs, r.Wf) ∧ l.Ok ∧ l.words.length ≤ 1000 ∧ Φ (fateD (fate rs l))
/-- what a deed of the word k, the name n makes -/
def doK (f : Fa) (k n : Str) : Fa := ⟨if k = "file" ∧ n ∉ f.files then f.files ++ [n] else f.files, f.marks.filter (fun m => decide (m ≠ n) || !decide (k ∈ (["mark", "unmark"] : List Str))) ++ (if k = "mark" then [n] else []), if k = "pass" ∧ n ∉ f.passes then f.passes ++ [n] else f.passes, f.acts⟩
theorem doK_mark (f : Fa) (n : Str) : f.deed (.mark n) = some (doK f "mark" n) := by
  show some _ = some _
  refine congrArg some ?_
  unfold doK
  have n1 : ¬ (("mark" : Str) = "file" ∧ n ∉ f.files) := fun h => absurd h.1 (by decide +kernel)
  have n2 : ¬ (("mark" : Str) = "pass" ∧ n ∉ f.passes) := fun h => absurd h.1 (by decide +kernel)
  have n3 : ("mark" : Str) = "mark" := rfl
  have n4 : decide (("mark" : Str) ∈ (["mark", "unmark"] : List Str)) = true := by decide +kernel
  rw [n4, if_pos n3]
  rw [if_neg n1, if_neg n2]
  simp
theorem doK_unmark (f : Fa) (n : Str) : f.deed (.unmark n) = some (doK f "unmark" n) := by
  show some _ = some _
  refine congrArg some ?_
  unfold doK
  have n1 : ¬ (("unmark" : Str) = "file" ∧ n ∉ f.files) := fun h => absurd h.1 (by decide +kernel)
  have n2 : ¬ (("unmark" : Str) = "pass" ∧ n ∉ f.passes) := fun h => absurd h.1 (by decide +kernel)
  have n3 : ¬ ("unmark" : Str) = "mark" := by decide +kernel
  have n4 : decide (("unmark" : Str) ∈ (["mark", "unmark"] : List Str)) = true := by decide +kernel
  rw [n4, if_neg n3]
  rw [if_neg n1, if_neg n2]
  simp
theorem doK_file (f : Fa) (n : Str) : f.deed (.file n) = some (doK f "file" n) := by
  show some _ = some _
  refine congrArg some ?_
  unfold doK
  have n1 : (("file" : Str) = "file" ∧ n ∉ f.files) = (n ∉ f.files) := by simp
  have n2 : ¬ (("file" : Str) = "pass" ∧ n ∉ f.passes) := fun h => absurd h.1 (by decide +kernel)
  have n3 : ¬ ("file" : Str) = "mark" := by decide +kernel
  have n4 : decide (("file" : Str) ∈ (["mark", "unmark"] : List Str)) = false := by decide +kernel
  have n5 : f.marks.filter (fun m => decide (m ≠ n) || !false) = f.marks := by rw [List.filter_eq_self]; intro a _; simp
  rw [n4, if_neg n3, n5]
  rw [if_neg n2]
  simp only [n1, addTo]
  by_cases h : n ∈ f.files <;> simp [h]
theorem doK_pass (f : Fa) (n : Str) : f.deed (.pass n) = some (doK f "pass" n) := by
  show some _ = some _
  refine congrArg some ?_
  unfold doK
  have n1 : ¬ (("pass" : Str) = "file" ∧ n ∉ f.files) := fun h => absurd h.1 (by decide +kernel)
  have n2 : (("pass" : Str) = "pass" ∧ n ∉ f.passes) = (n ∉ f.passes) := by simp
  have n3 : ¬ ("pass" : Str) = "mark" := by decide +kernel
  have n4 : decide (("pass" : Str) ∈ (["mark", "unmark"] : List Str)) = false := by decide +kernel
  have n5 : f.marks.filter (fun m => decide (m ≠ n) || !false) = f.marks := by rw [List.filter_eq_self]; intro a _; simp
  rw [n4, if_neg n3, n5]
  rw [if_neg n1]
  simp only [n2, addTo]
  by_cases h : n ∈ f.passes <;> simp [h]
theorem deed_cases (f : Fa) (d : Dd) : (d = .stop ∧ d.toks = [("stop" : Str)] ∧ f.deed d = none) ∨ ∃ k n, d.toks = [k, n] ∧ k ≠ "stop" ∧ f.deed d = some (doK f k n) := by
  cases d with
  | stop => exact .inl ⟨rfl, rfl, rfl⟩
  | mark n => exact .inr ⟨"mark", n, rfl, by decide +kernel, doK_mark f n⟩
  | unmark n => exact .inr ⟨"unmark", n, rfl, by decide +kernel, doK_unmark f n⟩
  | file n => exact .inr ⟨"file", n, rfl, by decide +kernel, doK_file f n⟩
  | pass n => exact .inr ⟨"pass", n, rfl, by decide +kernel, doK_pass f n⟩
/-- bounds of what is known so far -/
structure FaB (f : Fa) (n : Nat) : Prop where
  a : f.files.length ≤ n
  b : f.marks.length ≤ n
  c : f.passes.length ≤ n
  e : ∀ x ∈ f.marks, NameS x
theorem doK_b {f : Fa} {k n : Str} {m : Nat} (h : FaB f m) (hn : NameS n) : FaB (doK f k n) (m + 1) := by
  obtain ⟨h1, h2, h3, h4⟩ := h
  unfold doK
  refine ⟨?_, ?_, ?_, fun x hx => ?_⟩
  · show (ite _ _ _ : List Str).length ≤ _
    split
    · rw [List.length_append]; simp; omega
    · omega
  · have := List.length_filter_le (fun m => decide (m ≠ n) || !decide (k ∈ (["mark", "unmark"] : List Str))) f.marks
    show (_ ++ ite _ _ _ : List Str).length ≤ _
    rw [List.length_append]
    split
    · simp only [List.length_singleton]; omega
    · simp only [List.length_nil]; omega
  · show (ite _ _ _ : List Str).length ≤ _
    split
    · rw [List.length_append]; simp; omega
    · omega
  · have hx' : x ∈ f.marks.filter (fun m => decide (m ≠ n) || !decide (k ∈ (["mark", "unmark"] : List Str))) ++ (if k = "mark" then [n] else []) := hx
    rcases List.mem_append.mp hx' with h | h
    · exact h4 x (List.mem_filter.mp h).1
    · split at h
      · simp at h; subst h; exact hn
      · simp at h
section
variable {P : Program} {w : World} {K : PySem.W.Frag} {mg : Str → Option Value} {base : Heap} (T : Tx K mg)
include T
theorem C__law_sort : Cal P w K mg base "_law_sort" 9 ["_law_rules_here", "_law_letter_here"] S__law_sort := by
  refine cal_mk 8 T.d__law_sort T.g__law_sort sc__law_sort (fun _ _ _ _ _ _ us hl => match us, hl with | [_, _], _ => rfl) (fun ds Φ h => ?_) (fun cdv A outer s H Ew E ds Φ hr hN h => ?_)
  · obtain ⟨rs, l, rfl, _⟩ := h; rfl
  · obtain ⟨rs, l, rfl, hl, hw, hlo, hlw, q⟩ := h
    show SXs _ E (_ :: _) _ _
    obtain ⟨fdr, Fr⟩ := T.d__law_rank
    have Br : Binds K fdr ["_law_name"] [] := Fr.bindsN (fun _ _ _ _ _ _ us hl => match us, hl with | [_], _ => rfl)
    have ret : ∀ (g : Fa) (s6 s7 s8 s9 s10 : Sl) (pos1 pos2 pos3 pos4 pos5 pos6 pos7 pos8 pos9 pos10 pos11 : Pos) (k1 k2 : Nat), FaB g 700 → g = fate rs l → ∀ N4', (∀ d Γ, Φ d → N4'.rt d Γ) → SX (cxOf CX0 P w K mg base ["_law_rules_here", "_law_letter_here", "_law_files", "_law_marks", "_law_passes", "_law_some", "_law_at", "_law_condition_here", "_law_deeds_here", "_law_deed", "_law_mark"] "_law_sort" (defScope s__law_sort) (He.ga K "_law_sort") cdv A outer s H Ew).nox E
        (.Return (some (.Tuple [.Tuple [.Name "_law_files" pos1, .Call (.Name "sorted" pos2) [.Name "_law_marks" pos3] [⟨some "key", .Name "_law_rank" pos4, pos5⟩] pos6, .Name "_law_passes" pos7] k1 pos8, .Name "_law_some" pos9] k2 pos10)) pos11) N4'
        [.im (.lst (rs.map Ru.encL)), .im l.enc, .im (.lst (g.files.map .str)), .im (.lst (g.marks.map .str)), .im (.lst (g.passes.map .str)), .im (.lst (g.acts.map fun i => .int (i : Nat))), s6, s7, s8, s9, s10] := by
      intro g s6 s7 s8 s9 s10 pos1 pos2 pos3 pos4 pos5 pos6 pos7 pos8 pos9 pos10 pos11 k1 k2 hb hg N4' hN4
      refine sx_ret (ex_tup (ea_cons (ex_tup (ea_cons (ex_var 2) (ea_cons (EO.ex (eo_sortedDef (k2 := 0) (ex_var 3) (hr.mono (by decide)) Fr sc__law_rank (fun x hx => ?_) T.g__law_rank T.b_sorted T.b_len Br) fz_l) (ea_cons (ex_var 4) ea_nil)))) (ea_cons (ex_var 5) ea_nil))) (hN4 _ _ ?_)
      · have := (hb.e x hx).2.1
        rw [cd_len, sizeLine_eq]; omega
      · subst hg; exact q
    refine sxs_cons (sx_parT (is := [2, 3, 4, 5]) (em_im (ex_lst ea_nil) (em_im (ex_lst ea_nil) (em_im (ex_lst ea_nil) (em_own (eo_lst ea_nil) (em_nil ⟨rfl, ?_⟩))))) (pgn_cons 2 (pgn_cons 3 (pgn_cons 4 (pgn_cons 5 pgn_nil)))))
    refine sxs_cons (sx_for (wk_enum T.b_enumerate (ex_var 0)) (fun i Γ' => ∃ (g : Fa) (s6 s7 s8 s9 s10 : Sl), Γ' = [.im (.lst (rs.map Ru.encL)), .im l.enc, .im (.lst (g.files.map .str)), .im (.lst (g.marks.map .str)), .im (.lst (g.passes.map .str)), .ol (g.acts.map fun i => .int (i : Nat)), s6, s7, s8, s9, s10] ∧ FaB g (6 * i) ∧ g.acts.length ≤ i ∧ Fa.rules l i g (rs.drop i) = fate rs l)
      ⟨⟨[], [], [], []⟩, .un, .un, .un, .un, .un, rfl, ⟨Nat.zero_le _, Nat.zero_le _, Nat.zero_le _, fun x hx => by cases hx⟩, Nat.zero_le _, rfl⟩ ?_ ?_ rfl)
    · rintro i d Γ' hi ⟨g, s6, s7, s8, s9, s10, rfl, hb, ha, hf⟩
      have hil : i < rs.length := by
        have := (List.getElem?_eq_some_iff.mp hi).1
        rw [enumD'_length, List.length_map] at this
        exact this
      obtain ⟨r, hri⟩ : ∃ r, rs[i]? = some r := ⟨rs[i], List.getElem?_eq_getElem hil⟩
      have e0 := enumD'_get 0 (rs.map Ru.encL) i _ (by rw [List.getElem?_map, hri]; rfl)
      rw [e0] at hi
      cases hi
      have wf := hw r (List.mem_of_getElem? hri)
      have hdrop : rs.drop i = r :: rs.drop (i + 1) := by
        rw [List.drop_eq_getElem_cons hil]
        rw [List.getElem?_eq_getElem hil] at hri
        cases hri; rfl
      rw [hdrop, Fa.rules] at hf
      refine ⟨_, tg_tup (tgs_cons (tg_name 6) (tgs_cons (tg_tup (tgs_cons (tg_name 7) (tgs_cons (tg_name 8) tgs_nil)) rfl) tgs_nil)) rfl, ?_⟩
      refine sxs_one (sx_if (et_val (ex_cal (C__law_holds T 6) (hr.mono (by decide)) (ea_cons (ex_var 7) (ea_cons (ex_var 1) (ea_cons (ex_var 3) ea_nil))) ⟨r.1, l, g.marks, rfl, wf.c, wf.k.2, by have := wf.k.1; omega, hlo, hlw, rfl⟩)) (fun hh => ?_) (fun hh => sxs_nil ?_))
      · rw [if_pos hh] at hf
        refine sxs_cons (sx_append 5 (ex_var 6) ?_ ?_)
        rotate_left
        · rw [List.length_map, sizeLine_eq]; omega
        refine sxs_one (sx_for (wk_list (ex_var 8)) (fun j Γ'' => ∃ (g2 : Fa) (t9 t10 : Sl), Γ'' = [.im (.lst (rs.map Ru.encL)), .im l.enc, .im (.lst (g2.files.map .str)), .im (.lst (g2.marks.map .str)), .im (.lst (g2.passes.map .str)), .ol (g2.acts.map fun i => .int (i : Nat)), .im (.int ((0 + i : Nat) : Int)), .im r.1.encL, .im (.lst (r.2.map Dd.encL)), t9, t10] ∧ FaB g2 (6 * i + j) ∧ g2.acts.length ≤ i + 1 ∧ ({ g with acts := g.acts ++ [i] } : Fa).deeds r.2 = g2.deeds (r.2.drop j))
          ⟨{ g with acts := g.acts ++ [i] }, s9, s10, ?_, ⟨hb.a, hb.b, hb.c, hb.e⟩, ?_, rfl⟩ ?_ ?_ rfl)
        · show _ = _
          rw [List.map_append, Nat.zero_add]; rfl
        · show (g.acts ++ [i]).length ≤ i + 1
          rw [List.length_append]; simp; exact ha
        · rintro j d Γ'' hj ⟨g2, t9, t10, rfl, hb2, ha2, hd2⟩
          rw [List.getElem?_map] at hj
          obtain ⟨dd, hdd, rfl⟩ := Option.map_eq_some_iff.mp hj
          have hjl : j < r.2.length := (List.getElem?_eq_some_iff.mp hdd).1
          have hdr : r.2.drop j = dd :: r.2.drop (j + 1) := by
            rw [List.drop_eq_getElem_cons hjl]
            rw [List.getElem?_eq_getElem hjl] at hdd
            cases hdd; rfl
          rw [hdr, Fa.deeds] at hd2
          refine ⟨_, tg_name 9 (hx := .inr (by kernel_rfl)), ?_⟩
          have hn6 := wf.n.2
          rcases deed_cases g2 dd with ⟨rfl, _, hst⟩ | ⟨k, n, hk1, hk2, hk3⟩
          · rw [hst] at hd2
            rw [hd2] at hf
            refine sxs_cons (sx_if (et_eq (ex_ixT (z := .str "stop") (ex_var 9 (hv := .inr (.inl (by kernel_rfl)))) ex_int) ex_str) (fun _ => ?_) (fun h => absurd h (by decide +kernel)))
            refine freezeL 5 ?_
            exact sxs_one (ret g2 _ _ _ _ _ _ _ _ _ _ _ _ _ _ _ _ _ _ ⟨by have := hb2.a; omega, by have := hb2.b; omega, by have := hb2.c; omega, hb2.e⟩ hf _ (fun d _ h => h))
          · rw [hk3] at hd2
            have ed : dd.encL = .tup [.str k, .str n] := by unfold Dd.encL; rw [hk1]; rfl
            rw [ed]
            have hnN : NameS n := Dd.toks_ok (wf.d dd (List.mem_of_getElem? hdd)) n (by rw [hk1]; simp)
            have hb3 := doK_b (k := k) hb2 hnN
            have cdv9 : ∀ {Γ : List Sl} {p : Pos}, Γ[9]? = some (.im (.tup [.str k, .str n])) → EX (cxOf CX0 P w K mg base ["_law_rules_here", "_law_letter_here", "_law_files", "_law_marks", "_law_passes", "_law_some", "_law_at", "_law_condition_here", "_law_deeds_here", "_law_deed", "_law_mark"] "_law_sort" (defScope s__law_sort) (He.ga K "_law_sort") cdv A outer s H Ew).nox E (.Name "_law_deed" p) Γ (.tup [.str k, .str n]) := fun {Γ p} h => ex_var 9 h rfl (.inr (.inl (by kernel_rfl)))
            refine sxs_cons (sx_if (et_eq (ex_ixT (z := .str k) (cdv9 rfl) ex_int) ex_str) (fun h => absurd h (by rw [eqS_str, decide_eq_false hk2]; decide)) (fun _ => sxs_nil ?_))
            have hm1 : (doK g2 k n).marks = g2.marks.filter (fun m => decide (m ≠ n) || !decide (k ∈ (["mark", "unmark"] : List Str))) ++ (if k = "mark" then [n] else []) := rfl
            refine sxs_cons (sx_setCF 3 10 (fun d => !eqS d (.str n) || !decide (k ∈ (["mark", "unmark"] : List Str))) (fun d => d) (wk_list (ex_var 3)) (fun s H C cl fp q d hd => ?_) (fun s H C cl fp q d hd _ => ex_var 10) ?_ ?_)
            · rw [List.getElem?_map] at hd
              obtain ⟨m, hm, rfl⟩ := Option.map_eq_some_iff.mp hd
              refine ET.to (ew_or (et_ne (ex_var 10) (ex_ixT (z := .str n) (ex_var 9 (hv := .inr (.inl (by kernel_rfl)))) (ex_neg ex_int))) (fun _ => ew_or1 (et_niT (xs := (["mark", "unmark"] : List Str).map .str) (ex_ixT (z := .str k) (ex_var 9 (hv := .inr (.inl (by kernel_rfl)))) ex_int) (ex_tup ea_consts)))).et ?_
              rw [inF_strs]
            rotate_left
            · rw [List.length_map, sizeLine_eq]; have := hb2.b; omega
            have emk : ((g2.marks.map D.str).filter (fun d => !eqS d (.str n) || !decide (k ∈ (["mark", "unmark"] : List Str)))).map (fun d => d) = (g2.marks.filter (fun m => decide (m ≠ n) || !decide (k ∈ (["mark", "unmark"] : List Str)))).map D.str := by
              rw [List.map_id', List.filter_map]
              congr 1
              refine List.filter_congr fun m _ => ?_
              show (!eqS (.str m) (.str n) || _) = _
              rw [eqS_str]; simp
            rw [emk]
            refine freezeL 3 ?_
            refine sxs_cons (sx_set 3 (EX.to (y := .lst ((doK g2 k n).marks.map .str)) (ex_addL (ex_var 3) (ex_if (d := .lst ((if k = "mark" then [n] else [] : List Str).map .str)) (et_eq (ex_ixT (z := .str k) (cdv9 rfl) ex_int) ex_str) (fun h => ?_) (fun h => ?_)) ?_) ?_) ?_)
            · rw [eqS_str, decide_eq_true_eq] at h
              rw [if_pos h]; exact ex_lst (ea_cons (ex_ixT (z := .str n) (cdv9 rfl) ex_int) ea_nil)
            · rw [eqS_str, decide_eq_false_iff_not] at h
              rw [if_neg h]; exact ex_lst ea_nil
            · have := hb3.b
              rw [hm1, List.length_append] at this
              rw [List.length_map, List.length_map, sizeLine_eq]
              omega
            · rw [hm1]; simp
            have allf : ∀ l : List Str, (l.map D.str).all flatD = true := fun l => by rw [List.all_map]; exact List.all_eq_true.mpr fun _ _ => rfl
            have rest2 : ∀ Γ, Γ = ([.im (.lst (rs.map Ru.encL)), .im l.enc, .im (.lst ((doK g2 k n).files.map .str)), .im (.lst ((doK g2 k n).marks.map .str)), .im (.lst ((doK g2 k n).passes.map .str)), .ol (g2.acts.map fun i => .int (i : Nat)), .im (.int ((0 + i : Nat) : Int)), .im r.1.encL, .im (.lst (r.2.map Dd.encL)), .im (.tup [.str k, .str n]), t10] : List Sl) → ∃ (g2 : Fa) (t9 t10 : Sl), Γ = [.im (.lst (rs.map Ru.encL)), .im l.enc, .im (.lst (g2.files.map .str)), .im (.lst (g2.marks.map .str)), .im (.lst (g2.passes.map .str)), .ol (g2.acts.map fun i => .int (i : Nat)), .im (.int ((0 + i : Nat) : Int)), .im r.1.encL, .im (.lst (r.2.map Dd.encL)), t9, t10] ∧ FaB g2 (6 * i + (j + 1)) ∧ g2.acts.length ≤ i + 1 ∧ ({ g with acts := g.acts ++ [i] } : Fa).deeds r.2 = g2.deeds (r.2.drop (j + 1)) :=
              fun Γ e => ⟨doK g2 k n, _, _, e, hb3, ha2, hd2⟩
            have ff : (doK g2 k n).files = if k = "file" ∧ n ∉ g2.files then g2.files ++ [n] else g2.files := rfl
            have fp : (doK g2 k n).passes = if k = "pass" ∧ n ∉ g2.passes then g2.passes ++ [n] else g2.passes := rfl
            refine sxs_cons (sx_if_set 2 (d := .lst ((doK g2 k n).files.map .str)) (ew_and (et_eq (ex_ixT (z := .str k) (cdv9 rfl) ex_int) ex_str) (fun _ => ew_and1 (et_niL (ex_ixT (z := .str n) (cdv9 rfl) ex_int) (ex_var 2) rfl (allf _)))).et (fun h => ?_) (fun h => ?_) ?_)
            · rw [eqS_str, inF_strs] at h
              simp at h
              refine EX.to (ex_addL (ex_var 2) (ex_lst (ea_cons (ex_ixT (z := .str n) (cdv9 rfl) ex_int) ea_nil)) ?_) ?_
              · rw [List.length_map, sizeLine_eq]; simp; have := hb2.a; omega
              · rw [ff, if_pos ⟨h.1, h.2⟩]; simp
            · rw [eqS_str, inF_strs] at h
              rw [ff, if_neg]
              · rfl
              · intro z; rw [decide_eq_true z.1, decide_eq_false z.2] at h; cases h
            refine sxs_one (sx_if_set 4 (d := .lst ((doK g2 k n).passes.map .str)) (ew_and (et_eq (ex_ixT (z := .str k) (cdv9 rfl) ex_int) ex_str) (fun _ => ew_and1 (et_niL (ex_ixT (z := .str n) (cdv9 rfl) ex_int) (ex_var 4) rfl (allf _)))).et (fun h => ?_) (fun h => ?_) ?_)
            · rw [eqS_str, inF_strs] at h
              simp at h
              refine EX.to (ex_addL (ex_var 4) (ex_lst (ea_cons (ex_ixT (z := .str n) (cdv9 rfl) ex_int) ea_nil)) ?_) ?_
              · rw [List.length_map, sizeLine_eq]; simp; have := hb2.c; omega
              · rw [fp, if_pos ⟨h.1, h.2⟩]; simp
            · rw [eqS_str, inF_strs] at h
              rw [fp, if_neg]
              · rfl
              · intro z; rw [decide_eq_true z.1, decide_eq_false z.2] at h; cases h
            exact rest2 _ rfl
        · rintro Γ'' ⟨g2, t9, t10, rfl, hb2, ha2, hd2⟩
          rw [List.length_map] at hb2 hd2
          rw [List.drop_length, Fa.deeds] at hd2
          rw [hd2] at hf
          have hn6 := wf.n.2
          exact ⟨g2, _, _, _, _, _, rfl, ⟨by have := hb2.a; omega, by have := hb2.b; omega, by have := hb2.c; omega, hb2.e⟩, ha2, hf⟩
      · rw [if_neg (by rw [hh]; decide)] at hf
        exact ⟨g, _, _, _, _, _, rfl, ⟨by have := hb.a; omega, by have := hb.b; omega, by have := hb.c; omega, hb.e⟩, by omega, hf⟩
    · rintro Γ' ⟨g, s6, s7, s8, s9, s10, rfl, hb, ha, hf⟩
      rw [enumD'_length, List.length_map] at hf hb ha
      rw [List.drop_length, Fa.rules] at hf
      refine freezeL 5 ?_
      exact sxs_one (ret g _ _ _ _ _ _ _ _ _ _ _ _ _ _ _ _ _ _ ⟨by have := hb.a; omega, by have := hb.b; omega, by have := hb.c; omega, hb.e⟩ hf _ (fun d _ h => h))
end
end DL
set_option maxHeartbeats 1000000
/-! LF7: the law's letters -/
namespace DL
open PySem PySem.Spec PyProof.Rows L2
def S__law_letter : Spec := fun ds Φ => ∃ (sc : List Int) (at_ : Int) (ws : List Str), ds = [.lst (sc.map .int), .int at_, .lst (ws.map .str)] ∧ 0 ≤ at_ ∧ WordsOk ws ∧ ∀ l : Let, l.Ok → l.words.length ≤ 20 → Φ l.enc
theorem pick_at {ws : List Str} {i : Int} (h0 : 0 ≤ i) (h1 : i < ws.length) : atI (ws.map D.str) i = some (.str (ws.getD i.toNat "")) := by
  obtain ⟨n, rfl⟩ : ∃ n : Nat, i = (n : Int) := ⟨i.toNat, by omega⟩
  have hn : n < ws.length := by omega
  refine atI_nat ?_
  rw [List.getElem?_map, List.getElem?_eq_getElem hn]
  show some _ = some _
  rw [Int.toNat_natCast, List.getD_eq_getElem?_getD, List.getElem?_eq_getElem hn]; rfl
theorem pick_mem {ws : List Str} {i : Int} (h0 : 0 ≤ i) (h1 : i < ws.length) : ws.getD i.toNat "" ∈ ws := by
  have hn : i.toNat < ws.length := by omega
  rw [List.getD_eq_getElem?_getD, List.getElem?_eq_getElem hn]
  exact List.getElem_mem hn
section
variable {P : Program} {w : World} {K : PySem.W.Frag} {mg : Str → Option Value} {base : Heap} (T : Tx K mg)
include T
theorem C__law_letter : Cal P w K mg base "_law_letter" 4 ["_law_script", "_law_at", "_law_words_here"] S__law_letter := by
  refine cal_mk 3 T.d__law_letter T.g__law_letter sc__law_letter (fun _ _ _ _ _ _ us hl => match us, hl with | [_, _, _], _ => rfl) (fun ds Φ h => ?_) (fun cdv A outer s H Ew E ds Φ hr hN h => ?_)
  · obtain ⟨sc, at_, ws, rfl, _⟩ := h; rfl
  · obtain ⟨sc, at_, ws, rfl, h0, hw, q⟩ := h
    show SXs _ E (_ :: _) _ _
    obtain ⟨wx, hwx⟩ : ∃ wx : List Str, ws ++ ([("zzz" : Str), ("y" : Str)] : List Str) = wx := ⟨_, rfl⟩
    have hl8 : wx.length = 8 := by rw [← hwx, List.length_append, hw.1]; rfl
    have hN : ∀ x ∈ wx, NameS x := fun x hx => by
      rw [← hwx] at hx
      rcases List.mem_append.mp hx with h | h
      · exact hw.2 x h
      · simp at h; rcases h with rfl | rfl <;> decide +kernel
    refine sxs_cons (sx_parT (is := [3, 4]) (em_imR (exr_cal (Φ := fun d => ∃ ns : List Int, d = .lst (ns.map .int) ∧ ns.length = 14 ∧ ∀ n ∈ ns, 0 ≤ n ∧ n < 1009) (C__law_digits T) (hr.mono (by decide)) (EA.R (ea_cons (ex_var 0) (ea_cons (ex_var 1) (ea_cons ex_int (ea_cons ex_int ea_nil)))) ⟨sc, _, _, _, rfl, h0, by omega, by omega, by omega, by omega, fun ns hns hall => ⟨ns, rfl, hns, fun n hn => hall n hn⟩⟩)) fun d hd => ?_) (pgn_cons 3 (pgn_cons 4 pgn_nil (hx := .inr (by kernel_rfl)))))
    obtain ⟨ns, rfl, hl, hns⟩ := hd
    have ewx : (ws.map D.str) ++ [.str "zzz", .str "y"] = wx.map D.str := by rw [← hwx]; simp
    refine em_im (EX.to (y := .lst (wx.map .str)) (ex_addL (ex_var 2) (ex_lst ea_consts) (by rw [List.length_map, hw.1, sizeLine_eq]; decide)) (congrArg D.lst ewx)) (em_nil ⟨rfl, ?_⟩)
    have draw : ∀ i : Nat, i < 14 → ∃ v : Int, 0 ≤ v ∧ v < 1009 ∧ atI (ns.map D.int) (i : Int) = some (.int v) := fun i hi => by
      obtain ⟨v, hv, e⟩ := atI_ints (sc := ns) (k := (i : Int)) (by omega) (by omega)
      exact ⟨v, (hns v hv).1, (hns v hv).2, e⟩
    obtain ⟨d0, p0, q0, a0⟩ := draw 0 (by decide)
    obtain ⟨d1, p1, q1, a1⟩ := draw 1 (by decide)
    obtain ⟨d2, p2, q2, a2⟩ := draw 2 (by decide)
    obtain ⟨z, hz, hzat⟩ := list_at (xs := [.int 0, .int 1, .int 2, .int 9, .int 10, .int 11, .int 500, .int 501, .int 99998, .int 99999]) (i := d1 % 10) (by omega) (by simp; omega)
    have hz2 : ∃ v : Int, z = .int v ∧ 0 ≤ v ∧ v ≤ 99999 := by
      simp only [List.mem_cons, List.not_mem_nil, or_false] at hz
      rcases hz with rfl | rfl | rfl | rfl | rfl | rfl | rfl | rfl | rfl | rfl <;> exact ⟨_, rfl, by decide, by decide⟩
    obtain ⟨v, rfl, hv1, hv2⟩ := hz2
    refine sxs_cons (sx_set 5 (ex_ixT (ex_tup ?_) (ex_mod (ex_ixL (ex_var 3) ex_int a1) ex_int) hzat) ?_)
    · exact ea_consts
    obtain ⟨sz, hsz, hs1, hs2⟩ : ∃ sz : Int, sz = (if d1 / 10 % 3 > 0 then v else d1 * 99) ∧ 0 ≤ sz ∧ sz ≤ 99999 := ⟨_, rfl, by split <;> omega, by split <;> omega⟩
    refine sxs_cons (sx_set 5 (ex_if (d := .int sz) (et_gt (ex_mod (ex_fdiv (ex_ixL (ex_var 3) ex_int a1) ex_int) ex_int) ex_int) (fun h => EX.to (ex_var 5) ?_) (fun h => EX.to (ex_mul (ex_ixL (ex_var 3) ex_int a1) ex_int) ?_)) ?_)
    · rw [hsz, if_pos (by simpa using h)]
    · rw [hsz, if_neg (by simpa using h)]
    obtain ⟨row, hrow⟩ : ∃ row : List Int, cutD ns (some 3) (some (3 + d2 % 11)) = row := ⟨_, rfl⟩
    have erow : cutD (ns.map D.int) (some 3) (some (3 + d2 % 11)) = row.map D.int := by rw [cutD_map, hrow]
    have hrl : row.length ≤ 14 := by
      rw [← hrow]
      unfold cutD
      rw [List.length_take, List.length_drop, hl]
      omega
    have hrm : ∀ n ∈ row, 0 ≤ n ∧ n < 1009 := fun n hn => hns n (mem_cutD (by rw [hrow]; exact hn))
    refine sxs_cons (sx_setCI (es := row.map fun n => .str (wx.getD (n / 3 % (if n % 3 > 0 then 4 else 8)).toNat "")) 6 7 (wk_list (EX.to (ex_sliceL (l := some 3) (h := some (3 + d2 % 11)) (ex_var 3) ex_int (ex_add ex_int (ex_mod (ex_ixL (ex_var 3) ex_int a2) ex_int))) (congrArg D.lst erow))) (fun s H C cl fp i d e hd1 he1 => ?_) ?_ (by simp) (by simp; rw [sizeLine_eq]; omega))
    · rw [List.getElem?_map] at hd1 he1
      obtain ⟨n, hn, rfl⟩ := Option.map_eq_some_iff.mp hd1
      rw [hn] at he1
      cases he1
      have hb := hrm n (List.mem_of_getElem? hn)
      refine ex_ixL (ex_var 4 (hv := .inr (.inl (by kernel_rfl)))) (ex_mod (ex_fdiv (ex_var 7) ex_int) (ex_if (d := .int (if n % 3 > 0 then 4 else 8)) (et_gt (ex_mod (ex_var 7) ex_int) ex_int) (fun h => ?_) (fun h => ?_)) (by split <;> omega)) (pick_at (by split <;> omega) (by rw [hl8]; split <;> omega))
      · rw [if_pos (by simpa using h)]; exact ex_int
      · rw [if_neg (by simpa using h)]; exact ex_int
    refine freezeL 6 ?_
    refine sxs_one (sx_ret (ex_tup (ea_cons (ex_ixL (ex_var 4 (hv := .inr (.inl (by kernel_rfl)))) (ex_mod (ex_ixL (ex_var 3) ex_int a0) ex_int) (pick_at (ws := wx) (by omega) (by rw [hl8]; omega))) (ea_cons (ex_var 6) (ea_cons (ex_var 5) ea_nil)))) ?_)
    have fin := q ⟨wx.getD (d0 % 8).toNat "", row.map fun n => wx.getD (n / 3 % (if n % 3 > 0 then 4 else 8)).toNat "", sz⟩ ⟨hN _ (pick_mem (by omega) (by rw [hl8]; omega)), fun x hx => ?_, hs1, hs2⟩ (by simp; omega)
    · unfold Let.enc at fin
      rw [List.map_map] at fin
      exact fin
    · obtain ⟨n, hn, rfl⟩ := List.mem_map.mp hx
      have hb := hrm n hn
      exact hN _ (pick_mem (by split <;> omega) (by rw [hl8]; split <;> omega))
end
end DL
set_option maxHeartbeats 1000000
/-! PF1: the program: names, sizes, order -/
namespace DL
open PySem PySem.Spec PyProof.Rows L2
def S_in_order : SpecO := fun ds s => ∃ ws : List Str, ds = [.lst (ws.map .str)] ∧ (∀ x ∈ ws, x.length ≤ sizeLine) ∧ s = .ol ((rankSort ws).map .str)
def nameB (x : Str) : Bool := decide (1 ≤ x.length) && decide (x.length ≤ 10) && (cd x).all isLet
theorem nameB_iff (x : Str) : nameB x = true ↔ NameS x := by
  unfold nameB NameS
  rw [cd_len]
  simp only [Bool.and_eq_true, decide_eq_true_eq, List.all_eq_true]
  exact ⟨fun h => ⟨h.1.1, h.1.2, h.2⟩, fun h => ⟨⟨h.1, h.2.1⟩, h.2.2⟩⟩
theorem letters_in (c : Nat) : decide (c ∈ ("abcdefghijklmnopqrstuvwxyz" : Str).cps.toList) = isLet c := by
  have e : ("abcdefghijklmnopqrstuvwxyz" : Str).cps.toList = List.range' 97 26 := by decide +kernel
  rw [e]
  unfold isLet
  by_cases h : 97 ≤ c ∧ c ≤ 122
  · rw [decide_eq_true h.1, decide_eq_true h.2, decide_eq_true]
    · rfl
    · rw [List.mem_range']; exact ⟨c - 97, by omega, by omega⟩
  · rw [decide_eq_false (fun z => h (by rw [List.mem_range'] at z; obtain ⟨i, h1, h2⟩ := z; omega))]
    by_cases h1 : 97 ≤ c
    · rw [decide_eq_false (fun h2 => h ⟨h1, h2⟩)]; simp
    · rw [decide_eq_false h1]; rfl
def isDig (c : Nat) : Bool := decide (48 ≤ c) && decide (c ≤ 57)
def sizeB (x : Str) : Bool := decide (1 ≤ x.length) && decide (x.length ≤ 5) && (cd x).all isDig && (decide (x = "0") || !decide ((cd x).head? = some 48))
theorem sizeB_iff (x : Str) : sizeB x = true ↔ SizeS x := by
  unfold sizeB SizeS isDig
  rw [cd_len]
  simp only [Bool.and_eq_true, Bool.or_eq_true, Bool.not_eq_true', decide_eq_true_eq, decide_eq_false_iff_not, List.all_eq_true]
  exact ⟨fun h => ⟨h.1.1.1, h.1.1.2, h.1.2, h.2⟩, fun h => ⟨⟨⟨h.1, h.2.1⟩, h.2.2.1⟩, h.2.2.2⟩⟩
theorem figures_in (c : Nat) : decide (c ∈ ("0123456789" : Str).cps.toList) = isDig c := by
  have e : ("0123456789" : Str).cps.toList = List.range' 48 10 := by decide +kernel
  rw [e]
  unfold isDig
  by_cases h : 48 ≤ c ∧ c ≤ 57
  · rw [decide_eq_true h.1, decide_eq_true h.2, decide_eq_true]
    · rfl
    · rw [List.mem_range']; exact ⟨c - 48, by omega, by omega⟩
  · rw [decide_eq_false (fun z => h (by rw [List.mem_range'] at z; obtain ⟨i, h1, h2⟩ := z; omega))]
    by_cases h1 : 48 ≤ c
    · rw [decide_eq_false (fun h2 => h ⟨h1, h2⟩)]; simp
    · rw [decide_eq_false h1]; rfl
theorem starts_one (x : Str) (c : Nat) : Txt.startswith x ⟨#[c]⟩ = decide ((cd x).head? = some c) := by
  unfold Txt.startswith
  rw [StrLaws.subAt_eq, List.drop_zero, cd_len]
  show (decide (0 + 1 ≤ (cd x).length) && ((cd x).take 1 == [c])) = _
  cases cd x with
  | nil => simp
  | cons d r =>
    by_cases h : d = c
    · subst h; simp
    · simp [h]
theorem starts_zero (x : Str) : Txt.startswith x "0" = decide ((cd x).head? = some 48) := starts_one x 48
theorem et_not' {X : Cx} {E : En} {e : Expr} {Γ : List Sl} {b c : Bool} {pos : Pos} (h : ET X E e Γ b) (p : (!b) = c) : ET X E (.UnaryOp .Not e pos) Γ c := ET.to (et_not h) p
def S_is_size : Spec := fun ds Φ => ∃ x : Str, ds = [.str x] ∧ x.length ≤ sizeLine ∧ Φ (.bl (sizeB x))
def S_is_name : Spec := fun ds Φ => ∃ x : Str, ds = [.str x] ∧ x.length ≤ sizeLine ∧ Φ (.bl (nameB x))
section
variable {P : Program} {w : World} {K : PySem.W.Frag} {mg : Str → Option Value} {base : Heap} (T : Tx K mg) (TB : ∀ p ∈ sites, LamX.TabB base mg (He.cT K p.1).1 (He.cT K p.1).2)
include T TB
theorem C_in_order : CalO P w K mg base "in_order" 2 ["names"] S_in_order := by
  refine calO_mk 1 T.d_in_order T.g_in_order sc_in_order (fun _ _ _ _ _ _ us hl => match us, hl with | [_], _ => rfl) (fun ds s h => ?_) (fun c hc A outer s H Ew E ds sl hr h σ G H1 Dn v k => ?_)
  · obtain ⟨ws, rfl, _⟩ := h; rfl
  · obtain ⟨ws, rfl, hw, rfl⟩ := h
    subst hc
    refine ss_retO (eo_sortedLam (c := (He.cT K ("in_order", none)).1) (P := (He.cT K ("in_order", none)).2) (ex_var 0) hr (TB (("in_order", none), "in_order.<locals>.<lambda>") (by simp [sites])) rfl ?_ ?_ ?_ hw T.b_sorted T.b_len rfl (by kernel_rfl) (fun _ _ _ _ _ => rfl)) v k
    · show _ ∈ [((He.cT K ("in_order", none)).2, Str.ofString "in_order.<locals>.<lambda>")]
      exact List.mem_singleton.mpr (Prod.ext rfl (by kernel_rfl))
    · intro p hp _
      have : p = ((He.cT K ("in_order", none)).2, Str.ofString "in_order.<locals>.<lambda>") := List.mem_singleton.mp hp
      rw [this]
      show Str.ofString "in_order.<locals>.<lambda>" = _
      kernel_rfl
    · exact ⟨rfl, rfl, rfl, by decide, rfl, by decide +kernel, by decide +kernel⟩
omit TB in
theorem C_is_name : Cal P w K mg base "is_name" 1 ["thing"] S_is_name := by
  refine cal_mk 0 T.d_is_name T.g_is_name sc_is_name (fun _ _ _ _ _ _ us hl => match us, hl with | [_], _ => rfl) (fun ds Φ h => ?_) (fun cdv A outer s H Ew E ds Φ hr hN h => ?_)
  · obtain ⟨x, rfl, _⟩ := h; rfl
  · obtain ⟨x, rfl, hl, q⟩ := h
    show SXs _ E (_ :: _) _ _
    by_cases hlen : 1 ≤ x.length ∧ x.length ≤ 10
    · refine sxs_cons (sx_if (b := false) (ET.to (ew_or (et_not (et_val (ex_isi (T := "str") (b := true) T.b_isinstance (ex_var 0) (ex_ty T.b_str)))) (fun _ => ew_or1 (et_not (et_lele ex_int (ex_lenS (ex_var 0) T.b_len hl) (ex_globI T.i_LONGEST))))).et ?_) (fun h => nomatch h) (fun h => sxs_nil ?_))
      · simp; omega
      refine sxs_one (sx_ret (EX.to (ex_all (bs := (cd x).map isLet) rfl (EX.to (ex_map 1 (fun d => match d with | .str ⟨#[c]⟩ => .bl (isLet c) | _ => .bl false) (wk_str (ex_var 0)) (fun s H C cl fp i d hd => ?_) ?_) ?_) T.b_all) ?_) q)
      · unfold signsD at hd
        rw [List.getElem?_map] at hd
        obtain ⟨c, hc, rfl⟩ := Option.map_eq_some_iff.mp hd
        exact EX.to (ex_inS (ex_var 1) (ex_globS T.z_LETTERS)) (congrArg D.bl (letters_in c))
      · unfold signsD
        rw [List.length_map, ← cd_len]; exact hl
      · unfold signsD
        rw [List.map_map, List.map_map]; rfl
      · unfold nameB
        rw [decide_eq_true hlen.1, decide_eq_true hlen.2, List.all_map]; rfl
    · refine sxs_cons (sx_if (b := true) (ET.to (ew_or (et_not (et_val (ex_isi (T := "str") (b := true) T.b_isinstance (ex_var 0) (ex_ty T.b_str)))) (fun _ => ew_or1 (et_not (et_lele ex_int (ex_lenS (ex_var 0) T.b_len hl) (ex_globI T.i_LONGEST))))).et ?_) (fun h => ?_) (fun h => nomatch h))
      · simp; omega
      · refine sxs_one (sx_ret ex_bl ?_)
        have : nameB x = false := by
          unfold nameB
          by_cases h1 : 1 ≤ x.length
          · rw [decide_eq_false (fun h2 => hlen ⟨h1, h2⟩)]; simp
          · rw [decide_eq_false h1]; rfl
        rw [← this]; exact q
omit TB in
theorem C_is_size : Cal P w K mg base "is_size" 1 ["word"] S_is_size := by
  refine cal_mk 0 T.d_is_size T.g_is_size sc_is_size (fun _ _ _ _ _ _ us hl => match us, hl with | [_], _ => rfl) (fun ds Φ h => ?_) (fun cdv A outer s H Ew E ds Φ hr hN h => ?_)
  · obtain ⟨x, rfl, _⟩ := h; rfl
  · obtain ⟨x, rfl, hl, q⟩ := h
    show SXs _ E (_ :: _) _ _
    by_cases hlen : 1 ≤ x.length ∧ x.length ≤ 5
    · refine sxs_cons (sx_if (b := !((cd x).all isDig)) (ET.to (ew_or (et_not (et_lele ex_int (ex_lenS (ex_var 0) T.b_len hl) ex_int)) (fun _ => ew_or1 (et_not (et_val (ex_all (bs := (cd x).map isDig) rfl (EX.to (ex_map 1 (fun d => match d with | .str ⟨#[c]⟩ => .bl (isDig c) | _ => .bl false) (wk_str (ex_var 0)) (fun s H C cl fp i d hd => ?_) ?_) ?_) T.b_all))))).et ?_) (fun h => ?_) (fun h => sxs_nil ?_))
      · unfold signsD at hd
        rw [List.getElem?_map] at hd
        obtain ⟨c, hc, rfl⟩ := Option.map_eq_some_iff.mp hd
        exact EX.to (ex_inS (ex_var 1) (ex_globS T.z_FIGURES)) (congrArg D.bl (figures_in c))
      · unfold signsD
        rw [List.length_map, ← cd_len]; exact hl
      · unfold signsD
        rw [List.map_map, List.map_map]; rfl
      · have h1 : (decide ((1 : Int) ≤ x.length) && decide ((x.length : Int) ≤ 5)) = true := by simp; omega
        rw [h1, List.all_map]; simp [Function.comp_def]
      · refine sxs_one (sx_ret ex_bl ?_)
        have : sizeB x = false := by unfold sizeB; rw [Bool.not_eq_true'] at h; rw [h]; simp
        rw [← this]; exact q
      · refine sxs_one (sx_ret (EX.to (ex_or (ex_eq (ex_var 0) ex_str) (fun _ => ex_one (ex_not (ex_startswith (ex_var 0) ex_str)))) ?_) q)
        have ha : (cd x).all isDig = true := by simpa using h
        unfold sizeB
        rw [ha, decide_eq_true hlen.1, decide_eq_true hlen.2, eqS_str, starts_zero]; simp
    · refine sxs_cons (sx_if (b := true) (ET.to (ew_orT (et_not' (et_lele ex_int (ex_lenS (ex_var 0) T.b_len hl) ex_int) ?_)).et rfl) (fun h => ?_) (fun h => nomatch h))
      · simp; omega
      · refine sxs_one (sx_ret ex_bl ?_)
        have : sizeB x = false := by
          unfold sizeB
          by_cases h1 : 1 ≤ x.length
          · rw [decide_eq_false (fun h2 => hlen ⟨h1, h2⟩)]; simp
          · rw [decide_eq_false h1]; rfl
        rw [← this]; exact q
end
end DL
set_option maxHeartbeats 400000
/-! PF2: the program: words of a row -/
namespace DL
open PySem PySem.Spec PyProof.Rows L2
def wordsOf (x : Str) : List Str := (Txt.split (repI x 3) " ").filter fun y => decide (y ≠ "")
def S_words_of : Spec := fun ds Φ => ∃ x : Str, ds = [.str x] ∧ x.length ≤ 1000 ∧ (repI x 3).length ≤ 100000 ∧ Φ (.lst ((wordsOf x).map .str))
def nothingB (x : Str) : Bool := Txt.startswith x "#" || decide (Txt.stripChars x " " = "")
def S_says_nothing : Spec := fun ds Φ => ∃ x : Str, ds = [.str x] ∧ x.length ≤ sizeLine ∧ Φ (.bl (nothingB x))
section
variable {P : Program} {w : World} {K : PySem.W.Frag} {mg : Str → Option Value} {base : Heap} (T : Tx K mg)
include T
theorem C_words_of : Cal P w K mg base "words_of" 1 ["told"] S_words_of := by
  refine cal_mk 0 T.d_words_of T.g_words_of sc_words_of (fun _ _ _ _ _ _ us hl => match us, hl with | [_], _ => rfl) (fun ds Φ h => ?_) (fun cdv A outer s H Ew E ds Φ hr hN h => ?_)
  · obtain ⟨x, rfl, _⟩ := h; rfl
  · obtain ⟨x, rfl, hl, hl3, q⟩ := h
    show SXs _ E (_ :: _) _ _
    refine sxs_cons (sx_signs 0 1 rfl hl ?_)
    have hw := split_weight (repI x 3) " " (by decide)
    refine sxs_one (sx_ret (EX.to (EO.ex (eo_filter 2 (fun d => !eqS d (.str "")) (fun d => d) (wk_list ((eo_split (sa := repI x 3) (ex_var 0) ex_str (by decide) (by rw [sizeLine_eq]; omega)).ex fz_l)) (fun s H C cl fp i d hd => ?_) (fun s H C cl fp i d hd _ => ex_var 2) ?_) fz_l) ?_) q)
    · rw [List.getElem?_map] at hd
      obtain ⟨y, hy, rfl⟩ := Option.map_eq_some_iff.mp hd
      exact et_ne (ex_var 2) ex_str
    · rw [List.length_map, sizeLine_eq]; omega
    · unfold wordsOf
      rw [List.map_id', List.filter_map]
      congr 2
      refine List.filter_congr fun y _ => ?_
      show (!eqS (.str y) (.str "")) = _
      rw [eqS_str]; simp
theorem C_says_nothing : Cal P w K mg base "says_nothing" 1 ["told"] S_says_nothing := by
  refine cal_mk 0 T.d_says_nothing T.g_says_nothing sc_says_nothing (fun _ _ _ _ _ _ us hl => match us, hl with | [_], _ => rfl) (fun ds Φ h => ?_) (fun cdv A outer s H Ew E ds Φ hr hN h => ?_)
  · obtain ⟨x, rfl, _⟩ := h; rfl
  · obtain ⟨x, rfl, hl, q⟩ := h
    show SXs _ E (_ :: _) _ _
    refine sxs_one (sx_ret (EX.to (ex_or (ex_startswith (ex_var 0) ex_str) (fun _ => ex_one (ex_eq (ex_stripC (ex_var 0) ex_str hl) ex_str))) ?_) q)
    rw [eqS_str]; rfl
end
end DL
set_option maxHeartbeats 400000
/-! PF3: the program: facts, rules made; the reader's small steps -/
namespace DL
open PySem PySem.Spec PyProof.Rows L2
def S_init_words : SpecM := fun fs ds Φ => ∃ xs : List D, ds = [.lst xs] ∧ fs = [] ∧ Φ .non [("words", .lst xs)]
def S_init_inner : SpecM := fun fs ds Φ => ∃ d : D, ds = [d] ∧ fs = [] ∧ Φ .non [("words", .lst [.str "not"]), ("inner", d)]
def S_Joined : SpecM := fun fs ds Φ => ∃ (w : Str) (xs : List D), ds = [.str w, .lst xs] ∧ fs = [] ∧ Φ .non [("words", .lst [.str w]), ("parts", .lst xs)]
def S_Rule : SpecM := fun fs ds Φ => ∃ (c : D) (xs : List D), ds = [c, .lst xs] ∧ fs = [] ∧ Φ .non [("condition", c), ("deeds", .lst xs)]
def rdF (row : Int) (ws : List Str) (k : Nat) : List (Str × D) := [("row", .int row), ("words", .lst (ws.map .str)), ("spot", .int (k : Nat))]
def S_Reader : SpecM := fun fs ds Φ => ∃ (row : Int) (ws : List Str), ds = [.int row, .lst (ws.map .str)] ∧ fs = [] ∧ Φ .non (rdF row ws 0)
theorem rd_spot (row : Int) (ws : List Str) (k : Nat) : putD "spot" (.int ((k : Int) + 1)) (rdF row ws k) = rdF row ws (k + 1) := rfl
section
variable {P : Program} {w : World} {K : PySem.W.Frag} {mg : Str → Option Value} {base : Heap} (T : Tx K mg)
include T
theorem fact_init {c : Str} {f : Addr} (d : ∃ fd, FunD K "__init__" "Fact.__init__" (defArgs s_Fact_init) (defBody s_Fact_init) (defScope s_Fact_init) [] [] f fd) (c1 : Cls K (He.ga K c)) (c2 : NoAttr K (He.ga K c) "words") :
    ∃ fd, FnOk P w K mg base CX0 1 f fd ["self", "words"] (spM K c S_init_words) ∧ Binds K fd ["self", "words"] [] := by
  obtain ⟨fd, F⟩ := d
  refine ⟨fd, fn_okM F sc_Fact_init (fun fs ds Φ h => ?_) (fun cdv A outer s H Ew E fs ds Φ hr h => ?_), F.bindsN (fun _ _ _ _ _ _ us hl => match us, hl with | [_, _], _ => rfl)⟩
  · obtain ⟨xs, rfl, _⟩ := h; rfl
  · obtain ⟨xs, rfl, rfl, q⟩ := h
    show SXs _ E (_ :: _) _ _
    refine sxs_one (sx_fld 0 c1 c2 ((eo_list (ex_var 1) T.b_list).ex fz_l) ?_)
    exact ⟨_, rfl, q⟩
theorem inner_init {c : Str} {f : Addr} (d : ∃ fd, FunD K "__init__" "Turned.__init__" (defArgs s_Turned_init) (defBody s_Turned_init) (defScope s_Turned_init) [] [] f fd) (c1 : Cls K (He.ga K c)) (c2 : NoAttr K (He.ga K c) "words") (c3 : NoAttr K (He.ga K c) "inner") :
    ∃ fd, FnOk P w K mg base CX0 2 f fd ["self", "inner"] (spM K c S_init_inner) ∧ Binds K fd ["self", "inner"] [] := by
  obtain ⟨fd, F⟩ := d
  obtain ⟨fd0, F0, b0⟩ := fact_init (P := P) (w := w) (base := base) T T.d_Fact_init c1 c2
  refine ⟨fd, fn_okM F sc_Turned_init (fun fs ds Φ h => ?_) (fun cdv A outer s H Ew E fs ds Φ hr h => ?_), F.bindsN (fun _ _ _ _ _ _ us hl => match us, hl with | [_, _], _ => rfl)⟩
  · obtain ⟨xs, rfl, _⟩ := h; rfl
  · obtain ⟨x, rfl, rfl, q⟩ := h
    show SXs _ E (_ :: _) _ _
    refine sxs_cons (sx_dropM (Ψ := fun _ Γ => Γ = [.me c [("words", .lst [.str "not"])], .im x]) (exm_clsfn 0 T.f_Fact F0 hr b0 T.g_Fact (ea_cons (ex_lst (ea_cons ex_str ea_nil)) ea_nil) ⟨_, rfl, rfl, rfl⟩) (fun _ Γ' h => ?_))
    subst h
    refine sxs_one (sx_fld 0 c1 c3 (ex_var 1) ?_)
    exact ⟨_, rfl, q⟩
theorem joined_init : ∃ fd, FnOk P w K mg base CX0 2 (He.ma K (He.ga K "Joined") "__init__") fd ["self", "word", "parts"] (spM K "Joined" S_Joined) ∧ Binds K fd ["self", "word", "parts"] [] := by
  obtain ⟨fd, F⟩ := T.d_Joined_init
  obtain ⟨fd0, F0, b0⟩ := fact_init (P := P) (w := w) (base := base) T T.d_Fact_init T.c_Joined T.n_Joined_words
  refine ⟨fd, fn_okM F sc_Joined_init (fun fs ds Φ h => ?_) (fun cdv A outer s H Ew E fs ds Φ hr h => ?_), F.bindsN (fun _ _ _ _ _ _ us hl => match us, hl with | [_, _, _], _ => rfl)⟩
  · obtain ⟨_, xs, rfl, _⟩ := h; rfl
  · obtain ⟨x, xs, rfl, rfl, q⟩ := h
    show SXs _ E (_ :: _) _ _
    refine sxs_cons (sx_dropM (Ψ := fun _ Γ => Γ = [.me "Joined" [("words", .lst [.str x])], .im (.str x), .im (.lst xs)]) (exm_clsfn 0 T.f_Fact F0 hr b0 T.g_Fact (ea_cons (ex_lst (ea_cons (ex_var 1) ea_nil)) ea_nil) ⟨_, rfl, rfl, rfl⟩) (fun _ Γ' h => ?_))
    subst h
    refine sxs_one (sx_fld 0 T.c_Joined T.n_Joined_parts ((eo_list (ex_var 2) T.b_list).ex fz_l) ?_)
    exact ⟨_, rfl, q⟩
theorem C_Fact : CalI P w K mg base "Fact" 1 ["self", "words"] S_init_words := by obtain ⟨fd, F, b⟩ := fact_init (P := P) (w := w) (base := base) T T.d_Fact_init T.c_Fact T.n_Fact_words; exact ⟨_, fd, F, T.k_Fact, b, T.g_Fact⟩
theorem C_From : CalI P w K mg base "From" 1 ["self", "words"] S_init_words := by obtain ⟨fd, F, b⟩ := fact_init (P := P) (w := w) (base := base) T T.d_From_init T.c_From T.n_From_words; exact ⟨_, fd, F, T.k_From, b, T.g_From⟩
theorem C_Has : CalI P w K mg base "Has" 1 ["self", "words"] S_init_words := by obtain ⟨fd, F, b⟩ := fact_init (P := P) (w := w) (base := base) T T.d_Has_init T.c_Has T.n_Has_words; exact ⟨_, fd, F, T.k_Has, b, T.g_Has⟩
theorem C_First : CalI P w K mg base "First" 1 ["self", "words"] S_init_words := by obtain ⟨fd, F, b⟩ := fact_init (P := P) (w := w) (base := base) T T.d_First_init T.c_First T.n_First_words; exact ⟨_, fd, F, T.k_First, b, T.g_First⟩
theorem C_Last : CalI P w K mg base "Last" 1 ["self", "words"] S_init_words := by obtain ⟨fd, F, b⟩ := fact_init (P := P) (w := w) (base := base) T T.d_Last_init T.c_Last T.n_Last_words; exact ⟨_, fd, F, T.k_Last, b, T.g_Last⟩
theorem C_Pair : CalI P w K mg base "Pair" 1 ["self", "words"] S_init_words := by obtain ⟨fd, F, b⟩ := fact_init (P := P) (w := w) (base := base) T T.d_Pair_init T.c_Pair T.n_Pair_words; exact ⟨_, fd, F, T.k_Pair, b, T.g_Pair⟩
theorem C_Over : CalI P w K mg base "Over" 1 ["self", "words"] S_init_words := by obtain ⟨fd, F, b⟩ := fact_init (P := P) (w := w) (base := base) T T.d_Over_init T.c_Over T.n_Over_words; exact ⟨_, fd, F, T.k_Over, b, T.g_Over⟩
theorem C_Marked : CalI P w K mg base "Marked" 1 ["self", "words"] S_init_words := by obtain ⟨fd, F, b⟩ := fact_init (P := P) (w := w) (base := base) T T.d_Marked_init T.c_Marked T.n_Marked_words; exact ⟨_, fd, F, T.k_Marked, b, T.g_Marked⟩
theorem C_Turned : CalI P w K mg base "Turned" 2 ["self", "inner"] S_init_inner := by obtain ⟨fd, F, b⟩ := inner_init (P := P) (w := w) (base := base) T T.d_Turned_init T.c_Turned T.n_Turned_words T.n_Turned_inner; exact ⟨_, fd, F, T.k_Turned, b, T.g_Turned⟩
theorem C_Bracket : CalI P w K mg base "Bracket" 2 ["self", "inner"] S_init_inner := by obtain ⟨fd, F, b⟩ := inner_init (P := P) (w := w) (base := base) T T.d_Bracket_init T.c_Bracket T.n_Bracket_words T.n_Bracket_inner; exact ⟨_, fd, F, T.k_Bracket, b, T.g_Bracket⟩
theorem C_Joined : CalI P w K mg base "Joined" 2 ["self", "word", "parts"] S_Joined := by obtain ⟨fd, F, b⟩ := joined_init (P := P) (w := w) (base := base) T; exact ⟨_, fd, F, T.k_Joined, b, T.g_Joined⟩
theorem C_Rule : CalI P w K mg base "Rule" 1 ["self", "condition", "deeds"] S_Rule := by
  refine calI_mk 0 T.d_Rule_init T.k_Rule T.g_Rule sc_Rule_init (fun _ _ _ _ _ _ us hl => match us, hl with | [_, _, _], _ => rfl) (fun fs ds Φ h => ?_) (fun cdv A outer s H Ew E fs ds Φ hr hN h => ?_)
  · obtain ⟨c, xs, rfl, _⟩ := h; rfl
  · obtain ⟨c, xs, rfl, rfl, q⟩ := h
    show SXs _ E (_ :: _) _ _
    refine sxs_cons (sx_fld 0 T.c_Rule T.n_Rule_condition (ex_var 1) ?_)
    refine sxs_one (sx_fld 0 T.c_Rule T.n_Rule_deeds ((eo_list (ex_var 2) T.b_list).ex fz_l) ?_)
    exact ⟨_, rfl, q⟩
theorem C_Reader : CalI P w K mg base "Reader" 1 ["self", "row", "words"] S_Reader := by
  refine calI_mk 0 T.d_Reader_init T.k_Reader T.g_Reader sc_Reader_init (fun _ _ _ _ _ _ us hl => match us, hl with | [_, _, _], _ => rfl) (fun fs ds Φ h => ?_) (fun cdv A outer s H Ew E fs ds Φ hr hN h => ?_)
  · obtain ⟨c, xs, rfl, _⟩ := h; rfl
  · obtain ⟨c, xs, rfl, rfl, q⟩ := h
    show SXs _ E (_ :: _) _ _
    refine sxs_cons (sx_fld 0 T.c_Reader T.n_Reader_row (ex_var 1) ?_)
    refine sxs_cons (sx_fld 0 T.c_Reader T.n_Reader_words (ex_var 2) ?_)
    refine sxs_one (sx_fld 0 T.c_Reader T.n_Reader_spot ex_int ?_)
    exact ⟨_, rfl, q⟩
end
end DL
set_option maxHeartbeats 400000
/-! PF4: the program: the reader's small steps, facts, deeds -/
namespace DL
open PySem PySem.Spec PyProof.Rows L2
def S_Reader_here : Spec := fun ds Φ => ∃ (row : Int) (ws : List Str) (k : Nat), ds = [.ins "Reader" (rdF row ws k)] ∧ ws.length ≤ 60 ∧ Φ (.str (ws.getD k ""))
def S_Reader_step : SpecM := fun fs ds Φ => ∃ (row : Int) (ws : List Str) (k : Nat) (x : Str), fs = rdF row ws k ∧ ds = [] ∧ ws[k]? = some x ∧ Φ (.str x) (rdF row ws (k + 1))
def S_Reader_due : SpecM := fun fs ds Φ => ∃ (row : Int) (ws : List Str) (k : Nat) (x : Str), fs = rdF row ws k ∧ ds = [.str x] ∧ ws[k]? = some x ∧ ws.length ≤ 60 ∧ Φ .non (rdF row ws (k + 1))
def S_Reader_name_here : SpecM := fun fs ds Φ => ∃ (row : Int) (ws : List Str) (k : Nat) (x : Str), fs = rdF row ws k ∧ ds = [] ∧ ws[k]? = some x ∧ ws.length ≤ 60 ∧ NameS x ∧ Φ (.str x) (rdF row ws (k + 1))
def S_Reader_size_here : SpecM := fun fs ds Φ => ∃ (row : Int) (ws : List Str) (k : Nat) (x : Str), fs = rdF row ws k ∧ ds = [] ∧ ws[k]? = some x ∧ ws.length ≤ 60 ∧ SizeS x ∧ Φ (.str x) (rdF row ws (k + 1))
theorem getD_at {ws : List Str} {k : Nat} {x : Str} (h : ws[k]? = some x) : ws.getD k "" = x := by rw [List.getD_eq_getElem?_getD, h]; rfl
theorem ws_at {ws : List Str} {k : Nat} {x : Str} (h : ws[k]? = some x) : atI (ws.map D.str) (k : Int) = some (.str x) := atI_nat (by rw [List.getElem?_map, h]; rfl)
theorem lt_of_at {α : Type} {ws : List α} {k : Nat} {x : α} (h : ws[k]? = some x) : k < ws.length := (List.getElem?_eq_some_iff.mp h).1
theorem drop_at {ws : List Str} {k : Nat} {x : Str} {r : List Str} (h : ws.drop k = x :: r) : ws[k]? = some x ∧ ws.drop (k + 1) = r := by
  have h1 : (ws.drop k)[0]? = some x := by rw [h]; rfl
  rw [List.getElem?_drop] at h1
  refine ⟨by simpa using h1, ?_⟩
  rw [← List.drop_drop, h]; rfl
section
variable {P : Program} {w : World} {K : PySem.W.Frag} {mg : Str → Option Value} {base : Heap} (T : Tx K mg)
include T
theorem C_Reader_here : CalM P w K mg base "Reader" "here" 1 ["self"] S_Reader_here := by
  refine calM_mk 0 T.d_Reader_here T.c_Reader T.m_Reader_here sc_Reader_here (fun _ _ _ _ _ _ us hl => match us, hl with | [_], _ => rfl) (fun ds Φ h => ?_) (fun cdv A outer s H Ew E ds Φ hr hN h => ?_)
  · obtain ⟨row, ws, k, rfl, _⟩ := h; rfl
  · obtain ⟨row, ws, k, rfl, hl, q⟩ := h
    show SXs _ E (_ :: _) _ _
    refine sxs_cons (sx_if (b := false) (ET.to (ew_and (et_eq (ex_fld T.c_Reader T.n_Reader_spot (ex_var 0)) (ex_globI T.i_MOST_WORDS)) (fun h => ew_and1 (et_lt (ex_fld T.c_Reader T.n_Reader_spot (ex_var 0)) (ex_lenL (ex_fld T.c_Reader T.n_Reader_words (ex_var 0)) T.b_len)))).et ?_) (fun h => nomatch h) (fun _ => sxs_nil ?_))
    · rw [List.length_map, Bool.and_eq_false_iff]
      by_cases hk : k = 60
      · exact .inr (decide_eq_false (by omega))
      · refine .inl (decide_eq_false (fun z => hk ?_))
        have z2 : V.int (k : Nat) = V.int 60 := z
        injection z2 with z3
        omega
    refine sxs_one (sx_ret (ex_if (et_lt (ex_fld T.c_Reader T.n_Reader_spot (ex_var 0)) (ex_lenL (ex_fld T.c_Reader T.n_Reader_words (ex_var 0)) T.b_len)) (fun h => ex_ixL (ex_fld T.c_Reader T.n_Reader_words (ex_var 0)) (ex_fld T.c_Reader T.n_Reader_spot (ex_var 0)) (ws_at (x := ws.getD k "") ?_)) (fun h => EX.to ex_str ?_)) q)
    · rw [List.length_map, decide_eq_true_eq] at h
      have hk : k < ws.length := by omega
      rw [List.getD_eq_getElem?_getD, List.getElem?_eq_getElem hk]; rfl
    · rw [List.length_map, decide_eq_false_iff_not] at h
      have hk : ws.length ≤ k := by omega
      rw [List.getD_eq_getElem?_getD, List.getElem?_eq_none hk]; rfl
theorem ex_here {X : Cx} {E : En} {Γ : List Sl} {n : Str} {npos apos pos : Pos} {row : Int} {ws : List Str} {k : Nat} {x : Str} (hp : X.prog = P) (hw : X.w = w) (hK : X.K = K) (hmg : X.mg = mg) (hba : X.base = base) (hr : Room 1 X.A) (hs : Γ[0]? = some (.me "Reader" (rdF row ws k))) (hl : ws.length ≤ 60) (hx : ws.getD k "" = x) (hN : X.N[0]? = some n := by exact rfl) (hv : Vis X.env.scope n := by exact Or.inl (by kernel_rfl)) (hd : (n == ("__debug__" : Str)) = false := by decide +kernel)
    (hcd : (n == ("__classdict__" : Str)) = false := by decide +kernel) (hline : (apos.endLine == pos.line) = true := by exact rfl) : EX X E (.Call (.Attribute (.Name n npos) "here" apos) [] [] pos) Γ (.str x) := by
  subst hp hw hK hmg hba hx
  have h0 : 0 < Γ.length := (List.getElem?_eq_some_iff.mp hs).1
  exact lent 0 fz_me (fun E' => EXR.imp (exr_calM0 (Φ := fun d => d = .str (ws.getD k "")) (C_Reader_here T) hr (ex_var 0 (by rw [List.getElem?_set_self h0]) hN hv hd hcd) ⟨row, ws, k, rfl, hl, rfl⟩ rfl rfl hline) fun d h => ⟨by rw [h]; rfl, h⟩) hs rfl
theorem C_Reader_step : CalS P w K mg base "Reader" "step" (0 + 1) ["self"] S_Reader_step := by
  refine calS_mk 0 T.d_Reader_step T.c_Reader T.m_Reader_step sc_Reader_step (fun _ _ _ _ _ _ us hl => match us, hl with | [_], _ => rfl) (fun fs ds Φ h => ?_) (fun cdv A outer s H Ew E fs ds Φ hr hN h => ?_)
  · obtain ⟨row, ws, k, x, rfl, rfl, _⟩ := h; rfl
  · obtain ⟨row, ws, k, x, rfl, rfl, hx, q⟩ := h
    show SXs _ E (_ :: _) _ _
    refine sxs_cons (sx_fldadd 0 T.c_Reader T.n_Reader_spot ex_int ?_ (i := (k : Nat)))
    rw [rd_spot]
    refine sxs_one (sx_ret (ex_ixL (ex_fldM 0 T.c_Reader T.n_Reader_words) (ex_sub (ex_fldM 0 T.c_Reader T.n_Reader_spot) ex_int) (z := .str x) ?_) ⟨_, rfl, q⟩)
    have e : (((k + 1 : Nat) : Int) - 1) = (k : Int) := by omega
    rw [e]; exact ws_at hx
theorem C_Reader_due : CalS P w K mg base "Reader" "due" (1 + 1) ["self", "word"] S_Reader_due := by
  refine calS_mk 1 T.d_Reader_due T.c_Reader T.m_Reader_due sc_Reader_due (fun _ _ _ _ _ _ us hl => match us, hl with | [_, _], _ => rfl) (fun fs ds Φ h => ?_) (fun cdv A outer s H Ew E fs ds Φ hr hN h => ?_)
  · obtain ⟨row, ws, k, x, rfl, rfl, _⟩ := h; rfl
  · obtain ⟨row, ws, k, x, rfl, rfl, hx, hl, q⟩ := h
    show SXs _ E (_ :: _) _ _
    refine sxs_cons (sx_if (b := false) (ET.to (et_ne (ex_here (P := P) (w := w) (base := base) T rfl rfl rfl rfl rfl hr rfl hl (getD_at hx)) (ex_var 1)) ?_) (fun h => nomatch h) (fun _ => sxs_nil ?_))
    · rw [eqS_str]; simp
    refine sxs_one (sx_dropM (Ψ := fun _ Γ => Γ = [.me "Reader" (rdF row ws (k + 1)), .im (.str x)]) (exm_meth 0 (C_Reader_step T) (hr.mono (by decide)) ⟨row, ws, k, x, rfl, rfl, hx, rfl⟩) (fun _ Γ' h => ?_))
    subst h
    exact ⟨_, rfl, q⟩
theorem C_Reader_name_here : CalS P w K mg base "Reader" "name_here" (1 + 1) ["self"] S_Reader_name_here := by
  refine calS_mk 1 T.d_Reader_name_here T.c_Reader T.m_Reader_name_here sc_Reader_name_here (fun _ _ _ _ _ _ us hl => match us, hl with | [_], _ => rfl) (fun fs ds Φ h => ?_) (fun cdv A outer s H Ew E fs ds Φ hr hN h => ?_)
  · obtain ⟨row, ws, k, x, rfl, rfl, _⟩ := h; rfl
  · obtain ⟨row, ws, k, x, rfl, rfl, hx, hl, hn, q⟩ := h
    show SXs _ E (_ :: _) _ _
    have hlx : x.length ≤ sizeLine := by rw [cd_len, sizeLine_eq]; have := hn.2.1; omega
    refine sxs_cons (sx_if (b := false) (ET.to (et_not (et_val (ex_cal (C_is_name T) (hr.mono (by decide)) (ea_cons (ex_here (P := P) (w := w) (base := base) T rfl rfl rfl rfl rfl hr rfl hl (getD_at hx)) ea_nil) ⟨x, rfl, hlx, rfl⟩))) ?_) (fun h => nomatch h) (fun _ => sxs_nil ?_))
    · rw [(nameB_iff x).mpr hn]; rfl
    exact sxs_one (sx_retM (Ψ := fun d Γ => d = .str x ∧ Γ = [.me "Reader" (rdF row ws (k + 1))]) (exm_meth 0 (C_Reader_step T) (hr.mono (by decide)) ⟨row, ws, k, x, rfl, rfl, hx, rfl, rfl⟩) (fun _ Γ' h => by obtain ⟨rfl, rfl⟩ := h; exact ⟨_, rfl, q⟩))
theorem C_Reader_size_here : CalS P w K mg base "Reader" "size_here" (1 + 1) ["self"] S_Reader_size_here := by
  refine calS_mk 1 T.d_Reader_size_here T.c_Reader T.m_Reader_size_here sc_Reader_size_here (fun _ _ _ _ _ _ us hl => match us, hl with | [_], _ => rfl) (fun fs ds Φ h => ?_) (fun cdv A outer s H Ew E fs ds Φ hr hN h => ?_)
  · obtain ⟨row, ws, k, x, rfl, rfl, _⟩ := h; rfl
  · obtain ⟨row, ws, k, x, rfl, rfl, hx, hl, hn, q⟩ := h
    show SXs _ E (_ :: _) _ _
    have hlx : x.length ≤ sizeLine := by rw [cd_len, sizeLine_eq]; have := hn.2.1; omega
    refine sxs_cons (sx_if (b := false) (ET.to (et_not (et_val (ex_cal (C_is_size T) (hr.mono (by decide)) (ea_cons (ex_here (P := P) (w := w) (base := base) T rfl rfl rfl rfl rfl hr rfl hl (getD_at hx)) ea_nil) ⟨x, rfl, hlx, rfl⟩))) ?_) (fun h => nomatch h) (fun _ => sxs_nil ?_))
    · rw [(sizeB_iff x).mpr hn]; rfl
    exact sxs_one (sx_retM (Ψ := fun d Γ => d = .str x ∧ Γ = [.me "Reader" (rdF row ws (k + 1))]) (exm_meth 0 (C_Reader_step T) (hr.mono (by decide)) ⟨row, ws, k, x, rfl, rfl, hx, rfl, rfl⟩) (fun _ Γ' h => by obtain ⟨rfl, rfl⟩ := h; exact ⟨_, rfl, q⟩))
end
end DL
set_option maxHeartbeats 400000
/-! PF5: the program: facts, deeds read (printed by mkpf5.py) -/
namespace DL
open PySem PySem.Spec PyProof.Rows L2
def factWords : List Str := ["any", "from", "has", "first", "last", "pair", "over", "marked"]
def deedWords : List Str := ["mark", "unmark", "file", "pass", "stop"]
def S_Reader_fact : SpecM := fun fs ds Φ => ∃ (row : Int) (ws : List Str) (k : Nat) (c : Cn) (rest : List Str), fs = rdF row ws k ∧ ds = [] ∧ c.isFact = true ∧ c.nice ∧ ws.drop k = c.toks ++ rest ∧ ws.length ≤ 60 ∧ Φ c.encP (rdF row ws (k + c.toks.length))
def S_Reader_deed : SpecM := fun fs ds Φ => ∃ (row : Int) (ws : List Str) (k : Nat) (d : Dd) (rest : List Str), fs = rdF row ws k ∧ ds = [] ∧ d.fine ∧ ws.drop k = d.toks ++ rest ∧ ws.length ≤ 60 ∧ Φ d.encP (rdF row ws (k + d.toks.length))
theorem Cn.head_fact {c : Cn} (h : c.isFact = true) : ∃ W r, c.toks = W :: r ∧ W ∈ factWords := by
  cases c <;> first | (cases h; done) | skip
  all_goals simp only [Cn.toks]
  all_goals exact ⟨_, _, rfl, by decide +kernel⟩
theorem Dd.head (d : Dd) : ∃ W r, d.toks = W :: r ∧ W ∈ deedWords := by
  cases d <;> exact ⟨_, _, rfl, by decide +kernel⟩
section
variable {P : Program} {w : World} {K : PySem.W.Frag} {mg : Str → Option Value} {base : Heap} (T : Tx K mg)
include T
theorem C_Reader_fact : CalS P w K mg base "Reader" "fact" (3 + 1) ["self"] S_Reader_fact := by
  refine calS_mk 3 T.d_Reader_fact T.c_Reader T.m_Reader_fact sc_Reader_fact (fun _ _ _ _ _ _ us hl => match us, hl with | [_], _ => rfl) (fun fs ds Φ h => ?_) (fun cdv A outer s H Ew E fs ds Φ hr hN h => ?_)
  · obtain ⟨_, _, _, _, _, rfl, rfl, _⟩ := h; rfl
  · obtain ⟨row, ws, k, c, rest, rfl, rfl, hf, hn, hw, hl, q⟩ := h
    show SXs _ E (_ :: _) _ _
    obtain ⟨W, r, hW, h8⟩ := Cn.head_fact hf
    have hk : ws[k]? = some W ∧ ws.drop (k + 1) = r ++ rest := drop_at (by rw [hw, hW]; rfl)
    refine sxs_cons (sx_set 1 (ex_here (P := P) (w := w) (base := base) T rfl rfl rfl rfl rfl (hr.mono (by decide)) rfl hl (getD_at hk.1)) ?_)
    refine sxs_cons (sx_if (b := false) (ET.to (et_niT (xs := factWords.map .str) (ex_var 1) (ex_tup ea_consts)) ?_) (fun h => nomatch h) (fun _ => sxs_nil ?_))
    · rw [inF_strs, decide_eq_true h8]; rfl
    refine sxs_cons (sx_dropQ (exq_m0 (fs' := rdF row ws (k + 1)) 0 (C_Reader_step T) (hr.mono (by decide)) ⟨row, ws, k, W, rfl, rfl, hk.1, rfl, rfl⟩) ?_)
    cases c <;> first | (cases hf; done) | skip
    case any =>
      simp only [Cn.toks, Cn.encP] at hW q
      injection hW with hW1 hW2
      subst hW1
      subst hW2
      exact sxs_cons (sx_if (b := true) (ET.to (et_eq (ex_var 1) ex_str) (by rw [eqS_str]; decide +kernel)) (fun _ => sxs_one (sx_ret (ex_mk (C_Fact T) (hr.mono (by decide)) (EA.R (ea_cons (ex_lst (ea_cons (ex_var 1) ea_nil)) ea_nil) ⟨_, rfl, rfl, rfl, rfl⟩)) ⟨_, rfl, q⟩)) (fun h => nomatch h))
    case has n =>
      simp only [Cn.toks, Cn.encP] at hW q
      injection hW with hW1 hW2
      subst hW1
      subst hW2
      have h2 := drop_at (x := n) (r := rest) (by rw [hk.2]; rfl)
      refine sxs_cons (sx_if (b := false) (ET.to (et_eq (ex_var 1) ex_str) (by rw [eqS_str]; decide +kernel)) (fun h => nomatch h) (fun _ => sxs_nil ?_))
      refine sxs_cons (sx_if (b := false) (ET.to (et_eq (ex_var 1) ex_str) (by rw [eqS_str]; decide +kernel)) (fun h => nomatch h) (fun _ => sxs_nil ?_))
      refine sxs_cons (sx_if (b := false) (ET.to (et_eq (ex_var 1) ex_str) (by rw [eqS_str]; decide +kernel)) (fun h => nomatch h) (fun _ => sxs_nil ?_))
      refine sxs_cons (sx_setQ 3 (exq_lst (eaq_x (ex_var 1) (eaq_q (exq_m0 (fs' := rdF row ws (k + 1 + 1)) 0 (C_Reader_name_here T) (hr.mono (by decide)) ⟨row, ws, k + 1, n, rfl, rfl, h2.1, hl, hn, rfl, rfl⟩) eaq_nil))) ?_)
      refine sxs_cons (sx_if (b := false) (ET.to (et_eq (ex_var 1) ex_str) (by rw [eqS_str]; decide +kernel)) (fun h => nomatch h) (fun _ => sxs_nil ?_))
      exact sxs_cons (sx_if (b := true) (ET.to (et_eq (ex_var 1) ex_str) (by rw [eqS_str]; decide +kernel)) (fun _ => sxs_one (sx_ret (ex_mk (C_Has T) (hr.mono (by decide)) (EA.R (ea_cons (ex_var 3) ea_nil) ⟨_, rfl, rfl, rfl, rfl⟩)) ⟨_, rfl, q⟩)) (fun h => nomatch h))
    case first n =>
      simp only [Cn.toks, Cn.encP] at hW q
      injection hW with hW1 hW2
      subst hW1
      subst hW2
      have h2 := drop_at (x := n) (r := rest) (by rw [hk.2]; rfl)
      refine sxs_cons (sx_if (b := false) (ET.to (et_eq (ex_var 1) ex_str) (by rw [eqS_str]; decide +kernel)) (fun h => nomatch h) (fun _ => sxs_nil ?_))
      refine sxs_cons (sx_if (b := false) (ET.to (et_eq (ex_var 1) ex_str) (by rw [eqS_str]; decide +kernel)) (fun h => nomatch h) (fun _ => sxs_nil ?_))
      refine sxs_cons (sx_if (b := false) (ET.to (et_eq (ex_var 1) ex_str) (by rw [eqS_str]; decide +kernel)) (fun h => nomatch h) (fun _ => sxs_nil ?_))
      refine sxs_cons (sx_setQ 3 (exq_lst (eaq_x (ex_var 1) (eaq_q (exq_m0 (fs' := rdF row ws (k + 1 + 1)) 0 (C_Reader_name_here T) (hr.mono (by decide)) ⟨row, ws, k + 1, n, rfl, rfl, h2.1, hl, hn, rfl, rfl⟩) eaq_nil))) ?_)
      refine sxs_cons (sx_if (b := false) (ET.to (et_eq (ex_var 1) ex_str) (by rw [eqS_str]; decide +kernel)) (fun h => nomatch h) (fun _ => sxs_nil ?_))
      refine sxs_cons (sx_if (b := false) (ET.to (et_eq (ex_var 1) ex_str) (by rw [eqS_str]; decide +kernel)) (fun h => nomatch h) (fun _ => sxs_nil ?_))
      exact sxs_cons (sx_if (b := true) (ET.to (et_eq (ex_var 1) ex_str) (by rw [eqS_str]; decide +kernel)) (fun _ => sxs_one (sx_ret (ex_mk (C_First T) (hr.mono (by decide)) (EA.R (ea_cons (ex_var 3) ea_nil) ⟨_, rfl, rfl, rfl, rfl⟩)) ⟨_, rfl, q⟩)) (fun h => nomatch h))
    case last n =>
      simp only [Cn.toks, Cn.encP] at hW q
      injection hW with hW1 hW2
      subst hW1
      subst hW2
      have h2 := drop_at (x := n) (r := rest) (by rw [hk.2]; rfl)
      refine sxs_cons (sx_if (b := false) (ET.to (et_eq (ex_var 1) ex_str) (by rw [eqS_str]; decide +kernel)) (fun h => nomatch h) (fun _ => sxs_nil ?_))
      refine sxs_cons (sx_if (b := false) (ET.to (et_eq (ex_var 1) ex_str) (by rw [eqS_str]; decide +kernel)) (fun h => nomatch h) (fun _ => sxs_nil ?_))
      refine sxs_cons (sx_if (b := false) (ET.to (et_eq (ex_var 1) ex_str) (by rw [eqS_str]; decide +kernel)) (fun h => nomatch h) (fun _ => sxs_nil ?_))
      refine sxs_cons (sx_setQ 3 (exq_lst (eaq_x (ex_var 1) (eaq_q (exq_m0 (fs' := rdF row ws (k + 1 + 1)) 0 (C_Reader_name_here T) (hr.mono (by decide)) ⟨row, ws, k + 1, n, rfl, rfl, h2.1, hl, hn, rfl, rfl⟩) eaq_nil))) ?_)
      refine sxs_cons (sx_if (b := false) (ET.to (et_eq (ex_var 1) ex_str) (by rw [eqS_str]; decide +kernel)) (fun h => nomatch h) (fun _ => sxs_nil ?_))
      refine sxs_cons (sx_if (b := false) (ET.to (et_eq (ex_var 1) ex_str) (by rw [eqS_str]; decide +kernel)) (fun h => nomatch h) (fun _ => sxs_nil ?_))
      refine sxs_cons (sx_if (b := false) (ET.to (et_eq (ex_var 1) ex_str) (by rw [eqS_str]; decide +kernel)) (fun h => nomatch h) (fun _ => sxs_nil ?_))
      exact sxs_one (sx_ret (ex_if (b := true) (ET.to (et_eq (ex_var 1) ex_str) (by rw [eqS_str]; decide +kernel)) (fun _ => (ex_mk (C_Last T) (hr.mono (by decide)) (EA.R (ea_cons (ex_var 3) ea_nil) ⟨_, rfl, rfl, rfl, rfl⟩))) (fun h => nomatch h)) ⟨_, rfl, q⟩)
    case pair a b =>
      simp only [Cn.toks, Cn.encP] at hW q
      injection hW with hW1 hW2
      subst hW1
      subst hW2
      have h2 := drop_at (x := a) (r := b :: rest) (by rw [hk.2]; rfl)
      have h3 := drop_at h2.2
      refine sxs_cons (sx_if (b := false) (ET.to (et_eq (ex_var 1) ex_str) (by rw [eqS_str]; decide +kernel)) (fun h => nomatch h) (fun _ => sxs_nil ?_))
      refine sxs_cons (sx_if (b := false) (ET.to (et_eq (ex_var 1) ex_str) (by rw [eqS_str]; decide +kernel)) (fun h => nomatch h) (fun _ => sxs_nil ?_))
      refine sxs_cons (sx_if (b := true) (ET.to (et_eq (ex_var 1) ex_str) (by rw [eqS_str]; decide +kernel)) (fun _ => ?_) (fun h => nomatch h))
      refine sxs_cons (sx_setQ 2 (exq_m0 (fs' := rdF row ws (k + 1 + 1)) 0 (C_Reader_name_here T) (hr.mono (by decide)) ⟨row, ws, k + 1, a, rfl, rfl, h2.1, hl, hn.1, rfl, rfl⟩) ?_)
      exact sxs_one (sx_retQ (exq_mk (C_Pair T) (hr.mono (by decide)) (eaq_q (exq_lst (eaq_x (ex_var 1) (eaq_x (ex_var 2) (eaq_q (exq_m0 (fs' := rdF row ws (k + 1 + 1 + 1)) 0 (C_Reader_name_here T) (hr.mono (by decide)) ⟨row, ws, k + 1 + 1, b, rfl, rfl, h3.1, hl, hn.2, rfl, rfl⟩) eaq_nil)))) eaq_nil) ⟨_, rfl, rfl, rfl, rfl, rfl⟩) ⟨_, rfl, q⟩)
    case frm n =>
      simp only [Cn.toks, Cn.encP] at hW q
      injection hW with hW1 hW2
      subst hW1
      subst hW2
      have h2 := drop_at (x := n) (r := rest) (by rw [hk.2]; rfl)
      refine sxs_cons (sx_if (b := false) (ET.to (et_eq (ex_var 1) ex_str) (by rw [eqS_str]; decide +kernel)) (fun h => nomatch h) (fun _ => sxs_nil ?_))
      refine sxs_cons (sx_if (b := false) (ET.to (et_eq (ex_var 1) ex_str) (by rw [eqS_str]; decide +kernel)) (fun h => nomatch h) (fun _ => sxs_nil ?_))
      refine sxs_cons (sx_if (b := false) (ET.to (et_eq (ex_var 1) ex_str) (by rw [eqS_str]; decide +kernel)) (fun h => nomatch h) (fun _ => sxs_nil ?_))
      refine sxs_cons (sx_setQ 3 (exq_lst (eaq_x (ex_var 1) (eaq_q (exq_m0 (fs' := rdF row ws (k + 1 + 1)) 0 (C_Reader_name_here T) (hr.mono (by decide)) ⟨row, ws, k + 1, n, rfl, rfl, h2.1, hl, hn, rfl, rfl⟩) eaq_nil))) ?_)
      exact sxs_cons (sx_if (b := true) (ET.to (et_eq (ex_var 1) ex_str) (by rw [eqS_str]; decide +kernel)) (fun _ => sxs_one (sx_ret (ex_mk (C_From T) (hr.mono (by decide)) (EA.R (ea_cons (ex_var 3) ea_nil) ⟨_, rfl, rfl, rfl, rfl⟩)) ⟨_, rfl, q⟩)) (fun h => nomatch h))
    case over s =>
      simp only [Cn.toks, Cn.encP] at hW q
      injection hW with hW1 hW2
      subst hW1
      subst hW2
      have h2 := drop_at (x := s) (r := rest) (by rw [hk.2]; rfl)
      refine sxs_cons (sx_if (b := false) (ET.to (et_eq (ex_var 1) ex_str) (by rw [eqS_str]; decide +kernel)) (fun h => nomatch h) (fun _ => sxs_nil ?_))
      exact sxs_cons (sx_if (b := true) (ET.to (et_eq (ex_var 1) ex_str) (by rw [eqS_str]; decide +kernel)) (fun _ => sxs_one (sx_retQ (exq_mk (C_Over T) (hr.mono (by decide)) (eaq_q (exq_lst (eaq_x (ex_var 1) (eaq_q (exq_m0 (fs' := rdF row ws (k + 1 + 1)) 0 (C_Reader_size_here T) (hr.mono (by decide)) ⟨row, ws, k + 1, s, rfl, rfl, h2.1, hl, hn, rfl, rfl⟩) eaq_nil))) eaq_nil) ⟨_, rfl, rfl, rfl, rfl, rfl⟩) ⟨_, rfl, q⟩)) (fun h => nomatch h))
    case marked n =>
      simp only [Cn.toks, Cn.encP] at hW q
      injection hW with hW1 hW2
      subst hW1
      subst hW2
      have h2 := drop_at (x := n) (r := rest) (by rw [hk.2]; rfl)
      refine sxs_cons (sx_if (b := false) (ET.to (et_eq (ex_var 1) ex_str) (by rw [eqS_str]; decide +kernel)) (fun h => nomatch h) (fun _ => sxs_nil ?_))
      refine sxs_cons (sx_if (b := false) (ET.to (et_eq (ex_var 1) ex_str) (by rw [eqS_str]; decide +kernel)) (fun h => nomatch h) (fun _ => sxs_nil ?_))
      refine sxs_cons (sx_if (b := false) (ET.to (et_eq (ex_var 1) ex_str) (by rw [eqS_str]; decide +kernel)) (fun h => nomatch h) (fun _ => sxs_nil ?_))
      refine sxs_cons (sx_setQ 3 (exq_lst (eaq_x (ex_var 1) (eaq_q (exq_m0 (fs' := rdF row ws (k + 1 + 1)) 0 (C_Reader_name_here T) (hr.mono (by decide)) ⟨row, ws, k + 1, n, rfl, rfl, h2.1, hl, hn, rfl, rfl⟩) eaq_nil))) ?_)
      refine sxs_cons (sx_if (b := false) (ET.to (et_eq (ex_var 1) ex_str) (by rw [eqS_str]; decide +kernel)) (fun h => nomatch h) (fun _ => sxs_nil ?_))
      refine sxs_cons (sx_if (b := false) (ET.to (et_eq (ex_var 1) ex_str) (by rw [eqS_str]; decide +kernel)) (fun h => nomatch h) (fun _ => sxs_nil ?_))
      refine sxs_cons (sx_if (b := false) (ET.to (et_eq (ex_var 1) ex_str) (by rw [eqS_str]; decide +kernel)) (fun h => nomatch h) (fun _ => sxs_nil ?_))
      exact sxs_one (sx_ret (ex_if (b := false) (ET.to (et_eq (ex_var 1) ex_str) (by rw [eqS_str]; decide +kernel)) (fun h => nomatch h) (fun _ => (ex_mk (C_Marked T) (hr.mono (by decide)) (EA.R (ea_cons (ex_var 3) ea_nil) ⟨_, rfl, rfl, rfl, rfl⟩)))) ⟨_, rfl, q⟩)
theorem C_Reader_deed : CalS P w K mg base "Reader" "deed" (2 + 1) ["self"] S_Reader_deed := by
  refine calS_mk 2 T.d_Reader_deed T.c_Reader T.m_Reader_deed sc_Reader_deed (fun _ _ _ _ _ _ us hl => match us, hl with | [_], _ => rfl) (fun fs ds Φ h => ?_) (fun cdv A outer s H Ew E fs ds Φ hr hN h => ?_)
  · obtain ⟨_, _, _, _, _, rfl, rfl, _⟩ := h; rfl
  · obtain ⟨row, ws, k, d, rest, rfl, rfl, hn, hw, hl, q⟩ := h
    show SXs _ E (_ :: _) _ _
    obtain ⟨W, r, hW, h8⟩ := Dd.head d
    have hk : ws[k]? = some W ∧ ws.drop (k + 1) = r ++ rest := drop_at (by rw [hw, hW]; rfl)
    refine sxs_cons (sx_set 1 (ex_here (P := P) (w := w) (base := base) T rfl rfl rfl rfl rfl (hr.mono (by decide)) rfl hl (getD_at hk.1)) ?_)
    refine sxs_cons (sx_if (b := false) (ET.to (et_niT (xs := deedWords.map .str) (ex_var 1) (ex_tup ea_consts)) ?_) (fun h => nomatch h) (fun _ => sxs_nil ?_))
    · rw [inF_strs, decide_eq_true h8]; rfl
    refine sxs_cons (sx_dropQ (exq_m0 (fs' := rdF row ws (k + 1)) 0 (C_Reader_step T) (hr.mono (by decide)) ⟨row, ws, k, W, rfl, rfl, hk.1, rfl, rfl⟩) ?_)
    by_cases hs : W = "stop"
    · subst hs
      have : d = .stop ∧ r = [] := by
        cases d <;> simp only [Dd.toks] at hW
        case stop => injection hW with _ h2; exact ⟨rfl, h2.symm⟩
        all_goals (injection hW with h1 _; exact absurd h1 (by decide +kernel))
      obtain ⟨rfl, rfl⟩ := this
      exact sxs_one (sx_retQ (exq_if (b := true) (ET.to (et_eq (ex_var 1) ex_str) (by rw [eqS_str]; decide +kernel)) (fun _ => (ex_lst (ea_cons (ex_var 1) ea_nil)).Q) (fun h => nomatch h)) ⟨_, rfl, q⟩)
    · obtain ⟨n, hr1, hnn, hdt⟩ : ∃ n, r = [n] ∧ NameS n ∧ d.toks = [W, n] := by
        cases d <;> simp only [Dd.toks] at hW
        case stop => injection hW with h1 _; exact absurd h1.symm hs
        all_goals (injection hW with h1 h2; subst h1; exact ⟨_, h2.symm, hn, rfl⟩)
      subst hr1
      have h2 := drop_at (x := n) (r := rest) (by rw [hk.2]; rfl)
      unfold Dd.encP at q
      rw [hdt] at q
      exact sxs_one (sx_retQ (exq_if (b := false) (ET.to (et_eq (ex_var 1) ex_str) (by rw [eqS_str]; exact decide_eq_false hs)) (fun h => nomatch h) (fun _ => exq_lst (eaq_x (ex_var 1) (eaq_q (exq_m0 (fs' := rdF row ws (k + 1 + 1)) 0 (C_Reader_name_here T) (hr.mono (by decide)) ⟨row, ws, k + 1, n, rfl, rfl, h2.1, hl, hnn, rfl, rfl⟩) eaq_nil)))) ⟨_, rfl, q⟩)
end
end DL
set_option maxHeartbeats 400000
/-! PF6: the program: conditions, rules read (printed by mkpf6.py) -/
namespace DL
open PySem PySem.Spec PyProof.Rows L2
def tl (w : Str) : List Cn → List Str
  | [] => []
  | c :: r => w :: (c.toks ++ tl w r)
theorem toksL_tl (w : Str) : ∀ (c : Cn) (r : List Cn), Cn.toksL w (c :: r) = c.toks ++ tl w r
  | c, [] => by rw [Cn.toksL, tl, List.append_nil]
  | c, d :: r => by rw [toksL_cons, toksL_tl w d r, tl]
def dtl : List Dd → List Str
  | [] => []
  | d :: r => ("," : Str) :: (d.toks ++ dtl r)
theorem deedToks_tl : ∀ (d : Dd) (r : List Dd), deedToks (d :: r) = d.toks ++ dtl r
  | d, [] => by rw [deedToks, dtl, List.append_nil]
  | d, e :: r => by rw [deedToks_cons, deedToks_tl e r, dtl]
def bparts : Cn → List Cn
  | .and l => l
  | c => [c]
def eparts : Cn → List Cn
  | .or l => l
  | c => [c]
/-- c is read as the parts l parted by w -/
structure Parts (w : Str) (c : Cn) (l : List Cn) : Prop where
  t : ∃ a r, l = a :: r ∧ c.toks = a.toks ++ tl w r
  e : l = [c] ∨ (l.length ≠ 1 ∧ c.encP = .ins "Joined" [("words", .lst [.str w]), ("parts", .lst (l.map Cn.encP))])
theorem parts_b {c : Cn} (h : c.isB = true) (hf : ∀ a ∈ c.facts, a.nice) : Parts "and" c (bparts c) ∧ ∀ p ∈ bparts c, p.isU = true ∧ ∀ a ∈ p.facts, a.nice := by
  have one : ∀ c : Cn, bparts c = [c] → c.isU = true → (∀ a ∈ c.facts, a.nice) → Parts "and" c (bparts c) ∧ ∀ p ∈ bparts c, p.isU = true ∧ ∀ a ∈ p.facts, a.nice := fun c e h hf => by
    rw [e]
    refine ⟨⟨⟨c, [], rfl, by rw [tl, List.append_nil]⟩, .inl rfl⟩, fun p hp => ?_⟩
    rw [List.mem_singleton] at hp
    subst hp; exact ⟨h, hf⟩
  cases c with
  | and l =>
    rw [Cn.isB, Bool.and_eq_true, decide_eq_true_eq] at h
    obtain ⟨h1, h2⟩ := h
    refine ⟨⟨?_, .inr ⟨by show l.length ≠ 1; omega, by rw [Cn.encP, encPs_map]; rfl⟩⟩, fun p hp => ⟨allU_mem h2 p hp, fun a ha => hf a (by rw [Cn.facts]; exact factsL_mem l p hp a ha)⟩⟩
    cases l with
    | nil => simp at h1
    | cons a r => exact ⟨a, r, rfl, by rw [Cn.toks, toksL_tl]⟩
  | or l => rw [Cn.isB] at h; cases h
  | not c => exact one _ rfl (by rw [Cn.isB] at h; rw [Cn.isU]; exact h) hf
  | br c => exact one _ rfl (by rw [Cn.isB] at h; rw [Cn.isU]; exact h) hf
  | any => exact one _ rfl (by simp [Cn.isU]) hf
  | has _ => exact one _ rfl (by simp [Cn.isU]) hf
  | first _ => exact one _ rfl (by simp [Cn.isU]) hf
  | last _ => exact one _ rfl (by simp [Cn.isU]) hf
  | pair _ _ => exact one _ rfl (by simp [Cn.isU]) hf
  | frm _ => exact one _ rfl (by simp [Cn.isU]) hf
  | over _ => exact one _ rfl (by simp [Cn.isU]) hf
  | marked _ => exact one _ rfl (by simp [Cn.isU]) hf
theorem parts_e {c : Cn} (h : c.isE = true) (hf : ∀ a ∈ c.facts, a.nice) : Parts "or" c (eparts c) ∧ ∀ p ∈ eparts c, p.isB = true ∧ ∀ a ∈ p.facts, a.nice := by
  have one : ∀ c : Cn, eparts c = [c] → c.isB = true → (∀ a ∈ c.facts, a.nice) → Parts "or" c (eparts c) ∧ ∀ p ∈ eparts c, p.isB = true ∧ ∀ a ∈ p.facts, a.nice := fun c e h hf => by
    rw [e]
    refine ⟨⟨⟨c, [], rfl, by rw [tl, List.append_nil]⟩, .inl rfl⟩, fun p hp => ?_⟩
    rw [List.mem_singleton] at hp
    subst hp; exact ⟨h, hf⟩
  cases c with
  | or l =>
    rw [Cn.isE, Bool.and_eq_true, decide_eq_true_eq] at h
    obtain ⟨h1, h2⟩ := h
    refine ⟨⟨?_, .inr ⟨by show l.length ≠ 1; omega, by rw [Cn.encP, encPs_map]; rfl⟩⟩, fun p hp => ⟨allB_mem h2 p hp, fun a ha => hf a (by rw [Cn.facts]; exact factsL_mem l p hp a ha)⟩⟩
    cases l with
    | nil => simp at h1
    | cons a r => exact ⟨a, r, rfl, by rw [Cn.toks, toksL_tl]⟩
  | and l => exact one _ rfl (by rw [Cn.isE] at h; rw [Cn.isB]; exact h) hf
  | not c => exact one _ rfl (by rw [Cn.isE] at h; rw [Cn.isB]; exact h) hf
  | br c => exact one _ rfl (by rw [Cn.isE] at h; rw [Cn.isB]; exact h) hf
  | any => exact one _ rfl (by simp [Cn.isB]) hf
  | has _ => exact one _ rfl (by simp [Cn.isB]) hf
  | first _ => exact one _ rfl (by simp [Cn.isB]) hf
  | last _ => exact one _ rfl (by simp [Cn.isB]) hf
  | pair _ _ => exact one _ rfl (by simp [Cn.isB]) hf
  | frm _ => exact one _ rfl (by simp [Cn.isB]) hf
  | over _ => exact one _ rfl (by simp [Cn.isB]) hf
  | marked _ => exact one _ rfl (by simp [Cn.isB]) hf
theorem bparts_deep {c : Cn} : ∀ p ∈ bparts c, p.deep ≤ c.deep := by
  intro p hp
  cases c <;> first | (rw [show bparts _ = [_] from rfl, List.mem_singleton] at hp; subst hp; exact Nat.le_refl _) | skip
  rename_i l
  have := deepL_mem l p hp
  rw [Cn.deep]; omega
theorem eparts_deep {c : Cn} : ∀ p ∈ eparts c, p.deep ≤ c.deep := by
  intro p hp
  cases c <;> first | (rw [show eparts _ = [_] from rfl, List.mem_singleton] at hp; subst hp; exact Nat.le_refl _) | skip
  rename_i l
  have := deepL_mem l p hp
  rw [Cn.deep]; omega
def S_Reader_unit (n : Nat) : SpecM := fun fs ds Φ => ∃ (row : Int) (ws : List Str) (k : Nat) (c : Cn) (rest : List Str), fs = rdF row ws k ∧ ds = [] ∧ c.isU = true ∧ (∀ a ∈ c.facts, a.nice) ∧ c.deep ≤ n ∧ ws.drop k = c.toks ++ rest ∧ ws.length ≤ 60 ∧ Φ c.encP (rdF row ws (k + c.toks.length))
def S_Reader_both (n : Nat) : SpecM := fun fs ds Φ => ∃ (row : Int) (ws : List Str) (k : Nat) (c : Cn) (rest : List Str), fs = rdF row ws k ∧ ds = [] ∧ c.isB = true ∧ (∀ a ∈ c.facts, a.nice) ∧ c.deep ≤ n ∧ ws.drop k = c.toks ++ rest ∧ rest.head? ≠ some ("and" : Str) ∧ ws.length ≤ 60 ∧ Φ c.encP (rdF row ws (k + c.toks.length))
def S_Reader_either (n : Nat) : SpecM := fun fs ds Φ => ∃ (row : Int) (ws : List Str) (k : Nat) (c : Cn) (rest : List Str), fs = rdF row ws k ∧ ds = [] ∧ c.isE = true ∧ (∀ a ∈ c.facts, a.nice) ∧ c.deep ≤ n ∧ ws.drop k = c.toks ++ rest ∧ rest.head? ≠ some ("and" : Str) ∧ rest.head? ≠ some ("or" : Str) ∧ ws.length ≤ 60 ∧ Φ c.encP (rdF row ws (k + c.toks.length))
def S_Reader_rule : SpecM := fun fs ds Φ => ∃ (row : Int) (r : Ru), fs = rdF row r.toks 0 ∧ ds = [] ∧ r.Wf ∧ ∀ fs', Φ r.encP fs'
theorem drop_app {ws a b : List Str} {k : Nat} (h : ws.drop k = a ++ b) : ws.drop (k + a.length) = b := by
  rw [← List.drop_drop, h, List.drop_left]
theorem head_not {ws rest : List Str} {j : Nat} {W : Str} (h : ws.drop j = rest) (hr : rest.head? ≠ some W) (hW : W ≠ "") : ws.getD j "" ≠ W := by
  intro z
  rw [List.getD_eq_getElem?_getD] at z
  have e : rest.head? = ws[j]? := by rw [← h, List.head?_drop]
  rw [e] at hr
  cases q : ws[j]? with
  | none => rw [q] at z; exact hW z.symm
  | some y => rw [q] at z; rw [q] at hr; exact hr (congrArg some z)
theorem drop_lt {ws a : List Str} {k : Nat} (h : ws.drop k = a) : k + a.length ≤ ws.length ∨ a = [] := by
  by_cases q : k ≤ ws.length
  · left; rw [← h, List.length_drop]; omega
  · right; rw [← h]; exact List.drop_eq_nil_of_le (by omega)
section
variable {P : Program} {w : World} {K : PySem.W.Frag} {mg : Str → Option Value} {base : Heap} (T : Tx K mg)
include T

theorem C_Reader_unit_step (n : Nat) (ih : ∀ m, m < n → CalS P w K mg base "Reader" "unit" (3 * m + 5) ["self"] (S_Reader_unit m) ∧ CalS P w K mg base "Reader" "either" (3 * m + 7) ["self"] (S_Reader_either m)) : CalS P w K mg base "Reader" "unit" (3 * n + 5) ["self"] (S_Reader_unit n) := by
  show CalS P w K mg base "Reader" "unit" ((3 * n + 4) + 1) ["self"] (S_Reader_unit n)
  refine calS_mk _ T.d_Reader_unit T.c_Reader T.m_Reader_unit sc_Reader_unit (fun _ _ _ _ _ _ us hl => match us, hl with | [_], _ => rfl) (fun fs ds Φ h => ?_) (fun cdv A outer s H Ew E fs ds Φ hr hN h => ?_)
  · obtain ⟨_, _, _, _, _, rfl, rfl, _⟩ := h; rfl
  · obtain ⟨row, ws, k, c, rest, rfl, rfl, hu, hf, hd, hw, hl, q⟩ := h
    show SXs _ E (_ :: _) _ _
    by_cases hfact : c.isFact = true
    · obtain ⟨W, r, hW, h8⟩ := Cn.head_fact hfact
      have hk : ws[k]? = some W ∧ ws.drop (k + 1) = r ++ rest := drop_at (by rw [hw, hW]; rfl)
      have n1 : W ≠ "not" := fun z => by rw [z] at h8; exact absurd h8 (by decide +kernel)
      have n2 : W ≠ "(" := fun z => by rw [z] at h8; exact absurd h8 (by decide +kernel)
      refine sxs_cons (sx_if (b := false) (ET.to (et_eq (x := .str W) (ex_here (P := P) (w := w) (base := base) T rfl rfl rfl rfl rfl (hr.mono (by omega)) rfl hl (getD_at hk.1)) ex_str) (by rw [eqS_str]; exact decide_eq_false n1)) (fun h => nomatch h) (fun _ => sxs_nil ?_))
      refine sxs_cons (sx_if (b := false) (ET.to (et_eq (x := .str W) (ex_here (P := P) (w := w) (base := base) T rfl rfl rfl rfl rfl (hr.mono (by omega)) rfl hl (getD_at hk.1)) ex_str) (by rw [eqS_str]; exact decide_eq_false n2)) (fun h => nomatch h) (fun _ => sxs_nil ?_))
      exact sxs_one (sx_retQ (exq_m0 (d := c.encP) (fs' := rdF row ws (k + c.toks.length)) 0 (C_Reader_fact T) (hr.mono (by omega)) ⟨row, ws, k, c, rest, rfl, rfl, hfact, nice_of_fact hfact ⟨isE_of_U hu, hf⟩, hw, hl, rfl, rfl⟩) ⟨_, rfl, q⟩)
    · cases c <;> first | (exact absurd rfl hfact) | skip
      case and l => rw [Cn.isU] at hu; cases hu
      case or l => rw [Cn.isU] at hu; cases hu
      case not c =>
        rw [Cn.isU] at hu
        rw [Cn.facts] at hf
        rw [Cn.deep] at hd
        rw [Cn.toks] at hw q
        rw [Cn.encP] at q
        have hk := drop_at (x := "not") (r := c.toks ++ rest) (by rw [hw]; rfl)
        refine sxs_cons (sx_if (b := true) (ET.to (et_eq (x := .str "not") (ex_here (P := P) (w := w) (base := base) T rfl rfl rfl rfl rfl (hr.mono (by omega)) rfl hl (getD_at hk.1)) ex_str) (by rw [eqS_str]; rfl)) (fun _ => ?_) (fun h => nomatch h))
        refine sxs_cons (sx_dropQ (exq_m0 (fs' := rdF row ws (k + 1)) 0 (C_Reader_step T) (hr.mono (by omega)) ⟨row, ws, k, _, rfl, rfl, hk.1, rfl, rfl⟩) ?_)
        refine sxs_one (sx_retQ (exq_mk (fs := [("words", .lst [.str "not"]), ("inner", c.encP)]) (C_Turned T) (hr.mono (by omega)) (eaq_q (exq_m0 (d := c.encP) (fs' := rdF row ws (k + 1 + c.toks.length)) 0 (ih (n - 1) (by omega)).1 (hr.mono (by omega)) ⟨row, ws, k + 1, c, rest, rfl, rfl, hu, hf, by omega, hk.2, hl, rfl, rfl⟩) eaq_nil) ⟨_, rfl, rfl, rfl, rfl, rfl⟩) ⟨_, rfl, ?_⟩)
        have e : k + 1 + c.toks.length = k + (("not" : Str) :: c.toks).length := by rw [List.length_cons]; omega
        rw [e]; exact q
      case br c =>
        rw [Cn.isU] at hu
        rw [Cn.facts] at hf
        rw [Cn.deep] at hd
        rw [Cn.toks] at hw q
        rw [Cn.encP] at q
        have hk := drop_at (x := "(") (r := c.toks ++ ((")" : Str) :: rest)) (by rw [hw]; simp)
        have hk2 := drop_at (x := ")") (r := rest) (drop_app hk.2)
        refine sxs_cons (sx_if (b := false) (ET.to (et_eq (x := .str "(") (ex_here (P := P) (w := w) (base := base) T rfl rfl rfl rfl rfl (hr.mono (by omega)) rfl hl (getD_at hk.1)) ex_str) (by rw [eqS_str]; decide +kernel)) (fun h => nomatch h) (fun _ => sxs_nil ?_))
        refine sxs_cons (sx_if (b := true) (ET.to (et_eq (x := .str "(") (ex_here (P := P) (w := w) (base := base) T rfl rfl rfl rfl rfl (hr.mono (by omega)) rfl hl (getD_at hk.1)) ex_str) (by rw [eqS_str]; rfl)) (fun _ => ?_) (fun h => nomatch h))
        refine sxs_cons (sx_dropQ (exq_m0 (fs' := rdF row ws (k + 1)) 0 (C_Reader_step T) (hr.mono (by omega)) ⟨row, ws, k, _, rfl, rfl, hk.1, rfl, rfl⟩) ?_)
        refine sxs_cons (sx_setQ 1 (exq_m0 (d := c.encP) (fs' := rdF row ws (k + 1 + c.toks.length)) 0 (ih (n - 1) (by omega)).2 (hr.mono (by omega)) ⟨row, ws, k + 1, c, (")" : Str) :: rest, rfl, rfl, hu, hf, by omega, hk.2, (fun z => absurd (Option.some.inj z) (by decide +kernel)), (fun z => absurd (Option.some.inj z) (by decide +kernel)), hl, rfl, rfl⟩) ?_)
        refine sxs_cons (sx_dropQ (exq_m1 (d := .non) (fs' := rdF row ws (k + 1 + c.toks.length + 1)) 0 (C_Reader_due T) (hr.mono (by omega)) (ea_cons ex_str ea_nil) ⟨row, ws, k + 1 + c.toks.length, _, rfl, rfl, hk2.1, hl, rfl, rfl⟩) ?_)
        refine sxs_one (sx_ret (ex_mk (fs := [("words", .lst [.str "not"]), ("inner", c.encP)]) (C_Bracket T) (hr.mono (by omega)) (EA.R (ea_cons (ex_var 1) ea_nil) ⟨_, rfl, rfl, rfl, rfl⟩)) ⟨_, rfl, ?_⟩)
        have e : k + 1 + c.toks.length + 1 = k + (("(" : Str) :: c.toks ++ [(")" : Str)]).length := by simp; omega
        rw [e]; exact q
theorem C_Reader_both_step (n : Nat) (C : CalS P w K mg base "Reader" "unit" (3 * n + 5) ["self"] (S_Reader_unit n)) : CalS P w K mg base "Reader" "both" (3 * n + 5 + 1) ["self"] (S_Reader_both n) := by
  refine calS_mk _ T.d_Reader_both T.c_Reader T.m_Reader_both sc_Reader_both (fun _ _ _ _ _ _ us hl => match us, hl with | [_], _ => rfl) (fun fs ds Φ h => ?_) (fun cdv A outer s H Ew E fs ds Φ hr hN h => ?_)
  · obtain ⟨_, _, _, _, _, rfl, rfl, _⟩ := h; rfl
  · obtain ⟨row, ws, k, c, rest, rfl, rfl, hu, hf, hd, hw, hne, hl, q⟩ := h
    show SXs _ E (_ :: _) _ _
    have hp := parts_b hu hf
    obtain ⟨l, hlp⟩ : ∃ l, bparts c = l := ⟨_, rfl⟩
    have hdp := bparts_deep (c := c)
    rw [hlp] at hp hdp
    obtain ⟨a, r0, hl0, ht⟩ := hp.1.t
    have ha : a ∈ l := by rw [hl0]; exact List.mem_cons_self
    refine sxs_cons (sx_setOQ 1 (eaq_q (exq_m0 (d := a.encP) (fs' := rdF row ws (k + a.toks.length)) 0 C hr ⟨row, ws, k, a, tl "and" r0 ++ rest, rfl, rfl, (hp.2 a ha).1, (hp.2 a ha).2, Nat.le_trans (hdp a ha) hd, by rw [hw, ht, List.append_assoc], hl, rfl, rfl⟩) eaq_nil) ?_)
    refine sxs_cons (sx_while (fun m Γ => ∃ (done r : List Cn) (j : Nat), l = done ++ r ∧ r.length = m ∧ Γ = [.me "Reader" (rdF row ws j), .ol (done.map Cn.encP)] ∧ ws.drop j = tl "and" r ++ rest ∧ j + (tl "and" r).length = k + c.toks.length) r0.length ⟨[a], r0, k + a.toks.length, hl0, rfl, rfl, drop_app (a := a.toks) (by rw [hw, ht, List.append_assoc]), by rw [ht, List.length_append]; omega⟩ ?_)
    rintro m Γ' ⟨done, r, j, hdr, hrl, rfl, hwj, hj⟩
    cases r with
    | nil =>
      have hn := head_not (W := "and") hwj hne (by decide +kernel)
      refine ⟨false, ET.to (et_eq (ex_here (P := P) (w := w) (base := base) T rfl rfl rfl rfl rfl (hr.mono (by omega)) rfl hl rfl) ex_str) (by rw [eqS_str]; exact decide_eq_false hn), (fun h => nomatch h), fun _ => ?_⟩
      rw [List.append_nil] at hdr
      subst hdr
      have hjj : j = k + c.toks.length := hj
      refine freezeL 1 ?_
      refine sxs_one (sx_ret (ex_if (d := c.encP) (et_eq (ex_lenL (ex_var 1) T.b_len) ex_int) (fun h => ?_) (fun h => ?_)) ⟨_, rfl, by rw [hjj]; exact q⟩)
      · have h1 : l.length = 1 := by
          have h2 := of_decide_eq_true h
          have h3 : V.int (((l.map Cn.encP).length : Nat) : Int) = V.int 1 := h2
          injection h3 with h4
          rw [List.length_map] at h4; omega
        rcases hp.1.e with e | ⟨e, _⟩
        · rw [e]; exact ex_ixL (ex_var 1) ex_int rfl
        · exact absurd h1 e
      · rcases hp.1.e with e | ⟨_, e⟩
        · rw [e] at h; exact absurd (show eqS (.int ((1 : Nat) : Int)) (.int 1) = false from h) (by decide +kernel)
        · rw [e]
          exact ex_mk (C_Joined T) (hr.mono (by omega)) (EA.R (ea_cons ex_str (ea_cons (ex_var 1) ea_nil)) ⟨_, _, rfl, rfl, rfl, rfl⟩)
    | cons p r =>
      rw [tl, List.cons_append] at hwj
      have hk := drop_at hwj
      have hpm : p ∈ l := by rw [hdr]; simp
      have hlen : l.length ≤ 60 := by
        have h1 : ∀ (l : List Cn), l.length ≤ (tl "and" l).length := fun l => by
          induction l with
          | nil => exact Nat.le_refl _
          | cons a r ih => rw [tl, List.length_cons, List.length_cons, List.length_append]; omega
        have h2 := h1 r0
        have h3 := drop_lt hw
        have h4 : c.toks.length ≤ ws.length := by
          rcases h3 with h3 | h3
          · rw [List.length_append] at h3; omega
          · rw [(List.append_eq_nil_iff.mp h3).1]; exact Nat.zero_le _
        rw [ht, List.length_append] at h4
        have h5 : 1 ≤ a.toks.length := by
          cases q : a.toks with
          | nil => exact absurd q (toks_ok a ⟨isE_of_U (hp.2 a ha).1, (hp.2 a ha).2⟩).2
          | cons _ _ => simp
        rw [hl0, List.length_cons]; omega
      refine ⟨true, ET.to (et_eq (x := .str "and") (ex_here (P := P) (w := w) (base := base) T rfl rfl rfl rfl rfl (hr.mono (by omega)) rfl hl (getD_at hk.1)) ex_str) (by rw [eqS_str]; rfl), fun _ => ?_, (fun h => nomatch h)⟩
      refine sxs_cons (sx_dropQ (exq_m0 (fs' := rdF row ws (j + 1)) 0 (C_Reader_step T) (hr.mono (by omega)) ⟨row, ws, j, _, rfl, rfl, hk.1, rfl, rfl⟩) ?_)
      refine sxs_one (sx_appendQ 1 (exq_m0 (d := p.encP) (fs' := rdF row ws (j + 1 + p.toks.length)) 0 C hr ⟨row, ws, j + 1, p, tl "and" r ++ rest, rfl, rfl, (hp.2 p hpm).1, (hp.2 p hpm).2, Nat.le_trans (hdp p hpm) hd, by rw [hk.2, List.append_assoc], hl, rfl, rfl⟩) ?_ ?_)
      · refine ⟨r.length, by rw [← hrl]; exact Nat.lt_succ_self _, done ++ [p], r, j + 1 + p.toks.length, by rw [hdr]; simp, rfl, by simp, drop_app (a := p.toks) (by rw [hk.2, List.append_assoc]), ?_⟩
        rw [tl, List.length_cons, List.length_append] at hj
        omega
      · have : done.length ≤ l.length := by rw [hdr, List.length_append]; omega
        rw [List.length_map, sizeLine_eq]; omega
theorem C_Reader_either_step (n : Nat) (C : CalS P w K mg base "Reader" "both" (3 * n + 6) ["self"] (S_Reader_both n)) : CalS P w K mg base "Reader" "either" (3 * n + 6 + 1) ["self"] (S_Reader_either n) := by
  refine calS_mk _ T.d_Reader_either T.c_Reader T.m_Reader_either sc_Reader_either (fun _ _ _ _ _ _ us hl => match us, hl with | [_], _ => rfl) (fun fs ds Φ h => ?_) (fun cdv A outer s H Ew E fs ds Φ hr hN h => ?_)
  · obtain ⟨_, _, _, _, _, rfl, rfl, _⟩ := h; rfl
  · obtain ⟨row, ws, k, c, rest, rfl, rfl, hu, hf, hd, hw, hna, hne, hl, q⟩ := h
    show SXs _ E (_ :: _) _ _
    have hp := parts_e hu hf
    obtain ⟨l, hlp⟩ : ∃ l, eparts c = l := ⟨_, rfl⟩
    have hdp := eparts_deep (c := c)
    rw [hlp] at hp hdp
    obtain ⟨a, r0, hl0, ht⟩ := hp.1.t
    have ha : a ∈ l := by rw [hl0]; exact List.mem_cons_self
    refine sxs_cons (sx_setOQ 1 (eaq_q (exq_m0 (d := a.encP) (fs' := rdF row ws (k + a.toks.length)) 0 C hr ⟨row, ws, k, a, tl "or" r0 ++ rest, rfl, rfl, (hp.2 a ha).1, (hp.2 a ha).2, Nat.le_trans (hdp a ha) hd, by rw [hw, ht, List.append_assoc], (by cases r0 with | nil => exact hna | cons b r1 => rw [tl, List.cons_append]; exact fun z => absurd (Option.some.inj z) (by decide +kernel)), hl, rfl, rfl⟩) eaq_nil) ?_)
    refine sxs_cons (sx_while (fun m Γ => ∃ (done r : List Cn) (j : Nat), l = done ++ r ∧ r.length = m ∧ Γ = [.me "Reader" (rdF row ws j), .ol (done.map Cn.encP)] ∧ ws.drop j = tl "or" r ++ rest ∧ j + (tl "or" r).length = k + c.toks.length) r0.length ⟨[a], r0, k + a.toks.length, hl0, rfl, rfl, drop_app (a := a.toks) (by rw [hw, ht, List.append_assoc]), by rw [ht, List.length_append]; omega⟩ ?_)
    rintro m Γ' ⟨done, r, j, hdr, hrl, rfl, hwj, hj⟩
    cases r with
    | nil =>
      have hn := head_not (W := "or") hwj hne (by decide +kernel)
      refine ⟨false, ET.to (et_eq (ex_here (P := P) (w := w) (base := base) T rfl rfl rfl rfl rfl (hr.mono (by omega)) rfl hl rfl) ex_str) (by rw [eqS_str]; exact decide_eq_false hn), (fun h => nomatch h), fun _ => ?_⟩
      rw [List.append_nil] at hdr
      subst hdr
      have hjj : j = k + c.toks.length := hj
      refine freezeL 1 ?_
      refine sxs_one (sx_ret (ex_if (d := c.encP) (et_eq (ex_lenL (ex_var 1) T.b_len) ex_int) (fun h => ?_) (fun h => ?_)) ⟨_, rfl, by rw [hjj]; exact q⟩)
      · have h1 : l.length = 1 := by
          have h2 := of_decide_eq_true h
          have h3 : V.int (((l.map Cn.encP).length : Nat) : Int) = V.int 1 := h2
          injection h3 with h4
          rw [List.length_map] at h4; omega
        rcases hp.1.e with e | ⟨e, _⟩
        · rw [e]; exact ex_ixL (ex_var 1) ex_int rfl
        · exact absurd h1 e
      · rcases hp.1.e with e | ⟨_, e⟩
        · rw [e] at h; exact absurd (show eqS (.int ((1 : Nat) : Int)) (.int 1) = false from h) (by decide +kernel)
        · rw [e]
          exact ex_mk (C_Joined T) (hr.mono (by omega)) (EA.R (ea_cons ex_str (ea_cons (ex_var 1) ea_nil)) ⟨_, _, rfl, rfl, rfl, rfl⟩)
    | cons p r =>
      rw [tl, List.cons_append] at hwj
      have hk := drop_at hwj
      have hpm : p ∈ l := by rw [hdr]; simp
      have hlen : l.length ≤ 60 := by
        have h1 : ∀ (l : List Cn), l.length ≤ (tl "or" l).length := fun l => by
          induction l with
          | nil => exact Nat.le_refl _
          | cons a r ih => rw [tl, List.length_cons, List.length_cons, List.length_append]; omega
        have h2 := h1 r0
        have h3 := drop_lt hw
        have h4 : c.toks.length ≤ ws.length := by
          rcases h3 with h3 | h3
          · rw [List.length_append] at h3; omega
          · rw [(List.append_eq_nil_iff.mp h3).1]; exact Nat.zero_le _
        rw [ht, List.length_append] at h4
        have h5 : 1 ≤ a.toks.length := by
          cases q : a.toks with
          | nil => exact absurd q (toks_ok a ⟨isE_of_B (hp.2 a ha).1, (hp.2 a ha).2⟩).2
          | cons _ _ => simp
        rw [hl0, List.length_cons]; omega
      refine ⟨true, ET.to (et_eq (x := .str "or") (ex_here (P := P) (w := w) (base := base) T rfl rfl rfl rfl rfl (hr.mono (by omega)) rfl hl (getD_at hk.1)) ex_str) (by rw [eqS_str]; rfl), fun _ => ?_, (fun h => nomatch h)⟩
      refine sxs_cons (sx_dropQ (exq_m0 (fs' := rdF row ws (j + 1)) 0 (C_Reader_step T) (hr.mono (by omega)) ⟨row, ws, j, _, rfl, rfl, hk.1, rfl, rfl⟩) ?_)
      refine sxs_one (sx_appendQ 1 (exq_m0 (d := p.encP) (fs' := rdF row ws (j + 1 + p.toks.length)) 0 C hr ⟨row, ws, j + 1, p, tl "or" r ++ rest, rfl, rfl, (hp.2 p hpm).1, (hp.2 p hpm).2, Nat.le_trans (hdp p hpm) hd, by rw [hk.2, List.append_assoc], (by cases r with | nil => exact hna | cons b r1 => rw [tl, List.cons_append]; exact fun z => absurd (Option.some.inj z) (by decide +kernel)), hl, rfl, rfl⟩) ?_ ?_)
      · refine ⟨r.length, by rw [← hrl]; exact Nat.lt_succ_self _, done ++ [p], r, j + 1 + p.toks.length, by rw [hdr]; simp, rfl, by simp, drop_app (a := p.toks) (by rw [hk.2, List.append_assoc]), ?_⟩
        rw [tl, List.length_cons, List.length_append] at hj
        omega
      · have : done.length ≤ l.length := by rw [hdr, List.length_append]; omega
        rw [List.length_map, sizeLine_eq]; omega
theorem C_Reader_all : ∀ n, CalS P w K mg base "Reader" "unit" (3 * n + 5) ["self"] (S_Reader_unit n) ∧ CalS P w K mg base "Reader" "either" (3 * n + 7) ["self"] (S_Reader_either n) := by
  intro n
  induction n using Nat.strongRecOn with
  | _ n ih =>
    have hu := C_Reader_unit_step (P := P) (w := w) (base := base) T n ih
    exact ⟨hu, C_Reader_either_step T n (C_Reader_both_step T n hu)⟩
theorem C_Reader_rule : CalS P w K mg base "Reader" "rule" (25 + 1) ["self"] S_Reader_rule := by
  refine calS_mk 25 T.d_Reader_rule T.c_Reader T.m_Reader_rule sc_Reader_rule (fun _ _ _ _ _ _ us hl => match us, hl with | [_], _ => rfl) (fun fs ds Φ h => ?_) (fun cdv A outer s H Ew E fs ds Φ hr hN h => ?_)
  · obtain ⟨_, _, rfl, rfl, _⟩ := h; rfl
  · obtain ⟨row, r, rfl, rfl, hw, q⟩ := h
    show SXs _ E (_ :: _) _ _
    obtain ⟨ht1, ht2, hl⟩ := Ru.toks_ok hw
    obtain ⟨ws, hws⟩ : ∃ ws, r.toks = ws := ⟨_, rfl⟩
    rw [hws] at hl
    rw [hws]
    obtain ⟨c, dd⟩ := r
    cases dd with
    | nil => have := hw.n.1; simp at this
    | cons d0 r0 =>
    have hw0 : ws.drop 0 = ("if" : Str) :: (c.toks ++ (("then" : Str) :: (d0.toks ++ dtl r0))) := by
      rw [List.drop_zero, ← hws]
      show ("if" : Str) :: c.toks ++ ("then" : Str) :: deedToks (d0 :: r0) = _
      rw [deedToks_tl]; rfl
    have hk := drop_at hw0
    have hk2 := drop_at (drop_app hk.2)
    have hdf : ∀ d ∈ d0 :: r0, d.fine := hw.d
    have hdeep : c.deep ≤ 6 := hw.k.2
    refine sxs_cons (sx_dropQ (exq_m1 (d := .non) (fs' := rdF row ws 1) 0 (C_Reader_due T) (hr.mono (by decide)) (ea_cons ex_str ea_nil) ⟨row, ws, 0, _, rfl, rfl, hk.1, hl, rfl, rfl⟩) ?_)
    refine sxs_cons (sx_setQ 1 (exq_m0 (d := c.encP) (fs' := rdF row ws (1 + c.toks.length)) 0 (C_Reader_all T 6).2 (hr.mono (by decide)) ⟨row, ws, 1, c, _, rfl, rfl, hw.c.e, hw.c.f, hdeep, hk.2, (fun z => absurd (Option.some.inj z) (by decide +kernel)), (fun z => absurd (Option.some.inj z) (by decide +kernel)), hl, rfl, rfl⟩) ?_)
    refine sxs_cons (sx_dropQ (exq_m1 (d := .non) (fs' := rdF row ws (1 + c.toks.length + 1)) 0 (C_Reader_due T) (hr.mono (by decide)) (ea_cons ex_str ea_nil) ⟨row, ws, 1 + c.toks.length, _, rfl, rfl, by have := hk2.1; rwa [Nat.zero_add] at this, hl, rfl, rfl⟩) ?_)
    have hk3 : ws.drop (1 + c.toks.length + 1) = d0.toks ++ dtl r0 := by have := hk2.2; rwa [Nat.zero_add] at this
    refine sxs_cons (sx_setOQ 2 (eaq_q (exq_m0 (d := d0.encP) (fs' := rdF row ws (1 + c.toks.length + 1 + d0.toks.length)) 0 (C_Reader_deed T) (hr.mono (by decide)) ⟨row, ws, _, d0, dtl r0, rfl, rfl, hdf d0 List.mem_cons_self, hk3, hl, rfl, rfl⟩) eaq_nil) ?_)
    refine sxs_cons (sx_while (fun m Γ => ∃ (done r : List Dd) (j : Nat), d0 :: r0 = done ++ r ∧ r.length = m ∧ Γ = [.me "Reader" (rdF row ws j), .im c.encP, .ol (done.map Dd.encP)] ∧ ws.drop j = dtl r) r0.length ⟨[d0], r0, _, rfl, rfl, rfl, drop_app hk3⟩ ?_)
    rintro m Γ' ⟨done, r, j, hdr, hrl, rfl, hwj⟩
    cases r with
    | nil =>
      have hn : ws.getD j "" = "" := by
        rw [List.getD_eq_getElem?_getD]
        have : ws[j]? = none := by rw [← List.head?_drop, hwj]; rfl
        rw [this]; rfl
      refine ⟨false, ET.to (et_ne (x := .str "") (ex_here (P := P) (w := w) (base := base) T rfl rfl rfl rfl rfl (hr.mono (by decide)) rfl hl hn) ex_str) (by rw [eqS_str]; rfl), (fun h => nomatch h), fun _ => ?_⟩
      rw [List.append_nil] at hdr
      subst hdr
      refine freezeL 2 ?_
      refine sxs_one (sx_ret (ex_mk (C_Rule T) (hr.mono (by decide)) (EA.R (ea_cons (ex_var 1) (ea_cons (ex_var 2) ea_nil)) ⟨_, _, rfl, rfl, rfl, rfl⟩)) ⟨_, rfl, q _⟩)
    | cons p r =>
      rw [dtl] at hwj
      have hk := drop_at hwj
      have hpm : p ∈ d0 :: r0 := by rw [hdr]; simp
      have hd6 : (d0 :: r0).length ≤ 6 := hw.n.2
      have hne : ("," : Str) ≠ "" := by decide +kernel
      refine ⟨true, ET.to (et_ne (x := .str ",") (ex_here (P := P) (w := w) (base := base) T rfl rfl rfl rfl rfl (hr.mono (by decide)) rfl hl (getD_at hk.1)) ex_str) (by rw [eqS_str, decide_eq_false hne]; rfl), fun _ => ?_, (fun h => nomatch h)⟩
      refine sxs_cons (sx_dropQ (exq_m1 (d := .non) (fs' := rdF row ws (j + 1)) 0 (C_Reader_due T) (hr.mono (by decide)) (ea_cons ex_str ea_nil) ⟨row, ws, j, _, rfl, rfl, hk.1, hl, rfl, rfl⟩) ?_)
      refine sxs_one (sx_appendQ 2 (exq_m0 (d := p.encP) (fs' := rdF row ws (j + 1 + p.toks.length)) 0 (C_Reader_deed T) (hr.mono (by decide)) ⟨row, ws, j + 1, p, dtl r, rfl, rfl, hdf p hpm, hk.2, hl, rfl, rfl⟩) ?_ ?_)
      · exact ⟨r.length, by rw [← hrl]; exact Nat.lt_succ_self _, done ++ [p], r, j + 1 + p.toks.length, by rw [hdr]; simp, rfl, by simp, drop_app hk.2⟩
      · have : done.length ≤ (d0 :: r0).length := by rw [hdr, List.length_append]; omega
        rw [List.length_map, sizeLine_eq]; omega
end
end DL
set_option maxHeartbeats 400000
/-! PF7: the program: facts of conditions, the names spoken of, the rules of a text -/
namespace DL
open PySem PySem.Spec PyProof.Rows L2
def clsOf : Cn → Str
  | .any => "Fact" | .has _ => "Has" | .first _ => "First" | .last _ => "Last" | .pair _ _ => "Pair" | .frm _ => "From" | .over _ => "Over" | .marked _ => "Marked"
  | .not _ => "Turned" | .br _ => "Bracket" | .and _ => "Joined" | .or _ => "Joined"
def fldOf (c : Cn) : List (Str × D) := match c.encP with
  | .ins _ fs => fs
  | _ => []
theorem encP_ins (c : Cn) : c.encP = .ins (clsOf c) (fldOf c) := by
  unfold fldOf
  cases c <;> simp only [Cn.encP, clsOf]
theorem encP_fact {c : Cn} (h : c.isFact = true) : c.encP = .ins (clsOf c) [("words", .lst (c.toks.map .str))] := by
  cases c <;> first | (cases h; done) | simp only [Cn.encP, clsOf, Cn.toks, List.map_cons, List.map_nil]
theorem encP_not (c : Cn) : (Cn.not c).encP = .ins "Turned" [("words", .lst [.str "not"]), ("inner", c.encP)] := by rw [Cn.encP]
theorem encP_br (c : Cn) : (Cn.br c).encP = .ins "Bracket" [("words", .lst [.str "not"]), ("inner", c.encP)] := by rw [Cn.encP]
theorem encP_and (l : List Cn) : (Cn.and l).encP = .ins "Joined" [("words", .lst [.str "and"]), ("parts", .lst (l.map Cn.encP))] := by rw [Cn.encP, encPs_map]
theorem encP_or (l : List Cn) : (Cn.or l).encP = .ins "Joined" [("words", .lst [.str "or"]), ("parts", .lst (l.map Cn.encP))] := by rw [Cn.encP, encPs_map]
theorem facts_self_eq {c : Cn} (h : c.isFact = true) : c.facts = [c] := by cases c <;> first | (cases h; done) | simp only [Cn.facts]
theorem lookup_no {c : Cn} {m : Str} (h : m ≠ "words" ∧ m ≠ "inner" ∧ m ≠ "parts") : (fldOf c).lookup m = none := by
  have a : ∀ {x : Str}, m ≠ x → (m == x) = false := fun q => beq_eq_false_iff_ne.mpr q
  have h1 := a h.1
  have h2 := a h.2.1
  have h3 := a h.2.2
  unfold fldOf
  cases c <;> simp only [Cn.encP, List.lookup, h1, h2, h3]
def S_facts (c : Cn) : Spec := fun ds Φ => ds = [c.encP] ∧ Φ (.lst (c.facts.map Cn.encP))
section
variable {P : Program} {w : World} {K : PySem.W.Frag} {mg : Str → Option Value} {base : Heap} (T : Tx K mg)
theorem ex_facts {X : Cx} {E : En} {Γ : List Sl} {o : Expr} {apos pos : Pos} {k : Nat} {c : Cn} (C : CalM X.prog X.w X.K X.mg X.base (clsOf c) "facts" k ["self"] (S_facts c)) (hr : Room k X.A) (ho : EX X E o Γ c.encP) (hso : notSuper o = true := by exact rfl) (hline : (apos.endLine == pos.line) = true := by exact rfl) :
    EX X E (.Call (.Attribute o "facts" apos) [] [] pos) Γ (.lst (c.facts.map Cn.encP)) :=
  exr_calM0 C hr (ho.to (encP_ins c)) ⟨by rw [← encP_ins c], rfl⟩ (lookup_no ⟨by decide +kernel, by decide +kernel, by decide +kernel⟩) hso hline
include T
theorem cls_ok (c : Cn) : Cls K (He.ga K (clsOf c)) := by
  cases c <;> first | exact T.c_Fact | exact T.c_Has | exact T.c_First | exact T.c_Last | exact T.c_Pair | exact T.c_From | exact T.c_Over | exact T.c_Marked | exact T.c_Turned | exact T.c_Bracket | exact T.c_Joined
theorem noat_words (c : Cn) : NoAttr K (He.ga K (clsOf c)) "words" := by
  cases c <;> first | exact T.n_Fact_words | exact T.n_Has_words | exact T.n_First_words | exact T.n_Last_words | exact T.n_Pair_words | exact T.n_From_words | exact T.n_Over_words | exact T.n_Marked_words | exact T.n_Turned_words | exact T.n_Bracket_words | exact T.n_Joined_words
theorem facts_self {c : Cn} (hf : c.isFact = true) {f : Addr} (d : ∃ fd, FunD K "facts" "Fact.facts" (defArgs s_Fact_facts) (defBody s_Fact_facts) (defScope s_Fact_facts) [] [] f fd) (g : Meth K (He.ga K (clsOf c)) "facts" f) : CalM P w K mg base (clsOf c) "facts" 1 ["self"] (S_facts c) := by
  refine calM_mk 0 d (cls_ok T c) g sc_Fact_facts (fun _ _ _ _ _ _ us hl => match us, hl with | [_], _ => rfl) (fun ds Φ h => ?_) (fun cdv A outer s H Ew E ds Φ hr hN h => ?_)
  · obtain ⟨rfl, _⟩ := h; rfl
  · obtain ⟨rfl, q⟩ := h
    rw [facts_self_eq hf] at q
    show SXs _ E (_ :: _) _ _
    exact sxs_one (sx_ret (ex_lst (ea_cons (ex_var 0) ea_nil)) q)
theorem facts_turned {c c' : Cn} (hc : fldOf c = ([("words", .lst [.str "not"]), ("inner", c'.encP)] : List (Str × D))) (hfc : c.facts = c'.facts) (hin : NoAttr K (He.ga K (clsOf c)) "inner") {k : Nat} (C : CalM P w K mg base (clsOf c') "facts" k ["self"] (S_facts c')) {f : Addr} (d : ∃ fd, FunD K "facts" "Turned.facts" (defArgs s_Turned_facts) (defBody s_Turned_facts) (defScope s_Turned_facts) [] [] f fd) (g : Meth K (He.ga K (clsOf c)) "facts" f) : CalM P w K mg base (clsOf c) "facts" (k + 1) ["self"] (S_facts c) := by
  refine calM_mk k d (cls_ok T c) g sc_Turned_facts (fun _ _ _ _ _ _ us hl => match us, hl with | [_], _ => rfl) (fun ds Φ h => ?_) (fun cdv A outer s H Ew E ds Φ hr hN h => ?_)
  · obtain ⟨rfl, _⟩ := h; rfl
  · obtain ⟨rfl, q⟩ := h
    rw [hfc] at q
    rw [encP_ins c, hc]
    show SXs _ E (_ :: _) _ _
    exact sxs_one (sx_ret (ex_facts C hr (ex_fld (cls_ok T c) hin (ex_var 0))) q)
theorem facts_joined {c : Cn} {l : List Cn} {W : Str} (hcl : clsOf c = "Joined") (hc : c.encP = .ins "Joined" [("words", .lst [.str W]), ("parts", .lst (l.map Cn.encP))]) (hfc : c.facts = l.flatMap Cn.facts) (hle : c.facts.length ≤ 100000) {k : Nat} (C : ∀ p ∈ l, CalM P w K mg base (clsOf p) "facts" k ["self"] (S_facts p)) : CalM P w K mg base (clsOf c) "facts" (k + 1) ["self"] (S_facts c) := by
  rw [hcl]
  refine calM_mk k T.d_Joined_facts T.c_Joined T.m_Joined_facts sc_Joined_facts (fun _ _ _ _ _ _ us hl => match us, hl with | [_], _ => rfl) (fun ds Φ h => ?_) (fun cdv A outer s H Ew E ds Φ hr hN h => ?_)
  · obtain ⟨rfl, _⟩ := h; rfl
  · obtain ⟨rfl, q⟩ := h
    rw [hfc] at q hle
    rw [hc]
    show SXs _ E (_ :: _) _ _
    refine sxs_cons (sx_setO 1 (eo_lst ea_nil) ?_)
    refine sxs_cons (sx_for (wk_list (ex_fld T.c_Joined T.n_Joined_parts (ex_var 0))) (fun i Γ => ∃ t2, Γ = [.im (.ins "Joined" [("words", .lst [.str W]), ("parts", .lst (l.map Cn.encP))]), .ol (((l.take i).flatMap Cn.facts).map Cn.encP), t2]) ⟨_, by simp; rfl⟩ ?_ ?_ rfl)
    · rintro i d Γ' hd ⟨t2, rfl⟩
      rw [List.getElem?_map] at hd
      obtain ⟨p, hp, rfl⟩ := Option.map_eq_some_iff.mp hd
      have htk : l.take (i + 1) = l.take i ++ [p] := by rw [List.take_succ, hp]; rfl
      have hlen : ((l.take (i + 1)).flatMap Cn.facts).length ≤ 100000 := by
        have e : l.flatMap Cn.facts = (l.take (i + 1)).flatMap Cn.facts ++ (l.drop (i + 1)).flatMap Cn.facts := by rw [← List.flatMap_append, List.take_append_drop]
        rw [e, List.length_append] at hle; omega
      rw [htk, List.flatMap_append, List.length_append] at hlen
      refine ⟨_, tg_name 2, sxs_one (sx_extend 1 (ex_facts (C p (List.mem_of_getElem? hp)) hr (ex_var 2)) ?_ ?_)⟩
      · refine ⟨.im p.encP, ?_⟩
        rw [htk, List.flatMap_append, List.map_append, List.flatMap_cons, List.flatMap_nil, List.append_nil]; rfl
      · have : ([p].flatMap Cn.facts).length = p.facts.length := by simp
        rw [List.length_map, List.length_map, sizeLine_eq]; omega
    · rintro Γ' ⟨t2, rfl⟩
      rw [List.length_map, List.take_length]
      refine freezeL 1 ?_
      exact sxs_one (sx_ret (ex_var 1) q)
theorem C_facts : ∀ c : Cn, c.toks.length ≤ 1000 → CalM P w K mg base (clsOf c) "facts" (c.deep + 1) ["self"] (S_facts c) := by
  intro c
  refine Cn.ind (P := fun c => c.toks.length ≤ 1000 → CalM P w K mg base (clsOf c) "facts" (c.deep + 1) ["self"] (S_facts c)) (fun c h hl => ?_) (fun c ih hl => ?_) (fun c ih hl => ?_) (fun l ih hl => ?_) (fun l ih hl => ?_) c
  · have hd : c.deep = 0 := by cases c <;> first | (cases h; done) | simp only [Cn.deep]
    rw [hd]
    have hh := h
    cases c <;> first | (cases h; done) | skip
    · exact facts_self T hh T.d_Fact_facts T.m_Fact_facts
    · exact facts_self T hh T.d_Has_facts T.m_Has_facts
    · exact facts_self T hh T.d_First_facts T.m_First_facts
    · exact facts_self T hh T.d_Last_facts T.m_Last_facts
    · exact facts_self T hh T.d_Pair_facts T.m_Pair_facts
    · exact facts_self T hh T.d_From_facts T.m_From_facts
    · exact facts_self T hh T.d_Over_facts T.m_Over_facts
    · exact facts_self T hh T.d_Marked_facts T.m_Marked_facts
  · rw [Cn.toks, List.length_cons] at hl
    rw [Cn.deep]
    exact facts_turned T (c := .not c) (c' := c) (by unfold fldOf; rw [encP_not]) (by rw [Cn.facts]) T.n_Turned_inner (ih (by omega)) T.d_Turned_facts T.m_Turned_facts
  · rw [Cn.toks] at hl
    simp at hl
    rw [Cn.deep]
    exact facts_turned T (c := .br c) (c' := c) (by unfold fldOf; rw [encP_br]) (by rw [Cn.facts]) T.n_Bracket_inner (ih (by omega)) T.d_Bracket_facts T.m_Bracket_facts
  · rw [Cn.deep]
    have hf := facts_le (.and l)
    rw [Cn.toks] at hl
    exact facts_joined T (c := .and l) (l := l) (W := "and") rfl (encP_and l) (by rw [Cn.facts, factsL_flat]) (by rw [Cn.toks] at hf; omega) fun p hp => (ih p hp (by have := toksL_mem_len "and" l p hp; omega)).up (by have := deepL_mem l p hp; omega)
  · rw [Cn.deep]
    have hf := facts_le (.or l)
    rw [Cn.toks] at hl
    exact facts_joined T (c := .or l) (l := l) (W := "or") rfl (encP_or l) (by rw [Cn.facts, factsL_flat]) (by rw [Cn.toks] at hf; omega) fun p hp => (ih p hp (by have := toksL_mem_len "or" l p hp; omega)).up (by have := deepL_mem l p hp; omega)
end
end DL
set_option maxHeartbeats 400000
/-! PF8: the program: the names spoken of, the rules of a text -/
namespace DL
open PySem PySem.Spec PyProof.Rows L2
/-- what rows of a text say -/
inductive RowsR : List Str → List Ru → Prop
  | nil : RowsR [] []
  | skip {x : Str} {xs : List Str} {rs : List Ru} : nothingB x = true → x.length ≤ 1000 → RowsR xs rs → RowsR (x :: xs) rs
  | row {x : Str} {xs : List Str} {r : Ru} {rs : List Ru} : nothingB x = false → x.length ≤ 1000 → (repI x 3).length ≤ 100000 → wordsOf x = r.toks → r.Wf → RowsR xs rs → RowsR (x :: xs) (r :: rs)
theorem RowsR.len : ∀ {xs : List Str} {rs : List Ru}, RowsR xs rs → rs.length ≤ xs.length
  | _, _, .nil => Nat.le_refl _
  | _, _, .skip _ _ h => Nat.le_succ_of_le h.len
  | _, _, .row _ _ _ _ _ h => Nat.succ_le_succ h.len
theorem RowsR.wf : ∀ {xs : List Str} {rs : List Ru}, RowsR xs rs → ∀ r ∈ rs, r.Wf
  | _, _, .nil, r, h => by cases h
  | _, _, .skip _ _ q, r, h => q.wf r h
  | _, _, .row _ _ _ _ w q, r, h => by rcases List.mem_cons.mp h with rfl | h; exact w; exact q.wf r h
def S_spoken : Spec := fun ds Φ => ∃ rs : List Ru, ds = [.lst (rs.map Ru.encP)] ∧ rs.length ≤ 1000 ∧ (∀ r ∈ rs, r.Wf) ∧ Φ (.lst ((rankSort (uniq (spokenN rs))).map .str))
def S_check_few : Spec := fun ds Φ => ∃ rs : List Ru, ds = [.lst (rs.map Ru.encP)] ∧ rs.length ≤ 1000 ∧ (∀ r ∈ rs, r.Wf) ∧ (uniq (spokenN rs)).length ≤ 4 ∧ Φ .non
def S_rules_of : Spec := fun ds Φ => ∃ (x : Str) (rs : List Ru), ds = [.str x] ∧ x.length + 2 ≤ sizeLine ∧ RowsR (Txt.split x "\n") rs ∧ (Txt.split x "\n").length ≤ 1000 ∧ (uniq (spokenN rs)).length ≤ 4 ∧ Φ (.lst (rs.map Ru.encP))
theorem spokenF_len (c : Cn) : (c.facts.flatMap spokenF).length ≤ 2 * c.facts.length := flat_le fun f hf => spokenF_le f (facts_fact c f hf)
theorem Ru.encP_eq (r : Ru) : r.encP = .ins "Rule" [("condition", r.1.encP), ("deeds", .lst (r.2.map Dd.encP))] := rfl
theorem TokS_of_spoken {c : Cn} (h : ∀ a ∈ c.facts, a.nice) : ∀ x ∈ c.facts.flatMap spokenF, NameS x := by
  intro x hx
  obtain ⟨f, hf, hx⟩ := List.mem_flatMap.mp hx
  have hn := h f hf
  have hff := facts_fact c f hf
  unfold spokenF at hx
  cases f <;> first | (cases hff; done) | skip
  all_goals simp only [Cn.toks] at hx
  all_goals (split at hx <;> first | (simp at hx; done) | skip)
  all_goals first | (exfalso; rename_i h8; exact absurd h8 (by decide +kernel)) | skip
  all_goals simp only [List.mem_cons, List.not_mem_nil, or_false] at hx
  · rw [hx]; exact hn
  · rw [hx]; exact hn
  · rw [hx]; exact hn
  · rcases hx with rfl | rfl
    · exact hn.1
    · exact hn.2
section
variable {P : Program} {w : World} {K : PySem.W.Frag} {mg : Str → Option Value} {base : Heap} (T : Tx K mg) (TB : ∀ p ∈ sites, LamX.TabB base mg (He.cT K p.1).1 (He.cT K p.1).2)
include T TB
theorem C_in_orderD : Cal P w K mg base "in_order" 2 ["names"] (fun ds Φ => ∃ ws : List Str, ds = [.lst (ws.map .str)] ∧ (∀ x ∈ ws, x.length ≤ sizeLine) ∧ Φ (.lst ((rankSort ws).map .str))) :=
  (C_in_order T TB).cal fun ds Φ h => by
    obtain ⟨ws, rfl, h1, h2⟩ := h
    exact ⟨_, _, ⟨ws, rfl, h1, rfl⟩, h2, fun G' a o h ok => by obtain ⟨vs, rfl, r⟩ := ok; exact .lst h r⟩
theorem C_spoken : Cal P w K mg base "spoken" 9 ["rules"] S_spoken := by
  refine cal_mk 8 T.d_spoken T.g_spoken sc_spoken (fun _ _ _ _ _ _ us hl => match us, hl with | [_], _ => rfl) (fun ds Φ h => ?_) (fun cdv A outer s H Ew E ds Φ hr hN h => ?_)
  · obtain ⟨rs, rfl, _⟩ := h; rfl
  · obtain ⟨rs, rfl, hl, hw, q⟩ := h
    show SXs _ E (_ :: _) _ _
    have hbound : ∀ i : Nat, (spokenN (rs.take i)).length ≤ 80 * 1000 := fun i => by
      unfold spokenN
      rw [List.flatMap_assoc]
      have h1 := flat_le (n := 80) (g := fun r : Ru => r.1.facts.flatMap spokenF) (l := rs.take i) fun r hr => by
        have h2 := spokenF_len r.1
        have h3 := facts_le r.1
        have h4 := (hw r (List.mem_of_mem_take hr)).k.1
        omega
      rw [List.length_take] at h1
      omega
    refine sxs_cons (sx_setO 1 eo_nilD ?_)
    refine sxs_cons (sx_for (wk_list (ex_var 0)) (fun i Γ => ∃ t2 t3 t4, Γ = [.im (.lst (rs.map Ru.encP)), .od ((uniq (spokenN (rs.take i))).map kt), t2, t3, t4]) ⟨.un, .un, .un, rfl⟩ ?_ ?_ rfl)
    · rintro i d Γ' hd ⟨t2, t3, t4, rfl⟩
      rw [List.getElem?_map] at hd
      obtain ⟨r, hr1, rfl⟩ := Option.map_eq_some_iff.mp hd
      have wf := hw r (List.mem_of_getElem? hr1)
      have htk : rs.take (i + 1) = rs.take i ++ [r] := by rw [List.take_succ, hr1]; rfl
      have hsp : spokenN (rs.take (i + 1)) = spokenN (rs.take i) ++ r.1.facts.flatMap spokenF := by
        unfold spokenN
        rw [htk, List.flatMap_append, List.flatMap_append]; simp
      have hb := hbound (i + 1)
      rw [hsp, List.length_append] at hb
      refine ⟨_, tg_name 2, sxs_one (sx_for (wk_list (ex_facts (C_facts T r.1 (by have := wf.k.1; omega)) (hr.mono (by have := wf.k.2; omega)) (ex_fld T.c_Rule T.n_Rule_condition (ex_var 2)))) (fun j Γ => ∃ t3 t4, Γ = [.im (.lst (rs.map Ru.encP)), .od ((uniq (spokenN (rs.take i) ++ (r.1.facts.take j).flatMap spokenF)).map kt), .im r.encP, t3, t4]) ⟨t3, t4, by simp⟩ ?_ ?_ rfl)⟩
      · rintro j d Γ' hd ⟨t3, t4, rfl⟩
        rw [List.getElem?_map] at hd
        obtain ⟨f, hf1, rfl⟩ := Option.map_eq_some_iff.mp hd
        have hfm := List.mem_of_getElem? hf1
        have hff := facts_fact r.1 f hfm
        have htj : r.1.facts.take (j + 1) = r.1.facts.take j ++ [f] := by rw [List.take_succ, hf1]; rfl
        have hbj : ((r.1.facts.take (j + 1)).flatMap spokenF).length ≤ (r.1.facts.flatMap spokenF).length := by
          have e : r.1.facts.flatMap spokenF = (r.1.facts.take (j + 1)).flatMap spokenF ++ (r.1.facts.drop (j + 1)).flatMap spokenF := by rw [← List.flatMap_append, List.take_append_drop]
          rw [e, List.length_append]; omega
        have hfj : (r.1.facts.take (j + 1)).flatMap spokenF = (r.1.facts.take j).flatMap spokenF ++ spokenF f := by rw [htj, List.flatMap_append]; simp
        rw [hfj, List.length_append] at hbj
        obtain ⟨W, args, hW, _⟩ := Cn.head_fact hff
        have hsf : spokenF f = if W ∈ spokenW then args else [] := by unfold spokenF; rw [hW]
        have hwords : ∀ {Γ : List Sl} {p p2 : Pos}, Γ[3]? = some (.im f.encP) → EX (cxOf CX0 P w K mg base ["rules", "found", "rule", "fact", "name"] "spoken" (defScope s_spoken) (He.ga K "spoken") cdv A outer s H Ew).nox E (.Attribute (.Name "fact" p) "words" p2) Γ (.lst ((W :: args).map .str)) := fun {Γ p p2} h => by
          have h2 := ex_var (X := (cxOf CX0 P w K mg base ["rules", "found", "rule", "fact", "name"] "spoken" (defScope s_spoken) (He.ga K "spoken") cdv A outer s H Ew).nox) (E := E) (pos := p) 3 h
          rw [encP_fact hff, hW] at h2
          exact ex_fld (cls_ok T f) (noat_words T f) h2
        refine ⟨_, tg_name 3, sxs_one (sx_if (et_inT (xs := spokenW.map .str) (ex_ixL (z := .str W) (hwords rfl) ex_int (h := atI_nat (j := 0) rfl)) (ex_globR T.g_SPOKEN T.t_SPOKEN)) (fun h => ?_) (fun h => sxs_nil ?_))⟩
        · rw [inF_strs, decide_eq_true_eq] at h
          rw [if_pos h] at hsf
          refine sxs_one (sx_for (wk_list (EX.to (y := .lst (args.map .str)) (ex_sliceL (l := some 1) (h := none) (hwords rfl) ex_int trivial) ?_)) (fun m Γ => ∃ t4, Γ = [.im (.lst (rs.map Ru.encP)), .od ((uniq (spokenN (rs.take i) ++ (r.1.facts.take j).flatMap spokenF ++ args.take m)).map kt), .im r.encP, .im f.encP, t4]) ⟨t4, by rw [List.take_zero, List.append_nil]; rfl⟩ ?_ ?_ rfl)
          · rw [show ((1 : Int)) = ((1 : Nat) : Int) from rfl, cutD_from]; rfl
          · rintro m d Γ' hd ⟨t4, rfl⟩
            rw [List.getElem?_map] at hd
            obtain ⟨n, hn1, rfl⟩ := Option.map_eq_some_iff.mp hd
            have htm : args.take (m + 1) = args.take m ++ [n] := by rw [List.take_succ, hn1]; rfl
            refine ⟨_, tg_name 4, sxs_one (sx_dput (q := .inr n) 1 hr (ex_var 4) ex_bl rfl ?_ ?_)⟩
            · have hu := uniq_len (spokenN (rs.take i) ++ (r.1.facts.take j).flatMap spokenF ++ args.take m)
              rw [List.length_append, List.length_append, List.length_take] at hu
              rw [hsf] at hbj
              rw [List.length_map, sizeLine_eq]; omega
            · refine ⟨.im (.str n), ?_⟩
              rw [htm, ← List.append_assoc, uniq_snoc, ← putKD_kt]; rfl
          · rintro Γ' ⟨t4, rfl⟩
            rw [List.length_map, List.take_length, ← hsf, List.append_assoc, ← hfj]
            exact ⟨_, _, rfl⟩
        · rw [inF_strs, decide_eq_false_iff_not] at h
          rw [if_neg h] at hsf
          rw [hsf, List.append_nil] at hfj
          rw [hfj]
          exact ⟨_, _, rfl⟩
      · rintro Γ' ⟨t3, t4, rfl⟩
        rw [List.length_map, List.take_length, ← hsp]
        exact ⟨_, _, _, rfl⟩
    · rintro Γ' ⟨t2, t3, t4, rfl⟩
      rw [List.length_map, List.take_length]
      refine sxs_one (sx_ret (ex_cal (C_in_orderD T TB) (hr.mono (by decide)) (ea_cons (EX.to (y := .lst ((uniq (spokenN rs)).map .str)) ((eo_keysO 1 rfl T.b_list).ex fz_l) ?_) ea_nil) ⟨_, rfl, fun x hx => ?_, rfl⟩) q)
      · rw [List.map_map]; rfl
      · rw [mem_uniq] at hx
        unfold spokenN at hx
        rw [List.flatMap_assoc] at hx
        obtain ⟨r, hr1, hx⟩ := List.mem_flatMap.mp hx
        have := (TokS_of_spoken (hw r hr1).c.f x hx).2.1
        rw [cd_len, sizeLine_eq]; omega
theorem C_check_few : Cal P w K mg base "check_few" 10 ["rules"] S_check_few := by
  refine cal_mk 9 T.d_check_few T.g_check_few sc_check_few (fun _ _ _ _ _ _ us hl => match us, hl with | [_], _ => rfl) (fun ds Φ h => ?_) (fun cdv A outer s H Ew E ds Φ hr hN h => ?_)
  · obtain ⟨rs, rfl, _⟩ := h; rfl
  · obtain ⟨rs, rfl, hl, hw, h4, q⟩ := h
    show SXs _ E (_ :: _) _ _
    refine sxs_one (sx_if (b := false) (ET.to (et_gt (ex_lenL (ex_cal (C_spoken T TB) hr (ea_cons (ex_var 0) ea_nil) ⟨rs, rfl, hl, hw, rfl⟩) T.b_len) (ex_globI T.i_MOST_NAMES)) ?_) (fun h => nomatch h) (fun _ => sxs_nil q))
    rw [List.length_map, rankSort_len]
    exact decide_eq_false (by omega)
theorem C_rules_of : Cal P w K mg base "rules_of" 28 ["text"] S_rules_of := by
  refine cal_mk 27 T.d_rules_of T.g_rules_of sc_rules_of (fun _ _ _ _ _ _ us hl => match us, hl with | [_], _ => rfl) (fun ds Φ h => ?_) (fun cdv A outer s H Ew E ds Φ hr hN h => ?_)
  · obtain ⟨x, rs, rfl, _⟩ := h; rfl
  · obtain ⟨x, rs, rfl, hx, hR, hlen, h4, q⟩ := h
    show SXs _ E (_ :: _) _ _
    refine sxs_cons (sx_if (b := false) (ET.to (et_not (et_val (ex_isi (T := "str") (b := true) T.b_isinstance (ex_var 0) (ex_ty T.b_str)))) rfl) (fun h => nomatch h) (fun _ => sxs_nil ?_))
    refine sxs_cons (sx_setO 1 (eo_lst ea_nil) ?_)
    obtain ⟨rows, hrows⟩ : ∃ rows, Txt.split x "\n" = rows := ⟨_, rfl⟩
    rw [hrows] at hR hlen
    refine sxs_cons (sx_for (wk_enum T.b_enumerate ((eo_split (ex_var 0) ex_str (by decide) hx).ex fz_l)) (fun i Γ => ∃ done rest t2 t3, rs = done ++ rest ∧ RowsR (rows.drop i) rest ∧ Γ = [.im (.str x), .ol (done.map Ru.encP), t2, t3]) ⟨[], rs, .un, .un, rfl, by rw [List.drop_zero]; exact hR, rfl⟩ ?_ ?_ rfl)
    · rintro i d Γ' hd ⟨done, rest, t2, t3, hdr, hRi, rfl⟩
      rw [hrows] at hd
      have hi : i < rows.length := by
        have := lt_of_at hd
        rwa [enumD'_length, List.length_map] at this
      have hri : rows[i]? = some rows[i] := List.getElem?_eq_getElem hi
      have hd2 := enumD'_get 0 (rows.map .str) i (.str rows[i]) (by rw [List.getElem?_map, hri]; rfl)
      rw [hd2] at hd
      cases hd
      rw [List.drop_eq_getElem_cons hi] at hRi
      obtain ⟨row, hrow⟩ : ∃ row, rows[i] = row := ⟨_, rfl⟩
      rw [hrow] at hRi ⊢
      refine ⟨_, tg_tup (tgs_cons (tg_name 2) (tgs_cons (tg_name 3) tgs_nil)) rfl, sxs_one ?_⟩
      cases hRi with
      | skip hn hl1 hr2 =>
        refine sx_if (b := false) (ET.to (et_not (et_val (ex_cal (C_says_nothing T) (hr.mono (by decide)) (ea_cons (ex_var 3) ea_nil) ⟨row, rfl, by rw [sizeLine_eq]; omega, rfl⟩))) (by rw [hn]; rfl)) (fun h => nomatch h) (fun _ => sxs_nil ?_)
        exact ⟨done, rest, _, _, hdr, hr2, rfl⟩
      | row hn hl1 hl2 hws wf hr2 =>
        rename_i r rs'
        refine sx_if (b := true) (ET.to (et_not (et_val (ex_cal (C_says_nothing T) (hr.mono (by decide)) (ea_cons (ex_var 3) ea_nil) ⟨row, rfl, by rw [sizeLine_eq]; omega, rfl⟩))) (by rw [hn]; rfl)) (fun _ => sxs_one ?_) (fun h => nomatch h)
        refine sx_append (d := r.encP) 1 (exr_newMeth (C_Reader_rule T) (hr.mono (by decide)) (eo_mk (fs := rdF ((0 + i : Nat) : Int) r.toks 0) (C_Reader T) (hr.mono (by decide)) (EA.R (ea_cons (ex_var 2) (ea_cons (ex_cal (C_words_of T) (hr.mono (by decide)) (ea_cons (ex_var 3) ea_nil) ⟨row, rfl, hl1, hl2, rfl⟩) ea_nil)) ⟨_, _, by rw [hws], rfl, rfl, rfl⟩)) ⟨_, r, rfl, rfl, wf, fun _ => rfl⟩) ?_ ?_
        · exact ⟨done ++ [r], rs', _, _, by rw [hdr]; simp, hr2, by rw [List.map_append]; rfl⟩
        · have h5 := hR.len
          rw [hdr, List.length_append] at h5
          rw [List.length_map, sizeLine_eq]; omega
    · rintro Γ' ⟨done, rest, t2, t3, hdr, hRi, rfl⟩
      rw [hrows] at hRi
      rw [enumD'_length, List.length_map, List.drop_length] at hRi
      cases hRi
      rw [List.append_nil] at hdr
      subst hdr
      refine freezeL 1 ?_
      refine sxs_cons (sx_dropQ (EX.Q (ex_cal (C_check_few T TB) (hr.mono (by decide)) (ea_cons (ex_var 1) ea_nil) ⟨rs, rfl, by have := hR.len; omega, hR.wf, h4, rfl⟩)) ?_)
      exact sxs_one (sx_ret (ex_var 1) q)
end
end DL
set_option maxHeartbeats 400000
/-! PF9: the program: whether conditions hold of what is seen -/
namespace DL
open PySem PySem.Spec PyProof.Rows L2
inductive InS : D → (Str → Bool) → Prop
  | dic (ks : List Str) : InS (.dic (ks.map kt)) fun n => decide (n ∈ ks)
  | tup (ks : List Str) : InS (.tup (ks.map .str)) fun n => decide (n ∈ ks)
inductive InP : D → (Str → Str → Bool) → Prop
  | dit (ks : List (Str × Str)) : InP (.dit (ks.map pt)) fun a b => decide ((a, b) ∈ ks)
/-- what is seen of a letter -/
structure Lk where
  sender : Str
  size : Int
  first : Option Str
  last : Option Str
  has : Str → Bool
  pair : Str → Str → Bool
def optD : Option Str → D
  | none => .non
  | some x => .str x
def lkF (k : Lk) (so pa : D) (ms : List Str) : List (Str × D) := [("sender", .str k.sender), ("size", .int k.size), ("first", optD k.first), ("last", optD k.last), ("some", so), ("pairs", pa), ("marks", .dic (ms.map kt))]
mutual
def Cn.sat (k : Lk) (ms : List Str) : Cn → Bool
  | .any => true
  | .has n => k.has n
  | .first n => decide (k.first = some n)
  | .last n => decide (k.last = some n)
  | .pair a b => k.pair a b
  | .frm n => decide (k.sender = n)
  | .over s => decide (sizeV s < k.size)
  | .marked n => decide (n ∈ ms)
  | .not c => !c.sat k ms
  | .br c => c.sat k ms
  | .and cs => Cn.satAll k ms cs
  | .or cs => Cn.satAny k ms cs
def Cn.satAll (k : Lk) (ms : List Str) : List Cn → Bool
  | [] => true
  | c :: r => c.sat k ms && Cn.satAll k ms r
def Cn.satAny (k : Lk) (ms : List Str) : List Cn → Bool
  | [] => false
  | c :: r => c.sat k ms || Cn.satAny k ms r
end
theorem satAll_eq (k : Lk) (ms : List Str) : ∀ cs : List Cn, Cn.satAll k ms cs = (cs.map fun c => c.sat k ms).all id
  | [] => by rw [Cn.satAll]; rfl
  | c :: r => by rw [Cn.satAll, satAll_eq k ms r]; rfl
theorem satAny_eq (k : Lk) (ms : List Str) : ∀ cs : List Cn, Cn.satAny k ms cs = (cs.map fun c => c.sat k ms).any id
  | [] => by rw [Cn.satAny]; rfl
  | c :: r => by rw [Cn.satAny, satAny_eq k ms r]; rfl
theorem eqS_opt (o : Option Str) (n : Str) : eqS (optD o) (.str n) = decide (o = some n) := by
  cases o with
  | none => rfl
  | some x => rw [show optD (some x) = .str x from rfl, eqS_str]; simp
theorem scal_opt (o : Option Str) (n : Str) : scalD (optD o) (.str n) = true := by cases o <;> rfl
def S_holds (c : Cn) : Spec := fun ds Φ => ∃ (k : Lk) (so pa : D) (ms : List Str), ds = [c.encP, .ins "Seen" (lkF k so pa ms)] ∧ InS so k.has ∧ InP pa k.pair ∧ Φ (.bl (c.sat k ms))
section
variable {P : Program} {w : World} {K : PySem.W.Frag} {mg : Str → Option Value} {base : Heap} (T : Tx K mg)
theorem ex_holds {X : Cx} {E : En} {Γ : List Sl} {o e : Expr} {apos pos : Pos} {j : Nat} {c : Cn} {k : Lk} {so pa : D} {ms : List Str} (C : CalM X.prog X.w X.K X.mg X.base (clsOf c) "holds" j ["self", "seen"] (S_holds c)) (hr : Room j X.A) (h1 : InS so k.has) (h2 : InP pa k.pair) (ho : EX X E o Γ c.encP) (he : EX X E e Γ (.ins "Seen" (lkF k so pa ms))) (hst : noStar e = true := by exact rfl) (hso : notSuper o = true := by exact rfl) (hline : (apos.endLine == pos.line) = true := by exact rfl) :
    EX X E (.Call (.Attribute o "holds" apos) [e] [] pos) Γ (.bl (c.sat k ms)) :=
  exr_calM C hr (ho.to (encP_ins c)) (EA.R (ea_cons he ea_nil hst) ⟨k, so, pa, ms, by rw [← encP_ins c], h1, h2, rfl⟩) (lookup_no ⟨by decide +kernel, by decide +kernel, by decide +kernel⟩) hst rfl hso (by decide) hline
include T
theorem holds_base {c : Cn} (hf : c.isFact = true) (hn : c.nice) : CalM P w K mg base (clsOf c) "holds" 1 ["self", "seen"] (S_holds c) := by
  have he := encP_fact hf
  cases c <;> first | (cases hf; done) | skip
  case any =>
    refine calM_mk 0 T.d_Fact_holds T.c_Fact T.m_Fact_holds sc_Fact_holds (fun _ _ _ _ _ _ us hl => match us, hl with | [_, _], _ => rfl) (fun ds Φ h => ?_) (fun cdv A outer s H Ew E ds Φ hr hN h => ?_)
    · obtain ⟨k, so, pa, ms, rfl, _⟩ := h; rfl
    · obtain ⟨k, so, pa, ms, rfl, h1, h2, q⟩ := h
      show SXs _ E (_ :: _) _ _
      exact sxs_one (sx_ret ex_bl (by rw [Cn.sat] at q; exact q))
  case frm n =>
    refine calM_mk 0 T.d_From_holds T.c_From T.m_From_holds sc_From_holds (fun _ _ _ _ _ _ us hl => match us, hl with | [_, _], _ => rfl) (fun ds Φ h => ?_) (fun cdv A outer s H Ew E ds Φ hr hN h => ?_)
    · obtain ⟨k, so, pa, ms, rfl, _⟩ := h; rfl
    · obtain ⟨k, so, pa, ms, rfl, h1, h2, q⟩ := h
      rw [he]
      rw [Cn.sat] at q
      show SXs _ E (_ :: _) _ _
      refine sxs_one (sx_ret (EX.to (ex_eq (ex_fld T.c_Seen T.n_Seen_sender (ex_var 1)) (ex_ixL (z := .str n) (ex_fld T.c_From T.n_From_words (ex_var 0)) ex_int (atI_nat (j := 1) rfl))) ?_) q)
      rw [eqS_str]
  case has n =>
    refine calM_mk 0 T.d_Has_holds T.c_Has T.m_Has_holds sc_Has_holds (fun _ _ _ _ _ _ us hl => match us, hl with | [_, _], _ => rfl) (fun ds Φ h => ?_) (fun cdv A outer s H Ew E ds Φ hr hN h => ?_)
    · obtain ⟨k, so, pa, ms, rfl, _⟩ := h; rfl
    · obtain ⟨k, so, pa, ms, rfl, h1, h2, q⟩ := h
      rw [he]
      rw [Cn.sat] at q
      obtain ⟨ksd, ksz, kf, kl, kh, kp⟩ := k
      show SXs _ E (_ :: _) _ _
      cases h1 with
      | dic ks => exact sxs_one (sx_ret (EX.to (ex_inDD (q := .inr n) hr (ex_ixL (z := .str n) (ex_fld T.c_Has T.n_Has_words (ex_var 0)) ex_int (atI_nat (j := 1) rfl)) (ex_fld T.c_Seen T.n_Seen_some (ex_var 1)) rfl) (congrArg D.bl (valD_kt ks n))) q)
      | tup ks => exact sxs_one (sx_ret (EX.to (ex_inT (x := .str n) (ex_ixL (z := .str n) (ex_fld T.c_Has T.n_Has_words (ex_var 0)) ex_int (atI_nat (j := 1) rfl)) (ex_fld T.c_Seen T.n_Seen_some (ex_var 1)) rfl (by rw [List.all_map]; exact List.all_eq_true.mpr fun _ _ => rfl)) (congrArg D.bl (inF_strs n ks))) q)
  case first n =>
    refine calM_mk 0 T.d_First_holds T.c_First T.m_First_holds sc_First_holds (fun _ _ _ _ _ _ us hl => match us, hl with | [_, _], _ => rfl) (fun ds Φ h => ?_) (fun cdv A outer s H Ew E ds Φ hr hN h => ?_)
    · obtain ⟨k, so, pa, ms, rfl, _⟩ := h; rfl
    · obtain ⟨k, so, pa, ms, rfl, h1, h2, q⟩ := h
      rw [he]
      rw [Cn.sat] at q
      show SXs _ E (_ :: _) _ _
      exact sxs_one (sx_ret (EX.to (ex_eq (ex_fld T.c_Seen T.n_Seen_first (ex_var 1)) (ex_ixL (z := .str n) (ex_fld T.c_First T.n_First_words (ex_var 0)) ex_int (atI_nat (j := 1) rfl)) (scal_opt _ _)) (congrArg D.bl (eqS_opt _ _))) q)
  case last n =>
    refine calM_mk 0 T.d_Last_holds T.c_Last T.m_Last_holds sc_Last_holds (fun _ _ _ _ _ _ us hl => match us, hl with | [_, _], _ => rfl) (fun ds Φ h => ?_) (fun cdv A outer s H Ew E ds Φ hr hN h => ?_)
    · obtain ⟨k, so, pa, ms, rfl, _⟩ := h; rfl
    · obtain ⟨k, so, pa, ms, rfl, h1, h2, q⟩ := h
      rw [he]
      rw [Cn.sat] at q
      show SXs _ E (_ :: _) _ _
      exact sxs_one (sx_ret (EX.to (ex_eq (ex_fld T.c_Seen T.n_Seen_last (ex_var 1)) (ex_ixL (z := .str n) (ex_fld T.c_Last T.n_Last_words (ex_var 0)) ex_int (atI_nat (j := 1) rfl)) (scal_opt _ _)) (congrArg D.bl (eqS_opt _ _))) q)
  case pair a b =>
    refine calM_mk 0 T.d_Pair_holds T.c_Pair T.m_Pair_holds sc_Pair_holds (fun _ _ _ _ _ _ us hl => match us, hl with | [_, _], _ => rfl) (fun ds Φ h => ?_) (fun cdv A outer s H Ew E ds Φ hr hN h => ?_)
    · obtain ⟨k, so, pa, ms, rfl, _⟩ := h; rfl
    · obtain ⟨k, so, pa, ms, rfl, h1, h2, q⟩ := h
      rw [he]
      rw [Cn.sat] at q
      obtain ⟨ksd, ksz, kf, kl, kh, kp⟩ := k
      show SXs _ E (_ :: _) _ _
      cases h2 with
      | dit ks => exact sxs_one (sx_ret (EX.to (ex_inTT (ks := (pt (a, b)).1) hr (ea_cons (ex_ixL (z := .str a) (ex_fld T.c_Pair T.n_Pair_words (ex_var 0)) ex_int (atI_nat (j := 1) rfl)) (ea_cons (ex_ixL (z := .str b) (ex_fld T.c_Pair T.n_Pair_words (ex_var 0)) ex_int (atI_nat (j := 2) rfl)) ea_nil)) (ex_fld T.c_Seen T.n_Seen_pairs (ex_var 1)) rfl) (congrArg D.bl (valD_pt ks (a, b)))) q)
  case over x =>
    refine calM_mk 0 T.d_Over_holds T.c_Over T.m_Over_holds sc_Over_holds (fun _ _ _ _ _ _ us hl => match us, hl with | [_, _], _ => rfl) (fun ds Φ h => ?_) (fun cdv A outer s H Ew E ds Φ hr hN h => ?_)
    · obtain ⟨k, so, pa, ms, rfl, _⟩ := h; rfl
    · obtain ⟨k, so, pa, ms, rfl, h1, h2, q⟩ := h
      rw [he]
      rw [Cn.sat] at q
      show SXs _ E (_ :: _) _ _
      exact sxs_one (sx_ret (ex_gt (ex_fld T.c_Seen T.n_Seen_size (ex_var 1)) (ex_intS (ex_ixL (z := .str x) (ex_fld T.c_Over T.n_Over_words (ex_var 0)) ex_int (atI_nat (j := 1) rfl)) T.b_int (sizeV_int hn).1 (sizeV_int hn).2)) q)
  case marked n =>
    refine calM_mk 0 T.d_Marked_holds T.c_Marked T.m_Marked_holds sc_Marked_holds (fun _ _ _ _ _ _ us hl => match us, hl with | [_, _], _ => rfl) (fun ds Φ h => ?_) (fun cdv A outer s H Ew E ds Φ hr hN h => ?_)
    · obtain ⟨k, so, pa, ms, rfl, _⟩ := h; rfl
    · obtain ⟨k, so, pa, ms, rfl, h1, h2, q⟩ := h
      rw [he]
      rw [Cn.sat] at q
      show SXs _ E (_ :: _) _ _
      exact sxs_one (sx_ret (EX.to (ex_inDD (q := .inr n) hr (ex_ixL (z := .str n) (ex_fld T.c_Marked T.n_Marked_words (ex_var 0)) ex_int (atI_nat (j := 1) rfl)) (ex_fld T.c_Seen T.n_Seen_marks (ex_var 1)) rfl) (congrArg D.bl (valD_kt ms n))) q)
theorem holds_joined {c : Cn} {l : List Cn} {W : Str} (hcl : clsOf c = "Joined") (hc : c.encP = .ins "Joined" [("words", .lst [.str W]), ("parts", .lst (l.map Cn.encP))]) (hsat : ∀ k ms, c.sat k ms = if W = "and" then (l.map fun c => c.sat k ms).all id else (l.map fun c => c.sat k ms).any id) (hle : l.length ≤ 1001) {j : Nat} (C : ∀ p ∈ l, CalM P w K mg base (clsOf p) "holds" j ["self", "seen"] (S_holds p)) : CalM P w K mg base (clsOf c) "holds" (j + 1) ["self", "seen"] (S_holds c) := by
  rw [hcl]
  refine calM_mk j T.d_Joined_holds T.c_Joined T.m_Joined_holds sc_Joined_holds (fun _ _ _ _ _ _ us hl => match us, hl with | [_, _], _ => rfl) (fun ds Φ h => ?_) (fun cdv A outer s H Ew E ds Φ hr hN h => ?_)
  · obtain ⟨k, so, pa, ms, rfl, _⟩ := h; rfl
  · obtain ⟨k, so, pa, ms, rfl, h1, h2, q⟩ := h
    rw [hc]
    rw [hsat] at q
    show SXs _ E (_ :: _) _ _
    refine sxs_cons (sx_setCI (es := (l.map fun c => c.sat k ms).map .bl) 2 3 (wk_list (ex_fld T.c_Joined T.n_Joined_parts (ex_var 0))) (fun s H C' cl fp i d e hd he => ?_) ?_ (by simp) (by rw [List.length_map, sizeLine_eq]; omega))
    · rw [List.map_map] at he
      rw [List.getElem?_map] at hd he
      obtain ⟨p, hp, rfl⟩ := Option.map_eq_some_iff.mp hd
      rw [hp] at he
      cases he
      exact ex_holds (C p (List.mem_of_getElem? hp)) hr h1 h2 (ex_var 3) (ex_var 1 (hv := .inr (.inl (by kernel_rfl))))
    refine freezeL 2 ?_
    refine sxs_one (sx_ret (ex_if (d := .bl (if W = "and" then (l.map fun c => c.sat k ms).all id else (l.map fun c => c.sat k ms).any id)) (et_eq (ex_ixL (z := .str W) (ex_fld T.c_Joined T.n_Joined_words (ex_var 0)) ex_int (atI_nat (j := 0) rfl)) ex_str) (fun h => ?_) (fun h => ?_)) q)
    · rw [eqS_str, decide_eq_true_eq] at h
      rw [if_pos h]
      exact ex_all rfl (ex_var 2) T.b_all
    · rw [eqS_str, decide_eq_false_iff_not] at h
      rw [if_neg h]
      exact ex_any rfl (ex_var 2) T.b_any
theorem C_holds : ∀ c : Cn, c.toks.length ≤ 1000 → (∀ a ∈ c.facts, a.nice) → CalM P w K mg base (clsOf c) "holds" (c.deep + 1) ["self", "seen"] (S_holds c) := by
  intro c
  have ll2 : ∀ (W : Str) (l : List Cn), l.length ≤ (Cn.toksL W l).length + 1 := fun W l => by
    induction l with
    | nil => exact Nat.zero_le _
    | cons a r ih =>
      cases r with
      | nil => simp
      | cons b r =>
        rw [toksL_cons, List.length_append]
        simp only [List.length_cons] at ih ⊢
        omega
  refine Cn.ind (P := fun c => c.toks.length ≤ 1000 → (∀ a ∈ c.facts, a.nice) → CalM P w K mg base (clsOf c) "holds" (c.deep + 1) ["self", "seen"] (S_holds c)) (fun c h hl hn => ?_) (fun c ih hl hn => ?_) (fun c ih hl hn => ?_) (fun l ih hl hn => ?_) (fun l ih hl hn => ?_) c
  · have hd : c.deep = 0 := by cases c <;> first | (cases h; done) | simp only [Cn.deep]
    rw [hd]
    exact holds_base T h (hn c (by rw [facts_self_eq h]; exact List.mem_singleton.mpr rfl))
  · rw [Cn.toks, List.length_cons] at hl
    rw [Cn.facts] at hn
    have C := ih (by omega) hn
    rw [Cn.deep]
    refine calM_mk (c.deep + 1) T.d_Turned_holds T.c_Turned T.m_Turned_holds sc_Turned_holds (fun _ _ _ _ _ _ us hl => match us, hl with | [_, _], _ => rfl) (fun ds Φ h => ?_) (fun cdv A outer s H Ew E ds Φ hr hN h => ?_)
    · obtain ⟨k, so, pa, ms, rfl, _⟩ := h; rfl
    · obtain ⟨k, so, pa, ms, rfl, h1, h2, q⟩ := h
      rw [Cn.sat] at q
      rw [encP_not]
      show SXs _ E (_ :: _) _ _
      exact sxs_one (sx_ret (ex_not (ex_holds C hr h1 h2 (ex_fld T.c_Turned T.n_Turned_inner (ex_var 0)) (ex_var 1))) q)
  · rw [Cn.toks] at hl
    simp at hl
    rw [Cn.facts] at hn
    have C := ih (by omega) hn
    rw [Cn.deep]
    refine calM_mk (c.deep + 1) T.d_Bracket_holds T.c_Bracket T.m_Bracket_holds sc_Bracket_holds (fun _ _ _ _ _ _ us hl => match us, hl with | [_, _], _ => rfl) (fun ds Φ h => ?_) (fun cdv A outer s H Ew E ds Φ hr hN h => ?_)
    · obtain ⟨k, so, pa, ms, rfl, _⟩ := h; rfl
    · obtain ⟨k, so, pa, ms, rfl, h1, h2, q⟩ := h
      rw [Cn.sat] at q
      rw [encP_br]
      show SXs _ E (_ :: _) _ _
      exact sxs_one (sx_ret (ex_holds C hr h1 h2 (ex_fld T.c_Bracket T.n_Bracket_inner (ex_var 0)) (ex_var 1)) q)
  · rw [Cn.deep]
    rw [Cn.toks] at hl
    rw [Cn.facts] at hn
    have := ll2 "and" l
    exact holds_joined T (c := .and l) (l := l) (W := "and") rfl (encP_and l) (fun k ms => by rw [Cn.sat, satAll_eq, if_pos rfl]) (by omega) fun p hp => (ih p hp (by have := toksL_mem_len "and" l p hp; omega) (fun a ha => hn a (factsL_mem l p hp a ha))).up (by have := deepL_mem l p hp; omega)
  · rw [Cn.deep]
    rw [Cn.toks] at hl
    rw [Cn.facts] at hn
    have hl0 := ll2 "or" l
    · exact holds_joined T (c := .or l) (l := l) (W := "or") rfl (encP_or l) (fun k ms => by rw [Cn.sat, satAny_eq, if_neg (by decide +kernel)]) (by omega) fun p hp => (ih p hp (by have := toksL_mem_len "or" l p hp; omega) (fun a ha => hn a (factsL_mem l p hp a ha))).up (by have := deepL_mem l p hp; omega)
end
end DL
set_option maxHeartbeats 400000
/-! PF10: the program: letters looked at; what is seen of one -/
namespace DL
open PySem PySem.Spec PyProof.Rows L2
theorem ss_stepE {X : Cx} {E : En} {Γ : List Sl} {N : N4} {st : Stmt} {rest : List Stmt} {σ : L2.St} {G H : Hp} {Dn : Ends} (h : SX X E st N Γ) (v : Env X.K E Γ σ G H) (k : ∀ Γ' σ' G' H', N.nx Γ' → Same G G' → Env X.K E Γ' σ' G' H' → ssW X rest Dn σ' H') (h1 : ∀ d Γ', N.rt d Γ' → False := by exact fun _ _ h => h) (h2 : ∀ Γ', N.bk Γ' → False := by exact fun _ h => h) (h3 : ∀ Γ', N.ct Γ' → False := by exact fun _ h => h) : ssW X (st :: rest) Dn σ H :=
  ssW_of (pss_cons ps_W pss_W) (h.w σ G H _ v ⟨fun Γ' σ' G' H' s v' q => k Γ' σ' G' H' q s v', fun d u Γ' σ' G' H' _ _ _ q => (h1 d Γ' q).elim, fun Γ' σ' G' H' _ _ q => (h2 Γ' q).elim, fun Γ' σ' G' H' _ _ q => (h3 Γ' q).elim⟩)
def lkOf (l : Let) : Lk := ⟨l.from_, l.size, l.words.head?, l.words.getLast?, fun n => decide (n ∈ uniq l.words), fun a b => decide ((a, b) ∈ uniqP (pairsOf l.words))⟩
def soOf (l : Let) : D := .dic ((uniq l.words).map kt)
def paOf (l : Let) : D := .dit ((uniqP (pairsOf l.words)).map pt)
def S_is_letter : Spec := fun ds Φ => ∃ l : Let, ds = [l.enc] ∧ l.Ok ∧ l.words.length ≤ 1000 ∧ Φ (.bl true)
def S_check_letter : Spec := fun ds Φ => ∃ l : Let, ds = [l.enc] ∧ l.Ok ∧ l.words.length ≤ 1000 ∧ Φ .non
def S_Seen : SpecM := fun fs ds Φ => ∃ d1 d2 d3 d4 d5 d6 : D, ds = [d1, d2, d3, d4, d5, d6] ∧ fs = [] ∧ Φ .non [("sender", d1), ("size", d2), ("first", d3), ("last", d4), ("some", d5), ("pairs", d6), ("marks", .dic [])]
def S_seen_of : SpecO := fun ds s => ∃ l : Let, ds = [l.enc] ∧ l.Ok ∧ l.words.length ≤ 1000 ∧ s = .me "Seen" (lkF (lkOf l) (soOf l) (paOf l) [])
theorem zipX_strs (xs ys : List Str) : zipX (xs.map .str) (ys.map .str) = (xs.zip ys).map fun p => .tux [.str p.1, .str p.2] := by
  unfold zipX
  rw [List.zip_map, List.map_map]; rfl
section
variable {P : Program} {w : World} {K : PySem.W.Frag} {mg : Str → Option Value} {base : Heap} (T : Tx K mg)
include T
theorem C_is_letter : Cal P w K mg base "is_letter" 2 ["thing"] S_is_letter := by
  refine cal_mk 1 T.d_is_letter T.g_is_letter sc_is_letter (fun _ _ _ _ _ _ us hl => match us, hl with | [_], _ => rfl) (fun ds Φ h => ?_) (fun cdv A outer s H Ew E ds Φ hr hN h => ?_)
  · obtain ⟨l, rfl, _⟩ := h; rfl
  · obtain ⟨l, rfl, hl, hn, q⟩ := h
    show SXs _ E (_ :: _) _ _
    have hs : ∀ x : Str, NameS x → x.length ≤ sizeLine := fun x hx => by rw [cd_len, sizeLine_eq]; have := hx.2.1; omega
    refine sxs_cons (sx_if (b := false) (ET.to (ew_or (a := false) (et_not' (et_val (ex_isi (T := "tuple") (b := true) T.b_isinstance (ex_var 0) (ex_ty T.b_tuple))) rfl) (fun _ => ew_or (a := false) (ET.to (et_ne (ex_lenT (ex_var 0) T.b_len) ex_int) rfl) (fun _ => ew_or1 (b := false) (et_not' (et_val (ex_cal (C_is_name T) hr (ea_cons (ex_ixT (z := .str l.from_) (ex_var 0) ex_int (atI_nat (j := 0) rfl)) ea_nil) ⟨l.from_, rfl, hs _ hl.f, rfl⟩)) ?_)))).et rfl) (fun h => nomatch h) (fun _ => sxs_nil ?_))
    · rw [(nameB_iff _).mpr hl.f]; rfl
    refine sxs_cons (sx_if (b := false) (ET.to (ew_or (a := false) (et_not' (et_val (ex_isi (T := "list") (b := true) T.b_isinstance (ex_ixT (z := .lst (l.words.map .str)) (ex_var 0) ex_int (atI_nat (j := 1) rfl)) (ex_ty T.b_list))) rfl) (fun _ => ew_or1 (b := false) (et_not' (et_val (ex_all (bs := l.words.map nameB) rfl (EX.to (ex_map 1 (fun d => match d with | .str x => .bl (nameB x) | _ => .bl false) (wk_list (ex_ixT (z := .lst (l.words.map .str)) (ex_var 0) ex_int (atI_nat (j := 1) rfl))) (fun s H C cl fp i d hd => ?_) ?_) ?_) T.b_all)) ?_))).et rfl) (fun h => nomatch h) (fun _ => sxs_nil ?_))
    · rw [List.getElem?_map] at hd
      obtain ⟨x, hx, rfl⟩ := Option.map_eq_some_iff.mp hd
      exact ex_cal (C_is_name T) hr (ea_cons (ex_var 1) ea_nil) ⟨x, rfl, hs _ (hl.w x (List.mem_of_getElem? hx)), rfl⟩
    · rw [List.length_map, sizeLine_eq]; omega
    · rw [List.map_map, List.map_map]; rfl
    · have : (l.words.map nameB).all id = true := by
        rw [List.all_map]
        exact List.all_eq_true.mpr fun x hx => (nameB_iff x).mpr (hl.w x hx)
      rw [this]; rfl
    refine sxs_one (sx_ret (EX.to (ex_and (a := true) (ex_isi (T := "int") (b := true) T.b_isinstance (ex_ixT (z := .int l.size) (ex_var 0) ex_int (atI_nat (j := 2) rfl)) (ex_ty T.b_int)) (fun _ => ex_and (a := true) (EX.to (ex_not (ex_isi (T := "bool") (b := false) T.b_isinstance (ex_ixT (z := .int l.size) (ex_var 0) ex_int (atI_nat (j := 2) rfl)) (ex_ty T.b_bool))) rfl) (fun _ => ex_one (ex_lele ex_int (ex_ixT (z := .int l.size) (ex_var 0) ex_int (atI_nat (j := 2) rfl)) (ex_globI T.i_GREATEST))))) ?_) q)
    have h1 := hl.s
    simp; omega
theorem C_check_letter : Cal P w K mg base "check_letter" 3 ["letter"] S_check_letter := by
  refine cal_mk 2 T.d_check_letter T.g_check_letter sc_check_letter (fun _ _ _ _ _ _ us hl => match us, hl with | [_], _ => rfl) (fun ds Φ h => ?_) (fun cdv A outer s H Ew E ds Φ hr hN h => ?_)
  · obtain ⟨l, rfl, _⟩ := h; rfl
  · obtain ⟨l, rfl, hl, hn, q⟩ := h
    show SXs _ E (_ :: _) _ _
    exact sxs_one (sx_if (b := false) (et_not' (et_val (ex_cal (C_is_letter T) hr (ea_cons (ex_var 0) ea_nil) ⟨l, rfl, hl, hn, rfl⟩)) rfl) (fun h => nomatch h) (fun _ => sxs_nil q))
theorem C_Seen : CalI P w K mg base "Seen" 1 ["self", "sender", "size", "first", "last", "some", "pairs"] S_Seen := by
  refine calI_mk 0 T.d_Seen_init T.k_Seen T.g_Seen sc_Seen_init (fun _ _ _ _ _ _ us hl => match us, hl with | [_, _, _, _, _, _, _], _ => rfl) (fun fs ds Φ h => ?_) (fun cdv A outer s H Ew E fs ds Φ hr hN h => ?_)
  · obtain ⟨d1, d2, d3, d4, d5, d6, rfl, _⟩ := h; rfl
  · obtain ⟨d1, d2, d3, d4, d5, d6, rfl, rfl, q⟩ := h
    show SXs _ E (_ :: _) _ _
    refine sxs_cons (sx_fld 0 T.c_Seen T.n_Seen_sender (ex_var 1) ?_)
    refine sxs_cons (sx_fld 0 T.c_Seen T.n_Seen_size (ex_var 2) ?_)
    refine sxs_cons (sx_fld 0 T.c_Seen T.n_Seen_first (ex_var 3) ?_)
    refine sxs_cons (sx_fld 0 T.c_Seen T.n_Seen_last (ex_var 4) ?_)
    refine sxs_cons (sx_fld 0 T.c_Seen T.n_Seen_some (ex_var 5) ?_)
    refine sxs_cons (sx_fld 0 T.c_Seen T.n_Seen_pairs (ex_var 6) ?_)
    refine sxs_one (sx_fld 0 T.c_Seen T.n_Seen_marks (EO.ex eo_nilD fz_d) ?_)
    exact ⟨_, rfl, q⟩
theorem C_seen_of : CalO P w K mg base "seen_of" 3 ["letter"] S_seen_of := by
  refine calO_mk 2 T.d_seen_of T.g_seen_of sc_seen_of (fun _ _ _ _ _ _ us hl => match us, hl with | [_], _ => rfl) (fun ds s h => ?_) (fun c hc A outer s H Ew E ds sl hr h σ G H1 Dn v k => ?_)
  · obtain ⟨l, rfl, _⟩ := h; rfl
  · obtain ⟨l, rfl, hl, hn, rfl⟩ := h
    have v0 := v.base (noOwns_by rfl)
    have hN : (cxOf CX0 P w K mg base ["letter", "sender", "words", "size", "some", "pairs", "word", "pair"] "seen_of" (defScope s_seen_of) (He.ga K "seen_of") (.ref c) A outer s H Ew).nox.N.Nodup := sc_seen_of.nd
    show ssW _ (_ :: _) Dn σ H1
    refine ss_stepE (N := ⟨fun Γ => Γ = [.im l.enc, .im (.str l.from_), .im (.lst (l.words.map .str)), .im (.int l.size), .un, .un, .un, .un], fun _ _ => False, fun _ => False, fun _ => False⟩) (sx_asg (ex_var 0) (tg_tup (tgs_cons (tg_name 1) (tgs_cons (tg_name 2) (tgs_cons (tg_name 3) tgs_nil))) rfl) rfl) v0 fun Γ1 σ1 G1 H2 q1 s1 v1 => ?_
    subst q1
    refine ss_stepE (N := ⟨fun Γ => Γ = [.im l.enc, .im (.str l.from_), .im (.lst (l.words.map .str)), .im (.int l.size), .od [], .ot [], .un, .un], fun _ _ => False, fun _ => False, fun _ => False⟩) (sx_par2 4 5 (em_own eo_nilD (em_own eo_nilT (em_nil ⟨_, _, rfl, rfl⟩)))) v1 fun Γ1 σ1 G1 H2 q1 s1 v1 => ?_
    subst q1
    refine ss_stepE (N := ⟨fun Γ => ∃ t6, Γ = [.im l.enc, .im (.str l.from_), .im (.lst (l.words.map .str)), .im (.int l.size), .od ((uniq l.words).map kt), .ot [], t6, .un], fun _ _ => False, fun _ => False, fun _ => False⟩) (sx_for (wk_list (ex_var 2)) (fun i Γ => ∃ t6, Γ = [.im l.enc, .im (.str l.from_), .im (.lst (l.words.map .str)), .im (.int l.size), .od ((uniq (l.words.take i)).map kt), .ot [], t6, .un]) ⟨.un, rfl⟩ ?_ ?_ rfl) v1 fun Γ1 σ1 G1 H2 q1 s1 v1 => ?_
    · rintro i d Γ' hd ⟨t6, rfl⟩
      rw [List.getElem?_map] at hd
      obtain ⟨x, hx, rfl⟩ := Option.map_eq_some_iff.mp hd
      have htk : l.words.take (i + 1) = l.words.take i ++ [x] := by rw [List.take_succ, hx]; rfl
      refine ⟨_, tg_name 6, sxs_one (sx_dput (q := .inr x) 4 hr (ex_var 6) ex_bl rfl ?_ ?_)⟩
      · have := uniq_len (l.words.take i)
        rw [List.length_take] at this
        rw [List.length_map, sizeLine_eq]; omega
      · refine ⟨.im (.str x), ?_⟩
        rw [htk, uniq_snoc, ← putKD_kt]; rfl
    · rintro Γ' ⟨t6, rfl⟩
      rw [List.length_map, List.take_length]
      exact ⟨_, rfl⟩
    obtain ⟨t6, rfl⟩ := q1
    refine ss_stepE (N := ⟨fun Γ => ∃ t6 t7, Γ = [.im l.enc, .im (.str l.from_), .im (.lst (l.words.map .str)), .im (.int l.size), .od ((uniq l.words).map kt), .ot ((uniqP (pairsOf l.words)).map pt), t6, t7], fun _ _ => False, fun _ => False, fun _ => False⟩) (sx_for (wk_zipX (ex_var 2) (ex_sliceL (l := some 1) (h := none) (ex_var 2) ex_int trivial) T.b_zip) (fun i Γ => ∃ t6 t7, Γ = [.im l.enc, .im (.str l.from_), .im (.lst (l.words.map .str)), .im (.int l.size), .od ((uniq l.words).map kt), .ot ((uniqP ((pairsOf l.words).take i)).map pt), t6, t7]) ⟨_, _, rfl⟩ ?_ ?_ rfl) v1 fun Γ1 σ1 G1 H2 q1 s1 v1 => ?_
    · rintro i d Γ' hd ⟨t6, t7, rfl⟩
      rw [show ((1 : Int)) = ((1 : Nat) : Int) from rfl, cutD_from, ← List.map_drop, zipX_strs, List.getElem?_map] at hd
      obtain ⟨x, hx, rfl⟩ := Option.map_eq_some_iff.mp hd
      have htk : (pairsOf l.words).take (i + 1) = (pairsOf l.words).take i ++ [x] := by
        have hx' : (pairsOf l.words)[i]? = some x := hx
        rw [List.take_succ, hx']; rfl
      refine ⟨_, tg_name 7, sxs_one (sx_tput (ks := (pt x).1) 5 hr (ex_var 7) ex_bl rfl ?_ ?_)⟩
      · have := uniqP_len ((pairsOf l.words).take i)
        rw [List.length_take] at this
        unfold pairsOf at this
        rw [List.length_zip] at this
        rw [List.length_map, sizeLine_eq]
        unfold pairsOf
        omega
      · refine ⟨t6, .im (.tux [.str x.1, .str x.2]), ?_⟩
        rw [htk, uniqP_snoc, ← putKD_pt]; rfl
    · rintro Γ' ⟨t6, t7, rfl⟩
      rw [show ((1 : Int)) = ((1 : Nat) : Int) from rfl, cutD_from, ← List.map_drop, zipX_strs, List.length_map]
      refine ⟨t6, t7, ?_⟩
      rw [show (pairsOf l.words).take (l.words.zip (l.words.drop 1)).length = pairsOf l.words from List.take_length]
    obtain ⟨t6, t7, rfl⟩ := q1
    obtain ⟨G3, s3, v3⟩ := v1.freeze (i := 4) rfl rfl rfl fz_d
    obtain ⟨G4, s4, v4⟩ := v3.freeze (i := 5) rfl rfl rfl fz_t
    have wtok : ∀ x ∈ l.words, TokS x := fun x hx => (hl.w x hx).tok
    have fin : ∀ (G5 H5 : Hp), Env K ⟨G, H1, none⟩ [.im l.enc, .im (.str l.from_), .im (.lst (l.words.map .str)), .im (.int l.size), .im (soOf l), .im (paOf l), t6, t7] σ1 G5 H5 → ∀ p o G' H', Ext K G5 H5 G' H' → H5 p = none → H' p = some o → G' p = none → OwnOk K G' (.me "Seen" (lkF (lkOf l) (soOf l) (paOf l) [])) o → Dn.rt (.ref p) H' := fun G5 H5 v5 p o G' H' x hp hp' hg ok => k p o G' H' ((v5.ext rfl).trans x) ((v5.ext rfl).h.free hp) hp' hg ok
    refine ss_if (ET.to (et_eqD hr (ex_var 2) (ex_lst ea_nil) (pure_strs _) (pure_strs []) (shaped_strs wtok) (shaped_strs (ws := []) fun x hx => by cases hx)) (eqv_lstrs l.words [])) v4 (fun hb G5 H5 v5 x5 => ?_) (fun hb G5 H5 v5 x5 => ss_nil ?_)
    · have hnil : l.words = [] := of_decide_eq_true hb
      refine ss_retO (sl := .me "Seen" (lkF (lkOf l) (soOf l) (paOf l) [])) (eo_mk (C_Seen T) (hr.mono (by decide)) (EA.R (ea_cons (ex_var 1) (ea_cons (ex_var 3) (ea_cons ex_non (ea_cons ex_non (ea_cons (ex_var 4) (ea_cons (ex_var 5) ea_nil)))))) ⟨_, _, _, _, _, _, rfl, rfl, rfl, ?_⟩)) v5 (fin G5 H5 v5)
      unfold lkF lkOf soOf paOf
      rw [hnil]; rfl
    · have hne : l.words ≠ [] := of_decide_eq_false hb
      obtain ⟨z, hz1, hz2⟩ := last_at hne
      obtain ⟨y, hy⟩ : ∃ y, l.words.head? = some y := by
        cases h0 : l.words with
        | nil => exact absurd h0 hne
        | cons a r => exact ⟨a, rfl⟩
      refine ss_retO (sl := .me "Seen" (lkF (lkOf l) (soOf l) (paOf l) [])) (eo_mk (C_Seen T) (hr.mono (by decide)) (EA.R (ea_cons (ex_var 1) (ea_cons (ex_var 3) (ea_cons (ex_ixL (z := .str y) (ex_var 2) ex_int (atI_nat (j := 0) ?_)) (ea_cons (ex_ixL (ex_var 2) (ex_neg ex_int) hz2) (ea_cons (ex_var 4) (ea_cons (ex_var 5) ea_nil)))))) ⟨_, _, _, _, _, _, rfl, rfl, rfl, ?_⟩)) v5 (fin G5 H5 v5)
      · rw [List.getElem?_map, ← List.head?_eq_getElem?, hy]; rfl
      · unfold lkF lkOf
        rw [hz1, hy]; rfl
end
end DL
set_option maxHeartbeats 400000
/-! PF11: the program: what becomes of a letter -/
namespace DL
open PySem PySem.Spec PyProof.Rows L2
/-- what becomes of a letter, as the program keeps it -/
structure Fs where
  files : List Str
  marks : List Str
  passes : List Str
  ended : Bool
def Fs.deed (f : Fs) : Dd → Fs
  | .mark n => { f with marks := addTo f.marks n }
  | .unmark n => { f with marks := f.marks.filter (fun m => decide (m ≠ n)) }
  | .file n => { f with files := addTo f.files n }
  | .pass n => { f with passes := addTo f.passes n }
  | .stop => { f with ended := true }
structure FtA where
  F : Addr
  S : Addr
  A : Addr
  B : Addr
  M : Addr
def lk6 (k : Lk) (so pa : D) : List (Str × D) := [("sender", .str k.sender), ("size", .int k.size), ("first", optD k.first), ("last", optD k.last), ("some", so), ("pairs", pa)]
def ktV (x : Str) : Key × V := (.inr x, .bl true)
/-- the fate's object, the seen one's, the two lists, the dict of marks -/
structure FateH (K : PySem.W.Frag) (a : FtA) (k : Lk) (so pa : D) (f : Fs) (G H : Hp) : Prop where
  hF : ∃ dF, H a.F = some (.ins (He.ga K "Fate") dF [("seen", .ref a.S), ("files", .ref a.A), ("passes", .ref a.B), ("ended", .bl f.ended)])
  hS : ∃ dS vs, H a.S = some (.ins (He.ga K "Seen") dS (vs ++ [(("marks" : Str), V.ref a.M)])) ∧ Repf K G (lk6 k so pa) vs
  hA : H a.A = some (.lst (f.files.map .str))
  hB : H a.B = some (.lst (f.passes.map .str))
  hM : H a.M = some (.dK (f.marks.map ktV))
  g : G a.F = none ∧ G a.S = none ∧ G a.A = none ∧ G a.B = none ∧ G a.M = none
  nFS : a.F ≠ a.S
  nAB : a.A ≠ a.B
section
variable {K : PySem.W.Frag} {a : FtA} {k : Lk} {so pa : D} {f : Fs} {G H G' H' : Hp}
theorem FateH.mono (h : FateH K a k so pa f G H) (x : Ext K G H G' H') : FateH K a k so pa f G' H' := by
  obtain ⟨dF, hF⟩ := h.hF
  obtain ⟨dS, vs, hS, hr⟩ := h.hS
  obtain ⟨g1, g2, g3, g4, g5⟩ := h.g
  exact ⟨⟨dF, x.h.at hF⟩, ⟨dS, vs, x.h.at hS, hr.mono x.g⟩, x.h.at h.hA, x.h.at h.hB, x.h.at h.hM, ⟨x.fr _ _ hF g1, x.fr _ _ hS g2, x.fr _ _ h.hA g3, x.fr _ _ h.hB g4, x.fr _ _ h.hM g5⟩, h.nFS, h.nAB⟩
theorem FateH.ne (h : FateH K a k so pa f G H) : (a.F ≠ a.A ∧ a.F ≠ a.B ∧ a.F ≠ a.M) ∧ (a.S ≠ a.A ∧ a.S ≠ a.B ∧ a.S ≠ a.M) ∧ a.A ≠ a.M ∧ a.B ≠ a.M := by
  obtain ⟨dF, hF⟩ := h.hF
  obtain ⟨dS, vs, hS, hr⟩ := h.hS
  have hA := h.hA
  have hB := h.hB
  have hM := h.hM
  refine ⟨⟨fun z => ?_, fun z => ?_, fun z => ?_⟩, ⟨fun z => ?_, fun z => ?_, fun z => ?_⟩, fun z => ?_, fun z => ?_⟩
  · rw [z, hA] at hF; cases hF
  · rw [z, hB] at hF; cases hF
  · rw [z, hM] at hF; cases hF
  · rw [z, hA] at hS; cases hS
  · rw [z, hB] at hS; cases hS
  · rw [z, hM] at hS; cases hS
  · rw [z, hM] at hA; cases hA
  · rw [z, hM] at hB; cases hB
theorem FateH.setE (h : FateH K a k so pa f G H) {dF : Addr} : FateH K a k so pa { f with ended := true } G (upd H a.F (.ins (He.ga K "Fate") dF [("seen", .ref a.S), ("files", .ref a.A), ("passes", .ref a.B), ("ended", .bl true)])) := by
  obtain ⟨⟨n1, n2, n3⟩, _, _, _⟩ := h.ne
  obtain ⟨dS, vs, hS, hr⟩ := h.hS
  exact ⟨⟨dF, upd_same⟩, ⟨dS, vs, by rw [upd_ne (fun z => h.nFS z.symm)]; exact hS, hr⟩, by rw [upd_ne (fun z => n1 z.symm)]; exact h.hA, by rw [upd_ne (fun z => n2 z.symm)]; exact h.hB, by rw [upd_ne (fun z => n3 z.symm)]; exact h.hM, h.g, h.nFS, h.nAB⟩
theorem FateH.setM (h : FateH K a k so pa f G H) (ms : List Str) : FateH K a k so pa { f with marks := ms } G (upd H a.M (.dK (ms.map ktV))) := by
  obtain ⟨⟨n1, n2, n3⟩, ⟨n4, n5, n6⟩, n7, n8⟩ := h.ne
  obtain ⟨dF, hF⟩ := h.hF
  obtain ⟨dS, vs, hS, hr⟩ := h.hS
  exact ⟨⟨dF, by rw [upd_ne n3]; exact hF⟩, ⟨dS, vs, by rw [upd_ne n6]; exact hS, hr⟩, by rw [upd_ne n7]; exact h.hA, by rw [upd_ne n8]; exact h.hB, upd_same, h.g, h.nFS, h.nAB⟩
theorem FateH.setA (h : FateH K a k so pa f G H) (xs : List Str) : FateH K a k so pa { f with files := xs } G (upd H a.A (.lst (xs.map .str))) := by
  obtain ⟨⟨n1, n2, n3⟩, ⟨n4, n5, n6⟩, n7, n8⟩ := h.ne
  obtain ⟨dF, hF⟩ := h.hF
  obtain ⟨dS, vs, hS, hr⟩ := h.hS
  exact ⟨⟨dF, by rw [upd_ne n1]; exact hF⟩, ⟨dS, vs, by rw [upd_ne n4]; exact hS, hr⟩, upd_same, by rw [upd_ne (fun z => h.nAB z.symm)]; exact h.hB, by rw [upd_ne (fun z => n7 z.symm)]; exact h.hM, h.g, h.nFS, h.nAB⟩
theorem FateH.setB (h : FateH K a k so pa f G H) (xs : List Str) : FateH K a k so pa { f with passes := xs } G (upd H a.B (.lst (xs.map .str))) := by
  obtain ⟨⟨n1, n2, n3⟩, ⟨n4, n5, n6⟩, n7, n8⟩ := h.ne
  obtain ⟨dF, hF⟩ := h.hF
  obtain ⟨dS, vs, hS, hr⟩ := h.hS
  exact ⟨⟨dF, by rw [upd_ne n2]; exact hF⟩, ⟨dS, vs, by rw [upd_ne n5]; exact hS, hr⟩, by rw [upd_ne h.nAB]; exact h.hA, upd_same, by rw [upd_ne (fun z => n8 z.symm)]; exact h.hM, h.g, h.nFS, h.nAB⟩
theorem lookup_app {α : Type} (x : Str) : ∀ {vs : List (Str × α)} {n : Str} {u : α}, vs.lookup x = none → (vs ++ [(n, u)]).lookup x = if x == n then some u else none
  | [], n, u, _ => by rw [List.nil_append, List.lookup_cons]; cases (x == n) <;> rfl
  | (m, w) :: r, n, u, h => by
    rw [List.lookup_cons] at h
    rw [List.cons_append, List.lookup_cons]
    cases q : (x == m) with
    | true => rw [q] at h; cases h
    | false => rw [q] at h; exact lookup_app x h
theorem FateH.marks (h : FateH K a k so pa f G H) : ∃ dS vs, H a.S = some (.ins (He.ga K "Seen") dS vs) ∧ vs.lookup ("marks" : Str) = some (.ref a.M) := by
  obtain ⟨dS, vs, hS, hr⟩ := h.hS
  refine ⟨dS, _, hS, ?_⟩
  rw [lookup_app _ (hr.none_of (by rfl))]
  rw [if_pos (by decide +kernel)]
end
theorem putK_ktV (ks : List Str) (n : Str) : putK (ks.map ktV) (.inr n) (.bl true) = (addTo ks n).map ktV := by
  unfold putK addTo
  have e : ((ks.map ktV).any fun kv => decide (kv.1 = Sum.inr n)) = decide (n ∈ ks) := by
    rw [List.any_map]
    induction ks with
    | nil => rfl
    | cons a r ih =>
      rw [List.any_cons, ih]
      by_cases h : a = n
      · subst h; simp [ktV]
      · simp [ktV, h]; exact fun z => absurd z.symm h
  rw [e]
  by_cases h : n ∈ ks
  · rw [if_pos h, if_pos (by simpa using h), List.map_map]
    refine List.map_congr_left fun a _ => ?_
    show (if (Sum.inr a : Key) = Sum.inr n then ((Sum.inr a : Key), V.bl true) else ktV a) = ktV a
    split <;> rfl
  · rw [if_neg h, if_neg (by simpa using h), List.map_append]; rfl
theorem dropK_ktV (ks : List Str) (n : Str) : dropK (ks.map ktV) (.inr n) = (ks.filter fun m => decide (m ≠ n)).map ktV := by
  unfold dropK
  rw [List.filter_map]
  congr 1
  refine List.filter_congr fun m _ => ?_
  show decide ((Sum.inr m : Key) ≠ Sum.inr n) = decide (m ≠ n)
  by_cases h : m = n
  · subst h; simp
  · have : ¬ (Sum.inr m : Key) = Sum.inr n := fun z => h (Sum.inr.inj z)
    simp [h, this]
theorem valV_ktV (ks : List Str) (n : Str) : (valV (ks.map ktV) (.inr n)).isSome = decide (n ∈ ks) := by
  unfold valV
  rw [Option.isSome_map]
  induction ks with
  | nil => rfl
  | cons a r ih =>
    rw [List.map_cons, List.find?_cons]
    by_cases h : a = n
    · subst h; simp [ktV]
    · have : decide ((ktV a).1 = Sum.inr n) = false := decide_eq_false fun z => h (Sum.inr.inj z)
      rw [this]
      simp only [ih, List.mem_cons]
      have : ¬ n = a := fun z => h z.symm
      simp [this]
/-- what Fate(seen) lays -/
def spFI (K : PySem.W.Frag) : Sp := fun vs H Q _ => ∃ (r dx : Addr) (u : V), vs = [.ref r, u] ∧ H r = some (.ins (He.ga K "Fate") dx []) ∧
  ∀ (A B : Addr) (H' : Hp), A ≠ B → H A = none → H B = none → H' r = some (.ins (He.ga K "Fate") dx [("seen", u), ("files", .ref A), ("passes", .ref B), ("ended", .bl false)]) → H' A = some (.lst []) → H' B = some (.lst []) → (∀ b, b ≠ r → b ≠ A → b ≠ B → H' b = H b) → Q .non H'
def spDo (K : PySem.W.Frag) : Sp := fun vs H Q _ => ∃ (a : FtA) (G : Hp) (k : Lk) (so pa : D) (f : Fs) (d : Dd) (dv : V), vs = [.ref a.F, dv] ∧ Rep K G d.encP dv ∧ Same G H ∧ TabsG K G H ∧ FateH K a k so pa f G H ∧ f.marks.length < 100000 ∧ f.files.length < 100000 ∧ f.passes.length < 100000 ∧
  ∀ G' H', FateH K a k so pa (f.deed d) G' H' → ExtL K [a.F, a.A, a.B, a.M] G H G' H' → Q .non H'
/-- a tuple of three new lists -/
structure Res3 (K : PySem.W.Frag) (H0 : Hp) (T L1 L2 L3 : Addr) (xs ys zs : List Str) (G H : Hp) : Prop where
  n : H0 T = none ∧ H0 L1 = none ∧ H0 L2 = none ∧ H0 L3 = none
  t : H T = some (.tup [.ref L1, .ref L2, .ref L3])
  l : H L1 = some (.lst (xs.map .str)) ∧ H L2 = some (.lst (ys.map .str)) ∧ H L3 = some (.lst (zs.map .str))
  g : G T = none ∧ G L1 = none ∧ G L2 = none ∧ G L3 = none
  d : L1 ≠ L2 ∧ L1 ≠ L3 ∧ L2 ≠ L3
def spTold (K : PySem.W.Frag) : Sp := fun vs H Q _ => ∃ (a : FtA) (G : Hp) (k : Lk) (so pa : D) (f : Fs), vs = [.ref a.F] ∧ Same G H ∧ TabsG K G H ∧ FateH K a k so pa f G H ∧ (∀ x ∈ f.marks, x.length ≤ sizeLine) ∧
  ∀ T L1 L2 L3 G' H', Ext K G H G' H' → Res3 K H T L1 L2 L3 f.files (rankSort f.marks) f.passes G' H' → Q (.ref T) H'
section
variable {P : Program} {w : World} {K : PySem.W.Frag} {mg : Str → Option Value} {base : Heap} (T : Tx K mg)
include T
theorem fate_init : ∃ fd, FnOk P w K mg base CX0 1 (He.ma K (He.ga K "Fate") "__init__") fd ["self", "seen"] (spFI K) ∧ Binds K fd ["self", "seen"] [] := by
  obtain ⟨fd, F⟩ := T.d_Fate_init
  refine ⟨fd, F.ok sc_Fate_init (fun vs H Q Ew h => ?_) (fun cdv A outer s H vs Q Ew hr h => ?_), F.bindsN (fun _ _ _ _ _ _ us hl => match us, hl with | [_, _], _ => rfl)⟩
  · obtain ⟨r, dx, u, rfl, _⟩ := h; rfl
  · obtain ⟨r, dx, u, rfl, h1, q⟩ := h
    refine ⟨_, PSs.nox (pss_cons (ps_fld (pe_var (i := 0) rfl (.inl (by kernel_rfl)) (by decide +kernel) (by decide +kernel)) (pe_var (i := 1) rfl (.inl (by kernel_rfl)) (by decide +kernel) (by decide +kernel)) (swapsNo rfl)) (pss_cons (ps_fld (pe_var (i := 0) rfl (.inl (by kernel_rfl)) (by decide +kernel) (by decide +kernel)) (pe_lst pa_nil) (swapsNo rfl)) (pss_cons (ps_fld (pe_var (i := 0) rfl (.inl (by kernel_rfl)) (by decide +kernel) (by decide +kernel)) (pe_lst pa_nil) (swapsNo rfl)) (pss_one (ps_fld (pe_var (i := 0) rfl (.inl (by kernel_rfl)) (by decide +kernel) (by decide +kernel)) pe_bl (swapsNo rfl)))))), ?_⟩
    refine ⟨u, rfl, .ref r, rfl, r, _, dx, [], rfl, h1, T.c_Fate, T.n_Fate_seen, by decide, ?_⟩
    refine ⟨Nat.zero_le _, fun p hp => ?_⟩
    have hpr : p ≠ r := fun z => by rw [z, upd_same] at hp; cases hp
    have hp0 : H p = none := by rwa [upd_ne hpr] at hp
    refine ⟨.ref r, rfl, r, _, dx, _, rfl, by rw [upd_ne hpr.symm, upd_same], T.c_Fate, T.n_Fate_files, Nat.le_of_ble_eq_true (by kernel_rfl), ?_⟩
    refine ⟨Nat.zero_le _, fun p2 hp2 => ?_⟩
    have hpr2 : p2 ≠ r := fun z => by rw [z, upd_same] at hp2; cases hp2
    have hpp : p2 ≠ p := fun z => by rw [z, upd_ne hpr, upd_same] at hp2; cases hp2
    have hp20 : H p2 = none := by rwa [upd_ne hpr2, upd_ne hpp, upd_ne hpr2] at hp2
    refine ⟨.ref r, rfl, r, _, dx, _, rfl, by rw [upd_ne hpr2.symm, upd_same], T.c_Fate, T.n_Fate_passes, Nat.le_of_ble_eq_true (by kernel_rfl), ?_⟩
    refine ⟨.ref r, rfl, r, _, dx, _, rfl, by rw [upd_same], T.c_Fate, T.n_Fate_ended, Nat.le_of_ble_eq_true (by kernel_rfl), ?_⟩
    refine q p p2 _ hpp.symm hp0 hp20 (by rw [upd_same]; rfl) ?_ ?_ fun b b1 b2 b3 => ?_
    · rw [upd_ne hpr, upd_ne hpr, upd_ne hpp.symm, upd_ne hpr, upd_same]
    · rw [upd_ne hpr2, upd_ne hpr2, upd_same]
    · rw [upd_ne b1, upd_ne b1, upd_ne b3, upd_ne b1, upd_ne b2, upd_ne b1]
end
end DL
set_option maxHeartbeats 400000
/-! PF12: the program: deeds done, what becomes told -/
namespace DL
open PySem PySem.Spec PyProof.Rows L2
theorem fewArgs2 {pos : Pos} {env : PySem.Env} {e f : Expr} (h : noStar e = true) (h2 : noStar f = true) : ((backTo pos (starEach [e, f] env)).all (fun x => !x.1) && (backToKw pos (keywordEach [] env)).all (fun x => x.1.isSome) && decide (([e, f] : List Expr).length + ([] : List Keyword).length + (if ([] : List Keyword).isEmpty then 0 else 1) < 30)) = true := by
  rw [starEach_all (by simp [h, h2])]
  rfl
section
variable {P : Program} {w : World} {K : PySem.W.Frag} {mg : Str → Option Value} {base : Heap} (T : Tx K mg)
include T
theorem fate_do : ∃ fd, FnOk P w K mg base CX0 2 (He.ma K (He.ga K "Fate") "do") fd ["self", "deed"] (spDo K) ∧ Binds K fd ["self", "deed"] [] := by
  obtain ⟨fd, F⟩ := T.d_Fate_do
  refine ⟨fd, F.ok sc_Fate_do (fun vs H Q Ew h => ?_) (fun cdv A outer s H vs Q Ew hr h => ?_), F.bindsN (fun _ _ _ _ _ _ us hl => match us, hl with | [_, _], _ => rfl)⟩
  · obtain ⟨a, G, k, so, pa, f, d, dv, rfl, _⟩ := h; rfl
  · obtain ⟨a, G, k, so, pa, f, d, dv, rfl, rd, sg, tb, hf, lm, lf, lp, q⟩ := h
    refine ⟨_, PSs.nox pss_W, ?_⟩
    have hN : (cxOf CX0 P w K mg base ["self", "deed", "some"] "Fate.do" (defScope s_Fate_do) (He.ma K (He.ga K "Fate") "do") cdv A outer s H Ew).nox.N.Nodup := sc_Fate_do.nd
    have v0 := env_start (X := (cxOf CX0 P w K mg base ["self", "deed", "some"] "Fate.do" (defScope s_Fate_do) (He.ma K (He.ga K "Fate") "do") cdv A outer s H Ew).nox) (N := ["self", "deed", "some"]) (ds := [.raw (.ref a.F), d.encP]) sg tb (.cons (.raw _) (.cons rd .nil)) (by show 2 ≤ 3; decide)
    obtain ⟨σ, hσ⟩ : ∃ σ, L2.start ["self", "deed", "some"] [V.ref a.F, dv] = σ := ⟨_, rfl⟩
    rw [hσ] at v0 ⊢
    obtain ⟨W, r, hW, h8⟩ := Dd.head d
    have wd : ∀ {E : En} {Γ : List Sl} {p p2 : Pos} {j jj}, Γ[1]? = some (.im d.encP) → EX (cxOf CX0 P w K mg base ["self", "deed", "some"] "Fate.do" (defScope s_Fate_do) (He.ma K (He.ga K "Fate") "do") cdv A outer s H Ew).nox E (.Subscript (.Name "deed" p) (.Constant (.int 0) j jj) p2) Γ (.str W) := fun {E Γ p p2 j jj} h => by
      have h2 := ex_var (X := (cxOf CX0 P w K mg base ["self", "deed", "some"] "Fate.do" (defScope s_Fate_do) (He.ma K (He.ga K "Fate") "do") cdv A outer s H Ew).nox) (E := E) (pos := p) 1 h
      unfold Dd.encP at h2
      rw [hW] at h2
      exact ex_ixL h2 ex_int (atI_nat (j := 0) rfl)
    show ssW _ [_] _ _ _
    by_cases hs : W = "stop"
    · subst hs
      have hd : d = .stop := by
        cases d <;> simp only [Dd.toks] at hW
        case stop => rfl
        all_goals (injection hW with h1 _; exact absurd h1 (by decide +kernel))
      subst hd
      refine ss_if (b := true) (ET.to (et_eq (wd rfl) ex_str) (by rw [eqS_str]; rfl)) v0 (fun _ G1 H1 v1 x1 => ?_) (fun h => nomatch h)
      have hf1 := hf.mono x1
      obtain ⟨dF, hF⟩ := hf1.hF
      refine ssW_of (pss_one (ps_fld (pe_var (i := 0) rfl (.inl (by kernel_rfl)) (by decide +kernel) (by decide +kernel)) pe_bl (swapsNo rfl))) ?_
      refine ⟨.ref a.F, v1.rawAt rfl, a.F, _, dF, _, rfl, hF, T.c_Fate, T.n_Fate_ended, (by show 4 < 1000; decide), ss_nil (q G1 _ (hf1.setE (dF := dF)) (x1.L.trans (ExtL.upd x1.sub (by simp) hF hf1.g.1)))⟩
    · obtain ⟨n, hr1, hdt⟩ : ∃ n, r = [n] ∧ d.toks = [W, n] := by
        cases d <;> simp only [Dd.toks] at hW
        case stop => injection hW with h1 _; exact absurd h1.symm hs
        all_goals (injection hW with h1 h2; subst h1; exact ⟨_, h2.symm, rfl⟩)
      subst hr1
      have wn : ∀ {E : En} {Γ : List Sl} {p p2 : Pos} {j jj}, Γ[1]? = some (.im d.encP) → EX (cxOf CX0 P w K mg base ["self", "deed", "some"] "Fate.do" (defScope s_Fate_do) (He.ma K (He.ga K "Fate") "do") cdv A outer s H Ew).nox E (.Subscript (.Name "deed" p) (.Constant (.int 1) j jj) p2) Γ (.str n) := fun {E Γ p p2 j jj} h => by
        have h2 := ex_var (X := (cxOf CX0 P w K mg base ["self", "deed", "some"] "Fate.do" (defScope s_Fate_do) (He.ma K (He.ga K "Fate") "do") cdv A outer s H Ew).nox) (E := E) (pos := p) 1 h
        unfold Dd.encP at h2
        rw [hdt] at h2
        exact ex_ixL h2 ex_int (atI_nat (j := 1) rfl)
      refine ss_if (b := false) (ET.to (et_eq (wd rfl) ex_str) (by rw [eqS_str]; exact decide_eq_false hs)) v0 (fun h => nomatch h) (fun _ G1 H1 v1 x1 => ?_)
      by_cases hm : W = "mark"
      · subst hm
        have hd : d = .mark n := by
          cases d <;> simp only [Dd.toks] at hdt
          case mark m => injection hdt with _ h2; injection h2 with h3 _; rw [h3]
          all_goals (injection hdt with h1 _; exact absurd h1 (by decide +kernel))
        refine ss_if (b := true) (ET.to (et_eq (wd rfl) ex_str) (by rw [eqS_str]; rfl)) v1 (fun _ G2 H2 v2 x2 => ?_) (fun h => nomatch h)
        have hf2 := (hf.mono x1).mono x2
        obtain ⟨dF, hF⟩ := hf2.hF
        obtain ⟨dS, us, hS, hl⟩ := hf2.marks
        refine ssW_of (pss_one (ps_dput (hu_of hr) (pe_fld (pe_fld (pe_var (i := 0) rfl (.inl (by kernel_rfl)) (by decide +kernel) (by decide +kernel)) (attrBase rfl)) (attrBase rfl)) pe_W pe_bl (swapsNo rfl))) ?_
        refine ⟨.ref a.F, v2.rawAt rfl, a.F, _, dF, _, _, rfl, hF, T.c_Fate, T.n_Fate_seen, rfl, a.S, _, dS, us, _, rfl, hS, T.c_Seen, T.n_Seen_marks, hl, ?_⟩
        refine (wn rfl).run v2 fun u G3 H3 v3 x3 r3 => ?_
        cases r3
        have hf3 := hf2.mono x3
        refine ⟨a.M, _, rfl, DPut.k (k := .inr n) hf3.hM (by rw [List.length_map, sizeLine_eq]; omega), ss_nil (ss_nil ?_)⟩
        rw [putK_ktV]
        have e := hf3.setM (addTo f.marks n)
        rw [hd] at q
        exact q G3 _ e (((x1.trans x2).trans x3).L.trans (ExtL.upd x3.sub (by simp) hf3.hM hf3.g.2.2.2.2))
      · refine ss_if (b := false) (ET.to (et_eq (wd rfl) ex_str) (by rw [eqS_str]; exact decide_eq_false hm)) v1 (fun h => nomatch h) (fun _ G2 H2 v2 x2 => ?_)
        by_cases hu : W = "unmark"
        · subst hu
          have hd : d = .unmark n := by
            cases d <;> simp only [Dd.toks] at hdt
            case unmark m => injection hdt with _ h2; injection h2 with h3 _; rw [h3]
            all_goals (injection hdt with h1 _; exact absurd h1 (by decide +kernel))
          refine ss_if (b := true) (ET.to (et_eq (wd rfl) ex_str) (by rw [eqS_str]; rfl)) v2 (fun _ G3 H3 v3 x3 => ?_) (fun h => nomatch h)
          have hf3 := ((hf.mono x1).mono x2).mono x3
          obtain ⟨dF, hF⟩ := hf3.hF
          obtain ⟨dS, us, hS, hl⟩ := hf3.marks
          refine ssW_of (pss_one (ps_expr (pe_dpop2 (pe_fld (pe_fld (pe_var (i := 0) rfl (.inl (by kernel_rfl)) (by decide +kernel) (by decide +kernel)) (attrBase rfl)) (attrBase rfl)) pe_W pe_non ⟨attrBase rfl, fewArgs2 rfl rfl, rfl, by rw [starEach_two rfl rfl]; rfl⟩) rfl)) ?_
          refine ⟨.ref a.F, v3.rawAt rfl, a.F, _, dF, _, _, rfl, hF, T.c_Fate, T.n_Fate_seen, rfl, a.S, _, dS, us, _, rfl, hS, T.c_Seen, T.n_Seen_marks, hl, a.M, rfl, .inl ⟨_, .inl hf3.hM⟩, ?_⟩
          refine (wn rfl).run v3 fun u G4 H4 v4 x4 r4 => ?_
          cases r4
          have hf4 := hf3.mono x4
          have xx := ((x1.trans x2).trans x3).trans x4
          rw [hd] at q
          refine ⟨_, .inr n, hf4.hM, rfl, fun v hv => ss_nil (ss_nil (ss_nil ?_)), fun hv => ss_nil (ss_nil (ss_nil ?_))⟩
          · rw [dropK_ktV]
            exact q G4 _ (hf4.setM _) (xx.L.trans (ExtL.upd x4.sub (by simp) hf4.hM hf4.g.2.2.2.2))
          · have hn : n ∉ f.marks := fun z => by
              have := valV_ktV f.marks n
              rw [hv, decide_eq_true z] at this; cases this
            have e : f.deed (.unmark n) = f := by
              show Fs.mk f.files (f.marks.filter _) f.passes f.ended = f
              rw [List.filter_eq_self.mpr fun m hm2 => by simp; intro z; subst z; exact hn hm2]
            rw [e] at q
            exact q G4 _ hf4 xx.L
        · refine ss_if (b := false) (ET.to (et_eq (wd rfl) ex_str) (by rw [eqS_str]; exact decide_eq_false hu)) v2 (fun h => nomatch h) (fun _ G3 H3 v3 x3 => ?_)
          have hf3 := ((hf.mono x1).mono x2).mono x3
          obtain ⟨dF, hF⟩ := hf3.hF
          have xx3 := (x1.trans x2).trans x3
          -- the list meant
          obtain ⟨L, xs, hL, hLg, hLm, hset, hlen⟩ : ∃ (L : Addr) (xs : List Str), (if W = "file" then L = a.A else L = a.B) ∧ True ∧ L ∈ [a.F, a.A, a.B, a.M] ∧ (∀ G' H', FateH K a k so pa f G' H' → H' L = some (.lst (xs.map .str)) ∧ G' L = none ∧ FateH K a k so pa (f.deed d) G' (if n ∈ xs then H' else upd H' L (.lst ((xs ++ [n]).map .str)))) ∧ xs.length < 100000 := by
            by_cases hfile : W = "file"
            · have hd : d = .file n := by
                cases d <;> simp only [Dd.toks] at hdt
                case file m => injection hdt with _ h2; injection h2 with h3 _; rw [h3]
                all_goals (injection hdt with h1 _; rw [hfile] at h1; exact absurd h1 (by decide +kernel))
              refine ⟨a.A, f.files, by rw [if_pos hfile], trivial, by simp, fun G' H' h => ⟨h.hA, h.g.2.2.1, ?_⟩, lf⟩
              rw [hd]
              show FateH K a k so pa (Fs.mk (addTo f.files n) f.marks f.passes f.ended) G' _
              unfold addTo
              by_cases hin : n ∈ f.files
              · rw [if_pos hin, if_pos hin]; exact h
              · rw [if_neg hin, if_neg hin]; exact h.setA _
            · have hd : d = .pass n := by
                cases d <;> simp only [Dd.toks] at hdt
                case pass m => injection hdt with _ h2; injection h2 with h3 _; rw [h3]
                case stop => cases hdt
                case mark m => injection hdt with h1 _; exact absurd h1.symm hm
                case unmark m => injection hdt with h1 _; exact absurd h1.symm hu
                case file m => injection hdt with h1 _; exact absurd h1.symm hfile
              refine ⟨a.B, f.passes, by rw [if_neg hfile], trivial, by simp, fun G' H' h => ⟨h.hB, h.g.2.2.2.1, ?_⟩, lp⟩
              rw [hd]
              show FateH K a k so pa (Fs.mk f.files f.marks (addTo f.passes n) f.ended) G' _
              unfold addTo
              by_cases hin : n ∈ f.passes
              · rw [if_pos hin, if_pos hin]; exact h
              · rw [if_neg hin, if_neg hin]; exact h.setB _
          show ssW _ [_, _] _ _ _
          refine ssW_of (pss_cons (ps_set hN (i := 2) rfl (.inl (by kernel_rfl)) (pe_ifExp pt_W (pe_fld (pe_var (i := 0) rfl (.inl (by kernel_rfl)) (by decide +kernel) (by decide +kernel)) (attrBase rfl)) (pe_fld (pe_var (i := 0) rfl (.inl (by kernel_rfl)) (by decide +kernel) (by decide +kernel)) (attrBase rfl))) (swapsNo rfl) (.inl rfl)) pss_W) ?_
          refine (et_eq (wd rfl) ex_str).run v3 fun G4 H4 v4 x4 => ?_
          have hf4 := hf3.mono x4
          obtain ⟨dF4, hF4⟩ := hf4.hF
          have tail : ∀ {np np2 np3 ap cp ep ip : Pos} {e1 e2 : Expr}, (∀ {E : En} {Γ : List Sl}, Γ[1]? = some (.im d.encP) → EX (cxOf CX0 P w K mg base ["self", "deed", "some"] "Fate.do" (defScope s_Fate_do) (He.ma K (He.ga K "Fate") "do") cdv A outer s H Ew).nox E e1 Γ (.str n)) → (∀ {E : En} {Γ : List Sl}, Γ[1]? = some (.im d.encP) → EX (cxOf CX0 P w K mg base ["self", "deed", "some"] "Fate.do" (defScope s_Fate_do) (He.ma K (He.ga K "Fate") "do") cdv A outer s H Ew).nox E e2 Γ (.str n)) → noStar e2 = true → (ap.endLine == cp.line) = true → ∀ {Dn : Ends}, (∀ σ' H', Q .non H' → Dn.nx σ' H') →
              ssW (cxOf CX0 P w K mg base ["self", "deed", "some"] "Fate.do" (defScope s_Fate_do) (He.ma K (He.ga K "Fate") "do") cdv A outer s H Ew).nox [.If (.Compare e1 [.NotIn] [.Name "some" np] np2) [.Expr (.Call (.Attribute (.Name "some" np3) "append" ap) [e2] [] cp) ep] [] ip] Dn (σ.set 2 (some (.ref L))) H4 := fun {np np2 np3 ap cp ep ip e1 e2} w1 w2 hst hli {Dn} fin => by
            have v5 := (v4.base (noOwns_by rfl)).setRaw 2 (.ref L)
            obtain ⟨hLH, hLG, hdeed⟩ := hset G4 H4 hf4
            refine ss_if (b := !decide (n ∈ xs)) (et_niR 2 rfl hLH (w1 rfl)) v5 (fun hb G5 H5 v6 x6 => ?_) (fun hb G5 H5 v6 x6 => ?_)
            · have hin : n ∉ xs := by simpa using hb
              refine ssW_of (pss_one (ps_expr (pe_bm PySem.F.plainAttrs_list PySem.F.slot_list_append PySem.F.type_list_append mt_append (pe_var (i := 2) rfl (.inl (by kernel_rfl)) (by decide +kernel) (by decide +kernel)) (pa_cons pe_W pa_nil (starEach_cons hst)) (attrBase rfl) (fewArgs hst) hli (starEach_cons hst) rfl) rfl)) ?_
              obtain ⟨hLH5, hLG5, _⟩ := hset G5 H5 (hf4.mono x6)
              refine ⟨.ref L, v6.rawAt rfl, .inl ⟨rfl, _, SqL.of hLH5⟩, ?_⟩
              refine (w2 rfl).run v6 fun u G6 H6 v7 x7 r7 => ?_
              cases r7
              obtain ⟨hLH6, hLG6, hdeed6⟩ := hset G6 H6 ((hf4.mono x6).mono x7)
              rw [if_neg hin] at hdeed6
              refine ⟨L, _, _, rfl, rfl, hLH6, by rw [List.length_map, sizeLine_eq]; omega, ss_nil (fin _ _ ?_)⟩
              have e : xs.map V.str ++ [.str n] = (xs ++ [n]).map V.str := by simp
              rw [e]
              exact q G6 _ hdeed6 (((xx3.trans x4).trans (x6.trans x7)).L.trans (ExtL.upd x7.sub hLm hLH6 hLG6))
            · have hin : n ∈ xs := by simpa using hb
              obtain ⟨hLH5, hLG5, hdeed5⟩ := hset G5 H5 (hf4.mono x6)
              rw [if_pos hin] at hdeed5
              exact ss_nil (ss_nil (fin _ _ (q G5 _ hdeed5 ((xx3.trans x4).trans x6).L)))
          by_cases hfile : W = "file"
          · rw [if_pos hfile] at hL
            subst hL
            have hb : eqS (.str W) (.str "file") = true := by rw [eqS_str]; exact decide_eq_true hfile
            rw [hb]
            refine iteT ⟨.ref a.F, v4.rawAt rfl, a.F, _, dF4, _, _, rfl, hF4, T.c_Fate, T.n_Fate_files, rfl, tail (fun h => wn h) (fun h => wn h) rfl rfl fun _ _ h => ss_nil (ss_nil (ss_nil h))⟩
          · rw [if_neg hfile] at hL
            subst hL
            have hb : eqS (.str W) (.str "file") = false := by rw [eqS_str]; exact decide_eq_false hfile
            rw [hb]
            refine iteF ⟨.ref a.F, v4.rawAt rfl, a.F, _, dF4, _, _, rfl, hF4, T.c_Fate, T.n_Fate_passes, rfl, tail (fun h => wn h) (fun h => wn h) rfl rfl fun _ _ h => ss_nil (ss_nil (ss_nil h))⟩
end
end DL
set_option maxHeartbeats 400000
/-! PF13: the program: what becomes told; the fate by rules -/
namespace DL
open PySem PySem.Spec PyProof.Rows L2
def Fs.deeds (f : Fs) (ds : List Dd) : Fs := ds.foldl (fun f d => if f.ended = true then f else f.deed d) f
theorem Fs.deeds_cons (f : Fs) (d : Dd) (r : List Dd) : f.deeds (d :: r) = (if f.ended = true then f else f.deed d).deeds r := rfl
def fsRules (k : Lk) : Nat → Fs × List Nat → List Ru → Fs × List Nat
  | _, p, [] => p
  | i, p, r :: rs => fsRules k (i + 1) (if (!p.1.ended && r.1.sat k p.1.marks) = true then (p.1.deeds r.2, p.2 ++ [i]) else p) rs
def fs0 : Fs := ⟨[], [], [], false⟩
structure FsB (f : Fs) (n : Nat) : Prop where
  a : f.files.length ≤ n
  b : f.marks.length ≤ n
  c : f.passes.length ≤ n
  e : ∀ x ∈ f.marks, NameS x
theorem FsB.up {f : Fs} {m n : Nat} (h : FsB f m) (le : m ≤ n) : FsB f n := ⟨by have := h.a; omega, by have := h.b; omega, by have := h.c; omega, h.e⟩
theorem FsB.deed {f : Fs} {n : Nat} (h : FsB f n) {d : Dd} (hd : d.fine) : FsB (f.deed d) (n + 1) := by
  obtain ⟨h1, h2, h3, h4⟩ := h
  cases d with
  | mark m =>
    have := addTo_len f.marks m
    exact ⟨Nat.le_succ_of_le h1, by show (addTo f.marks m).length ≤ _; omega, Nat.le_succ_of_le h3, fun x hx => by rcases mem_addTo.mp hx with q | q; exact h4 x q; rw [q]; exact hd⟩
  | unmark m =>
    have := List.length_filter_le (fun y => decide (y ≠ m)) f.marks
    exact ⟨Nat.le_succ_of_le h1, by show (f.marks.filter _).length ≤ _; omega, Nat.le_succ_of_le h3, fun x hx => h4 x (List.mem_filter.mp hx).1⟩
  | file m =>
    have := addTo_len f.files m
    exact ⟨by show (addTo f.files m).length ≤ _; omega, Nat.le_succ_of_le h2, Nat.le_succ_of_le h3, h4⟩
  | pass m =>
    have := addTo_len f.passes m
    exact ⟨Nat.le_succ_of_le h1, Nat.le_succ_of_le h2, by show (addTo f.passes m).length ≤ _; omega, h4⟩
  | stop => exact ⟨Nat.le_succ_of_le h1, Nat.le_succ_of_le h2, Nat.le_succ_of_le h3, h4⟩
theorem mix_ol {K : PySem.W.Frag} {H0 G H : Hp} {xs : List D} {ss : List Sl} {vs : List V} {ps : List Addr} (h : MixOk K H0 G H (.ol xs :: ss) vs ps) : ∃ p vs' ps' ws, vs = .ref p :: vs' ∧ ps = p :: ps' ∧ H0 p = none ∧ H p = some (.lst ws) ∧ Reps K G xs ws ∧ G p = none ∧ p ∉ ps' ∧ MixOk K H0 G H ss vs' ps' := by
  cases vs with
  | nil => cases ps <;> exact h.elim
  | cons v vs =>
    cases ps with
    | nil => exact h.elim
    | cons p ps =>
      obtain ⟨_, rfl, n, ⟨o, ho, ws, rfl, r⟩, g, d, m⟩ := h
      exact ⟨p, vs, ps, ws, rfl, rfl, n, ho, r, g, d, m⟩
theorem mix_nil {K : PySem.W.Frag} {H0 G H : Hp} {vs : List V} {ps : List Addr} (h : MixOk K H0 G H [] vs ps) : vs = [] ∧ ps = [] := by
  cases vs with
  | nil =>
    cases ps with
    | nil => exact ⟨rfl, rfl⟩
    | cons _ _ => exact h.elim
  | cons _ _ => exact h.elim
theorem ktV_keys (ks : List Str) : (ks.map ktV).map (·.1) = ks.map Sum.inr := by rw [List.map_map]; rfl
section
variable {P : Program} {w : World} {K : PySem.W.Frag} {mg : Str → Option Value} {base : Heap} (T : Tx K mg) (TB : ∀ p ∈ sites, LamX.TabB base mg (He.cT K p.1).1 (He.cT K p.1).2)
include T TB
theorem fate_told : ∃ fd, FnOk P w K mg base CX0 3 (He.ma K (He.ga K "Fate") "told") fd ["self"] (spTold K) ∧ Binds K fd ["self"] [] := by
  obtain ⟨fd, F⟩ := T.d_Fate_told
  refine ⟨fd, F.ok sc_Fate_told (fun vs H Q Ew h => ?_) (fun cdv A outer s H vs Q Ew hr h => ?_), F.bindsN (fun _ _ _ _ _ _ us hl => match us, hl with | [_], _ => rfl)⟩
  · obtain ⟨a, G, k, so, pa, f, rfl, _⟩ := h; rfl
  · obtain ⟨a, G, k, so, pa, f, rfl, sg, tb, hf, hm, q⟩ := h
    refine ⟨_, PSs.nox pss_W, ?_⟩
    have v0 := env_start (X := (cxOf CX0 P w K mg base ["self"] "Fate.told" (defScope s_Fate_told) (He.ma K (He.ga K "Fate") "told") cdv A outer s H Ew).nox) (N := ["self"]) (ds := [.raw (.ref a.F)]) sg tb (.cons (.raw _) .nil) (by show 1 ≤ 1; decide)
    obtain ⟨σ, hσ⟩ : ∃ σ, L2.start ["self"] [V.ref a.F] = σ := ⟨_, rfl⟩
    rw [hσ] at v0 ⊢
    obtain ⟨dF, hF⟩ := hf.hF
    obtain ⟨dS, us, hS, hl⟩ := hf.marks
    show ssW _ [_] _ _ _
    refine ssW_of (pss_one (ps_ret (pe_tup pa_W))) ?_
    refine EM.w (E := ⟨G, H, none⟩) (Ψ := fun ss => ss = [.ol (f.files.map .str), .ol ((rankSort f.marks).map .str), .ol (f.passes.map .str)]) (em_own (eo_listR rfl hf.hA (fun _ => .strs) (ex_fldR (d := .raw (.ref a.A)) rfl hF T.c_Fate T.n_Fate_files (ex_var 0) rfl (fun _ => .raw _)) T.b_list) (em_own (eo_cal (C_in_order T TB) (hr.mono (by decide)) (ea_cons ((eo_keysR rfl rfl hf.hM (ktV_keys _) (ex_fldR (d := .raw (.ref a.M)) rfl hS T.c_Seen T.n_Seen_marks (ex_fldR (d := .raw (.ref a.S)) rfl hF T.c_Fate T.n_Fate_seen (ex_var 0) rfl (fun _ => .raw _)) hl (fun _ => .raw _)) T.b_list).ex fz_l) ea_nil) ⟨f.marks, rfl, hm, rfl⟩) (em_own (eo_listR rfl hf.hB (fun _ => .strs) (ex_fldR (d := .raw (.ref a.B)) rfl hF T.c_Fate T.n_Fate_passes (ex_var 0) rfl (fun _ => .raw _)) T.b_list) (em_nil rfl)))) σ G H _ v0 fun ss vs ps G1 H1 hss x1 mx => ?_
    subst hss
    obtain ⟨p1, vs, ps, ws1, rfl, rfl, n1, ho1, r1, g1, d1, mx⟩ := mix_ol mx
    obtain ⟨p2, vs, ps, ws2, rfl, rfl, n2, ho2, r2, g2, d2, mx⟩ := mix_ol mx
    obtain ⟨p3, vs, ps, ws3, rfl, rfl, n3, ho3, r3, g3, d3, mx⟩ := mix_ol mx
    obtain ⟨rfl, rfl⟩ := mix_nil mx
    have e1 := r1.of_strs
    have e2 := r2.of_strs
    have e3 := r3.of_strs
    subst e1 e2 e3
    refine ⟨by show 3 ≤ _; rw [sizeLine_eq]; decide, fun t ht => ?_⟩
    have x2 : Ext K G1 H1 G1 (upd H1 t (.tup [.ref p1, .ref p2, .ref p3])) := .newOwn x1.sub ht
    have ne : ∀ {p : Addr} {o : HO}, H1 p = some o → p ≠ t := fun h z => by rw [z, ht] at h; cases h
    simp only [List.mem_cons, List.not_mem_nil, or_false, not_or] at d1 d2
    exact q t p1 p2 p3 G1 _ (x1.trans x2) ⟨⟨x1.h.free ht, n1, n2, n3⟩, upd_same, ⟨by rw [upd_ne (ne ho1)]; exact ho1, by rw [upd_ne (ne ho2)]; exact ho2, by rw [upd_ne (ne ho3)]; exact ho3⟩, ⟨x1.sub.free ht, g1, g2, g3⟩, ⟨d1.1, d1.2, d2⟩⟩
end
end DL
set_option maxHeartbeats 400000
/-! PF14: the program: the fate by rules -/
namespace DL
open PySem PySem.Spec PyProof.Rows L2
theorem same_lend {G H : Hp} {a : Addr} {o : HO} (s : Same G H) (h : H a = some o) : Same G (upd G a o) ∧ Same (upd G a o) H := by
  refine ⟨fun b u e => ?_, fun b u e => ?_⟩
  · by_cases w : b = a
    · subst w; rw [upd_same, ← s _ _ e, h]
    · rw [upd_ne w]; exact e
  · by_cases w : b = a
    · subst w; rw [upd_same] at e; rw [← e]; exact h
    · rw [upd_ne w] at e; exact s b u e
theorem exr_lentR {X : Cx} {E : En} {e : Expr} {Γ : List Sl} {S M : Addr} {oS oM : HO} {d0 : D} {Φ : D → Prop} (i : Nat) (hm : E.m = none) (hno : noOwns Γ) (hs : Γ[i]? = some (.im (.raw (.ref S)))) (hS : E.H S = some oS) (hM : E.H M = some oM) (nS : ∀ ps, oS ≠ .tbl ps) (nM : ∀ ps, oM ≠ .tbl ps)
    (hd : ∀ G H, Same E.G G → Same G H → H M = some oM → H S = some oS → Rep X.K (upd (upd G M oM) S oS) d0 (.ref S)) (h : ∀ E', EXR X E' e (Γ.set i (.im d0)) fun r => flatD r = true ∧ Φ r) : EXR X E e Γ Φ := ⟨fun σ G H Q v kk => by
  have hS' := v.keep hm hS nS
  have hM' := v.keep hm hM nM
  have v1 := v.lend hno hM' nM
  have v2 := v1.lend hno hS' nS
  have v3 := v2.setIm (i := i) (hd G H v.g v.sub hM' hS')
  have e : σ.set i (some (.ref S)) = σ := by
    have hr := v.rawAt hs
    obtain ⟨hi, e⟩ := List.getElem?_eq_some_iff.mp hr
    rw [← e]; exact List.set_getElem_self hi
  rw [e] at v3
  obtain ⟨s1, s2⟩ := same_lend v.sub hM'
  obtain ⟨s3, s4⟩ := same_lend s2 hS'
  refine (h _).w σ _ H Q v3 fun d u G1 H1 p x1 r1 => ?_
  obtain ⟨hf, hp⟩ := p
  have e2 := rep_flat hf r1
  subst e2
  refine kk d _ G H1 hp ⟨Same.refl G, x1.h, (s1.trans s3).trans (x1.g.trans x1.sub), fun b u _ n => n⟩ ?_
  cases d with
  | non => exact .non
  | bl => exact .bl _
  | int => exact .int _
  | str => exact .str _
  | raw => cases hf
  | lst => cases hf
  | tup => cases hf
  | ins => cases hf
  | dic => cases hf
  | dit => cases hf
  | tux => cases hf⟩
theorem repf_snoc {K : PySem.W.Frag} {G : Hp} {n : Str} {d : D} {v : V} (h : Rep K G d v) : ∀ {fs : List (Str × D)} {vs : List (Str × V)}, Repf K G fs vs → Repf K G (fs ++ [(n, d)]) (vs ++ [(n, v)])
  | _, _, .nil => .cons h .nil
  | _, _, .cons q r => .cons q (repf_snoc h r)
theorem repk_kt {K : PySem.W.Frag} {G : Hp} : ∀ ms : List Str, Repk K G (ms.map kt) (ms.map ktV)
  | [] => .nil
  | m :: r => .cons (.bl true) (repk_kt r)
theorem FateH.seen {K : PySem.W.Frag} {a : FtA} {k : Lk} {so pa : D} {f : Fs} {G0 H0 : Hp} (h : FateH K a k so pa f G0 H0) : ∃ dS vs, H0 a.S = some (.ins (He.ga K "Seen") dS vs) ∧ ∀ G H, Same G0 G → Same G H → H a.M = some (.dK (f.marks.map ktV)) → H a.S = some (.ins (He.ga K "Seen") dS vs) → Rep K (upd (upd G a.M (.dK (f.marks.map ktV))) a.S (.ins (He.ga K "Seen") dS vs)) (.ins "Seen" (lkF k so pa f.marks)) (.ref a.S) := by
  obtain ⟨dS, vs, hS, hr⟩ := h.hS
  refine ⟨dS, _, hS, fun G H s1 s2 hM hS' => ?_⟩
  obtain ⟨t1, t2⟩ := same_lend s2 hM
  obtain ⟨t3, t4⟩ := same_lend t2 hS'
  have ne := h.ne.2.1.2.2
  refine .ins upd_same ?_
  show Repf K _ (lk6 k so pa ++ [(("marks" : Str), D.dic (f.marks.map kt))]) _
  exact repf_snoc (.dic (by rw [upd_ne (fun z => ne z.symm), upd_same]) (repk_kt _)) ((hr.mono s1).mono (t1.trans t3))
theorem FateH.other {K : PySem.W.Frag} {a : FtA} {k : Lk} {so pa : D} {f : Fs} {G H : Hp} {C : Addr} {o : HO} (h : FateH K a k so pa f G H) (hC : C ∉ [a.F, a.A, a.B, a.M]) (hS : C ≠ a.S) : FateH K a k so pa f G (upd H C o) := by
  simp only [List.mem_cons, List.not_mem_nil, or_false, not_or] at hC
  obtain ⟨n1, n2, n3, n4⟩ := hC
  obtain ⟨dF, hF⟩ := h.hF
  obtain ⟨dS, vs, hS', hr⟩ := h.hS
  exact ⟨⟨dF, by rw [upd_ne (fun z => n1 z.symm)]; exact hF⟩, ⟨dS, vs, by rw [upd_ne (fun z => hS z.symm)]; exact hS', hr⟩, by rw [upd_ne (fun z => n2 z.symm)]; exact h.hA, by rw [upd_ne (fun z => n3 z.symm)]; exact h.hB, by rw [upd_ne (fun z => n4 z.symm)]; exact h.hM, h.g, h.nFS, h.nAB⟩
theorem Fs.deeds_ended {f : Fs} (h : f.ended = true) : ∀ ds : List Dd, f.deeds ds = f
  | [] => rfl
  | d :: r => by rw [Fs.deeds_cons, if_pos h]; exact Fs.deeds_ended h r
theorem no3 {d1 d2 d3 d4 : D} {t4 t5 t6 : Sl} (h4 : t4.isOwn = false) (h5 : t5.isOwn = false) (h6 : t6.isOwn = false) : noOwns [.im d1, .im d2, .im d3, .im d4, t4, t5, t6] := by
  intro s hs
  simp only [List.mem_cons, List.not_mem_nil, or_false] at hs
  rcases hs with rfl | rfl | rfl | rfl | rfl | rfl | rfl <;> first | rfl | assumption
/-- all rules, from state p -/
def spFateOf (K : PySem.W.Frag) : Sp := fun vs H Q _ => ∃ (G : Hp) (rs : List Ru) (k : Lk) (so pa : D) (ms0 : D) (S dS : Addr) (us : List (Str × V)) (rv : V), vs = [rv, .ref S] ∧ Rep K G (.lst (rs.map Ru.encP)) rv ∧ H S = some (.ins (He.ga K "Seen") dS us) ∧ G S = none ∧ Repf K G (lk6 k so pa ++ [(("marks" : Str), ms0)]) us ∧
  Same G H ∧ TabsG K G H ∧ (∀ r ∈ rs, r.Wf) ∧ rs.length ≤ 1000 ∧ InS so k.has ∧ InP pa k.pair ∧
  ∀ T U C L1 L2 L3 G' H', ExtL K [S] G H G' H' → H T = none → G' T = none → H' T = some (.tup [.ref U, .ref C]) → H C = none → G' C = none → H' C = some (.lst ((fsRules k 0 (fs0, []) rs).2.map fun i => .int (i : Nat))) → (C ≠ L1 ∧ C ≠ L2 ∧ C ≠ L3) →
    Res3 K H U L1 L2 L3 (fsRules k 0 (fs0, []) rs).1.files (rankSort (fsRules k 0 (fs0, []) rs).1.marks) (fsRules k 0 (fs0, []) rs).1.passes G' H' → Q (.ref T) H'
theorem lk6_split {K : PySem.W.Frag} {G : Hp} {k : Lk} {so pa ms0 : D} {us : List (Str × V)} (h : Repf K G (lk6 k so pa ++ [(("marks" : Str), ms0)]) us) : ∃ vs v, us = vs ++ [(("marks" : Str), v)] ∧ Repf K G (lk6 k so pa) vs ∧ (us.length < 1000) ∧ ∀ u, putF "marks" u us = vs ++ [(("marks" : Str), u)] := by
  unfold lk6 at h
  cases h with | cons h1 h =>
  cases h with | cons h2 h =>
  cases h with | cons h3 h =>
  cases h with | cons h4 h =>
  cases h with | cons h5 h =>
  cases h with | cons h6 h =>
  cases h with | cons h7 h =>
  cases h
  exact ⟨[_, _, _, _, _, _], _, rfl, .cons h1 (.cons h2 (.cons h3 (.cons h4 (.cons h5 (.cons h6 .nil))))), by show 7 < 1000; decide, fun u => rfl⟩
section
variable {P : Program} {w : World} {K : PySem.W.Frag} {mg : Str → Option Value} {base : Heap} (T : Tx K mg) (TB : ∀ p ∈ sites, LamX.TabB base mg (He.cT K p.1).1 (He.cT K p.1).2)
include T TB
theorem C_fate_of : ∃ f fd, FnOk P w K mg base CX0 9 f fd ["rules", "seen"] (spFateOf K) ∧ mg "fate_of" = some (.ref f) ∧ PySem.W.keepIn K (.ref f) = true ∧ Binds K fd ["rules", "seen"] [] := by
  obtain ⟨fd, F⟩ := T.d_fate_of
  refine ⟨_, fd, F.ok sc_fate_of (fun vs H Q Ew h => ?_) (fun cdv A outer s H vs Q Ew hr h => ?_), T.g_fate_of, F.kp, F.bindsN (fun _ _ _ _ _ _ us hl => match us, hl with | [_, _], _ => rfl)⟩
  · obtain ⟨G, rs, k, so, pa, ms0, S, dS, us, rv, rfl, _⟩ := h; rfl
  · obtain ⟨G, rs, k, so, pa, ms0, S, dS, us, rv, rfl, rrs, hS, gS, hus, sg, tb, wf, hlen, iS, iP, q⟩ := h
    refine ⟨_, PSs.nox pss_W, ?_⟩
    obtain ⟨X, hX⟩ : ∃ X, (cxOf CX0 P w K mg base ["rules", "seen", "fate", "acting", "at", "rule", "deed"] "fate_of" (defScope s_fate_of) (He.ga K "fate_of") cdv A outer s H Ew).nox = X := ⟨_, rfl⟩
    have hN : (cxOf CX0 P w K mg base ["rules", "seen", "fate", "acting", "at", "rule", "deed"] "fate_of" (defScope s_fate_of) (He.ga K "fate_of") cdv A outer s H Ew).nox.N.Nodup := sc_fate_of.nd
    have v0 := env_start (X := (cxOf CX0 P w K mg base ["rules", "seen", "fate", "acting", "at", "rule", "deed"] "fate_of" (defScope s_fate_of) (He.ga K "fate_of") cdv A outer s H Ew).nox) (N := ["rules", "seen", "fate", "acting", "at", "rule", "deed"]) (ds := [.lst (rs.map Ru.encP), .raw (.ref S)]) sg tb (.cons rrs (.cons (.raw _) .nil)) (by show 2 ≤ 7; decide)
    obtain ⟨σ, hσ⟩ : ∃ σ, L2.start ["rules", "seen", "fate", "acting", "at", "rule", "deed"] [rv, V.ref S] = σ := ⟨_, rfl⟩
    rw [hσ] at v0 ⊢
    obtain ⟨vs6, v7, hus6, hr6, hl7, hput⟩ := lk6_split hus
    show ssW _ (_ :: _) _ _ _
    -- seen.marks = {}
    refine ssW_of (pss_cons (ps_fld (pe_var (i := 1) rfl (.inl (by kernel_rfl)) (by decide +kernel) (by decide +kernel)) pe_dnewK (swapsNo rfl)) pss_W) ?_
    refine fun M hM0 => ?_
    have hMS : M ≠ S := fun z => by rw [z, hS] at hM0; cases hM0
    have x1 : Ext K G H G (upd H M (.dK [])) := .newOwn sg hM0
    refine ⟨.ref S, v0.rawAt rfl, S, _, dS, us, rfl, x1.h.at hS, T.c_Seen, T.n_Seen_marks, hl7, ?_⟩
    rw [hput]
    have x2 : ExtL K [S] G (upd H M (.dK [])) G (upd (upd H M (.dK [])) S (.ins (He.ga K "Seen") dS (vs6 ++ [(("marks" : Str), V.ref M)]))) := ExtL.upd x1.sub (by simp) (x1.h.at hS) gS
    obtain ⟨H2, hH2⟩ : ∃ H2, upd (upd H M (.dK [])) S (.ins (He.ga K "Seen") dS (vs6 ++ [(("marks" : Str), V.ref M)])) = H2 := ⟨_, rfl⟩
    have hS2 : H2 S = some (.ins (He.ga K "Seen") dS (vs6 ++ [(("marks" : Str), V.ref M)])) := by rw [← hH2, upd_same]
    have hM2 : H2 M = some (.dK []) := by rw [← hH2, upd_ne hMS, upd_same]
    rw [hH2] at x2 ⊢
    have xx2 := x1.L.trans x2
    have gM : G M = none := sg.free hM0
    have v2 := v0.L (noOwns_by rfl) xx2
    -- fate, acting = Fate(seen), []
    obtain ⟨fdI, FI, bI⟩ := fate_init (P := P) (w := w) (base := base) T
    show ssW _ (_ :: _) _ _ _
    refine ssW_of (pss_cons (ps_par rfl hN (i := 2) (j := 3) rfl rfl (by decide) (by kernel_rfl) (by kernel_rfl) (pa_cons (pe_make T.k_Fate FI (hr.mono (by decide)) (by (show PySem.Env.kindOf _ _ = _); kernel_rfl) T.g_Fate bI .nil pass0 (pa_cons (pe_var (i := 1) rfl (.inl (by kernel_rfl)) (by decide +kernel) (by decide +kernel)) pa_nil) (by decide +kernel)) (pa_cons (pe_lst pa_nil) pa_nil)) (by kernel_rfl)) pss_W) ?_
    refine ⟨.ref S, v2.rawAt rfl, fun Fa dF nF ndF neF => ?_⟩
    show spFI K [.ref Fa, .ref S] (upd (upd H2 dF (.own Fa)) Fa (.ins (He.ga K "Fate") dF [])) _ E0
    refine ⟨Fa, dF, .ref S, rfl, upd_same, fun LA LB H3 nAB nA nB hF3 hA3 hB3 hrest => ⟨rfl, ?_⟩⟩
    refine ⟨Nat.zero_le _, fun C hC => ⟨_, _, rfl, ?_⟩⟩
    -- the state behind it
    have nAF : LA ≠ Fa := fun z => by rw [z, upd_same] at nA; cases nA
    have nBF : LB ≠ Fa := fun z => by rw [z, upd_same] at nB; cases nB
    have nAd : LA ≠ dF := fun z => by rw [z, upd_ne neF, upd_same] at nA; cases nA
    have nBd : LB ≠ dF := fun z => by rw [z, upd_ne neF, upd_same] at nB; cases nB
    have nA2 : H2 LA = none := by rwa [upd_ne nAF, upd_ne nAd] at nA
    have nB2 : H2 LB = none := by rwa [upd_ne nBF, upd_ne nBd] at nB
    have h23 : ∀ b o, H2 b = some o → H3 b = some o := fun b o e => by
      have b1 : b ≠ Fa := fun z => by rw [z, nF] at e; cases e
      have b2 : b ≠ LA := fun z => by rw [z, nA2] at e; cases e
      have b3 : b ≠ LB := fun z => by rw [z, nB2] at e; cases e
      have b4 : b ≠ dF := fun z => by rw [z, ndF] at e; cases e
      rw [hrest b b1 b2 b3, upd_ne b1, upd_ne b4]; exact e
    have h3C : H3 C = none := hC
    have x4 : Same H2 (upd H3 C (.lst [])) := fun b o e => by
      have e3 := h23 b o e
      rw [upd_ne (fun z => by rw [z, h3C] at e3; cases e3)]; exact e3
    obtain ⟨H4, hH4⟩ : ∃ H4, upd H3 C (.lst []) = H4 := ⟨_, rfl⟩
    rw [hH4] at x4 ⊢
    have at4 : ∀ {b o}, H3 b = some o → H4 b = some o := fun {b o} e => by
      rw [← hH4, upd_ne (fun z => by rw [z, h3C] at e; cases e)]; exact e
    have xG4 : Ext K G H2 G H4 := ⟨Same.refl G, .of x4, x2.sub.trans x4, fun _ _ _ h => h⟩
    have xx4 : ExtL K [S] G H G H4 := xx2.trans xG4.L
    have none2 : ∀ {b}, H2 b = none → G b = none ∧ H b = none := fun {b} e => ⟨x2.sub.free e, xx2.f b e⟩
    obtain ⟨a, ha⟩ : ∃ a : FtA, a = ⟨Fa, S, LA, LB, M⟩ := ⟨_, rfl⟩
    have hf4 : FateH K a k so pa fs0 G H4 := by
      subst ha
      refine ⟨⟨dF, at4 hF3⟩, ⟨dS, vs6, x4 _ _ hS2, hr6⟩, at4 hA3, at4 hB3, x4 _ _ hM2, ⟨(none2 nF).1, gS, (none2 nA2).1, (none2 nB2).1, gM⟩, fun z => ?_, nAB⟩
      have z' : Fa = S := z
      rw [z', hS2] at nF; cases nF
    have hC4 : H4 C = some (.lst []) := by rw [← hH4, upd_same]
    have hC2 : H2 C = none := by
      cases e : H2 C with
      | none => rfl
      | some o => have := h23 C o e; rw [h3C] at this; cases this
    have v4 := ((v2.L (noOwns_by rfl) (xG4.L (M := []))).setRaw 2 (.ref Fa)).setRaw 3 (.ref C)
    have hCa : C ∉ [a.F, a.A, a.B, a.M] ∧ C ≠ S := by
      subst ha
      have hno : ∀ {b o}, H3 b = some o → C ≠ b := fun {b o} e z => by rw [← z, h3C] at e; cases e
      refine ⟨?_, hno (h23 _ _ hS2)⟩
      simp only [List.mem_cons, List.not_mem_nil, or_false, not_or]
      exact ⟨hno hF3, hno hA3, hno hB3, hno (h23 _ _ hM2)⟩
    have hall0 : ∀ b ∈ [S, a.F, a.A, a.B, a.M, C], b ∈ [S] ∨ H b = none := by
      subst ha
      intro b hb
      simp only [List.mem_cons, List.not_mem_nil, or_false] at hb
      rcases hb with rfl | rfl | rfl | rfl | rfl | rfl
      · exact .inl (by simp)
      · exact .inr (none2 nF).2
      · exact .inr (none2 nA2).2
      · exact .inr (none2 nB2).2
      · exact .inr hM0
      · exact .inr (none2 hC2).2
    obtain ⟨fdD, FD, bD⟩ := fate_do (P := P) (w := w) (base := base) T
    obtain ⟨fdT, FT, bT⟩ := fate_told (P := P) (w := w) (base := base) T TB
    subst ha
    show ssW _ (_ :: _) _ _ _
    refine ss_for (ds := enumD' 0 (rs.map Ru.encP)) (wk_enum T.b_enumerate (ex_var 0)) v4 (fun G5 H5 x5 => ⟨fun i σ' G' H' => ∃ (f : Fs) (acts : List Nat) (t4 t5 t6 : Sl), Env K ⟨G', H', none⟩ [.im (.lst (rs.map Ru.encP)), .im (.raw (.ref S)), .im (.raw (.ref Fa)), .im (.raw (.ref C)), t4, t5, t6] σ' G' H' ∧ (t4.isOwn = false ∧ t5.isOwn = false ∧ t6.isOwn = false) ∧ FateH K ⟨Fa, S, LA, LB, M⟩ k so pa f G' H' ∧ H' C = some (.lst (acts.map fun i => .int (i : Nat))) ∧ G' C = none ∧ ExtL K [S, Fa, LA, LB, M, C] G H G' H' ∧ Same G5 G' ∧ FsB f (6 * i) ∧ acts.length ≤ i ∧ fsRules k 0 (fs0, []) rs = fsRules k i (f, acts) (rs.drop i), ?_, ?_, ?_, ?_⟩)
    · exact ⟨fs0, [], .un, .un, .un, (v4.mono x5).base (no3 rfl rfl rfl), ⟨rfl, rfl, rfl⟩, hf4.mono x5, x5.h.at hC4, x5.fr _ _ hC4 (none2 hC2).1, (xx4.drop fun b hb => .inl (by simp only [List.mem_singleton] at hb; subst hb; simp)).trans x5.L, Same.refl _, ⟨Nat.zero_le _, Nat.zero_le _, Nat.zero_le _, fun x hx => by cases hx⟩, Nat.zero_le _, by rw [List.drop_zero]⟩
    · rintro i σ' G' H' ⟨f, acts, t4, t5, t6, v', _, _, _, _, _, s', _⟩
      exact ⟨s', v'.sub⟩
    · rintro i d x σ' G' H' G6 H6 D' hd ⟨f, acts, t4, t5, t6, v', ⟨no4, no5, no6⟩, hf, hC', gC', xx', s', hb, hacts, hfs⟩ x6 rd hnx hrt
      have hi : i < rs.length := by
        have := lt_of_at hd
        rwa [enumD'_length, List.length_map] at this
      obtain ⟨r, hr1⟩ : ∃ r, rs[i]? = some r := ⟨rs[i], List.getElem?_eq_getElem hi⟩
      have hd2 := enumD'_get 0 (rs.map Ru.encP) i r.encP (by rw [List.getElem?_map, hr1]; rfl)
      rw [hd2] at hd
      cases hd
      have rwf := wf r (List.mem_of_getElem? hr1)
      have hdrop : rs.drop i = r :: rs.drop (i + 1) := by
        rw [List.drop_eq_getElem_cons hi]
        rw [List.getElem?_eq_getElem hi] at hr1
        cases hr1; rfl
      rw [hdrop, fsRules] at hfs
      have v6 := (v'.mono x6).base (no3 no4 no5 no6)
      refine gW_tg (tg_tup (tgs_cons (tg_name 4) (tgs_cons (tg_name 5) tgs_nil)) rfl) v6 rd fun σ3 w3 => ?_
      have hf6 := hf.mono x6
      obtain ⟨dF6, hF6⟩ := hf6.hF
      obtain ⟨dS6, us6, hS6, hsee⟩ := hf6.seen
      have xx6 := xx'.trans x6.L
      have gC6 := x6.fr _ _ hC' gC'
      refine ss_if (b := !f.ended && r.1.sat k f.marks) (ew_and (et_not (et_val (ex_fldR (d := .bl f.ended) rfl hF6 T.c_Fate T.n_Fate_ended (ex_var 2) rfl (fun _ => .bl _)))) (fun _ => ew_and1 (et_val (exr_lentR (Φ := fun d => d = .bl (r.1.sat k f.marks)) 1 rfl (no3 rfl rfl no6) rfl hS6 hf6.hM (by intro _ z; cases z) (by intro _ z; cases z) hsee (fun E' => EXR.imp (ex_holds (C_holds T r.1 (by have := rwf.k.1; omega) rwf.c.f) (hr.mono (by have := rwf.k.2; omega)) iS iP (ex_fld T.c_Rule T.n_Rule_condition (ex_var 5)) (ex_var 1)) fun d h => ⟨by rw [h]; rfl, h⟩))))).et w3 (fun hb7 G7 H7 w7 x7 => ?_) (fun hb7 G7 H7 w7 x7 => ?_)
      · rw [if_pos hb7] at hfs
        have hne : f.ended = false := by
          cases e : f.ended with
          | false => rfl
          | true => rw [e] at hb7; cases hb7
        have hC7 := x7.h.at (x6.h.at hC')
        have hf7 := hf6.mono x7
        show ssW _ (_ :: _) _ _ _
        refine ssW_of (pss_cons (ps_expr (pe_bm PySem.F.plainAttrs_list PySem.F.slot_list_append PySem.F.type_list_append mt_append (pe_var (i := 3) rfl (.inl (by kernel_rfl)) (by decide +kernel) (by decide +kernel)) (pa_cons pe_W pa_nil (starEach_cons rfl)) (attrBase rfl) (fewArgs rfl) rfl (starEach_cons rfl) rfl) rfl) pss_W) ?_
        refine ⟨.ref C, w7.rawAt rfl, .inl ⟨rfl, _, SqL.of hC7⟩, ?_⟩
        refine EX.run (ex_var 4) w7 fun u G8 H8 w8 x8 r8 => ?_
        cases r8
        have hC8 := x8.h.at hC7
        have gC8 := x8.fr _ _ hC7 (x7.fr _ _ (x6.h.at hC') gC6)
        have hf8 := hf7.mono x8
        refine ⟨C, _, _, rfl, rfl, hC8, by rw [List.length_map, sizeLine_eq]; omega, ?_⟩
        have e9 : (acts.map fun i => V.int (i : Nat)) ++ [.int ((0 + i : Nat) : Int)] = (acts ++ [i]).map fun i => V.int (i : Nat) := by rw [Nat.zero_add, List.map_append]; rfl
        rw [e9]
        obtain ⟨H9, hH9⟩ : ∃ H9, upd H8 C (.lst ((acts ++ [i]).map fun i => V.int (i : Nat))) = H9 := ⟨_, rfl⟩
        have hC9 : H9 C = some (.lst ((acts ++ [i]).map fun i => V.int (i : Nat))) := by rw [← hH9, upd_same]
        have hf9 : FateH K ⟨Fa, S, LA, LB, M⟩ k so pa f G8 H9 := by rw [← hH9]; exact hf8.other hCa.1 hCa.2
        have u9 : ExtL K [S, Fa, LA, LB, M, C] G8 H8 G8 H9 := by rw [← hH9]; exact ExtL.upd x8.sub (by simp) hC8 gC8
        rw [hH9]
        have xx9 := ((xx6.trans x7.L).trans x8.L).trans u9
        have w9 := w8.L (no3 rfl rfl no6) u9
        have s9 : Same G5 G8 := s'.trans (x6.g.trans (x7.g.trans x8.g))
        show ssW _ (_ :: _) _ _ _
        refine ss_for (ds := r.2.map Dd.encP) (wk_list (ex_fld T.c_Rule T.n_Rule_deeds (ex_var 5))) w9 (fun Ga Ha xa => ⟨fun j σ' G' H' => ∃ (f2 : Fs) (t6 : Sl), Env K ⟨G', H', none⟩ [.im (.lst (rs.map Ru.encP)), .im (.raw (.ref S)), .im (.raw (.ref Fa)), .im (.raw (.ref C)), .im (.int ((0 + i : Nat) : Int)), .im r.encP, t6] σ' G' H' ∧ t6.isOwn = false ∧ FateH K ⟨Fa, S, LA, LB, M⟩ k so pa f2 G' H' ∧ H' C = some (.lst ((acts ++ [i]).map fun i => V.int (i : Nat))) ∧ G' C = none ∧ ExtL K [S, Fa, LA, LB, M, C] G H G' H' ∧ Same Ga G' ∧ FsB f2 (6 * i + j) ∧ f.deeds r.2 = f2.deeds (r.2.drop j), ?_, ?_, ?_, ?_⟩)
        · exact ⟨f, _, (w9.mono xa).base (no3 rfl rfl no6), no6, hf9.mono xa, xa.h.at hC9, xa.fr _ _ hC9 gC8, xx9.trans xa.L, Same.refl _, hb, by rw [List.drop_zero]⟩
        · rintro j σ' G' H' ⟨f2, t6', v', _, _, _, _, _, s', _⟩
          exact ⟨s', v'.sub⟩
        · rintro j d x σ' G' H' Gb Hb D2 hd ⟨f2, t6', v', no6', hf, hC', gC', xx', s2, hb2, hds⟩ xb rd2 hnx2 hrt2
          rw [List.getElem?_map] at hd
          obtain ⟨dd, hdd, rfl⟩ := Option.map_eq_some_iff.mp hd
          have hjl : j < r.2.length := lt_of_at hdd
          have hdr : r.2.drop j = dd :: r.2.drop (j + 1) := by
            rw [List.drop_eq_getElem_cons hjl]
            rw [List.getElem?_eq_getElem hjl] at hdd
            cases hdd; rfl
          have hn6 := rwf.n.2
          rw [hdr, Fs.deeds_cons] at hds
          have vb := (v'.mono xb).base (no3 rfl rfl no6')
          refine gW_tg (tg_name 6) vb rd2 fun σ4 w4 => ?_
          have hfb := hf.mono xb
          obtain ⟨dFb, hFb⟩ := hfb.hF
          show ssW _ [_] _ _ _
          refine ss_if (b := !f2.ended) (et_not (et_val (ex_fldR (d := .bl f2.ended) rfl hFb T.c_Fate T.n_Fate_ended (ex_var 2) rfl (fun _ => .bl _)))) w4 (fun hbc Gc Hc wc xc => ?_) (fun hbc Gc Hc wc xc => ?_)
          · have hne2 : ¬ f2.ended = true := by
              intro e; rw [e] at hbc; cases hbc
            rw [if_neg hne2] at hds
            have hfc := hfb.mono xc
            obtain ⟨dFc, hFc⟩ := hfc.hF
            obtain ⟨dv, hdv, rdv⟩ := wc.im (i := 6) rfl
            refine ssW_of (pss_one (ps_expr (pe_meth (pe_var (i := 2) rfl (.inl (by kernel_rfl)) (by decide +kernel) (by decide +kernel)) T.c_Fate T.m_Fate_do FD (hr.mono (by decide)) bD .nil pass0 (pa_cons (pe_var (i := 6) rfl (.inl (by kernel_rfl)) (by decide +kernel) (by decide +kernel)) pa_nil) (starEach_cons rfl) rfl (methEq rfl rfl (by decide) rfl)) rfl)) ?_
            refine ⟨.ref Fa, wc.rawAt rfl, Fa, dFc, _, rfl, hFc, rfl, dv, hdv, ?_⟩
            refine ⟨⟨Fa, S, LA, LB, M⟩, Gc, k, so, pa, f2, dd, dv, rfl, rdv, wc.sub, wc.tb, hfc, by have := hb2.b; omega, by have := hb2.a; omega, by have := hb2.c; omega, fun Gd Hd hfd xd => ?_⟩
            have xd' : ExtL K [S, Fa, LA, LB, M, C] Gc Hc Gd Hd := xd.drop fun b hb => .inl (by simp only [List.mem_cons, List.not_mem_nil, or_false] at hb ⊢; rcases hb with h | h | h | h <;> simp [h])
            have hCc := xc.h.at (xb.h.at hC')
            have gCc := xc.fr _ _ (xb.h.at hC') (xb.fr _ _ hC' gC')
            refine ss_nil (hnx2 _ Gd Hd ⟨f2.deed dd, _, wc.L (no3 rfl rfl rfl) xd', rfl, hfd, xd.h _ _ hCc hCa.1 (by intro _ z; cases z), xd.fr _ _ hCc gCc, (xx'.trans xb.L).trans (xc.L.trans xd'), s2.trans (xb.g.trans (xc.g.trans xd.g)), ?_, hds⟩)
            have := hb2.deed (rwf.d dd (List.mem_of_getElem? hdd))
            exact this.up (by omega)
          · have hen : f2.ended = true := by simpa using hbc
            rw [if_pos hen] at hds
            refine ss_nil (ss_nil (hnx2 _ Gc Hc ⟨f2, _, wc.base (no3 rfl rfl rfl), rfl, hfb.mono xc, xc.h.at (xb.h.at hC'), xc.fr _ _ (xb.h.at hC') (xb.fr _ _ hC' gC'), (xx'.trans xb.L).trans xc.L, s2.trans (xb.g.trans xc.g), hb2.up (by omega), hds⟩))
        · rintro σ' G' H' ⟨f2, t6', v', no6', hf, hC', gC', xx', s2, hb2, hds⟩
          rw [List.length_map] at hb2 hds
          rw [List.drop_length] at hds
          have hds' : f.deeds r.2 = f2 := hds
          rw [hds'] at hfs
          have hn6 := rwf.n.2
          exact ss_nil (ss_nil (hnx σ' G' H' ⟨f2, acts ++ [i], _, _, t6', v', ⟨rfl, rfl, no6'⟩, hf, hC', gC', xx', (s9.trans xa.g).trans s2, hb2.up (by omega), by rw [List.length_append]; simp; omega, hfs⟩))
      · rw [if_neg (by rw [hb7]; decide)] at hfs
        exact ss_nil (ss_nil (hnx σ3 G7 H7 ⟨f, acts, _, _, t6, w7.base (no3 rfl rfl no6), ⟨rfl, rfl, no6⟩, hf6.mono x7, x7.h.at (x6.h.at hC'), x7.fr _ _ (x6.h.at hC') gC6, xx6.trans x7.L, s'.trans (x6.g.trans x7.g), hb.up (by omega), by omega, hfs⟩))
    · rintro σ' G' H' ⟨f, acts, t4, t5, t6, v', ⟨no4, no5, no6⟩, hf, hC', gC', xx', s', hb, hacts, hfs⟩
      rw [enumD'_length, List.length_map] at hfs hb
      rw [List.drop_length, fsRules] at hfs
      rw [hfs] at q
      obtain ⟨dF', hF'⟩ := hf.hF
      show ssW _ [_] _ _ _
      refine ssW_of (pss_one (ps_ret (pe_tup (pa_cons (pe_meth0 (pe_var (i := 2) rfl (.inl (by kernel_rfl)) (by decide +kernel) (by decide +kernel)) T.c_Fate T.m_Fate_told FT (hr.mono (by decide)) bT .nil pass0 (methEq rfl rfl (by decide) rfl)) (pa_cons (pe_var (i := 3) rfl (.inl (by kernel_rfl)) (by decide +kernel) (by decide +kernel)) pa_nil))))) ?_
      refine ⟨.ref Fa, v'.rawAt rfl, Fa, dF', _, rfl, hF', rfl, ?_⟩
      refine ⟨⟨Fa, S, LA, LB, M⟩, G', k, so, pa, f, rfl, v'.sub, v'.tb, hf, fun x hx => by rw [cd_len, sizeLine_eq]; have := (hb.e x hx).2.1; omega, fun U L1 L2 L3 G2 H2' x2 res => ?_⟩
      refine ⟨.ref C, v'.rawAt rfl, by show 2 ≤ _; rw [sizeLine_eq]; decide, fun p hp => ?_⟩
      have xN : Ext K G2 H2' G2 (upd H2' p (.tup [.ref U, .ref C])) := .newOwn x2.sub hp
      have tot : ExtL K [S] G H G2 (upd H2' p (.tup [.ref U, .ref C])) := ((xx'.trans x2.L).trans xN.L).drop hall0
      have hC2' := x2.h.at hC'
      have nC : ∀ {L : Addr}, H' L = none → C ≠ L := fun h z => by rw [← z, hC'] at h; cases h
      have np : ∀ {b : Addr} {o : HO}, H2' b = some o → b ≠ p := fun h z => by rw [z, hp] at h; cases h
      obtain ⟨⟨n1, n2, n3, n4⟩, rt, ⟨r1, r2, r3⟩, ⟨g1, g2, g3, g4⟩, dis⟩ := res
      exact q p U C L1 L2 L3 G2 _ tot (xx'.f _ (x2.h.free hp)) (x2.sub.free hp) upd_same (none2 hC2).2 (x2.fr _ _ hC' gC') (xN.h.at hC2') ⟨nC n2, nC n3, nC n4⟩ ⟨⟨xx'.f _ n1, xx'.f _ n2, xx'.f _ n3, xx'.f _ n4⟩, by rw [upd_ne (np rt)]; exact rt, ⟨by rw [upd_ne (np r1)]; exact r1, by rw [upd_ne (np r2)]; exact r2, by rw [upd_ne (np r3)]; exact r3⟩, ⟨g1, g2, g3, g4⟩, dis⟩
end
end DL
set_option maxHeartbeats 400000
/-! PF15: the program: sort, acting -/
namespace DL
open PySem PySem.Spec PyProof.Rows L2
/-- a text that says the rules rs -/
structure TxtOk (x : Str) (rs : List Ru) : Prop where
  a : x.length + 2 ≤ sizeLine
  b : RowsR (Txt.split x "\n") rs
  c : (Txt.split x "\n").length ≤ 1000
  d : (uniq (spokenN rs)).length ≤ 4
def pfate (rs : List Ru) (l : Let) : Fs × List Nat := fsRules (lkOf l) 0 (fs0, []) rs
def spSort (K : PySem.W.Frag) : Sp := fun vs H Q _ => ∃ (G : Hp) (x : Str) (rs : List Ru) (l : Let) (tv lv : V), vs = [tv, lv] ∧ Rep K G (.str x) tv ∧ Rep K G l.enc lv ∧ Same G H ∧ TabsG K G H ∧ TxtOk x rs ∧ l.Ok ∧ l.words.length ≤ 1000 ∧
  ∀ U L1 L2 L3 G' H', Ext K G H G' H' → Res3 K H U L1 L2 L3 (pfate rs l).1.files (rankSort (pfate rs l).1.marks) (pfate rs l).1.passes G' H' → Q (.ref U) H'
def S_acting : SpecO := fun ds s => ∃ (x : Str) (rs : List Ru) (l : Let), ds = [.str x, l.enc] ∧ TxtOk x rs ∧ l.Ok ∧ l.words.length ≤ 1000 ∧ s = .ol ((pfate rs l).2.map fun i => .int (i : Nat))
structure CalT (P : Program) (w : World) (K : PySem.W.Frag) (mg : Str → Option Value) (base : Heap) (n : Str) (k : Nat) (ps : List Str) (sp : Sp) : Prop where
  ex : ∃ (f : Addr) (fd : FuncData), FnOk P w K mg base CX0 k f fd ps sp ∧ mg n = some (.ref f) ∧ PySem.W.keepIn K (.ref f) = true ∧ Binds K fd ps []
theorem int_map_reps {K : PySem.W.Frag} {G : Hp} : ∀ ns : List Nat, Reps K G (ns.map fun i => D.int (i : Nat)) (ns.map fun i => V.int (i : Nat))
  | [] => .nil
  | n :: r => .cons (.int _) (int_map_reps r)
section
variable {P : Program} {w : World} {K : PySem.W.Frag} {mg : Str → Option Value} {base : Heap} (T : Tx K mg) (TB : ∀ p ∈ sites, LamX.TabB base mg (He.cT K p.1).1 (He.cT K p.1).2)
include T TB
theorem C_sort : CalT P w K mg base "sort" 29 ["rules", "letter"] (spSort K) := by
  obtain ⟨fd, F⟩ := T.d_sort
  refine ⟨_, fd, F.ok sc_sort (fun vs H Q Ew h => ?_) (fun cdv A outer s H vs Q Ew hr h => ?_), T.g_sort, F.kp, F.bindsN (fun _ _ _ _ _ _ us hl => match us, hl with | [_, _], _ => rfl)⟩
  · obtain ⟨G, x, rs, l, tv, lv, rfl, _⟩ := h; rfl
  · obtain ⟨G, x, rs, l, tv, lv, rfl, rt, rl, sg, tb, tok, hl, hn, q⟩ := h
    refine ⟨_, PSs.nox pss_W, ?_⟩
    have hN : (cxOf CX0 P w K mg base ["rules", "letter", "found"] "sort" (defScope s_sort) (He.ga K "sort") cdv A outer s H Ew).nox.N.Nodup := sc_sort.nd
    have v0 := env_start (X := (cxOf CX0 P w K mg base ["rules", "letter", "found"] "sort" (defScope s_sort) (He.ga K "sort") cdv A outer s H Ew).nox) (N := ["rules", "letter", "found"]) (ds := [.str x, l.enc]) sg tb (.cons rt (.cons rl .nil)) (by show 2 ≤ 3; decide)
    obtain ⟨σ, hσ⟩ : ∃ σ, L2.start ["rules", "letter", "found"] [tv, lv] = σ := ⟨_, rfl⟩
    rw [hσ] at v0 ⊢
    show ssW _ (_ :: _) _ _ _
    refine ss_stepE (N := ⟨fun Γ => Γ = [.im (.str x), .im l.enc, .im (.lst (rs.map Ru.encP))], fun _ _ => False, fun _ => False, fun _ => False⟩) (sx_set 2 (ex_cal (C_rules_of T TB) (hr.mono (by decide)) (ea_cons (ex_var 0) ea_nil) ⟨x, rs, rfl, tok.a, tok.b, tok.c, tok.d, rfl⟩) rfl) v0 fun Γ1 σ1 G1 H1 q1 s1 v1 => ?_
    subst q1
    refine ss_stepE (N := ⟨fun Γ => Γ = [.im (.str x), .im l.enc, .im (.lst (rs.map Ru.encP))], fun _ _ => False, fun _ => False, fun _ => False⟩) (sx_dropQ (EX.Q (ex_cal (C_check_letter T) (hr.mono (by decide)) (ea_cons (ex_var 1) ea_nil) ⟨l, rfl, hl, hn, rfl⟩)) rfl) v1 fun Γ1 σ2 G2 H2 q1 s2 v2 => ?_
    subst q1
    obtain ⟨ff, fdf, FF, gf, kf, bf⟩ := C_fate_of (P := P) (w := w) (base := base) T TB
    show ssW _ [_] _ _ _
    refine ssW_of (pss_one (ps_ret (pe_ix ix_tup (pe_call FF (hr.mono (by decide)) (by (show PySem.Env.kindOf _ _ = _); kernel_rfl) gf kf bf .nil pass0 (pa_cons (pe_var (i := 2) rfl (.inl (by kernel_rfl)) (by decide +kernel) (by decide +kernel)) (pa_cons pe_W pa_nil (starEach_cons rfl))) (by decide +kernel) (starEach_cons rfl) rfl) pe_int (plainIx rfl)))) ?_
    obtain ⟨fv, hfv, rfv⟩ := v2.im (i := 2) rfl
    refine ⟨fv, hfv, ?_⟩
    refine (eo_cal (C_seen_of T) (hr.mono (by decide)) (ea_cons (ex_var 1) ea_nil) ⟨l, rfl, hl, hn, rfl⟩).w σ2 G2 H2 _ v2 fun p o G3 H3 x3 hp hp3 hg3 ok => ?_
    obtain ⟨dS, us, rfl, rf⟩ := ok
    have v3 := v2.mono x3
    have e3 := (v2.ext rfl).trans x3
    refine ⟨G3, rs, lkOf l, soOf l, paOf l, .dic [], p, dS, us, fv, rfl, rfv.mono x3.g, hp3, hg3, rf, x3.sub, v3.tb, tok.b.wf, by have := tok.b.len; have := tok.c; omega, .dic _, .dit _, fun T' U C L1 L2 L3 G4 H4 x4 nT gT hT nC gC hC dC res => ?_⟩
    have x5 : Ext K G3 H3 G4 H4 → True := fun _ => trivial
    refine ⟨T', _, 0, .ref U, rfl, rfl, .inl (.inl hT), rfl, ?_⟩
    have tot : ExtL K [p] G H G4 H4 := e3.L.trans x4
    obtain ⟨⟨n1, n2, n3, n4⟩, rt', r123, g1234, dis⟩ := res
    have back : ∀ {b : Addr}, H3 b = none → H b = none := fun h => e3.h.free h
    refine q U L1 L2 L3 G4 H4 (tot.ext fun b hb => ?_) ⟨⟨back n1, back n2, back n3, back n4⟩, rt', r123, g1234, dis⟩
    simp only [List.mem_singleton] at hb
    subst hb
    exact (v2.ext rfl).h.free hp
theorem C_acting : CalO P w K mg base "acting" 29 ["rules", "letter"] S_acting := by
  obtain ⟨fd, F⟩ := T.d_acting
  refine ⟨_, fd, fn_okO F sc_acting (fun ds s h => ?_) (fun c hc A outer s H Ew E ds sl hr h σ G H1 Dn v k => ?_), T.g_acting, F.kp, F.bindsN (fun _ _ _ _ _ _ us hl => match us, hl with | [_, _], _ => rfl)⟩
  · obtain ⟨x, rs, l, rfl, _⟩ := h; rfl
  · obtain ⟨x, rs, l, rfl, tok, hl, hn, rfl⟩ := h
    have hN : (cxOf CX0 P w K mg base ["rules", "letter", "found"] "acting" (defScope s_acting) (He.ga K "acting") (.ref c) A outer s H Ew).nox.N.Nodup := sc_acting.nd
    have v0 := v.base (noOwns_by rfl)
    show ssW _ (_ :: _) _ _ _
    refine ss_stepE (N := ⟨fun Γ => Γ = [.im (.str x), .im l.enc, .im (.lst (rs.map Ru.encP))], fun _ _ => False, fun _ => False, fun _ => False⟩) (sx_set 2 (ex_cal (C_rules_of T TB) (hr.mono (by decide)) (ea_cons (ex_var 0) ea_nil) ⟨x, rs, rfl, tok.a, tok.b, tok.c, tok.d, rfl⟩) rfl) v0 fun Γ1 σ1 G1 H1' q1 s1 v1 => ?_
    subst q1
    refine ss_stepE (N := ⟨fun Γ => Γ = [.im (.str x), .im l.enc, .im (.lst (rs.map Ru.encP))], fun _ _ => False, fun _ => False, fun _ => False⟩) (sx_dropQ (EX.Q (ex_cal (C_check_letter T) (hr.mono (by decide)) (ea_cons (ex_var 1) ea_nil) ⟨l, rfl, hl, hn, rfl⟩)) rfl) v1 fun Γ1 σ2 G2 H2 q1 s2 v2 => ?_
    subst q1
    obtain ⟨ff, fdf, FF, gf, kf, bf⟩ := C_fate_of (P := P) (w := w) (base := base) T TB
    show ssW _ [_] _ _ _
    refine ssW_of (pss_one (ps_ret (pe_ix ix_tup (pe_call FF (hr.mono (by decide)) (by (show PySem.Env.kindOf _ _ = _); kernel_rfl) gf kf bf .nil pass0 (pa_cons (pe_var (i := 2) rfl (.inl (by kernel_rfl)) (by decide +kernel) (by decide +kernel)) (pa_cons pe_W pa_nil (starEach_cons rfl))) (by decide +kernel) (starEach_cons rfl) rfl) pe_int (plainIx rfl)))) ?_
    obtain ⟨fv, hfv, rfv⟩ := v2.im (i := 2) rfl
    refine ⟨fv, hfv, ?_⟩
    refine (eo_cal (C_seen_of T) (hr.mono (by decide)) (ea_cons (ex_var 1) ea_nil) ⟨l, rfl, hl, hn, rfl⟩).w σ2 G2 H2 _ v2 fun p o G3 H3 x3 hp hp3 hg3 ok => ?_
    obtain ⟨dS, us, rfl, rf⟩ := ok
    have v3 := v2.mono x3
    have e3 := (v2.ext rfl).trans x3
    refine ⟨G3, rs, lkOf l, soOf l, paOf l, .dic [], p, dS, us, fv, rfl, rfv.mono x3.g, hp3, hg3, rf, x3.sub, v3.tb, tok.b.wf, by have := tok.b.len; have := tok.c; omega, .dic _, .dit _, fun T' U C L1 L2 L3 G4 H4 x4 nT gT hT nC gC hC dC res => ?_⟩
    refine ⟨T', _, 1, .ref C, rfl, rfl, .inl (.inl hT), rfl, ?_⟩
    have tot : ExtL K [p] G H1 G4 H4 := e3.L.trans x4
    refine k C _ G4 H4 (tot.ext fun b hb => ?_) (e3.h.free nC) hC gC ⟨_, rfl, int_map_reps _⟩
    simp only [List.mem_singleton] at hb
    subst hb
    exact (v2.ext rfl).h.free hp
end
end DL
set_option maxHeartbeats 1000000
/-! MA7: rows written are read back: the words, what says nothing, rows of a text -/
namespace DL
open PySem PySem.Spec PyProof.Rows L2
/-! ### words by blanks -/
def S1 : List Nat → List Nat → List (List Nat)
  | acc, [] => [acc]
  | acc, c :: r => if c = 32 then acc :: S1 [] r else S1 (acc ++ [c]) r
theorem spl_S1 : ∀ (L acc : List Nat), TL.spl [32] 0 acc L = S1 acc L
  | [], acc => rfl
  | c :: r, acc => by
    rw [S1]
    by_cases h : c = 32
    · rw [if_pos h, TL.spl_hit (by subst h; rfl)]
      show acc :: TL.spl [32] 0 [] r = _
      rw [spl_S1 r []]
    · rw [if_neg h, TL.spl_miss (beq_eq_false_iff_ne.mpr fun z => h (by simpa using z)), spl_S1 r]
theorem S1_app : ∀ (a acc b : List Nat), S1 acc (a ++ 32 :: b) = S1 acc a ++ S1 [] b
  | [], acc, b => by
    show S1 acc (32 :: b) = acc :: S1 [] b
    rw [S1, if_pos rfl]
  | c :: r, acc, b => by
    rw [List.cons_append, S1, S1]
    split
    · rw [S1_app r]; rfl
    · exact S1_app r _ b
theorem S1_free : ∀ (a acc : List Nat), 32 ∉ a → S1 acc a = [acc ++ a]
  | [], acc, _ => by rw [S1, List.append_nil]
  | c :: r, acc, h => by
    simp only [List.mem_cons, not_or] at h
    rw [S1, if_neg (fun z => h.1 z.symm), S1_free r _ h.2, List.append_assoc]; rfl
def wd (L : List Nat) : List (List Nat) := (S1 [] L).filter fun t => decide (t ≠ [])
theorem wd_app (a b : List Nat) : wd (a ++ 32 :: b) = wd a ++ wd b := by unfold wd; rw [S1_app, List.filter_append]
theorem wd_free {a : List Nat} (h : 32 ∉ a) (hn : a ≠ []) : wd a = [a] := by unfold wd; rw [S1_free a [] h]; simp [hn]
/-- the signs ( ) , with blanks about them -/
def gS (c : Nat) : List Nat := if c = 40 ∨ c = 41 ∨ c = 44 then [32, c, 32] else [c]
theorem replL_one (c : Nat) (z : List Nat) : ∀ l : List Nat, StrLaws.replL [c] z l = l.flatMap fun d => if d = c then z else [d]
  | [] => StrLaws.replL_nil
  | d :: r => by
    rw [List.flatMap_cons]
    by_cases h : d = c
    · rw [if_pos h, StrLaws.replL_hit (by simp) (by simp [h])]
      show z ++ StrLaws.replL [c] z r = _
      rw [replL_one c z r]
    · rw [if_neg h, StrLaws.replL_miss (by simp [h]), replL_one c z r]; rfl
theorem cd_rep1 (c : Nat) (x : Str) : cd (rep1 c x) = (cd x).flatMap fun d => if d = c then [32, c, 32] else [d] := by
  unfold rep1
  rw [show cd (Txt.replace x ⟨#[c]⟩ ((" " : Str) ++ ⟨#[c]⟩ ++ " ")) = _ from StrLaws.replace_list (by show 1 ≤ 1; decide)]
  have e : ((" " : Str) ++ ⟨#[c]⟩ ++ " ").cps.toList = [32, c, 32] := by
    show cd _ = _
    rw [cd_app, cd_app]; rfl
  rw [e]
  exact replL_one c _ _
theorem cd_repI (x : Str) : cd (repI x 3) = (cd x).flatMap gS := by
  show cd (rep1 44 (rep1 41 (rep1 40 x))) = _
  rw [cd_rep1, cd_rep1, cd_rep1, List.flatMap_assoc, List.flatMap_assoc]
  congr 1
  funext c
  unfold gS
  by_cases h1 : c = 40
  · subst h1; rfl
  · by_cases h2 : c = 41
    · subst h2; rfl
    · by_cases h3 : c = 44
      · subst h3; rfl
      · simp [h1, h2, h3]
theorem cd_inj {a b : Str} (h : cd a = cd b) : a = b := cd_ext h
theorem map_cd_inj : ∀ {xs ys : List Str}, xs.map cd = ys.map cd → xs = ys
  | [], [], _ => rfl
  | [], _ :: _, h => by simp at h
  | _ :: _, [], h => by simp at h
  | x :: xs, y :: ys, h => by
    rw [List.map_cons, List.map_cons] at h
    injection h with h1 h2
    rw [cd_inj h1, map_cd_inj h2]
theorem wordsOf_cd (x : Str) : (wordsOf x).map cd = wd ((cd x).flatMap gS) := by
  unfold wordsOf
  have h := TL.split_spl (repI x 3) " " (by decide) (TL.kind_ok (by decide +kernel))
  rw [show TL.tl " " = [32] from rfl, spl_S1, show TL.tl (repI x 3) = cd (repI x 3) from rfl, cd_repI] at h
  unfold wd
  rw [← h, List.filter_map]
  congr 1
  refine List.filter_congr fun y _ => ?_
  show decide (y ≠ "") = decide (TL.tl y ≠ [])
  by_cases hy : y = ""
  · subst hy; rfl
  · have : TL.tl y ≠ [] := fun z => hy (cd_inj z)
    simp [hy, this]
/-- a word of a row, alone -/
theorem tok_wd {x : Str} (h : TokR x) : (∀ b, wd ((cd x).flatMap gS ++ 32 :: b) = cd x :: wd b) ∧ wd ((cd x).flatMap gS) = [cd x] := by
  have plain : (∀ c ∈ cd x, c ≠ 40 ∧ c ≠ 41 ∧ c ≠ 44 ∧ c ≠ 32) → cd x ≠ [] → wd ((cd x).flatMap gS) = [cd x] := fun hc hn => by
    have e : (cd x).flatMap gS = cd x := by
      have : ∀ l : List Nat, (∀ c ∈ l, c ≠ 40 ∧ c ≠ 41 ∧ c ≠ 44 ∧ c ≠ 32) → l.flatMap gS = l := fun l => by
        induction l with
        | nil => intro _; rfl
        | cons a r ih =>
          intro hl
          rw [List.flatMap_cons, ih fun c hc => hl c (List.mem_cons_of_mem _ hc)]
          have := hl a List.mem_cons_self
          unfold gS
          rw [if_neg (by rintro (z | z | z); exact this.1 z; exact this.2.1 z; exact this.2.2.1 z)]; rfl
      exact this _ hc
    rw [e]
    exact wd_free (fun z => (hc 32 z).2.2.2 rfl) hn
  have key : wd ((cd x).flatMap gS) = [cd x] := by
    rcases h with (h | h | rfl | rfl) | rfl
    · refine plain (fun c hc => ?_) fun z => by have := h.1; rw [z] at this; simp at this
      have := h.2.2 c hc
      unfold isLet at this
      simp at this; omega
    · refine plain (fun c hc => ?_) fun z => by have := h.1; rw [z] at this; simp at this
      have := h.2.2.1 c hc
      omega
    · decide
    · decide
    · decide
  exact ⟨fun b => by rw [wd_app, key]; rfl, key⟩
theorem toks_wd : ∀ {ts : List Str}, (∀ x ∈ ts, TokR x) → ts ≠ [] → wd ((TL.joinL [32] (ts.map cd)).flatMap gS) = ts.map cd
  | [], _, h => absurd rfl h
  | [a], h, _ => (tok_wd (h a List.mem_cons_self)).2
  | a :: b :: r, h, _ => by
    have ih := toks_wd (ts := b :: r) (fun x hx => h x (List.mem_cons_of_mem _ hx)) (by simp)
    have e : TL.joinL [32] ((a :: b :: r).map cd) = cd a ++ ([32] ++ TL.joinL [32] ((b :: r).map cd)) := rfl
    rw [e, List.flatMap_append, List.flatMap_append]
    show wd ((cd a).flatMap gS ++ 32 :: (TL.joinL [32] ((b :: r).map cd)).flatMap gS) = _
    rw [(tok_wd (h a List.mem_cons_self)).1, ih]; rfl
theorem cd_row (r : Ru) : cd (rowOf r) = TL.joinL [32] (r.toks.map cd) := by
  unfold rowOf
  rw [TL.join_eq]
  exact TL.tl_join " " r.toks
theorem words_row {r : Ru} (h : r.Wf) : wordsOf (rowOf r) = r.toks := by
  obtain ⟨h1, h2, _⟩ := Ru.toks_ok h
  refine map_cd_inj ?_
  rw [wordsOf_cd, cd_row, toks_wd h1 (by intro z; rw [z] at h2; simp at h2)]
theorem head_row (r : Ru) : ∃ t, cd (rowOf r) = 105 :: t := by
  rw [cd_row]
  have : r.toks = ("if" : Str) :: (r.1.toks ++ ("then" : Str) :: deedToks r.2) := rfl
  rw [this, List.map_cons]
  cases (r.1.toks ++ ("then" : Str) :: deedToks r.2).map cd with
  | nil => exact ⟨_, rfl⟩
  | cons a s => exact ⟨_, rfl⟩
theorem mem_tw {α : Type} {p : α → Bool} {c : α} : ∀ {l : List α}, c ∈ l.takeWhile p → p c = true
  | [], h => by cases h
  | a :: r, h => by
    rw [List.takeWhile_cons] at h
    split at h
    · rename_i ha
      rcases List.mem_cons.mp h with rfl | h
      · exact ha
      · exact mem_tw h
    · cases h
theorem strip_ne {x : Str} {c : Nat} {t : List Nat} (h : cd x = c :: t) (hc : c ≠ 32) : Txt.stripChars x " " ≠ "" := by
  intro z
  have hx : x ≠ "" := fun w => by rw [w] at h; cases h
  unfold Txt.stripChars Txt.stripBy at z
  have hlo : stripLo ((" " : Str).cps.contains) true x = 0 := by
    show ((cd x).takeWhile _).length = 0
    rw [h, List.takeWhile_cons, if_neg]
    · rfl
    · intro w
      have : (#[32] : Array Nat).contains c = true := w
      simp at this; exact hc this
  split at z
  · exact hx z
  · unfold stripped at z
    rw [hlo] at z
    have e := congrArg cd z
    rw [show cd (Builtin.Str.strSub x 0 _) = _ from StrLaws.strSub_toList x 0 _, List.drop_zero, show x.cps.toList = c :: t from h] at e
    have hhi : 0 < stripHi ((" " : Str).cps.contains) true x 0 := by
      show 0 < x.length - (((cd x).drop 0).reverse.takeWhile _).length
      rw [List.drop_zero, cd_len]
      have hlen : ((cd x).reverse.takeWhile (" " : Str).cps.contains).length < (cd x).length := by
        rw [← List.length_reverse (as := cd x)]
        refine Nat.lt_of_le_of_ne (List.takeWhile_sublist _).length_le fun w => ?_
        have e2 := (List.takeWhile_sublist (" " : Str).cps.contains (l := (cd x).reverse)).eq_of_length w
        have : (" " : Str).cps.contains c = true := by
          have hm : c ∈ (cd x).reverse := by rw [h]; simp
          rw [← e2] at hm
          exact mem_tw hm
        have h2 : (#[32] : Array Nat).contains c = true := this
        simp at h2; exact hc h2
      omega
    rw [Nat.sub_zero] at e
    obtain ⟨m, hm⟩ : ∃ m, stripHi ((" " : Str).cps.contains) true x 0 = m + 1 := ⟨_, (Nat.succ_pred_eq_of_pos hhi).symm⟩
    rw [hm, List.take_succ_cons] at e
    cases e
theorem nothing_row (r : Ru) : nothingB (rowOf r) = false := by
  obtain ⟨t, h⟩ := head_row r
  unfold nothingB
  have h1 : Txt.startswith (rowOf r) "#" = false := by
    rw [show ("#" : Str) = ⟨#[35]⟩ from rfl, starts_one, h]; rfl
  rw [h1, decide_eq_false (strip_ne h (by decide))]; rfl
theorem row_signs {r : Ru} (h : r.Wf) : 10 ∉ cd (rowOf r) := by
  obtain ⟨h1, _, _⟩ := Ru.toks_ok h
  rw [cd_row]
  have : ∀ ts : List Str, (∀ x ∈ ts, TokR x) → 10 ∉ TL.joinL [32] (ts.map cd) := fun ts => by
    induction ts with
    | nil => intro _ z; cases z
    | cons a r ih =>
      intro h z
      have ha : 10 ∉ cd a := fun w => by
        rcases TokR.signs (h a List.mem_cons_self) 10 w with q | q | q | q | q
        · exact absurd q (by decide)
        · omega
        · cases q
        · cases q
        · cases q
      cases r with
      | nil => exact ha z
      | cons b r =>
        have e : TL.joinL [32] ((a :: b :: r).map cd) = cd a ++ ([32] ++ TL.joinL [32] ((b :: r).map cd)) := rfl
        rw [e, List.mem_append, List.mem_append] at z
        rcases z with z | z | z
        · exact ha z
        · simp at z
        · exact ih (fun x hx => h x (List.mem_cons_of_mem _ hx)) z
  exact this _ h1
end DL
set_option maxHeartbeats 1000000
/-! MA8: the program's fate is the law's; names ranked -/
namespace DL
open PySem PySem.Spec PyProof.Rows L2
theorem rank_anti {a b : Str} (h1 : PySem.W.dataLe false rankK a b = true) (h2 : PySem.W.dataLe false rankK b a = true) : a = b := by
  have e1 : (listOrd itemOrd).blt (PySem.W.keyToks (rankK b)) (PySem.W.keyToks (rankK a)) = false := by
    have : (!(listOrd itemOrd).blt (PySem.W.keyToks (rankK b)) (PySem.W.keyToks (rankK a))) = true := h1
    simpa using this
  have e2 : (listOrd itemOrd).blt (PySem.W.keyToks (rankK a)) (PySem.W.keyToks (rankK b)) = false := by
    have : (!(listOrd itemOrd).blt (PySem.W.keyToks (rankK a)) (PySem.W.keyToks (rankK b))) = true := h2
    simpa using this
  have e := (listOrd itemOrd).total _ _ e1 e2
  have ek : ∀ x : Str, PySem.W.keyToks (rankK x) = [.inl 1, .inl x.length, .inl 1, .inr x.cps.toList, .inl 0] := fun x => by
    unfold rankK
    simp [PySem.W.keyToks, PySem.W.keyToksAll]
  rw [ek, ek] at e
  injection e with _ e
  injection e with _ e
  injection e with _ e
  injection e with e _
  injection e with e
  exact (cd_ext (a := b) (b := a) e).symm
theorem rank_total : PySem.W.TotalLe (PySem.W.dataLe false rankK) := PySem.W.sortLe_total _ _ _
theorem rankSort_perm {a b : List Str} (h : a.Perm b) : rankSort a = rankSort b := by
  unfold rankSort
  have tr := rank_total.trans
  have tt : ∀ x y : Str, (PySem.W.dataLe false rankK x y || PySem.W.dataLe false rankK y x) = true := fun x y => by
    rcases rank_total.total x y with h | h <;> rw [h] <;> simp
  refine List.Perm.eq_of_pairwise (le := fun x y => PySem.W.dataLe false rankK x y = true) (fun x y _ _ h1 h2 => rank_anti h1 h2) (List.pairwise_mergeSort tr tt a) (List.pairwise_mergeSort tr tt b) ?_
  exact ((List.mergeSort_perm a _).trans h).trans (List.mergeSort_perm b _).symm
theorem rankSort_same {a b : List Str} (ha : a.Nodup) (hb : b.Nodup) (h : ∀ x, x ∈ a ↔ x ∈ b) : rankSort a = rankSort b :=
  rankSort_perm ((List.perm_ext_iff_of_nodup ha hb).mpr h)
/-! conditions -/
theorem sat_holds (l : Let) {ms ms' : List Str} (h : ∀ x, x ∈ ms' ↔ x ∈ ms) (c : Cn) : c.sat (lkOf l) ms' = c.holds l ms := by
  refine Cn.ind (P := fun c => c.sat (lkOf l) ms' = c.holds l ms) (fun c hf => ?_) (fun c ih => ?_) (fun c ih => ?_) (fun cs ih => ?_) (fun cs ih => ?_) c
  · cases c <;> first | (cases hf; done) | skip
    all_goals rw [Cn.sat, Cn.holds]
    case has n => exact decide_eq_decide.mpr mem_uniq
    case pair a b => exact decide_eq_decide.mpr mem_uniqP
    case marked n => exact decide_eq_decide.mpr (h n)
    all_goals rfl
  · rw [Cn.sat, Cn.holds, ih]
  · rw [Cn.sat, Cn.holds, ih]
  · rw [Cn.sat, Cn.holds, satAll_eq, holdsAll_eq, List.map_congr_left ih]
  · rw [Cn.sat, Cn.holds, satAny_eq, holdsAny_eq, List.map_congr_left ih]
/-! deeds -/
structure Sim (f : Fa) (p : Fs) (as : List Nat) : Prop where
  a : p.files = f.files
  b : p.passes = f.passes
  c : as = f.acts
  m : ∀ x, x ∈ p.marks ↔ x ∈ f.marks
  d : p.marks.Nodup ∧ f.marks.Nodup
theorem sim_deeds : ∀ (ds : List Dd) (f : Fa) (p : Fs) (as : List Nat), Sim f p as → p.ended = false → Sim (f.deeds ds).1 (p.deeds ds) as ∧ (p.deeds ds).ended = (f.deeds ds).2
  | [], f, p, as, h, he => ⟨h, he⟩
  | d :: r, f, p, as, h, he => by
    rw [Fs.deeds_cons, if_neg (by rw [he]; decide), Fa.deeds]
    cases d with
    | stop =>
      have e : (p.deed .stop).ended = true := rfl
      rw [Fs.deeds_ended e]
      exact ⟨⟨h.a, h.b, h.c, h.m, h.d⟩, rfl⟩
    | mark n =>
      refine sim_deeds r _ _ as ⟨h.a, h.b, h.c, fun x => ?_, nodup_addTo h.d.1, ?_⟩ he
      · show x ∈ addTo p.marks n ↔ x ∈ f.marks.filter _ ++ [n]
        rw [mem_addTo, List.mem_append, List.mem_filter, h.m x]
        by_cases hx : x = n <;> simp [hx]
      · show (f.marks.filter _ ++ [n]).Nodup
        rw [List.nodup_append]
        exact ⟨h.d.2.filter _, by simp, fun x hx y hy => by
          simp at hx hy
          subst hy; exact hx.2⟩
    | unmark n =>
      refine sim_deeds r _ _ as ⟨h.a, h.b, h.c, fun x => ?_, h.d.1.filter _, h.d.2.filter _⟩ he
      show x ∈ p.marks.filter _ ↔ x ∈ f.marks.filter _
      rw [List.mem_filter, List.mem_filter, h.m x]
    | file n => exact sim_deeds r _ _ as ⟨by show addTo p.files n = addTo f.files n; rw [h.a], h.b, h.c, h.m, h.d⟩ he
    | pass n => exact sim_deeds r _ _ as ⟨h.a, by show addTo p.passes n = addTo f.passes n; rw [h.b], h.c, h.m, h.d⟩ he
theorem fsRules_ended {k : Lk} : ∀ (rs : List Ru) (i : Nat) (p : Fs × List Nat), p.1.ended = true → fsRules k i p rs = p
  | [], _, _, _ => rfl
  | r :: rs, i, p, h => by
    rw [fsRules, h]
    exact fsRules_ended rs (i + 1) p h
theorem sim_rules (l : Let) : ∀ (rs : List Ru) (i : Nat) (f : Fa) (p : Fs) (as : List Nat), Sim f p as → p.ended = false → Sim (Fa.rules l i f rs) (fsRules (lkOf l) i (p, as) rs).1 (fsRules (lkOf l) i (p, as) rs).2
  | [], i, f, p, as, h, _ => h
  | r :: rs, i, f, p, as, h, he => by
    rw [Fa.rules, fsRules]
    have hs := sat_holds l h.m r.1
    have hcond : (!(p, as).1.ended && r.1.sat (lkOf l) (p, as).1.marks) = r.1.holds l f.marks := by
      show (!p.ended && r.1.sat (lkOf l) p.marks) = _
      rw [he, hs]; rfl
    rw [hcond]
    by_cases hh : r.1.holds l f.marks = true
    · rw [if_pos hh, if_pos hh]
      have h2 : Sim { f with acts := f.acts ++ [i] } p (as ++ [i]) := ⟨h.a, h.b, by show as ++ [i] = f.acts ++ [i]; rw [h.c], h.m, h.d⟩
      obtain ⟨s1, s2⟩ := sim_deeds r.2 _ _ _ h2 he
      cases hq : ({ f with acts := f.acts ++ [i] } : Fa).deeds r.2 with
      | mk g b =>
        rw [hq] at s1 s2
        cases b with
        | true =>
          rw [fsRules_ended rs (i + 1) _ s2]
          exact s1
        | false => exact sim_rules l rs (i + 1) g _ _ s1 s2
    · rw [if_neg hh, if_neg hh]
      exact sim_rules l rs (i + 1) f p as h he
/-- what the program tells is what the law tells -/
theorem pfate_fate (rs : List Ru) (l : Let) : (pfate rs l).1.files = (fate rs l).files ∧ rankSort (pfate rs l).1.marks = rankSort (fate rs l).marks ∧ (pfate rs l).1.passes = (fate rs l).passes ∧ (pfate rs l).2 = (fate rs l).acts := by
  have h := sim_rules l rs 0 ⟨[], [], [], []⟩ fs0 [] ⟨rfl, rfl, rfl, fun _ => Iff.rfl, List.nodup_nil, List.nodup_nil⟩ rfl
  exact ⟨h.a, rankSort_same h.d.1 h.d.2 h.m, h.b, h.c⟩
end DL
set_option maxHeartbeats 1000000
/-! MA9: the law's data compared; the law's texts -/
namespace DL
open PySem PySem.Spec PyProof.Rows L2
/-! data that can be compared, as it is laid: d, n its depth -/
structure Shp (d : D) (n : Nat) : Prop where
  p : pureD d = true
  c : (toP d).canLay0 = true
  d : (toP d).depth ≤ n
theorem Shp.up {d : D} {m n : Nat} (h : Shp d m) (le : m ≤ n) : Shp d n := ⟨h.p, h.c, Nat.le_trans h.d le⟩
theorem shp_str {x : Str} (h : TokS x) (n : Nat) : Shp (.str x) n := ⟨rfl, by rw [toP, PyData.canLay0]; exact h, by rw [toP, PyData.depth]; exact Nat.zero_le _⟩
theorem shp_int (i : Int) (n : Nat) : Shp (.int i) n := ⟨rfl, by rw [toP, PyData.canLay0], by rw [toP, PyData.depth]; exact Nat.zero_le _⟩
theorem shps {n : Nat} : ∀ {ds : List D}, (∀ d ∈ ds, Shp d n) → puresD ds = true ∧ PyData.canLayAll0 (toPs ds) = true ∧ PyData.depthAll (toPs ds) ≤ n
  | [], _ => ⟨by rw [puresD], by rw [toPs, PyData.canLayAll0], by rw [toPs, PyData.depthAll]; exact Nat.zero_le _⟩
  | d :: r, h => by
    obtain ⟨a, b, c⟩ := shps (ds := r) fun x hx => h x (List.mem_cons_of_mem _ hx)
    have hd := h d List.mem_cons_self
    exact ⟨by rw [puresD, hd.p, a]; rfl, by rw [toPs, PyData.canLayAll0, hd.c, b]; rfl, by rw [toPs, PyData.depthAll]; exact Nat.max_le.mpr ⟨hd.d, c⟩⟩
theorem shp_lst {ds : List D} {n : Nat} (h : ∀ d ∈ ds, Shp d n) : Shp (.lst ds) (n + 1) := by
  obtain ⟨a, b, c⟩ := shps h
  exact ⟨by rw [pureD]; exact a, by rw [toP, PyData.canLay0]; exact b, by rw [toP, PyData.depth]; omega⟩
theorem shp_tup {ds : List D} {n : Nat} (h : ∀ d ∈ ds, Shp d n) : Shp (.tup ds) (n + 1) := by
  obtain ⟨a, b, c⟩ := shps h
  exact ⟨by rw [pureD]; exact a, by rw [toP, PyData.canLay0]; exact b, by rw [toP, PyData.depth]; omega⟩
theorem Shp.sh {d : D} {n : Nat} (h : Shp d n) (hn : n ≤ 64) : SeqAt.shaped (toP d) = true := by
  unfold SeqAt.shaped
  rw [h.c, decide_eq_true (Nat.le_trans h.d hn)]; rfl
theorem Shp.eq {d : D} {n : Nat} (h : Shp d n) : PyData.eqv (toP d) (toP d) = true := SeqAt.eqv_refl _ h.c
theorem shp_strs {ws : List Str} (h : ∀ x ∈ ws, NameS x) (n : Nat) : Shp (.lst (ws.map .str)) (n + 1) := shp_lst fun d hd => by
  obtain ⟨x, hx, rfl⟩ := List.mem_map.mp hd
  exact shp_str (h x hx).tok n
theorem shp_tstrs {ws : List Str} (h : ∀ x ∈ ws, TokS x) (n : Nat) : Shp (.tup (ws.map .str)) (n + 1) := shp_tup fun d hd => by
  obtain ⟨x, hx, rfl⟩ := List.mem_map.mp hd
  exact shp_str (h x hx) n
theorem encL_fact {c : Cn} (h : c.isFact = true) : c.encL = .tup (c.toks.map .str) := by
  cases c <;> first | (cases h; done) | simp only [Cn.encL, Cn.toks, List.map_cons, List.map_nil]
theorem shp_encL (c : Cn) : c.Wf → Shp c.encL (2 * c.deep + 1) := by
  refine Cn.ind (P := fun c => c.Wf → Shp c.encL (2 * c.deep + 1)) (fun c hf w => ?_) (fun c ih w => ?_) (fun c ih w => ?_) (fun l ih w => ?_) (fun l ih w => ?_) c
  · rw [encL_fact hf]
    exact (shp_tstrs (fun x hx => ((toks_ok c w).1 x hx).tok) 0).up (by omega)
  · rw [Cn.encL, Cn.deep]
    refine (shp_tup (n := 2 * c.deep + 1) fun d hd => ?_).up (by omega)
    simp only [List.mem_cons, List.not_mem_nil, or_false] at hd
    rcases hd with rfl | rfl
    · exact shp_str (by unfold TokS; decide +kernel) _
    · exact ih w.not
  · rw [Cn.encL, Cn.deep]
    refine (shp_tup (n := 2 * c.deep + 1) fun d hd => ?_).up (by omega)
    simp only [List.mem_cons, List.not_mem_nil, or_false] at hd
    rcases hd with rfl | rfl
    · exact shp_str (by unfold TokS; decide +kernel) _
    · exact ih w.br
  · rw [Cn.encL, encLs_map, Cn.deep]
    refine (shp_tup (n := 2 * Cn.deepL l + 2) fun d hd => ?_).up (by omega)
    simp only [List.mem_cons, List.not_mem_nil, or_false] at hd
    rcases hd with rfl | rfl
    · exact shp_str (by unfold TokS; decide +kernel) _
    · refine shp_lst fun d hd => ?_
      obtain ⟨c, hc, rfl⟩ := List.mem_map.mp hd
      exact (ih c hc (w.and.2 c hc)).up (by have := deepL_mem l c hc; omega)
  · rw [Cn.encL, encLs_map, Cn.deep]
    refine (shp_tup (n := 2 * Cn.deepL l + 2) fun d hd => ?_).up (by omega)
    simp only [List.mem_cons, List.not_mem_nil, or_false] at hd
    rcases hd with rfl | rfl
    · exact shp_str (by unfold TokS; decide +kernel) _
    · refine shp_lst fun d hd => ?_
      obtain ⟨c, hc, rfl⟩ := List.mem_map.mp hd
      exact (ih c hc (w.or.2 c hc)).up (by have := deepL_mem l c hc; omega)
theorem shp_rule {r : Ru} (h : r.Wf) : Shp r.encL 14 := by
  unfold Ru.encL
  refine shp_tup (n := 13) fun d hd => ?_
  simp only [List.mem_cons, List.not_mem_nil, or_false] at hd
  rcases hd with rfl | rfl
  · exact (shp_encL r.1 h.c).up (by have := h.k.2; omega)
  · refine (shp_lst (n := 1) fun d hd => ?_).up (by decide)
    obtain ⟨e, he, rfl⟩ := List.mem_map.mp hd
    exact shp_tstrs (fun x hx => (Dd.toks_ok (h.d e he) x hx).tok) 0
theorem shp_rules {rs : List Ru} (h : ∀ r ∈ rs, r.Wf) : Shp (.lst (rs.map Ru.encL)) 15 := shp_lst fun d hd => by
  obtain ⟨r, hr, rfl⟩ := List.mem_map.mp hd
  exact shp_rule (h r hr)
/-! names within a fate -/
structure FsN (f : Fs) : Prop where
  a : ∀ x ∈ f.files, NameS x
  b : ∀ x ∈ f.marks, NameS x
  c : ∀ x ∈ f.passes, NameS x
theorem FsN.deed {f : Fs} (h : FsN f) {d : Dd} (hd : d.fine) : FsN (f.deed d) := by
  have ad : ∀ {l : List Str} {n : Str}, (∀ x ∈ l, NameS x) → NameS n → ∀ x ∈ addTo l n, NameS x := fun h1 h2 x hx => by
    rcases mem_addTo.mp hx with q | q
    · exact h1 x q
    · rw [q]; exact h2
  cases d with
  | mark n => exact ⟨h.a, ad h.b hd, h.c⟩
  | unmark n => exact ⟨h.a, fun x hx => h.b x (List.mem_filter.mp hx).1, h.c⟩
  | file n => exact ⟨ad h.a hd, h.b, h.c⟩
  | pass n => exact ⟨h.a, h.b, ad h.c hd⟩
  | stop => exact ⟨h.a, h.b, h.c⟩
theorem FsN.deeds : ∀ {ds : List Dd} {f : Fs}, FsN f → (∀ d ∈ ds, d.fine) → FsN (f.deeds ds)
  | [], f, h, _ => h
  | d :: r, f, h, hd => by
    rw [Fs.deeds_cons]
    refine FsN.deeds (ds := r) ?_ fun e he => hd e (List.mem_cons_of_mem _ he)
    split
    · exact h
    · exact h.deed (hd d List.mem_cons_self)
theorem FsN.rules {k : Lk} : ∀ {rs : List Ru} {i : Nat} {p : Fs × List Nat}, FsN p.1 → (∀ r ∈ rs, r.Wf) → FsN (fsRules k i p rs).1
  | [], i, p, h, _ => h
  | r :: rs, i, p, h, hw => by
    rw [fsRules]
    refine FsN.rules (rs := rs) ?_ fun x hx => hw x (List.mem_cons_of_mem _ hx)
    split
    · exact h.deeds (hw r List.mem_cons_self).d
    · exact h
theorem pfate_names {rs : List Ru} (h : ∀ r ∈ rs, r.Wf) (l : Let) : FsN (pfate rs l).1 := FsN.rules ⟨fun x hx => (by cases hx), fun x hx => (by cases hx), fun x hx => (by cases hx)⟩ h
theorem rankSort_mem {x : Str} {ws : List Str} : x ∈ rankSort ws ↔ x ∈ ws := (List.mergeSort_perm ws _).mem_iff
/-- what sort tells, as data -/
def toldD (rs : List Ru) (l : Let) : D := .tup [.lst ((pfate rs l).1.files.map .str), .lst ((rankSort (pfate rs l).1.marks).map .str), .lst ((pfate rs l).1.passes.map .str)]
def actsD (rs : List Ru) (l : Let) : D := .lst ((pfate rs l).2.map fun i => .int (i : Nat))
theorem fateD_eq (rs : List Ru) (l : Let) : fateD (fate rs l) = .tup [toldD rs l, actsD rs l] := by
  obtain ⟨h1, h2, h3, h4⟩ := pfate_fate rs l
  unfold fateD toldD actsD
  rw [h1, h2, h3, h4]
theorem shp_told {rs : List Ru} (h : ∀ r ∈ rs, r.Wf) (l : Let) : Shp (toldD rs l) 2 := by
  have hn := pfate_names h l
  refine shp_tup (n := 1) fun d hd => ?_
  simp only [List.mem_cons, List.not_mem_nil, or_false] at hd
  rcases hd with rfl | rfl | rfl
  · exact shp_strs hn.a 0
  · exact shp_strs (fun x hx => hn.b x (rankSort_mem.mp hx)) 0
  · exact shp_strs hn.c 0
theorem shp_acts (rs : List Ru) (l : Let) : Shp (actsD rs l) 1 := shp_lst fun d hd => by
  obtain ⟨i, _, rfl⟩ := List.mem_map.mp hd
  exact shp_int _ _
theorem shp_let {l : Let} (h : l.Ok) : Shp l.enc 2 := by
  refine shp_tup (n := 1) fun d hd => ?_
  simp only [List.mem_cons, List.not_mem_nil, or_false] at hd
  rcases hd with rfl | rfl | rfl
  · exact shp_str h.f.tok _
  · exact shp_strs h.w 0
  · exact shp_int _ _
/-! the text with a row that says nothing -/
theorem split_rows {rs : List Ru} (hw : ∀ r ∈ rs, r.Wf) (hne : rs ≠ []) : Txt.split (textOf rs) "\n" = rs.map rowOf :=
  TL.split_join (s := 10) (S := []) rfl (by decide +kernel) (by simpa using hne) fun p hp => by
    obtain ⟨r, hr, rfl⟩ := List.mem_map.mp hp
    exact row_signs (hw r hr)
theorem rowsR_all : ∀ {rs : List Ru}, (∀ r ∈ rs, r.Wf) → RowsR (rs.map rowOf) rs
  | [], _ => .nil
  | r :: rs, h => by
    have w := h r List.mem_cons_self
    have hl := rowOf_len w
    refine .row (nothing_row r) (by omega) ?_ (words_row w) w (rowsR_all fun x hx => h x (List.mem_cons_of_mem _ hx))
    have e : (repI (rowOf r) 3).length ≤ 3 * (rowOf r).length := by
      rw [cd_len, cd_len, cd_repI]
      have := flat_le (n := 3) (g := gS) (l := cd (rowOf r)) fun c _ => by unfold gS; split <;> simp
      omega
    omega
theorem rowsR_ins {z : Str} (hz : nothingB z = true) (hzl : z.length ≤ 1000) : ∀ {rows : List Str} {rs : List Ru} (i : Nat), RowsR rows rs → RowsR (rows.take i ++ [z] ++ rows.drop i) rs
  | rows, rs, 0, h => by simpa using RowsR.skip hz hzl h
  | [], _, i + 1, h => by simpa using RowsR.skip hz hzl h
  | x :: xs, _, i + 1, h => by
    cases h with
    | skip a b c => exact .skip a b (rowsR_ins hz hzl i c)
    | row a b c d e f => exact .row a b c d e (rowsR_ins hz hzl i f)
def nothings : List Str := ["", "# if any then stop", "   ", "#"]
theorem nothings_ok : ∀ z ∈ nothings, nothingB z = true ∧ z.length ≤ 1000 ∧ 10 ∉ cd z := by decide +kernel
theorem spoken_in {rs : List Ru} {S : List Str} (h : ∀ r ∈ rs, r.Ok S) : ∀ x ∈ spokenN rs, x ∈ S := by
  intro x hx
  unfold spokenN at hx
  obtain ⟨f, hf, hx⟩ := List.mem_flatMap.mp hx
  obtain ⟨r, hr, hf⟩ := List.mem_flatMap.mp hf
  have fine := (h r hr).c.f f hf
  have hff := facts_fact r.1 f hf
  unfold spokenF at hx
  cases f <;> first | (cases hff; done) | skip
  all_goals simp only [Cn.toks] at hx
  all_goals (split at hx <;> first | (simp at hx; done) | skip)
  all_goals first | (exfalso; rename_i h8; exact absurd h8 (by decide +kernel)) | skip
  all_goals simp only [List.mem_cons, List.not_mem_nil, or_false] at hx
  · rw [hx]; exact fine.2
  · rw [hx]; exact fine.2
  · rw [hx]; exact fine.2
  · rcases hx with rfl | rfl
    · exact fine.2.2.1
    · exact fine.2.2.2
/-- the law's text says the rules -/
theorem txt_ok {rs : List Ru} {S : List Str} (h : ∀ r ∈ rs, r.Ok S) (hS : S.length ≤ 3) (hl : rs.length ≤ 100) {z : Str} (hz : z ∈ nothings) (i : Nat) : TxtOk (Txt.join "\n" ((rs.map rowOf).take i ++ [z] ++ (rs.map rowOf).drop i)) rs := by
  obtain ⟨z1, z2, z3⟩ := nothings_ok z hz
  have hw : ∀ r ∈ rs, r.Wf := fun r hr => (h r hr).wf
  obtain ⟨rows, hrows⟩ : ∃ rows, (rs.map rowOf).take i ++ [z] ++ (rs.map rowOf).drop i = rows := ⟨_, rfl⟩
  have hmem : ∀ p ∈ rows, p = z ∨ ∃ r ∈ rs, p = rowOf r := fun p hp => by
    rw [← hrows, List.mem_append, List.mem_append] at hp
    rcases hp with (hp | hp) | hp
    · obtain ⟨r, hr, rfl⟩ := List.mem_map.mp (List.mem_of_mem_take hp); exact .inr ⟨r, hr, rfl⟩
    · exact .inl (List.mem_singleton.mp hp)
    · obtain ⟨r, hr, rfl⟩ := List.mem_map.mp (List.mem_of_mem_drop hp); exact .inr ⟨r, hr, rfl⟩
  have hlen : rows.length ≤ 101 := by
    rw [← hrows, List.length_append, List.length_append, List.length_take, List.length_drop, List.length_map]
    simp; omega
  have hsp : Txt.split (Txt.join "\n" rows) "\n" = rows := TL.split_join (s := 10) (S := []) rfl (by decide +kernel) (by rw [← hrows]; simp) fun p hp => by
    rcases hmem p hp with rfl | ⟨r, hr, rfl⟩
    · exact z3
    · exact row_signs (hw r hr)
  have hjl := join_len (sep := "\n") (l := rows) (n := 1000) fun p hp => by
    rcases hmem p hp with rfl | ⟨r, hr, rfl⟩
    · exact z2
    · have := rowOf_len (hw r hr); omega
  have e1 : ("\n" : Str).length = 1 := rfl
  rw [e1] at hjl
  rw [hrows]
  refine ⟨by rw [sizeLine_eq]; omega, ?_, by rw [hsp]; omega, ?_⟩
  · rw [hsp, ← hrows]
    exact rowsR_ins z1 z2 i (rowsR_all hw)
  · exact Nat.le_trans (nodup_sub_len (nodup_uniq _) fun x hx => spoken_in h x (mem_uniq.mp hx)) (by omega)
theorem FsB.deeds : ∀ {ds : List Dd} {f : Fs} {n : Nat}, FsB f n → (∀ d ∈ ds, d.fine) → FsB (f.deeds ds) (n + ds.length)
  | [], f, n, h, _ => h
  | d :: r, f, n, h, hd => by
    rw [Fs.deeds_cons]
    have h2 : FsB (if f.ended = true then f else f.deed d) (n + 1) := by
      split
      · exact h.up (by omega)
      · exact h.deed (hd d List.mem_cons_self)
    exact (FsB.deeds (ds := r) h2 fun e he => hd e (List.mem_cons_of_mem _ he)).up (by rw [List.length_cons]; omega)
theorem FsB.rules {k : Lk} : ∀ {rs : List Ru} {i n : Nat} {p : Fs × List Nat}, FsB p.1 n → (∀ r ∈ rs, r.Wf) → FsB (fsRules k i p rs).1 (n + 6 * rs.length)
  | [], i, n, p, h, _ => h
  | r :: rs, i, n, p, h, hw => by
    rw [fsRules]
    have wr := hw r List.mem_cons_self
    have h2 : FsB (if (!p.1.ended && r.1.sat k p.1.marks) = true then (p.1.deeds r.2, p.2 ++ [i]) else p).1 (n + 6) := by
      split
      · exact (h.deeds wr.d).up (by have := wr.n.2; omega)
      · exact h.up (by omega)
    exact (FsB.rules (rs := rs) h2 fun x hx => hw x (List.mem_cons_of_mem _ hx)).up (by rw [List.length_cons]; omega)
theorem acts_le {k : Lk} : ∀ {rs : List Ru} {i : Nat} {p : Fs × List Nat}, (fsRules k i p rs).2.length ≤ p.2.length + rs.length
  | [], i, p => Nat.le_refl _
  | r :: rs, i, p => by
    rw [fsRules]
    have := acts_le (k := k) (rs := rs) (i := i + 1) (p := if (!p.1.ended && r.1.sat k p.1.marks) = true then (p.1.deeds r.2, p.2 ++ [i]) else p)
    have h2 : (if (!p.1.ended && r.1.sat k p.1.marks) = true then (p.1.deeds r.2, p.2 ++ [i]) else p).2.length ≤ p.2.length + 1 := by
      split
      · simp
      · omega
    rw [List.length_cons]; omega
theorem pfate_b {rs : List Ru} (h : ∀ r ∈ rs, r.Wf) (l : Let) : FsB (pfate rs l).1 (6 * rs.length) := (FsB.rules (n := 0) ⟨Nat.zero_le _, Nat.zero_le _, Nat.zero_le _, fun x hx => (by cases hx)⟩ h).up (by omega)
theorem pfate_acts (rs : List Ru) (l : Let) : (pfate rs l).2.length ≤ rs.length := by
  have := acts_le (k := lkOf l) (rs := rs) (i := 0) (p := (fs0, []))
  simpa [pfate] using this
end DL
set_option maxHeartbeats 400000
/-! LF8: what the law asks of a text and a letter -/
namespace DL
open PySem PySem.Spec PyProof.Rows L2
def S_sortD : Spec := fun ds Φ => ∃ (x : Str) (rs : List Ru) (l : Let), ds = [.str x, l.enc] ∧ TxtOk x rs ∧ l.Ok ∧ l.words.length ≤ 1000 ∧ Φ (toldD rs l)
def S_actingD : Spec := fun ds Φ => ∃ (x : Str) (rs : List Ru) (l : Let), ds = [.str x, l.enc] ∧ TxtOk x rs ∧ l.Ok ∧ l.words.length ≤ 1000 ∧ Φ (actsD rs l)
def S__law_sort_right : Spec := fun ds Φ => ∃ (x : Str) (rs : List Ru) (l : Let), ds = [.str x, .lst (rs.map Ru.encL), l.enc] ∧ TxtOk x rs ∧ (∀ r ∈ rs, r.Wf) ∧ rs.length ≤ 100 ∧ l.Ok ∧ l.words.length ≤ 1000 ∧ Φ (.bl true)
/-- the three lists, lent -/
def lendL (G : Hp) (L1 L2 L3 C : Addr) (o1 o2 o3 o4 : HO) : Hp := upd (upd (upd (upd G L1 o1) L2 o2) L3 o3) C o4
section
variable {P : Program} {w : World} {K : PySem.W.Frag} {mg : Str → Option Value} {base : Heap} (T : Tx K mg) (TB : ∀ p ∈ sites, LamX.TabB base mg (He.cT K p.1).1 (He.cT K p.1).2)
include T TB
theorem C_sortD : Cal P w K mg base "sort" 29 ["rules", "letter"] S_sortD := by
  obtain ⟨f, fd, F, g, kp, b⟩ := (C_sort (P := P) (w := w) (base := base) T TB).ex
  refine ⟨f, fd, F.imp fun vs H Q Ew h1 => ?_, g, kp, b⟩
  obtain ⟨G, ds, Φ, sg, tb, r, q, k2⟩ := h1
  obtain ⟨x, rs, l, rfl, tok, hl, hn, hΦ⟩ := q
  cases r with | cons r1 r => cases r with | cons r2 r =>
  cases r
  refine ⟨G, x, rs, l, _, _, rfl, r1, r2, sg, tb, tok, hl, hn, fun U L1 L2 L3 G' H' xx res => ?_⟩
  obtain ⟨⟨n1, n2, n3, n4⟩, rt, ⟨q1, q2, q3⟩, ⟨g1, g2, g3, g4⟩, d1, d2, d3⟩ := res
  have e1 := xx.lend q1 n2
  have e2 := e1.lend q2 n3
  have e3 := e2.lend q3 n4
  have e4 := e3.lend rt n1
  refine k2 (toldD rs l) (.ref U) _ H' hΦ e4 (.tup (.inl (.inl upd_same)) (.cons (.lst ?_ .strs) (.cons (.lst ?_ .strs) (.cons (.lst ?_ .strs) .nil))))
  · have u1 : L1 ≠ U := fun z => by rw [z, rt] at q1; cases q1
    rw [upd_ne u1, upd_ne d2, upd_ne d1, upd_same]
  · have u2 : L2 ≠ U := fun z => by rw [z, rt] at q2; cases q2
    rw [upd_ne u2, upd_ne d3, upd_same]
  · have u3 : L3 ≠ U := fun z => by rw [z, rt] at q3; cases q3
    rw [upd_ne u3, upd_same]
theorem C_actingD : Cal P w K mg base "acting" 29 ["rules", "letter"] S_actingD := (C_acting T TB).cal fun ds Φ h => by
  obtain ⟨x, rs, l, rfl, tok, hl, hn, hΦ⟩ := h
  exact ⟨_, _, ⟨x, rs, l, rfl, tok, hl, hn, rfl⟩, hΦ, fun G' a o h ok => by obtain ⟨vs, rfl, r⟩ := ok; exact .lst h r⟩
theorem C__law_sort_right : Cal P w K mg base "_law_sort_right" 31 ["_law_text_here", "_law_rules_here", "_law_letter_here"] S__law_sort_right := by
  obtain ⟨fd, F⟩ := T.d__law_sort_right
  refine ⟨_, fd, F.ok sc__law_sort_right (fun vs H Q Ew h => ?_) (fun cdv A outer s H vs Q Ew hr h => ?_), T.g__law_sort_right, F.kp, F.bindsN (fun _ _ _ _ _ _ us hl => match us, hl with | [_, _, _], _ => rfl)⟩
  · obtain ⟨G, ds, Φ, _, _, r, ⟨x, rs, l, rfl, _⟩, _⟩ := h
    rw [← r.length]; rfl
  · obtain ⟨G, ds, Φ, sg, tb, r, ⟨x, rs, l, rfl, tok, hw, hrl, hl, hn, hΦ⟩, k2⟩ := h
    refine ⟨_, PSs.nox pss_W, ?_⟩
    have hN : (cxOf CX0 P w K mg base ["_law_text_here", "_law_rules_here", "_law_letter_here", "_law_handed", "_law_told_here", "_law_some", "_law_due", "_law_acts_due", "_law_one"] "_law_sort_right" (defScope s__law_sort_right) (He.ga K "_law_sort_right") cdv A outer s H Ew).nox.N.Nodup := sc__law_sort_right.nd
    have v0 := env_start (X := (cxOf CX0 P w K mg base ["_law_text_here", "_law_rules_here", "_law_letter_here", "_law_handed", "_law_told_here", "_law_some", "_law_due", "_law_acts_due", "_law_one"] "_law_sort_right" (defScope s__law_sort_right) (He.ga K "_law_sort_right") cdv A outer s H Ew).nox) (N := ["_law_text_here", "_law_rules_here", "_law_letter_here", "_law_handed", "_law_told_here", "_law_some", "_law_due", "_law_acts_due", "_law_one"]) sg tb r (by show 3 ≤ 9; decide)
    obtain ⟨σ, hσ⟩ : ∃ σ, L2.start ["_law_text_here", "_law_rules_here", "_law_letter_here", "_law_handed", "_law_told_here", "_law_some", "_law_due", "_law_acts_due", "_law_one"] vs = σ := ⟨_, rfl⟩
    rw [hσ] at v0 ⊢
    have hb := pfate_b hw l
    have hacts := pfate_acts rs l
    show ssW _ (_ :: _) _ _ _
    -- _law_handed
    refine ss_stepE (N := ⟨fun Γ => Γ = [.im (.str x), .im (.lst (rs.map Ru.encL)), .im l.enc, .im l.enc, .un, .un, .un, .un, .un], fun _ _ => False, fun _ => False, fun _ => False⟩) (sx_set 3 (ex_tup (ea_cons (ex_ixT (z := .str l.from_) (ex_var 2) ex_int (atI_nat (j := 0) rfl)) (ea_cons ((eo_list (ex_ixT (z := .lst (l.words.map .str)) (ex_var 2) ex_int (atI_nat (j := 1) rfl)) T.b_list).ex fz_l) (ea_cons (ex_ixT (z := .int l.size) (ex_var 2) ex_int (atI_nat (j := 2) rfl)) ea_nil)))) rfl) v0 fun Γ1 σ1 G1 H1 q1 s1 v1 => ?_
    subst q1
    -- _law_told_here, _law_some
    obtain ⟨fS, fdS, FS, gS, kS, bS⟩ := (C_sort (P := P) (w := w) (base := base) T TB).ex
    show ssW _ (_ :: _) _ _ _
    refine ssW_of (pss_cons (ps_par rfl hN (i := 4) (j := 5) rfl rfl (by decide) (by kernel_rfl) (by kernel_rfl) (pa_cons (pe_call FS (hr.mono (by decide)) (by (show PySem.Env.kindOf _ _ = _); kernel_rfl) gS kS bS .nil pass0 (pa_cons (pe_var (i := 0) rfl (.inl (by kernel_rfl)) (by decide +kernel) (by decide +kernel)) (pa_cons (pe_var (i := 3) rfl (.inl (by kernel_rfl)) (by decide +kernel) (by decide +kernel)) pa_nil)) (by decide +kernel) (starEach_cons rfl) rfl) (pa_cons pe_W pa_nil (starEach_cons rfl)) (starEach_cons rfl)) (by kernel_rfl)) pss_W) ?_
    obtain ⟨tv, ht, rt0⟩ := v1.im (i := 0) rfl
    obtain ⟨lv, hlv, rl0⟩ := v1.im (i := 3) rfl
    refine ⟨tv, ht, lv, hlv, ⟨G1, x, rs, l, tv, lv, rfl, rt0, rl0, v1.sub, v1.tb, tok, hl, hn, fun U L1 L2 L3 G2 H2 x2 res => ?_⟩⟩
    have v2 := v1.mono x2
    refine (eo_cal (C_acting T TB) (hr.mono (by decide)) (ea_cons (ex_var 0) (ea_cons (ex_var 3) ea_nil)) ⟨x, rs, l, rfl, tok, hl, hn, rfl⟩).w σ1 G2 H2 _ v2 fun C oC G3 H3 x3 hC2 hC3 gC3 okC => ⟨_, _, rfl, ?_⟩
    obtain ⟨cs, rfl, rcs⟩ := okC
    obtain ⟨⟨n1, n2, n3, n4⟩, rt, ⟨q1, q2, q3⟩, ⟨g1, g2, g3, g4⟩, d1, d2, d3⟩ := res
    have v3 := v2.mono x3
    have tot3 := v3.ext rfl
    have back : ∀ {b : Addr}, H1 b = none → H b = none := fun h => (v1.ext rfl).h.free h
    have rt3 := x3.h.at rt
    have q13 := x3.h.at q1
    have q23 := x3.h.at q2
    have q33 := x3.h.at q3
    have g13 := x3.fr _ _ q1 g2
    have g23 := x3.fr _ _ q2 g3
    have g33 := x3.fr _ _ q3 g4
    have nU : U ≠ L1 ∧ U ≠ L2 ∧ U ≠ L3 ∧ U ≠ C := ⟨(fun z => by rw [z, q1] at rt; cases rt), (fun z => by rw [z, q2] at rt; cases rt), (fun z => by rw [z, q3] at rt; cases rt), (fun z => by rw [z, hC2] at rt; cases rt)⟩
    have nC : C ≠ L1 ∧ C ≠ L2 ∧ C ≠ L3 := ⟨(fun z => by rw [z, q1] at hC2; cases hC2), (fun z => by rw [z, q2] at hC2; cases hC2), (fun z => by rw [z, q3] at hC2; cases hC2)⟩
    have tot4 := tot3.lend rt3 (back n1)
    have v4 := (v3.base (noOwns_by rfl)).lend (noOwns_by rfl) rt3
    obtain ⟨G4, hG4⟩ : ∃ G4, upd G3 U (.tup [.ref L1, .ref L2, .ref L3]) = G4 := ⟨_, rfl⟩
    have gU4 : G4 U = some (.tup [.ref L1, .ref L2, .ref L3]) := by rw [← hG4, upd_same]
    have g14 : G4 L1 = none := by rw [← hG4, upd_ne (fun z => nU.1 z.symm)]; exact g13
    have g24 : G4 L2 = none := by rw [← hG4, upd_ne (fun z => nU.2.1 z.symm)]; exact g23
    have g34 : G4 L3 = none := by rw [← hG4, upd_ne (fun z => nU.2.2.1 z.symm)]; exact g33
    have gC4 : G4 C = none := by rw [← hG4, upd_ne (fun z => nU.2.2.2 z.symm)]; exact gC3
    rw [hG4] at tot4 v4
    have hfresh : ∀ b ∈ [L1, L2, L3, C], H b = none := fun b hb => by
      simp only [List.mem_cons, List.not_mem_nil, or_false] at hb
      rcases hb with rfl | rfl | rfl | rfl
      · exact back n2
      · exact back n3
      · exact back n4
      · exact back (x2.h.free hC2)
    have v5 := (v4.setRaw 4 (.ref U)).setRaw 5 (.ref C)
    -- _law_due, _law_acts_due
    show ssW _ (_ :: _) _ _ _
    refine ss_step (N := ⟨fun Γ => Γ = [.im (.str x), .im (.lst (rs.map Ru.encL)), .im l.enc, .im l.enc, .im (.raw (.ref U)), .im (.raw (.ref C)), .im (toldD rs l), .im (actsD rs l), .un], fun _ _ => False, fun _ => False, fun _ => False⟩) (sx_asg (EX.to (ex_cal (C__law_sort T) (hr.mono (by decide)) (ea_cons (ex_var 1) (ea_cons (ex_var 2) ea_nil)) ⟨rs, l, rfl, hrl, hw, hl, hn, rfl⟩) (fateD_eq rs l)) (tg_tup (tgs_cons (tg_name 6) (tgs_cons (tg_name 7) tgs_nil)) rfl) rfl (hw := by kernel_rfl)) v5 fun Γ6 σ6 G6 H6 e6 x6 v6 => ?_
    subst e6
    have q16 := x6.h.at q13
    have q26 := x6.h.at q23
    have q36 := x6.h.at q33
    have qC6 := x6.h.at hC3
    have g16 := x6.fr _ _ q13 g14
    have g26 := x6.fr _ _ q23 g24
    have g36 := x6.fr _ _ q33 g34
    have gC6 := x6.fr _ _ hC3 gC4
    have gU6 := x6.g _ _ gU4
    have tot6 := tot4.trans x6
    have ecs : cs = (pfate rs l).2.map fun i => V.int (i : Nat) := by
      have : ∀ (ns : List Nat) (us : List V), Reps K G3 (ns.map fun i => D.int (i : Nat)) us → us = ns.map fun i => V.int (i : Nat) := fun ns => by
        induction ns with
        | nil => intro us h; cases h; rfl
        | cons n r ih => intro us h; cases h with | cons a b => cases a; rw [ih _ b]; rfl
      exact this _ _ rcs
    subst ecs
    -- all is lent for a test
    have lentE : ∀ (Hx : Hp), Env K ⟨G4, H3, none⟩ [.im (.str x), .im (.lst (rs.map Ru.encL)), .im l.enc, .im l.enc, .im (.raw (.ref U)), .im (.raw (.ref C)), .im (toldD rs l), .im (actsD rs l), .un] σ6 G6 Hx → Hx L1 = some (.lst ((pfate rs l).1.files.map .str)) → Hx L2 = some (.lst ((rankSort (pfate rs l).1.marks).map .str)) → Hx L3 = some (.lst ((pfate rs l).1.passes.map .str)) → Hx C = some (.lst ((pfate rs l).2.map fun i => V.int (i : Nat))) →
        ∃ Gx Ex, Same G6 Gx ∧ Env K Ex [.im (.str x), .im (.lst (rs.map Ru.encL)), .im l.enc, .im l.enc, .im (toldD rs l), .im (actsD rs l), .im (toldD rs l), .im (actsD rs l), .un] σ6 Gx Hx := fun Hx vx h1 h2 h3 h4 => by
      have w1 := vx.lend (noOwns_by rfl) h1
      have w2 := w1.lend (noOwns_by rfl) h2
      have w3 := w2.lend (noOwns_by rfl) h3
      have w4 := w3.lend (noOwns_by rfl) h4
      obtain ⟨a1, b1⟩ := same_lend vx.sub h1
      obtain ⟨a2, b2⟩ := same_lend b1 h2
      obtain ⟨a3, b3⟩ := same_lend b2 h3
      obtain ⟨a4, b4⟩ := same_lend b3 h4
      have sg := a1.trans (a2.trans (a3.trans a4))
      obtain ⟨Gx, hGx⟩ : ∃ Gx, upd (upd (upd (upd G6 L1 (.lst ((pfate rs l).1.files.map .str))) L2 (.lst ((rankSort (pfate rs l).1.marks).map .str))) L3 (.lst ((pfate rs l).1.passes.map .str))) C (.lst ((pfate rs l).2.map fun i => V.int (i : Nat))) = Gx := ⟨_, rfl⟩
      have r1 : Gx L1 = some (.lst ((pfate rs l).1.files.map .str)) := by rw [← hGx, upd_ne (fun z => nC.1 z.symm), upd_ne d2, upd_ne d1, upd_same]
      have r2 : Gx L2 = some (.lst ((rankSort (pfate rs l).1.marks).map .str)) := by rw [← hGx, upd_ne (fun z => nC.2.1 z.symm), upd_ne d3, upd_same]
      have r3 : Gx L3 = some (.lst ((pfate rs l).1.passes.map .str)) := by rw [← hGx, upd_ne (fun z => nC.2.2 z.symm), upd_same]
      have r4 : Gx C = some (.lst ((pfate rs l).2.map fun i => V.int (i : Nat))) := by rw [← hGx, upd_same]
      rw [hGx] at w4 sg
      have w5 := (w4.setIm (i := 4) (d := toldD rs l) (x := .ref U) (.tup (.inl (.inl (sg _ _ gU6))) (.cons (.lst r1 .strs) (.cons (.lst r2 .strs) (.cons (.lst r3 .strs) .nil))))).setIm (i := 5) (d := actsD rs l) (x := .ref C) (.lst r4 (int_map_reps _))
      rw [st_self (vx.rawAt (i := 4) rfl), st_self (vx.rawAt (i := 5) rfl)] at w5
      exact ⟨Gx, _, sg, w5⟩
    have shT := shp_told hw l
    have shA := shp_acts rs l
    have shL := shp_let hl
    -- the first test
    obtain ⟨Ga, Ea, sga, va⟩ := lentE H6 v6 q16 q26 q36 qC6
    show ssW _ (_ :: _) _ _ _
    refine ss_ifL (b := false) v6 va sga (ET.to (ew_or (a := false) (et_not' (et_val (ex_isi (T := "tuple") (b := true) T.b_isinstance (ex_var 4) (ex_ty T.b_tuple))) rfl) (fun _ => ew_or (a := false) (ET.to (et_neD hr (ex_var 4) (ex_var 6) shT.p shT.p (shT.sh (by decide)) (shT.sh (by decide))) (by rw [shT.eq]; rfl)) (fun _ => ew_or (a := false) (ET.to (et_neD hr (ex_var 5) (ex_var 7) shA.p shA.p (shA.sh (by decide)) (shA.sh (by decide))) (by rw [shA.eq]; rfl)) (fun _ => ew_or1 (b := false) (ET.to (et_neD hr (ex_var 3) (ex_var 2) shL.p shL.p (shL.sh (by decide)) (shL.sh (by decide))) (by rw [shL.eq]; rfl)))))).et rfl) (fun h => nomatch h) (fun _ H7 x7 v7 => ss_nil ?_)
    have q17 := x7.h.at q16
    have q27 := x7.h.at q26
    have q37 := x7.h.at q36
    have qC7 := x7.h.at qC6
    obtain ⟨Gb, Eb, sgb, vb⟩ := lentE H7 v7 q17 q27 q37 qC7
    show ssW _ (_ :: _) _ _ _
    refine ss_ifL (b := false) v7 vb sgb (ET.to (ew_or (a := false) (et_not' (et_val (ex_all (bs := [true, true, true]) rfl (EX.to (ex_map 8 (fun _ => .bl true) (wk_tup (ds := [.lst ((pfate rs l).1.files.map .str), .lst ((rankSort (pfate rs l).1.marks).map .str), .lst ((pfate rs l).1.passes.map .str)]) (ex_var 4)) (fun s H C' cl fp i d hd => ?_) (by show 3 ≤ _; rw [sizeLine_eq]; decide)) rfl) T.b_all)) rfl) (fun _ => ew_or1 (b := false) (et_not' (et_val (ex_isi (T := "list") (b := true) T.b_isinstance (ex_var 5) (ex_ty T.b_list))) rfl))).et rfl) (fun h => nomatch h) (fun _ H8 x8 v8 => ss_nil ?_)
    · have hd' : ∃ ws : List Str, d = .lst (ws.map .str) := by
        match i, hd with
        | 0, hd => exact ⟨_, (Option.some.inj hd).symm⟩
        | 1, hd => exact ⟨_, (Option.some.inj hd).symm⟩
        | 2, hd => exact ⟨_, (Option.some.inj hd).symm⟩
        | i + 3, hd => cases hd
      obtain ⟨ws, rfl⟩ := hd'
      exact ex_isi (T := "list") (b := true) T.b_isinstance (ex_var 8) (ex_ty T.b_list)
    have q18 := x8.h.at q17
    have q28 := x8.h.at q27
    have q38 := x8.h.at q37
    have qC8 := x8.h.at qC7
    have tot8 := (tot6.trans x7).trans x8
    -- the loop that changes what was told
    have w8 := (v8.base (noOwns_by rfl)).setIm (i := 4) (d := .tup [.raw (.ref L1), .raw (.ref L2), .raw (.ref L3)]) (x := .ref U) (.tup (.inl (.inl gU6)) (.cons (.raw _) (.cons (.raw _) (.cons (.raw _) .nil))))
    rw [st_self (v8.rawAt (i := 4) rfl)] at w8
    have lenF : (pfate rs l).1.files.length ≤ 600 := by have := hb.a; omega
    have lenM : (rankSort (pfate rs l).1.marks).length ≤ 600 := by rw [rankSort_len]; have := hb.b; omega
    have lenP : (pfate rs l).1.passes.length ≤ 600 := by have := hb.c; omega
    show ssW _ (_ :: _) _ _ _
    refine ss_for (ds := [.raw (.ref L1), .raw (.ref L2), .raw (.ref L3)]) (wk_tup (ex_var 4)) w8 (fun G9 H9 x9 => ⟨fun i σ' G' H' => ∃ (t8 : Sl), Env K ⟨G', H', none⟩ [.im (.str x), .im (.lst (rs.map Ru.encL)), .im l.enc, .im l.enc, .im (.tup [.raw (.ref L1), .raw (.ref L2), .raw (.ref L3)]), .im (.raw (.ref C)), .im (toldD rs l), .im (actsD rs l), t8] σ' G' H' ∧ t8.isOwn = false ∧ (∀ L ∈ [L1, L2, L3], G' L = none ∧ ∃ ws, H' L = some (.lst ws) ∧ ws.length ≤ 600 + i) ∧ H' C = some (.lst ((pfate rs l).2.map fun i => V.int (i : Nat))) ∧ G' C = none ∧ ExtL K [L1, L2, L3, C] G H G' H' ∧ Same G9 G', ?_, ?_, ?_, ?_⟩)
    · refine ⟨.un, (w8.mono x9).base (noOwns_by rfl), rfl, fun L hL => ?_, x9.h.at qC8, x9.fr _ _ qC8 gC6, (tot8.trans x9).L, Same.refl _⟩
      simp only [List.mem_cons, List.not_mem_nil, or_false] at hL
      rcases hL with rfl | rfl | rfl
      · exact ⟨x9.fr _ _ q18 g16, _, x9.h.at q18, by rw [List.length_map]; omega⟩
      · exact ⟨x9.fr _ _ q28 g26, _, x9.h.at q28, by rw [List.length_map]; omega⟩
      · exact ⟨x9.fr _ _ q38 g36, _, x9.h.at q38, by rw [List.length_map]; omega⟩
    · rintro i σ' G' H' ⟨t8, v', _, _, _, _, _, s'⟩
      exact ⟨s', v'.sub⟩
    · rintro i d xv σ' G' H' Gc Hc D' hd ⟨t8, v', no8, hLs, hC', gC', xx', s'⟩ xc rd hnx hrt
      obtain ⟨L, hL, rfl⟩ : ∃ L, L ∈ [L1, L2, L3] ∧ d = .raw (.ref L) := by
        match i, hd with
        | 0, hd => exact ⟨L1, by simp, (Option.some.inj hd).symm⟩
        | 1, hd => exact ⟨L2, by simp, (Option.some.inj hd).symm⟩
        | 2, hd => exact ⟨L3, by simp, (Option.some.inj hd).symm⟩
        | i + 3, hd => cases hd
      have hi : i < 3 := lt_of_at hd
      have vc : Env K ⟨Gc, Hc, none⟩ [.im (.str x), .im (.lst (rs.map Ru.encL)), .im l.enc, .im l.enc, .im (.tup [.raw (.ref L1), .raw (.ref L2), .raw (.ref L3)]), .im (.raw (.ref C)), .im (toldD rs l), .im (actsD rs l), t8] σ' Gc Hc := (v'.mono xc).base fun s hs => by
        simp only [List.mem_cons, List.not_mem_nil, or_false] at hs
        rcases hs with rfl | rfl | rfl | rfl | rfl | rfl | rfl | rfl | rfl <;> first | rfl | exact no8
      refine gW_tg (tg_name 8) vc rd fun σ4 w4 => ?_
      obtain ⟨gL, ws, hLw, hwl⟩ := hLs L hL
      have hLc := xc.h.at hLw
      have gLc := xc.fr _ _ hLw gL
      refine ssW_of (pss_one (ps_expr (pe_bm PySem.F.plainAttrs_list PySem.F.slot_list_append PySem.F.type_list_append mt_append (pe_var (i := 8) rfl (.inl (by kernel_rfl)) (by decide +kernel) (by decide +kernel)) (pa_cons pe_W pa_nil (starEach_cons rfl)) (attrBase rfl) (fewArgs rfl) rfl (starEach_cons rfl) rfl) rfl)) ?_
      refine ⟨.ref L, w4.rawAt (i := 8) rfl, .inl ⟨rfl, _, SqL.of hLc⟩, ?_⟩
      refine EX.run ex_str w4 fun u Gd Hd wd xd rd' => ?_
      cases rd'
      have hLd := xd.h.at hLc
      have gLd := xd.fr _ _ hLc gLc
      have hML : L ∈ [L1, L2, L3, C] := by simp only [List.mem_cons, List.not_mem_nil, or_false] at hL ⊢; rcases hL with h | h | h <;> simp [h]
      have hCL : C ≠ L := by
        simp only [List.mem_cons, List.not_mem_nil, or_false] at hL
        rcases hL with rfl | rfl | rfl
        · exact nC.1
        · exact nC.2.1
        · exact nC.2.2
      have up : ExtL K [L1, L2, L3, C] Gd Hd Gd (upd Hd L (.lst (ws ++ [.str "a"]))) := ExtL.upd xd.sub hML hLd gLd
      refine ⟨L, ws, _, rfl, rfl, hLd, by rw [sizeLine_eq]; omega, hnx _ Gd _ ⟨_, wd.L (noOwns_by rfl) up, rfl, fun L' hL' => ?_, ?_, xd.fr _ _ (xc.h.at hC') (xc.fr _ _ hC' gC'), ((xx'.trans xc.L).trans xd.L).trans up, s'.trans (xc.g.trans xd.g)⟩⟩
      · obtain ⟨gL', ws', hLw', hwl'⟩ := hLs L' hL'
        refine ⟨xd.fr _ _ (xc.h.at hLw') (xc.fr _ _ hLw' gL'), ?_⟩
        by_cases e : L' = L
        · subst e
          exact ⟨_, upd_same, by rw [List.length_append]; simp; omega⟩
        · exact ⟨ws', by rw [upd_ne e]; exact xd.h.at (xc.h.at hLw'), by omega⟩
      · rw [upd_ne hCL]; exact xd.h.at (xc.h.at hC')
    · rintro σ' G' H' ⟨t8, v', no8, hLs, hC', gC', xx', s'⟩
      have noG : noOwns [.im (.str x), .im (.lst (rs.map Ru.encL)), .im l.enc, .im l.enc, .im (.tup [.raw (.ref L1), .raw (.ref L2), .raw (.ref L3)]), .im (.raw (.ref C)), .im (toldD rs l), .im (actsD rs l), t8] := fun s hs => by
        simp only [List.mem_cons, List.not_mem_nil, or_false] at hs
        rcases hs with rfl | rfl | rfl | rfl | rfl | rfl | rfl | rfl | rfl <;> first | rfl | exact no8
      show ssW _ (_ :: _) _ _ _
      refine ssW_of (pss_cons (ps_expr (pe_bm PySem.F.plainAttrs_list PySem.F.slot_list_append PySem.F.type_list_append mt_append (pe_var (i := 5) rfl (.inl (by kernel_rfl)) (by decide +kernel) (by decide +kernel)) (pa_cons pe_W pa_nil (starEach_cons rfl)) (attrBase rfl) (fewArgs rfl) rfl (starEach_cons rfl) rfl) rfl) pss_W) ?_
      refine ⟨.ref C, v'.rawAt (i := 5) rfl, .inl ⟨rfl, _, SqL.of hC'⟩, ?_⟩
      refine EX.run ex_int v' fun u Gd Hd wd xd rd' => ?_
      cases rd'
      have hCd := xd.h.at hC'
      have gCd := xd.fr _ _ hC' gC'
      have up : ExtL K [L1, L2, L3, C] Gd Hd Gd (upd Hd C (.lst (((pfate rs l).2.map fun i => V.int (i : Nat)) ++ [.int 9]))) := ExtL.upd xd.sub (by simp) hCd gCd
      refine ⟨C, _, _, rfl, rfl, hCd, by rw [List.length_map, sizeLine_eq]; omega, ?_⟩
      have ve := wd.L noG up
      have tot : Ext K G H Gd (upd Hd C (.lst (((pfate rs l).2.map fun i => V.int (i : Nat)) ++ [.int 9]))) := ((xx'.trans xd.L).trans up).ext hfresh
      show ssW _ [_] _ _ _
      refine ssW_of (pss_one (ps_ret pe_W)) ?_
      refine EX.run (d := .bl true) (ex_and (a := true) (b := true) (EX.to (ex_eqD hr (ex_cal (C_sortD T TB) (hr.mono (by decide)) (ea_cons (ex_var 0) (ea_cons (ex_var 3) ea_nil)) ⟨x, rs, l, rfl, tok, hl, hn, rfl⟩) (ex_var 6) shT.p shT.p (shT.sh (by decide)) (shT.sh (by decide))) (by rw [shT.eq])) (fun _ => ex_one (EX.to (ex_eqD hr (ex_cal (C_actingD T TB) (hr.mono (by decide)) (ea_cons (ex_var 0) (ea_cons (ex_var 3) ea_nil)) ⟨x, rs, l, rfl, tok, hl, hn, rfl⟩) (ex_var 7) shA.p shA.p (shA.sh (by decide)) (shA.sh (by decide))) (by rw [shA.eq])))) ve fun u Gz Hz vz xz rz => ?_
      exact k2 (.bl true) u Gz Hz hΦ (tot.trans xz) rz
end
end DL
set_option maxHeartbeats 400000
/-! LF9: the law -/
namespace DL
open PySem PySem.Spec PyProof.Rows L2
theorem exr_mod {X : Cx} {E : En} {e1 e2 : Expr} {Γ : List Sl} {pos : Pos} {m : Int} {P : Int → Prop} (ha : EXR X E e1 Γ fun d => ∃ i : Int, d = .int i ∧ P i) (hb : EX X E e2 Γ (.int m)) (hm : 0 < m := by decide) : EXR X E (.BinOp e1 .Mod e2 pos) Γ fun d => ∃ i : Int, d = .int (i % m) ∧ P i :=
  exr_of (pe_op op_mod pe_W pe_W) fun σ G H Q v k => ha.run v fun d u1 G1 H1 p v1 x1 r1 => hb.run v1 fun u2 G2 H2 v2 x2 r2 => by
    obtain ⟨i, rfl, hp⟩ := p
    exact rx_I (K := X.K) (C := fun _ j => 0 < j) (g := fun i j => i % j) (i := i) (j := m) hm G2 H2 u1 u2 Q x2.sub (r1.mono x2.g) r2 fun t G3 H3 x3 r3 => k _ t G3 H3 ⟨i, rfl, hp⟩ ((x1.trans x2).trans x3) r3
def kindsL : List Str := ["has", "has", "first", "last", "pair", "from", "over", "marked", "any"]
theorem kindsL_ok : KindsOk kindsL := ⟨by decide, by decide, by decide +kernel⟩
def stopR : Ru := (.any, [.stop])
theorem stop_wf : stopR.Ok [] := ⟨⟨by decide +kernel, fun a ha => by rw [show stopR.1.facts = [.any] by simp [stopR, Cn.facts]] at ha; rw [List.mem_singleton.mp ha]; exact trivial, by simp [stopR, Cn.toks], by simp [stopR, Cn.deep]⟩, fun d hd => by rw [List.mem_singleton.mp hd]; exact trivial, by decide, by decide⟩
theorem stop_row : rowOf stopR = "if any then stop" := by
  have e : stopR.toks = ([("if" : Str), "any", "then", "stop"] : List Str) := by simp [Ru.toks, stopR, Cn.toks, deedToks, Dd.toks]
  unfold rowOf
  rw [e]; decide +kernel
theorem txt_stop : TxtOk "if any then stop" [stopR] := by
  have hw : ∀ r ∈ [stopR], r.Wf := fun r hr => by rw [List.mem_singleton.mp hr]; exact stop_wf.wf
  have hs : Txt.split ("if any then stop" : Str) "\n" = [rowOf stopR] := by
    have := split_rows hw (by simp)
    rw [show textOf [stopR] = "if any then stop" by rw [← stop_row]; rfl] at this
    exact this
  refine ⟨by rw [sizeLine_eq]; decide, by rw [hs]; exact rowsR_all hw, by rw [hs]; decide, ?_⟩
  have : spokenN [stopR] = [] := by
    unfold spokenN
    simp [stopR, Cn.facts, spokenF, Cn.toks]
    try decide +kernel
  rw [this]; decide
theorem txt_none : TxtOk "" [] := by
  have hs : Txt.split ("" : Str) "\n" = [("" : Str)] := TL.split_join (y := "\n") (s := 10) (S := []) (parts := [("" : Str)]) rfl (by decide +kernel) (by simp) fun p hp => by rw [List.mem_singleton.mp hp]; decide
  exact ⟨by rw [sizeLine_eq]; decide, by rw [hs]; exact .skip (by decide +kernel) (by decide) .nil, by rw [hs]; decide, by decide⟩
def letA : Let := ⟨"a", [], 0⟩
theorem letA_ok : letA.Ok := ⟨by decide +kernel, (fun x hx => by cases hx), by decide⟩
def spLaw (K : PySem.W.Frag) : Sp := fun vs H Q _ => ∃ (a : Addr) (ns : List Int), vs = [.ref a] ∧ TabsG K (fun _ => none) H ∧ SqL K H a (ns.map V.int) ∧ ∀ H', Q (.bl true) H'
section
variable {P : Program} {w : World} {K : PySem.W.Frag} {mg : Str → Option Value} {base : Heap} (T : Tx K mg) (TB : ∀ p ∈ sites, LamX.TabB base mg (He.cT K p.1).1 (He.cT K p.1).2)
include T TB
theorem law_tail {cdv : Value} {A : Around} {outer : List PySem.Env} {s : Shared} {H : Hp} {Ew : XK} {E : En} {N : N4} {sc2 : List Int} (hr : Room 31 (cxOf CX0 P w K mg base ["_law_script", "_law_words_here", "_law_kinds", "_law_by", "_law_rules_here", "_law_rows", "_law_at"] "law" (defScope s_law) (He.ga K "law") cdv A outer s H Ew).nox.A) (hlen : sc2.length ≤ 63) (q : ∀ Γ, N.rt (.bl true) Γ) :
    SXs (cxOf CX0 P w K mg base ["_law_script", "_law_words_here", "_law_kinds", "_law_by", "_law_rules_here", "_law_rows", "_law_at"] "law" (defScope s_law) (He.ga K "law") cdv A outer s H Ew).nox E (defBody s_law).tail N [.im (.lst (sc2.map .int)), .un, .un, .un, .un, .un, .un] := by
    have hN : (cxOf CX0 P w K mg base ["_law_script", "_law_words_here", "_law_kinds", "_law_by", "_law_rules_here", "_law_rows", "_law_at"] "law" (defScope s_law) (He.ga K "law") cdv A outer s H Ew).nox.N.Nodup := sc_law.nd
    show SXs _ E (_ :: _) _ _
    refine sxs_cons (sx_setR (Φ := fun d => ∃ ws, WordsOk ws ∧ d = .lst (ws.map .str)) 1 (exr_cal (C__law_words T) (hr.mono (by decide)) (EA.R (ea_cons (ex_var 0) (ea_cons ex_int ea_nil)) ⟨sc2, 0, rfl, by decide, fun ws hws => ⟨ws, hws, rfl⟩⟩)) fun d hd => ?_)
    obtain ⟨ws, hws, rfl⟩ := hd
    refine sxs_cons (sx_set 2 (d := .tup (kindsL.map .str)) (ex_tup ea_consts) ?_)
    obtain ⟨m, hm, hmax⟩ : ∃ m : Int, m = (if (if (sc2.length : Int) < 12 then (sc2.length : Int) else 12) > 2 then (if (sc2.length : Int) < 12 then (sc2.length : Int) else 12) else 2) ∧ 2 ≤ m ∧ m ≤ 12 := ⟨_, rfl, by split <;> split <;> omega, by split <;> split <;> omega⟩
    refine sxs_cons (sx_for (wk_range2 T.b_range ex_int (EX.to (y := .int m) (ex_max2 rfl ex_int (ex_min2 rfl ex_int (ex_lenL (ex_var 0) T.b_len) T.b_min) T.b_max) ?_)) (fun i Γ => ∃ t3 t4 t5 t6, Γ = [.im (.lst (sc2.map .int)), .im (.lst (ws.map .str)), .im (.tup (kindsL.map .str)), t3, t4, t5, t6]) ⟨_, _, _, _, rfl⟩ ?_ ?_ rfl)
    · rw [List.length_map, hm]
    · rintro i d Γ' hd ⟨t3, t4, t5, t6, rfl⟩
      have hi : i < (m - 1).toNat := by have := lt_of_at hd; rwa [rangeD_length] at this
      rw [rangeD_get _ _ _ hi] at hd
      cases hd
      have hby : (0 : Int) ≤ 1 + (i : Nat) := by omega
      obtain ⟨by_, hbye⟩ : ∃ b : Int, b = 1 + (i : Nat) := ⟨_, rfl⟩
      rw [← hbye] at hby ⊢
      refine ⟨_, tg_name 3, ?_⟩
      refine sxs_cons (sx_setR (Φ := fun d => ∃ rs : List Ru, d = .lst (rs.map Ru.encL) ∧ rs.length ≤ 6 ∧ ∀ r ∈ rs, r.Ok (ws.take 3)) 4 (exr_cal (C__law_rules T) (hr.mono (by decide)) (ear_c (ex_var 0) (ear_c (ex_var 3) (ear_c (ex_var 1) (ear_cons (exr_mod (P := fun i => 0 ≤ i) (exr_cal (C__law_cell_at T) (hr.mono (by decide)) (EA.R (ea_cons (ex_var 0) (ea_cons (ex_var 3) ea_nil)) ⟨sc2, by_, rfl, hby, fun r hr0 => ⟨r, rfl, hr0⟩⟩)) ex_int) fun d hd => ?_))))) fun d hd => ?_)
      · obtain ⟨r, rfl, hr0⟩ := hd
        exact ear_c (ex_var 2) (ear_nil ⟨sc2, by_, r % 7, ws, kindsL, rfl, hby, by omega, by omega, hws, kindsL_ok, fun rs h1 h2 => ⟨rs, rfl, by omega, h2⟩⟩)
      obtain ⟨rs, rfl, hrl, hrs⟩ := hd
      have hw : ∀ r ∈ rs, r.Wf := fun r hr => (hrs r hr).wf
      have shR := shp_rules hw
      have hnil : Shp (.lst ([] : List D)) 1 := shp_lst fun d hd => by cases hd
      have hne : PyData.eqv (toP (.lst (rs.map Ru.encL))) (toP (.lst [])) = decide (rs = []) := by
        cases rs with
        | nil => decide
        | cons r r2 => simp [toP, toPs, PyData.eqv, PyData.eqvAll]
      refine sxs_cons (sx_setO (s := .ol ((rs.map rowOf).map .str)) 5 (eo_if (b := !decide (rs = [])) (ET.to (et_neD hr (ex_var 4) (ex_lst ea_nil) shR.p hnil.p (shR.sh (by decide)) (hnil.sh (by decide))) (by rw [hne])) (fun hb => ?_) (fun hb => ?_)) ?_)
      · have hrne : rs ≠ [] := by simpa using hb
        rw [← split_rows hw hrne]
        refine eo_split (sa := textOf rs) (sb := "\n") (ex_cal (C__law_text T) (hr.mono (by decide)) (ea_cons (ex_var 4) ea_nil) ⟨rs, rfl, by omega, hw, rfl⟩) ex_str (by decide) ?_
        have := join_len (sep := "\n") (l := rs.map rowOf) (n := 660) fun p hp => by
          obtain ⟨r, hr, rfl⟩ := List.mem_map.mp hp; exact rowOf_len (hw r hr)
        rw [show ("\n" : Str).length = 1 from rfl, List.length_map] at this
        unfold textOf
        rw [sizeLine_eq]; omega
      · have hrne : rs = [] := by simpa using hb
        subst hrne
        exact eo_lst ea_nil
      refine sxs_cons (sx_setR (Φ := fun d => ∃ r : Int, d = .int r ∧ 0 ≤ r) 6 (exr_cal (C__law_cell_at T) (hr.mono (by decide)) (EA.R (ea_cons (ex_var 0) (ea_cons (ex_var 3) ea_nil)) ⟨sc2, by_, rfl, hby, fun r hr0 => ⟨r, rfl, hr0⟩⟩)) fun d hd => ?_)
      obtain ⟨at_, rfl, hat⟩ := hd
      have hrows : ((rs.map rowOf).map D.str).length = rs.length := by rw [List.length_map, List.length_map]
      obtain ⟨z, hz, hzat⟩ := list_at (xs := nothings.map .str) (i := at_ % 4) (by omega) (by simp [nothings]; omega)
      obtain ⟨zs, hzs, rfl⟩ := List.mem_map.mp hz
      refine sxs_cons (sx_insert (j := at_ % ((((rs.map rowOf).map D.str).length : Int) + 1)) 5 (ex_mod (ex_var 6) (ex_add (ex_lenO 5 T.b_len) ex_int) (by rw [hrows]; omega)) (ex_ixT (ex_tup ea_consts) (ex_mod (ex_var 6) ex_int) hzat) ?_ ?_ ?_ ?_ (hfew := ?_))
      · rw [hrows]; exact Int.emod_nonneg _ (by omega)
      · rw [hrows]
        have := Int.emod_lt_of_pos at_ (show 0 < (rs.length : Int) + 1 by omega)
        omega
      rotate_left
      · rw [hrows, sizeLine_eq]; omega
      · rw [starEach_all (by decide)]; rfl
      obtain ⟨j, hj⟩ : ∃ j : Nat, (at_ % ((((rs.map rowOf).map D.str).length : Int) + 1)).toNat = j := ⟨_, rfl⟩
      rw [hj]
      obtain ⟨rows, hrowsE⟩ : ∃ rows : List Str, (rs.map rowOf).take j ++ [zs] ++ (rs.map rowOf).drop j = rows := ⟨_, rfl⟩
      have eD : ((rs.map rowOf).map D.str).take j ++ [.str zs] ++ ((rs.map rowOf).map D.str).drop j = rows.map .str := by
        rw [← hrowsE, List.map_append, List.map_append, List.map_take, List.map_drop]; rfl
      rw [eD]
      have tok := txt_ok hrs (by rw [List.length_take]; omega) (by omega : rs.length ≤ 100) hzs j
      rw [hrowsE] at tok
      have hrw : ∀ p ∈ rows, p.length ≤ 1000 := fun p hp => by
        rw [← hrowsE, List.mem_append, List.mem_append] at hp
        rcases hp with (hp | hp) | hp
        · obtain ⟨r, hr, rfl⟩ := List.mem_map.mp (List.mem_of_mem_take hp); have := rowOf_len (hw r hr); omega
        · rw [List.mem_singleton.mp hp]; exact (nothings_ok zs hzs).2.1
        · obtain ⟨r, hr, rfl⟩ := List.mem_map.mp (List.mem_of_mem_drop hp); have := rowOf_len (hw r hr); omega
      have hrowsL : rows.length ≤ 7 := by
        rw [← hrowsE, List.length_append, List.length_append, List.length_take, List.length_drop, List.length_map]
        simp; omega
      refine freezeL 5 ?_
      refine sxs_one (sx_for (wk_range1 T.b_range ex_int) (fun i Γ => ∃ t6, Γ = [.im (.lst (sc2.map .int)), .im (.lst (ws.map .str)), .im (.tup (kindsL.map .str)), .im (.int by_), .im (.lst (rs.map Ru.encL)), .im (.lst (rows.map .str)), t6]) ⟨_, rfl⟩ ?_ ?_ rfl)
      · rintro i2 d Γ' hd ⟨t6, rfl⟩
        have hi2 : i2 < Int.toNat 6 := by have := lt_of_at hd; rwa [rangeD_length] at this
        rw [rangeD_get _ _ _ hi2] at hd
        cases hd
        refine ⟨_, tg_name 6, sxs_one (sx_if (b := false) (ET.to (et_not (et_val (b := true) (exr_cal (C__law_sort_right T TB) hr (ear_c (ex_join ex_str (ex_var 5) ?_) (ear_c (ex_var 4) (ear_cons (exr_cal (Φ := fun d => ∃ l : Let, d = l.enc ∧ l.Ok ∧ l.words.length ≤ 20) (C__law_letter T) (hr.mono (by decide)) (EA.R (ea_cons (ex_var 0) (ea_cons (ex_add (ex_var 3) (ex_var 6)) (ea_cons (ex_var 1) ea_nil))) ⟨sc2, _, ws, rfl, by omega, hws, fun l h1 h2 => ⟨l, rfl, h1, h2⟩⟩)) fun d hd => ?_)))))) rfl) (fun h => nomatch h) (fun _ => sxs_nil ⟨_, rfl⟩))⟩
        · have := sum_le hrw
          rw [show ("\n" : Str).length = 1 from rfl]
          omega
        · obtain ⟨l, rfl, h1, h2⟩ := hd
          exact ear_nil ⟨_, rs, l, rfl, tok, hw, by omega, h1, by omega, rfl⟩
      · rintro Γ' ⟨t6, rfl⟩
        exact ⟨_, _, _, _, rfl⟩
    · rintro Γ' ⟨t3, t4, t5, t6, rfl⟩
      have hwS : ∀ r ∈ [stopR], r.Wf := fun r hr => by rw [List.mem_singleton.mp hr]; exact stop_wf.wf
      have shT := shp_told (rs := []) (fun r hr => by cases hr) letA
      have shA := shp_acts [stopR] letA
      have e1 : toldD [] letA = .tup [.lst [], .lst [], .lst []] := by
        unfold toldD
        rw [show pfate [] letA = (fs0, []) from rfl]
        simp [fs0, rankSort]
      have e2 : actsD [stopR] letA = .lst [.int 0] := by
        unfold actsD pfate
        simp [fsRules, stopR, Cn.sat, fs0]
      refine sxs_one (sx_ret (EX.to (ex_and (a := true) (b := true) (EX.to (ex_eqD hr (ex_cal (C_sortD T TB) (hr.mono (by decide)) (ea_cons ex_str (ea_cons (ex_tup (ea_cons ex_str (ea_cons (ex_lst ea_nil) (ea_cons ex_int ea_nil)))) ea_nil)) ⟨"", [], letA, rfl, txt_none, letA_ok, by decide, rfl⟩) (ex_tup (ea_cons (ex_lst ea_nil) (ea_cons (ex_lst ea_nil) (ea_cons (ex_lst ea_nil) ea_nil)))) shT.p (by rw [← e1]; exact shT.p) (shT.sh (by decide)) (by rw [← e1]; exact shT.sh (by decide))) (by rw [← e1, shT.eq])) (fun _ => ex_one (EX.to (ex_eqD hr (ex_cal (C_actingD T TB) (hr.mono (by decide)) (ea_cons ex_str (ea_cons (ex_tup (ea_cons ex_str (ea_cons (ex_lst ea_nil) (ea_cons ex_int ea_nil)))) ea_nil)) ⟨"if any then stop", [stopR], letA, rfl, txt_stop, letA_ok, by decide, rfl⟩) (ex_lst (ea_cons ex_int ea_nil)) shA.p (by rw [← e2]; exact shA.p) (shA.sh (by decide)) (by rw [← e2]; exact shA.sh (by decide))) (by rw [← e2, shA.eq])))) rfl) (q _))
theorem law_ok {fd : FuncData} (F : FunD K "law" "law" (defArgs s_law) (defBody s_law) (defScope s_law) [] [] (He.ga K "law") fd) : FnOk P w K mg base CX0 32 (He.ga K "law") fd ["_law_script"] (spLaw K) := by
  refine F.ok sc_law (fun vs H Q Ew h => ?_) (fun cdv A outer s H vs Q Ew hr h => ?_)
  · obtain ⟨a, ns, rfl, _⟩ := h; rfl
  · obtain ⟨a, ns, rfl, tb, hS, q⟩ := h
    refine ⟨_, PSs.nox pss_W, ?_⟩
    have hN : (cxOf CX0 P w K mg base ["_law_script", "_law_words_here", "_law_kinds", "_law_by", "_law_rules_here", "_law_rows", "_law_at"] "law" (defScope s_law) (He.ga K "law") cdv A outer s H Ew).nox.N.Nodup := sc_law.nd
    have v0 := env_start (X := (cxOf CX0 P w K mg base ["_law_script", "_law_words_here", "_law_kinds", "_law_by", "_law_rules_here", "_law_rows", "_law_at"] "law" (defScope s_law) (He.ga K "law") cdv A outer s H Ew).nox) (N := ["_law_script", "_law_words_here", "_law_kinds", "_law_by", "_law_rules_here", "_law_rows", "_law_at"]) (ds := [.raw (.ref a)]) (G := fun _ => none) (H := H) (fun b o e => by cases e) tb (.cons (.raw _) .nil) (by show 1 ≤ 7; decide)
    obtain ⟨σ, hσ⟩ : ∃ σ, L2.start ["_law_script", "_law_words_here", "_law_kinds", "_law_by", "_law_rules_here", "_law_rows", "_law_at"] [V.ref a] = σ := ⟨_, rfl⟩
    rw [hσ] at v0 ⊢
    show ssW _ (_ :: (defBody s_law).tail) _ _ _
    refine ssW_of (pss_cons (ps_set hN (i := 0) rfl (.inl (by kernel_rfl)) (pe_slice sl_list (pe_var (i := 0) rfl (.inl (by kernel_rfl)) (by decide +kernel) (by decide +kernel)) po_none (po_some pe_int)) (swapsNo rfl) (.inl rfl)) pss_W) ?_
    refine ⟨.ref a, v0.rawAt rfl, 63, rfl, a, ns.map V.int, rfl, hS, fun p hp => ?_⟩
    obtain ⟨sc2, hsc2⟩ : ∃ sc2, cutD ns none (some 63) = sc2 := ⟨_, rfl⟩
    have e : cutV (ns.map V.int) none (some 63) = sc2.map V.int := by
      rw [← hsc2]
      unfold cutV cutD
      rw [List.length_map, ← List.map_drop, ← List.map_take]
    have hlen : sc2.length ≤ 63 := by
      rw [← hsc2]
      unfold cutD
      rw [show ((63 : Int)) = ((63 : Nat) : Int) from rfl, HT.sIx_nat, HT.sIx_none, List.length_take]
      omega
    rw [e]
    have x1 : Ext K (fun _ => none) H (upd (fun _ => none) p (.lst (sc2.map V.int))) (upd H p (.lst (sc2.map V.int))) := .new v0.sub hp
    have v1 := (v0.mono x1).setIm (i := 0) (d := .lst (sc2.map .int)) (x := .ref p) (.lst upd_same .ints)
    exact (law_tail (N := ⟨fun _ => False, fun d _ => d = .bl true, fun _ => False, fun _ => False⟩) T TB hr hlen (fun _ => rfl)).w _ _ _ _ v1 ⟨fun _ _ _ _ _ _ h => h.elim, fun d u Γ σ G' H' _ _ r e => by subst e; cases r; exact q H', fun _ _ _ _ _ _ h => h, fun _ _ _ _ _ _ h => h⟩
end
end DL
set_option maxHeartbeats 0
/-! ### the head: the facts by names, the run; the end -/
namespace DL
open PySem PySem.Spec PyProof.Rows L2
abbrev R : PySem.W.OpenRow := PySem.W.OpenLaw.row PySem.Challenge.rw_sortpost_k01_sort
def tf : List He.Defn := sites.map (·.1)
abbrev hk : PySem.W.Hook := hookY 5 fa fn tf exB
def ob (s : PySem.W.SharedT) : He.AlX := toldY 5 fa fn tf exB (HandSHeadRun.getT s)
theorem ob_eq (s : PySem.W.SharedT) : ob s = hk.obs s.abs := toldY_eq 5 fa fn tf exB (HandSHeadRun.getT_eq s)
theorem two_runs {S α β γ : Type} {r : Option S} {f : S → α} {g : S → β} {h : S → γ} {a : α} {b : β} {c : γ} (e1 : r.map (fun s => (f s, g s)) = some (a, b)) (e2 : r.map h = some c) : r.map (fun s => (f s, g s, h s)) = some (a, b, c) := by
  cases r with
  | none => cases e1
  | some s =>
    injection e1 with q1
    injection q1 with q2 q3
    injection e2 with q4
    show some (f s, g s, h s) = _
    rw [q2, q3, q4]
noncomputable abbrev rn (w : World) (os : OsState) : Option PySem.W.SharedT := HandSHeadRun.endF (HandSHeadRun.stepQ (HandSHeadRun.denQ HandSHeadRun.tabQ) R.prog w) 8000 R.prog w os
theorem runA (w : World) (os : OsState) : (rn w os).map (fun s => (HandSHeadRun.looksF R.prog (PySem.W.boot_heap w.params) s.abs, HandSHeadRun.seenQ (PySem.W.view R.prog [64]) lo (PySem.importedModules R.prog.main.body) (fun s => PySem.W.xlAt (PySem.W.view R.prog [64]) [] s && PySem.W.recOk R.toRowW.records s) s.abs)) = some (true, PySem.W.openGood (PySem.W.view R.prog [64]) lo) := by kernel_rfl
theorem runC (w : World) (os : OsState) : (rn w os).map ob = some (hk.val w) := by kernel_rfl
theorem run (w : World) : HandSHeadRun.RunEq R (PySem.W.view R.prog [64]) hk ob 8000 lo w := fun os => two_runs (runA w os) (runC w os)
theorem walk_ofX {l : PySem.W.OpenLaw} {n k : Nat} {q : Program} {loose : List Str} {XP : (Str → Option Value) → Heap → Prop} {YP : World → Heap → Prop} {d : DefRec} {x : Str}
    (hn : l.most = some n) (hn2 : n ≤ sizeLine) (hdf : d.params.defaults = []) (hr : Room k callerA)
    (F : ∀ (w : World) (mg : Str → Option Value) (fa : Addr) (h : Heap), YP w h → h.Ns mainGlobals mg → mg d.name = some (.ref fa) → ∃ K : PySem.W.Frag, K.In h ∧ LamX.LawAtS l w K CX0 k n x mg fa h) :
    PySem.W.WalkO q loose XP YP l.row.toRowW d [] (fun f vs => PySem.call f vs) := by
  refine Att.attach_callB hn hdf fun w s₀ s₁ mg mb fa o pm cd doc a vs ns G Y ho hd hcd hmg hobj hints hlen hbits hg => ?_
  obtain ⟨K, KX, fd, cs, sp, hT, nT, C, hb, hsp, hF⟩ := F w mg fa _ Y G.T.g hmg
  exact LamX.law_callTs KX G.T.g G.T.b G.T.builtins G.T.nolimit hg hT nT C G.T.bmain hobj hints (Nat.le_trans hlen hn2) hr hF hb (fun H hH hS => hsp H a ns hlen hbits hH hS) fun H e s' h => h
theorem law_at {w : World} {K : PySem.W.Frag} {mg : Str → Option Value} {f : Addr} {h : Heap} (X : K.In h) (G : h.Ns mainGlobals mg) (hfa : mg ("law" : Str) = some (.ref f)) (c : He.SaysX fa fn [] tf exB w h K) : LamX.LawAtS PySem.Challenge.rw_sortpost_k01_sort w K CX0 32 63 "_law_script" mg f h := by
  have T : Tx K mg := ⟨c.t.d, c.more, h, X, G⟩
  have e := hfa.symm.trans T.g_law
  cases e
  obtain ⟨fd, F⟩ := T.d_law
  have b := FunD.bindsA (ps := ["_law_script"]) F fun _ _ _ _ _ _ us hl => match us, hl with | [_], _ => rfl
  have ht : ∀ p ∈ sites, p.1 ∈ tf := fun p hp => List.mem_map.mpr ⟨p, hp, rfl⟩
  refine ⟨fd, sites.map fun p => He.cT K p.1, spLaw K, ?_, ?_, ?_, fun s v => b s [v] rfl, fun H a ns hl _ hH hS => ⟨a, ns, rfl, ⟨fun p hp => ?_, fun _ _ => rfl⟩, hS, fun _ => rfl⟩, fun base KB GB hTB => law_ok T (fun p hp => hTB _ (List.mem_map.mpr ⟨p, hp, rfl⟩)) F⟩
  · intro p hp
    obtain ⟨q, hq, rfl⟩ := List.mem_map.mp hp
    exact c.empty q.1 (ht q hq)
  · intro p hp
    obtain ⟨q, hq, rfl⟩ := List.mem_map.mp hp
    exact c.out q.1 (ht q hq)
  · intro p hp
    obtain ⟨q, hq, rfl⟩ := List.mem_map.mp hp
    exact PySem.W.codeHd_of_K X (c.hd q.1 (ht q hq))
  · obtain ⟨q, hq, rfl⟩ := List.mem_map.mp hp
    exact LamX.TabS.nil (hH _ (List.mem_map.mpr ⟨q, hq, rfl⟩))
end DL
open PySem PySem.W PySem.Calls PyProof.Rows
theorem PySem.Challenge.cw_sortpost_k01_sort_holds : PySem.Challenge.rw_sortpost_k01_sort.Holds := by
  w_on; o_law
  refine HandSHeadRun.head_any (r := OpenLaw.row PySem.Challenge.rw_sortpost_k01_sort) (q := view (OpenLaw.row PySem.Challenge.rw_sortpost_k01_sort).prog [64]) (H := DL.hk) (ob := DL.ob) (M := 8000) (loose := DL.lo) (d := HandSHeadRun.topDef (OpenLaw.row PySem.Challenge.rw_sortpost_k01_sort).prog 64) (kwd := []) DL.ob_eq
    (by kernel_rfl) (fun s => by kernel_rfl) DL.run (by kernel_rfl) (by kernel_rfl) (by kernel_rfl) (by rfl) (by first | assumption | decide +kernel) (by decide +kernel) ⟨rfl, rfl, rfl, rfl, rfl, by decide +kernel⟩ ?hw ?hc
  case hw => w_witness2
  case hc =>
    refine DL.walk_ofX (l := PySem.Challenge.rw_sortpost_k01_sort) (n := 63) (k := 32) (x := "_law_script") rfl (by decide) (by kernel_rfl) ⟨rfl, by decide, by decide⟩ ?F
    intro w mg f h Y G hmg0
    obtain ⟨K, KX, c⟩ := Y
    have hmg : mg ("law" : PySem.Str) = some (.ref f) := by
      have e : (HandSHeadRun.topDef (OpenLaw.row PySem.Challenge.rw_sortpost_k01_sort).prog 64).name = ("law" : PySem.Str) := by kernel_rfl
      rw [← e]
      exact hmg0
    exact ⟨K, KX, DL.law_at KX G hmg c⟩

