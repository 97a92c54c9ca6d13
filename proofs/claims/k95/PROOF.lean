import PyProof.Rows.All
import Wide.All
import OpenK.AllK
import Wide.FinOn
import HandS.ForMost
import HandS.ForExc
import HandS.Wide
import HandS.Zip
import HandS.RevRange
import HandS.WordsDict
import HandS.TupAny
import HandS.IsInst
import HandS.Deep
import HandS.More
import HandS.ExcIs
import HandS.NoneIn
import HandS.Conv
import HandS.WordsExc
import HandS.ExcOwn
import PyProof.FactsAll.list_3
import HandS.Ends
import PySem.Challenge.RW_holebook_k95_many_places_and_pairs
import HandS.EndBits
set_option Elab.async false
set_option linter.all false
set_option maxRecDepth 100000
set_option maxHeartbeats 4000000
/-! DL: data, its representation on the abstract heap -/
namespace DL
open PySem PySem.Spec L2
open PyProof.Rows hiding St

/-- kinds of nodes; the flag: owned (a tuple: with owned things within) -/
inductive Kd where
  | tup (o : Bool)
  | lst (o : Bool)
  | dct (o : Bool) (ks : List Key)
  | ins (o : Bool) (c : Str) (fs : List Str)
  /-- the script: a list that is only read -/
  | scr
  /-- a list that was owned, now shared -/
  | flst
  /-- an exception that was caught, its class, its fields -/
  | exc (cn : Str) (fs : List Str)
  deriving DecidableEq
/-- a caught exception's object -/
def ExT (cls : Value) (d : Option Addr) (a : Addr) : HO := .ext fun h => ∃ (oe : Obj) (vs : Array Value), h.get? a = some oe ∧ Zc cls d oe ∧ oe.data = .fields vs
/-- data -/
inductive D where
  | v (x : V)
  | n (k : Kd) (ds : List D)
  /-- gone: something that nobody asks for any more -/
  | g
/-- the classes by their names; the heap at the def's entry -/
structure Cf where
  c : Str → Addr → Prop
  e : Hp
def Kd.ow : Kd → Bool
  | .tup o => o
  | .lst o => o
  | .dct o _ => o
  | .ins o _ _ => o
  | .scr => false
  | .flst => false
  | .exc _ _ => false
def D.ow : D → Bool
  | .v _ => false
  | .g => false
  | .n k _ => k.ow
section
variable (K : PySem.W.Frag) (cl : Cf)
/-- how a node lies: G what is shared, H the whole -/
def Kd.ok (G H : Hp) : Kd → Addr → List V → List Addr → Prop
  | .tup false, a, vs, F => SqT K H a vs ∧ F = []
  | .tup true, a, vs, F => H a = some (.tup vs) ∧ F = []
  | .lst false, a, vs, F => G a = some (.lst vs) ∧ F = []
  | .scr, a, vs, F => SqL K G a vs ∧ F = []
  | .flst, a, vs, F => G a = some (.lst vs) ∧ F = [] ∧ cl.e a = none
  | .exc cn fs, a, vs, F => fs.length = vs.length ∧ F = [] ∧ ∃ C d, cl.c cn C ∧ G a = some (ExT (.ref C) d a) ∧ ((fs = [] ∧ d = none) ∨ (fs ≠ [] ∧ ∃ dx, d = some dx ∧ G dx = some (.xd (fs.zip vs))))
  | .lst true, a, vs, F => H a = some (.lst vs) ∧ G a = none ∧ F = [a]
  | .dct false ks, a, vs, F => ks.length = vs.length ∧ Rd G a (.dK (ks.zip vs)) ∧ F = []
  | .dct true ks, a, vs, F => ks.length = vs.length ∧ H a = some (.dK (ks.zip vs)) ∧ G a = none ∧ F = [a]
  | .ins false c fs, a, vs, F => fs.length = vs.length ∧ F = [] ∧ ∃ C dx, cl.c c C ∧ G a = some (.ins C dx (fs.zip vs)) ∧ G dx = some (.own a)
  | .ins true c fs, a, vs, F => fs.length = vs.length ∧ ∃ C dx, cl.c c C ∧ H a = some (.ins C dx (fs.zip vs)) ∧ H dx = some (.own a) ∧ G a = none ∧ G dx = none ∧ dx ≠ a ∧ F = [a, dx]
inductive RL (G H : Hp) : List V → List D → List Addr → Prop
  | nil : RL G H [] [] []
  | sc {x vs ds F} : RL G H vs ds F → RL G H (x :: vs) (.v x :: ds) F
  | gn {x vs ds F} : RL G H vs ds F → RL G H (x :: vs) (.g :: ds) F
  | nd {a k ws es F0 F1 vs ds F2} : Kd.ok K cl G H k a ws F0 → RL G H ws es F1 → (k.ow = false → F1 = []) → RL G H vs ds F2 → RL G H (.ref a :: vs) (.n k es :: ds) (F0 ++ F1 ++ F2)
abbrev R (G H : Hp) (v : V) (d : D) (F : List Addr) : Prop := RL K cl G H [v] [d] F
end
section
variable {K : PySem.W.Frag} {cl : Cf} {G G' H H' : Hp} {v x : V} {d : D} {vs xs : List V} {ds : List D} {F F1 F2 : List Addr}
theorem R.cons (h : R K cl G H x d F1) (t : RL K cl G H xs ds F2) : RL K cl G H (x :: xs) (d :: ds) (F1 ++ F2) := by
  cases h with
  | sc h0 => cases h0; exact RL.sc t
  | gn h0 => cases h0; exact RL.gn t
  | nd a b c e =>
    cases e
    rw [List.append_nil]
    exact RL.nd a b c t
theorem RL.uncons (h : RL K cl G H (x :: xs) (d :: ds) F) : ∃ F1 F2, R K cl G H x d F1 ∧ RL K cl G H xs ds F2 ∧ F = F1 ++ F2 := by
  cases h with
  | sc t => exact ⟨[], _, .sc .nil, t, rfl⟩
  | gn t => exact ⟨[], _, .gn .nil, t, rfl⟩
  | nd a b c t =>
    refine ⟨_, _, .nd a b c .nil, t, ?_⟩
    rw [List.append_nil]
theorem RL.len (h : RL K cl G H vs ds F) : vs.length = ds.length := by
  induction h with
  | nil => rfl
  | sc _ ih => simp [ih]
  | gn _ ih => simp [ih]
  | nd _ _ _ _ _ ih => simp [ih]
theorem R.sc {x : V} : R K cl G H x (.v x) [] := RL.sc RL.nil
theorem R.v_inv (h : R K cl G H v (.v x) F) : v = x ∧ F = [] := by
  cases h with
  | sc t => cases t; exact ⟨rfl, rfl⟩
theorem R.n_inv {k : Kd} (h : R K cl G H v (.n k ds) F) : ∃ a ws F0 F1, v = .ref a ∧ Kd.ok K cl G H k a ws F0 ∧ RL K cl G H ws ds F1 ∧ (k.ow = false → F1 = []) ∧ F = F0 ++ F1 := by
  cases h with
  | nd a b c t =>
    cases t
    exact ⟨_, _, _, _, rfl, a, b, c, by rw [List.append_nil]⟩
theorem R.mk {k : Kd} {a : Addr} {F0 : List Addr} (h : Kd.ok K cl G H k a vs F0) (t : RL K cl G H vs ds F1) (c : k.ow = false → F1 = []) : R K cl G H (.ref a) (.n k ds) (F0 ++ F1) := by
  have := RL.nd h t c (.nil)
  rwa [List.append_nil] at this
theorem Kd.ok_F0 {k : Kd} {a : Addr} (h : Kd.ok K cl G H k a vs F) (o : k.ow = false) : F = [] := by
  cases k with
  | tup b => cases b with
    | false => exact h.2
    | true => exact h.2
  | lst b => cases b with
    | false => exact h.2
    | true => cases o
  | dct b ks => cases b with
    | false => exact h.2.2
    | true => cases o
  | ins b c fs => cases b with
    | false => exact h.2.1
    | true => cases o
  | scr => exact h.2
  | flst => exact h.2.1
  | exc cn fs => exact h.2.1
theorem R.g_inv (h : R K cl G H v .g F) : F = [] := by
  cases h with
  | gn t => cases t; rfl
theorem R.free (h : R K cl G H v d F) (o : d.ow = false) : F = [] := by
  cases d with
  | v x => exact h.v_inv.2
  | g => exact h.g_inv
  | n k ds =>
    obtain ⟨a, ws, F0, F1, rfl, h0, h1, c, rfl⟩ := h.n_inv
    have o' : k.ow = false := o
    rw [Kd.ok_F0 h0 o', c o']
    rfl
/-- append of lists -/
theorem RL.append {ys : List V} {es : List D} (h : RL K cl G H xs ds F1) (t : RL K cl G H ys es F2) : RL K cl G H (xs ++ ys) (ds ++ es) (F1 ++ F2) := by
  induction h with
  | nil => exact t
  | sc _ ih => exact .sc ih
  | gn _ ih => exact .gn ih
  | nd a b c _ _ ih =>
    rw [List.append_assoc]
    exact .nd a b c ih
theorem RL.snoc (h : RL K cl G H xs ds F1) (t : R K cl G H v d F2) : RL K cl G H (xs ++ [v]) (ds ++ [d]) (F1 ++ F2) := h.append t
/-- split by a length -/
theorem RL.split : ∀ {es fs : List D} {vs : List V} {F : List Addr}, RL K cl G H vs (es ++ fs) F → ∃ ws us F1 F2, vs = ws ++ us ∧ RL K cl G H ws es F1 ∧ RL K cl G H us fs F2 ∧ F = F1 ++ F2
  | [], fs, vs, F, h => ⟨[], vs, [], F, rfl, .nil, h, rfl⟩
  | e :: es, fs, [], F, h => by cases h
  | e :: es, fs, v :: vs, F, h => by
    obtain ⟨A, B, h1, h2, rfl⟩ := h.uncons
    obtain ⟨ws, us, F1, F2, rfl, h3, h4, rfl⟩ := RL.split (es := es) h2
    exact ⟨v :: ws, us, A ++ F1, F2, rfl, h1.cons h3, h4, by rw [List.append_assoc]⟩
/-- the item at a place, and what is left around it -/
theorem RL.at {i : Nat} (h : RL K cl G H vs ds F) (e : ds[i]? = some d) : ∃ v A B C, vs[i]? = some v ∧ R K cl G H v d B ∧ F = A ++ B ++ C ∧
    ∀ {G' H' v' d' B'}, RL K cl G' H' (vs.take i) (ds.take i) A → R K cl G' H' v' d' B' → RL K cl G' H' (vs.drop (i + 1)) (ds.drop (i + 1)) C → RL K cl G' H' (vs.set i v') (ds.set i d') (A ++ B' ++ C) := by
  have hi : i < ds.length := (List.getElem?_eq_some_iff.mp e).1
  have e2 : ds = ds.take i ++ (d :: ds.drop (i + 1)) := by
    have := List.getElem?_eq_some_iff.mp e
    rw [← this.2, ← List.drop_eq_getElem_cons hi, List.take_append_drop]
  have h' := h
  rw [e2] at h'
  obtain ⟨ws, us, A, B', rfl, h1, h2, rfl⟩ := h'.split
  cases us with
  | nil => cases h2
  | cons u us =>
    obtain ⟨B, C, h3, h4, rfl⟩ := h2.uncons
    have wl : ws.length = i := by rw [h1.len, List.length_take]; omega
    refine ⟨u, A, B, C, ?_, h3, by simp, fun {G' H' v' d' B'} a b c => ?_⟩
    · rw [List.getElem?_append_right (by omega), wl]; simp
    · have q1 : (ws ++ u :: us).take i = ws := by rw [← wl]; simp
      have q2 : (ws ++ u :: us).drop (i + 1) = us := by rw [← wl]; simp [List.drop_append]
      rw [q1] at a; rw [q2] at c
      have z1 : (ws ++ u :: us).set i v' = ws ++ v' :: us := by rw [← wl]; simp [List.set_append]
      have z2 : ds.set i d' = ds.take i ++ (d' :: ds.drop (i + 1)) := by rw [List.set_eq_take_append_cons_drop, if_pos hi]
      rw [z1, z2, List.append_assoc]
      exact a.append (b.cons c)
/-- weaker reading of item -/
theorem RL.get {i : Nat} (h : RL K cl G H vs ds F) (e : ds[i]? = some d) : ∃ v B, vs[i]? = some v ∧ R K cl G H v d B ∧ B.Sublist F := by
  obtain ⟨v, A, B, C, e1, h1, rfl, _⟩ := h.at e
  exact ⟨v, B, e1, h1, (List.sublist_append_right A B).trans (List.sublist_append_left _ C)⟩
theorem RL.getV {i : Nat} (h : RL K cl G H vs ds F) (e : vs[i]? = some v) : ∃ d B, ds[i]? = some d ∧ R K cl G H v d B ∧ B.Sublist F := by
  have hi : i < vs.length := (List.getElem?_eq_some_iff.mp e).1
  rw [h.len] at hi
  obtain ⟨w, B, e1, h1, s⟩ := h.get (d := ds[i]) (List.getElem?_eq_getElem hi)
  rw [e] at e1
  cases e1
  exact ⟨_, B, List.getElem?_eq_getElem hi, h1, s⟩

theorem Kd.ok.tupT {b : Bool} {a : Addr} (h : Kd.ok K cl G H (.tup b) a vs F) : SqT K H a vs ∧ F = [] := by
  cases b with
  | false => exact h
  | true => exact ⟨SqT.of h.1, h.2⟩
/-! ### the heaps -/
/-- what is locked: as which object, what it is -/
abbrev Lks := List (Addr × (Obj × HO))
/-- what H keeps of G, but for what is locked -/
structure Sub (Lk : Lks) (G H : Hp) : Prop where
  at_ : ∀ a u, G a = some u → (Lk.lookup a = none ∧ H a = some u) ∨ (∃ ob, Lk.lookup a = some (ob, u) ∧ (∃ kvs, u = .dK kvs) ∧ H a = some (.frz ob u))
  lku : ∀ a p, Lk.lookup a = some p → G a = some p.2
/-- what stays of an H at a footprint; tuples stay -/
structure Keep (F : List Addr) (H H' : Hp) : Prop where
  at_ : ∀ a ∈ F, H' a = H a
  tup : ∀ a xs, H a = some (.tup xs) → H' a = some (.tup xs)
  ftup : ∀ a o xs, H a = some (.frz o (.tup xs)) → H' a = some (.frz o (.tup xs))
theorem Keep.rd {a : Addr} (k : Keep F H H') (r : Rd H a (.tup xs)) : Rd H' a (.tup xs) := r.elim (fun e => .inl (k.tup _ _ e)) fun ⟨o, e⟩ => .inr ⟨o, k.ftup _ _ _ e⟩
theorem Same.keep (s : Same H H') (hF : ∀ a ∈ F, ∃ o, H a = some o) : Keep F H H' :=
  ⟨fun a m => by obtain ⟨o, e⟩ := hF a m; rw [e, s a o e], fun a xs e => s _ _ e, fun a o xs e => s _ _ e⟩
theorem SqT.keep {a : Addr} (k : Keep F H H') (h : SqT K H a xs) : SqT K H' a xs := h.elim (fun r => .inl (k.rd r)) .inr
theorem SqL.of_same {a : Addr} (k : Same G G') (h : SqL K G a xs) : SqL K G' a xs := k.seq h
theorem Rd.same {a : Addr} {o : HO} (k : Same G G') (h : Rd G a o) : Rd G' a o := h.elim (fun e => .inl (k _ _ e)) fun ⟨ob, e⟩ => .inr ⟨ob, k _ _ e⟩
theorem Kd.ok.keep {k : Kd} {a : Addr} {F0 : List Addr} (h : Kd.ok K cl G H k a vs F0) (kp : Keep F0 H H') (g : Same G G') (gn : ∀ a ∈ F0, G' a = none) : Kd.ok K cl G' H' k a vs F0 := by
  cases k with
  | scr => exact ⟨SqL.of_same g h.1, h.2⟩
  | flst => exact ⟨g _ _ h.1, h.2⟩
  | exc cn fs =>
    obtain ⟨h0, h1, C, d, h2, h3, h4⟩ := h
    exact ⟨h0, h1, C, d, h2, g _ _ h3, h4.imp id fun ⟨n, dx, e, q⟩ => ⟨n, dx, e, g _ _ q⟩⟩
  | tup b => cases b with
    | false => exact ⟨SqT.keep kp h.1, h.2⟩
    | true => exact ⟨kp.tup _ _ h.1, h.2⟩
  | lst b => cases b with
    | false => exact ⟨g _ _ h.1, h.2⟩
    | true =>
      obtain ⟨h1, h2, rfl⟩ := h
      exact ⟨by rw [kp.at_ a List.mem_cons_self]; exact h1, gn a List.mem_cons_self, rfl⟩
  | dct b ks => cases b with
    | false => exact ⟨h.1, Rd.same g h.2.1, h.2.2⟩
    | true =>
      obtain ⟨h0, h1, h2, rfl⟩ := h
      exact ⟨h0, by rw [kp.at_ a List.mem_cons_self]; exact h1, gn a List.mem_cons_self, rfl⟩
  | ins b c fs => cases b with
    | false =>
      obtain ⟨h0, h1, C, dx, h2, h3, h4⟩ := h
      exact ⟨h0, h1, C, dx, h2, g _ _ h3, g _ _ h4⟩
    | true =>
      obtain ⟨h0, C, dx, h2, h3, h4, h5, h6, h7, rfl⟩ := h
      have m1 : a ∈ [a, dx] := List.mem_cons_self
      have m2 : dx ∈ [a, dx] := List.mem_cons_of_mem _ List.mem_cons_self
      exact ⟨h0, C, dx, h2, by rw [kp.at_ a m1]; exact h3, by rw [kp.at_ dx m2]; exact h4, gn _ m1, gn _ m2, h7, rfl⟩
theorem Keep.mono (k : Keep F H H') (s : ∀ a ∈ F1, a ∈ F) : Keep F1 H H' := ⟨fun a m => k.at_ a (s a m), k.tup, k.ftup⟩
theorem RL.keep (h : RL K cl G H vs ds F) (kp : Keep F H H') (g : Same G G') (gn : ∀ a ∈ F, G' a = none) : RL K cl G' H' vs ds F := by
  induction h with
  | nil => exact .nil
  | sc _ ih => exact .sc (ih kp gn)
  | gn _ ih => exact .gn (ih kp gn)
  | nd a b c _ ih1 ih2 =>
    refine .nd (a.keep (kp.mono fun x m => ?_) g fun x m => gn x ?_) (ih1 (kp.mono fun x m => ?_) fun x m => gn x ?_) c (ih2 (kp.mono fun x m => ?_) fun x m => gn x ?_) <;> simp [m]
theorem Kd.ok.own {k : Kd} {a : Addr} {F0 : List Addr} (h : Kd.ok K cl G H k a vs F0) : ∀ b ∈ F0, G b = none ∧ ∃ o, H b = some o := by
  cases k with
  | scr => rw [h.2]; exact fun _ m => nomatch m
  | flst => rw [h.2.1]; exact fun _ m => nomatch m
  | exc cn fs => rw [h.2.1]; exact fun _ m => nomatch m
  | tup b => cases b with
    | false => rw [h.2]; exact fun _ m => nomatch m
    | true => rw [h.2]; exact fun _ m => nomatch m
  | lst b => cases b with
    | false => rw [h.2]; exact fun _ m => nomatch m
    | true =>
      obtain ⟨h1, h2, rfl⟩ := h
      intro b m
      rw [List.mem_singleton] at m
      subst m
      exact ⟨h2, _, h1⟩
  | dct b ks => cases b with
    | false => rw [h.2.2]; exact fun _ m => nomatch m
    | true =>
      obtain ⟨h0, h1, h2, rfl⟩ := h
      intro b m
      rw [List.mem_singleton] at m
      subst m
      exact ⟨h2, _, h1⟩
  | ins b c fs => cases b with
    | false => rw [h.2.1]; exact fun _ m => nomatch m
    | true =>
      obtain ⟨h0, C, dx, h2, h3, h4, h5, h6, h7, rfl⟩ := h
      intro b m
      simp only [List.mem_cons, List.not_mem_nil, or_false] at m
      rcases m with rfl | rfl
      · exact ⟨h5, _, h3⟩
      · exact ⟨h6, _, h4⟩
/-- what a footprint is: owned, there -/
theorem RL.own (h : RL K cl G H vs ds F) : ∀ b ∈ F, G b = none ∧ ∃ o, H b = some o := by
  induction h with
  | nil => exact fun _ m => nomatch m
  | sc _ ih => exact ih
  | gn _ ih => exact ih
  | nd a b c _ ih1 ih2 =>
    intro x m
    simp only [List.mem_append] at m
    rcases m with (m | m) | m
    · exact a.own x m
    · exact ih1 x m
    · exact ih2 x m
theorem RL.same (h : RL K cl G H vs ds F) (s : Same H H') : RL K cl G H' vs ds F :=
  h.keep (Same.keep s fun a m => (h.own a m).2) (Same.refl G) fun a m => (h.own a m).1
theorem Sub.lk {Lk : Lks} (h : Sub Lk G H) (a : Addr) (p : Obj × HO) (e : Lk.lookup a = some p) : ∃ u, G a = some u := ⟨_, h.lku a p e⟩
theorem Sub.same {Lk : Lks} (h : Sub Lk G H) (s : Same H H') : Sub Lk G H' := ⟨fun a u e => (h.at_ a u e).elim (fun ⟨x, y⟩ => .inl ⟨x, s _ _ y⟩) fun ⟨ob, x, m, y⟩ => .inr ⟨ob, x, m, s _ _ y⟩, h.lku⟩
theorem Sub.rd {Lk : Lks} {a : Addr} {u : HO} (h : Sub Lk G H) (r : Rd G a u) : Rd H a u := by
  rcases r with e | ⟨o, e⟩
  · rcases h.at_ a u e with ⟨_, y⟩ | ⟨ob, _, _, y⟩
    · exact .inl y
    · exact .inr ⟨ob, y⟩
  · rcases h.at_ a _ e with ⟨_, y⟩ | ⟨ob, _, ⟨_, m⟩, _⟩
    · exact .inr ⟨o, y⟩
    · cases m
theorem Sub.lst {Lk : Lks} {a : Addr} (h : Sub Lk G H) (r : G a = some (.lst xs)) : H a = some (.lst xs) := by
  rcases h.at_ a _ r with ⟨_, y⟩ | ⟨ob, _, ⟨_, m⟩, _⟩
  · exact y
  · cases m
theorem Sub.seq {Lk : Lks} {a : Addr} (h : Sub Lk G H) (r : SqL K G a xs) : SqL K H a xs := r.elim (fun r => .inl (h.rd r)) .inr
theorem Sub.nil (h : Sub [] G H) : Same G H := fun a u e => (h.at_ a u e).elim (fun z => z.2) fun ⟨_, z, _⟩ => nomatch z
theorem Sub.of_same (h : Same G H) : Sub [] G H := ⟨fun a u e => .inl ⟨rfl, h a u e⟩, (fun _ _ z => nomatch z)⟩
end
end DL

set_option Elab.async false
set_option linter.all false
set_option maxRecDepth 100000
set_option maxHeartbeats 4000000
/-! DL2: states, judgements -/
namespace DL
open PySem PySem.Spec L2
open PyProof.Rows hiding St
abbrev En := List (Option D)
abbrev Tm := List (V × D)
section
variable (K : PySem.W.Frag) (cl : Cf)
inductive RE (G H : Hp) : En → St → List Addr → Prop
  | nil : RE G H [] [] []
  | no {ρ s σ F} : RE G H ρ σ F → RE G H (none :: ρ) (s :: σ) F
  | so {d ρ v σ F1 F2} : R K cl G H v d F1 → RE G H ρ σ F2 → RE G H (some d :: ρ) (some v :: σ) (F1 ++ F2)
structure Sx (Lk : Lks) (E : Hp) (pv : List (Nat × V)) (ρ : En) (σ : St) (τ : Tm) (H G : Hp) (F1 F2 : List Addr) : Prop where
  ent : Same E G
  cfe : Same cl.e G
  sub : Sub Lk G H
  slots : RE K cl G H ρ σ F1
  tmp : RL K cl G H (τ.map (·.1)) (τ.map (·.2)) F2
  nd : (F1 ++ F2).Nodup
  pin : ∀ p ∈ pv, σ[p.1]? = some (some p.2)
def Sta (Lk : Lks) (E : Hp) (pv : List (Nat × V)) (ρ : En) (σ : St) (τ : Tm) (H : Hp) : Prop := ∃ G F1 F2, Sx K cl Lk E pv ρ σ τ H G F1 F2
end
section
variable {K : PySem.W.Frag} {cl : Cf} {G G' H H' : Hp} {ρ ρ' : En} {σ σ' : St} {v x : V} {d : D} {vs xs : List V} {ds : List D} {F F1 F2 : List Addr}
theorem RE.len (h : RE K cl G H ρ σ F) : ρ.length = σ.length := by
  induction h with
  | nil => rfl
  | no _ ih => simp [ih]
  | so _ _ ih => simp [ih]
theorem RE.keep (h : RE K cl G H ρ σ F) (kp : Keep F H H') (g : Same G G') (gn : ∀ a ∈ F, G' a = none) : RE K cl G' H' ρ σ F := by
  induction h with
  | nil => exact .nil
  | no _ ih => exact .no (ih kp gn)
  | so a _ ih =>
    exact .so (RL.keep a (kp.mono fun x m => by simp [m]) g fun x m => gn x (by simp [m])) (ih (kp.mono fun x m => by simp [m]) fun x m => gn x (by simp [m]))
theorem RE.own (h : RE K cl G H ρ σ F) : ∀ b ∈ F, G b = none ∧ ∃ o, H b = some o := by
  induction h with
  | nil => exact fun _ m => nomatch m
  | no _ ih => exact ih
  | so a _ ih =>
    intro x m
    rcases List.mem_append.mp m with m | m
    · exact RL.own a x m
    · exact ih x m
theorem RE.same (h : RE K cl G H ρ σ F) (s : Same H H') : RE K cl G H' ρ σ F :=
  h.keep (Same.keep s fun a m => (h.own a m).2) (Same.refl G) fun a m => (h.own a m).1
/-- a slot, and what is left around it -/
theorem RE.at {i : Nat} (h : RE K cl G H ρ σ F) (e : ρ[i]? = some (some d)) : ∃ v A B C, σ[i]? = some (some v) ∧ R K cl G H v d B ∧ F = A ++ B ++ C ∧ RE K cl G H (ρ.set i none) σ (A ++ C) := by
  induction h generalizing i with
  | nil => simp at e
  | no t ih =>
    cases i with
    | zero => simp at e
    | succ i =>
      obtain ⟨v, A, B, C, e1, h1, rfl, h2⟩ := ih (by simpa using e)
      exact ⟨v, A, B, C, by simpa using e1, h1, rfl, .no h2⟩
  | @so d0 ρ0 v0 σ0 P1 P2 a t ih =>
    cases i with
    | zero =>
      have e' : d0 = d := by simpa using e
      subst e'
      exact ⟨v0, [], P1, P2, rfl, a, by simp, .no t⟩
    | succ i =>
      obtain ⟨v, A, B, C, e1, h1, rfl, h2⟩ := ih (by simpa using e)
      refine ⟨v, P1 ++ A, B, C, by simpa using e1, h1, by simp, ?_⟩
      rw [List.append_assoc]
      exact .so a h2
theorem RE.get {i : Nat} (h : RE K cl G H ρ σ F) (e : ρ[i]? = some (some d)) : ∃ v B, σ[i]? = some (some v) ∧ R K cl G H v d B ∧ B.Sublist F := by
  obtain ⟨v, A, B, C, e1, h1, rfl, _⟩ := h.at e
  exact ⟨v, B, e1, h1, (List.sublist_append_right A B).trans (List.sublist_append_left _ C)⟩
/-- a slot is emptied -/
theorem RE.clear (h : RE K cl G H ρ σ F) (i : Nat) (s : Option V) : ∃ F', F'.Sublist F ∧ RE K cl G H (ρ.set i none) (σ.set i s) F' := by
  induction h generalizing i with
  | nil => exact ⟨[], List.Sublist.refl _, .nil⟩
  | no t ih =>
    cases i with
    | zero => exact ⟨_, List.Sublist.refl _, .no t⟩
    | succ i =>
      obtain ⟨F', s', h'⟩ := ih i
      exact ⟨F', s', .no h'⟩
  | @so d0 ρ0 v0 σ0 P1 P2 a t ih =>
    cases i with
    | zero => exact ⟨P2, List.sublist_append_right _ _, .no t⟩
    | succ i =>
      obtain ⟨F', s', h'⟩ := ih i
      exact ⟨P1 ++ F', (List.Sublist.refl P1).append s', .so a h'⟩
/-- an empty slot is filled -/
theorem RE.fill {i : Nat} (h : RE K cl G H ρ σ F) (e : ρ[i]? = some none) (r : R K cl G H v d F2) : ∃ A C, F = A ++ C ∧ RE K cl G H (ρ.set i (some d)) (σ.set i (some v)) (A ++ F2 ++ C) := by
  induction h generalizing i with
  | nil => simp at e
  | no t ih =>
    cases i with
    | zero => exact ⟨[], _, rfl, .so r t⟩
    | succ i =>
      obtain ⟨A, C, rfl, h'⟩ := ih (by simpa using e)
      exact ⟨A, C, rfl, .no h'⟩
  | @so d0 ρ0 v0 σ0 P1 P2 a t ih =>
    cases i with
    | zero => simp at e
    | succ i =>
      obtain ⟨A, C, rfl, h'⟩ := ih (by simpa using e)
      refine ⟨P1 ++ A, C, by simp, ?_⟩
      have := RE.so a h'
      simpa using this
/-- a slot takes a thing -/
theorem RE.put {i : Nat} (h : RE K cl G H ρ σ F) (hi : i < ρ.length) (r : R K cl G H v d F2) : ∃ A C, (A ++ C).Sublist F ∧ RE K cl G H (ρ.set i (some d)) (σ.set i (some v)) (A ++ F2 ++ C) := by
  obtain ⟨F', s, h'⟩ := h.clear i none
  obtain ⟨A, C, e, h''⟩ := h'.fill (i := i) (by simp [hi]) r
  refine ⟨A, C, by rw [← e]; exact s, ?_⟩
  simpa using h''
end
/-- modes: anything; nothing owned; all that is owned is new -/
inductive Md where
  | any | shr | fre
def Md.ok : Md → Hp → List Addr → Prop
  | .any, _, _ => True
  | .shr, _, F => F = []
  | .fre, H, F => (∀ a ∈ F, H a = none) ∧ F.Nodup
theorem Md.ok.back {m : Md} {H H1 : Hp} {F : List Addr} (h : m.ok H1 F) (s : Same H H1) : m.ok H F := by
  cases m with
  | any => trivial
  | shr => exact h
  | fre => exact ⟨fun a z => Same.free s (h.1 a z), h.2⟩
theorem Md.ok.nil {m : Md} {H : Hp} : m.ok H [] := by
  cases m with
  | any => trivial
  | shr => rfl
  | fre => exact ⟨(fun _ z => nomatch z), List.nodup_nil⟩
theorem Md.ok.sub {m : Md} {H : Hp} {F F' : List Addr} (h : m.ok H F) (s : F'.Sublist F) : m.ok H F' := by
  cases m with
  | any => trivial
  | shr =>
    have e : F = [] := h
    subst e
    exact List.sublist_nil.mp s
  | fre => exact ⟨fun a z => h.1 a (s.subset z), s.nodup h.2⟩
theorem Md.ok.app {m : Md} {H H1 : Hp} {F1 F2 : List Addr} (h1 : m.ok H F1) (h2 : m.ok H1 F2) (s : Same H H1) (o : ∀ a ∈ F1, ∃ u, H1 a = some u) : m.ok H (F1 ++ F2) := by
  cases m with
  | any => trivial
  | shr =>
    have e : F1 = [] := h1
    have e' : F2 = [] := h2
    subst e e'
    rfl
  | fre =>
    refine ⟨fun a z => (List.mem_append.mp z).elim (h1.1 a) fun q => Same.free s (h2.1 a q), List.nodup_append.mpr ⟨h1.2, h2.2, fun a ha b hb e => ?_⟩⟩
    subst e
    obtain ⟨u, q⟩ := o a ha
    rw [h2.1 a hb] at q
    cases q
section
variable (K : PySem.W.Frag) (cl : Cf)
/-- an expression that leaves the slots as they are: f tells its value -/
structure EX (m : Md) (t : TE) (f : En → Option D) : Prop where
  run : ∀ {Lk : Lks} {G H : Hp} {ρ : En} {σ : St} {d : D} {F : List Addr} {Q : VK}, Sub Lk G H → RE K cl G H ρ σ F → f ρ = some d →
    (∀ v H' F', Same H H' → R K cl G H' v d F' → m.ok H F' → Q v H') → t σ H Q
/-- a list of them -/
structure EA (m : Md) (t : TA) (f : En → Option (List D)) : Prop where
  run : ∀ {Lk : Lks} {G H : Hp} {ρ : En} {σ : St} {ds : List D} {F : List Addr} {Q : List V → Hp → Prop}, Sub Lk G H → RE K cl G H ρ σ F → f ρ = some ds →
    (∀ vs H' F', Same H H' → RL K cl G H' vs ds F' → m.ok H F' → Q vs H') → t σ H Q
/-- a test -/
structure ET (t : TT) (f : En → Option Bool) : Prop where
  run : ∀ {Lk : Lks} {G H : Hp} {ρ : En} {σ : St} {b : Bool} {F : List Addr} {Q : Bool → Hp → Prop}, Sub Lk G H → RE K cl G H ρ σ F → f ρ = some b →
    (∀ H', Same H H' → Q b H') → t σ H Q
/-- by values -/
def V2 (m : Md) (r : R2) (g : D → D → Option D) : Prop := ∀ {Lk : Lks} {G H : Hp} {x y : V} {dx dy d : D} {Fx Fy : List Addr} {Q : VK}, Sub Lk G H → R K cl G H x dx Fx → R K cl G H y dy Fy → g dx dy = some d →
  (∀ v H' F', Same H H' → R K cl G H' v d F' → m.ok H F' → Q v H') → r x y H Q
def V1 (m : Md) (r : V → Hp → VK → Prop) (g : D → Option D) : Prop := ∀ {Lk : Lks} {G H : Hp} {x : V} {dx d : D} {Fx : List Addr} {Q : VK}, Sub Lk G H → R K cl G H x dx Fx → g dx = some d →
  (∀ v H' F', Same H H' → R K cl G H' v d F' → m.ok H F' → Q v H') → r x H Q
def VL (m : Md) (r : List V → Hp → VK → Prop) (g : List D → Option D) : Prop := ∀ {Lk : Lks} {G H : Hp} {xs : List V} {ds : List D} {d : D} {F : List Addr} {Q : VK}, Sub Lk G H → RL K cl G H xs ds F → g ds = some d →
  (∀ v H' F', Same H H' → R K cl G H' v d F' → m.ok H F' → Q v H') → r xs H Q
/-- an expression that may take things out of the slots; the heap grows -/
structure OM (t : TE) (f : En → Option (D × En)) : Prop where
  run : ∀ {Lk : Lks} {E : Hp} {pv : List (Nat × V)} {ρ ρ' : En} {σ : St} {τ : Tm} {H : Hp} {d : D} {Q : VK}, Sta K cl Lk E pv ρ σ τ H → f ρ = some (d, ρ') →
    (∀ v H', Same H H' → Sta K cl Lk E pv ρ' σ ((v, d) :: τ) H' → Q v H') → t σ H Q
structure OA (t : TA) (f : En → Option (List D × En)) : Prop where
  run : ∀ {Lk : Lks} {E : Hp} {pv : List (Nat × V)} {ρ ρ' : En} {σ : St} {τ : Tm} {H : Hp} {ds : List D} {Q : List V → Hp → Prop}, Sta K cl Lk E pv ρ σ τ H → f ρ = some (ds, ρ') →
    (∀ vs H', Same H H' → vs.length = ds.length → Sta K cl Lk E pv ρ' σ (vs.zip ds ++ τ) H' → Q vs H') → t σ H Q
/-- an expression that changes things -/
structure OE (t : TE) (f : En → Option (D × En)) : Prop where
  run : ∀ {Lk : Lks} {E : Hp} {pv : List (Nat × V)} {ρ ρ' : En} {σ : St} {τ : Tm} {H : Hp} {d : D} {Q : VK}, Sta K cl Lk E pv ρ σ τ H → f ρ = some (d, ρ') →
    (∀ v H', Sta K cl Lk E pv ρ' σ ((v, d) :: τ) H' → Q v H') → t σ H Q
/-- a target -/
structure SG (P : List Nat) (g : TG) (f : D → En → Option En) : Prop where
  run : ∀ {Lk : Lks} {E : Hp} {pv : List (Nat × V)} {ρ ρ' : En} {σ : St} {τ : Tm} {H : Hp} {v : V} {d : D} {Q : St → Hp → Prop}, pv.map (·.1) = P → Sta K cl Lk E pv ρ σ ((v, d) :: τ) H → f d ρ = some ρ' →
    (∀ σ' H', Sta K cl Lk E pv ρ' σ' τ H' → Q σ' H') → g v σ H Q
structure SGs (P : List Nat) (g : TGs) (f : List D → En → Option En) : Prop where
  run : ∀ {Lk : Lks} {E : Hp} {pv : List (Nat × V)} {ρ ρ' : En} {σ : St} {τ : Tm} {H : Hp} {vs : List V} {ds : List D} {Q : St → Hp → Prop}, pv.map (·.1) = P → vs.length = ds.length → Sta K cl Lk E pv ρ σ (vs.zip ds ++ τ) H → f ds ρ = some ρ' →
    (∀ σ' H', Sta K cl Lk E pv ρ' σ' τ H' → Q σ' H') → g vs σ H Q
inductive Out where
  | nx (ρ : En) | rt (d : D) (ρ : En) | bk (ρ : En) | ct (ρ : En) | rs (c : Str) (pay : Option (Str × D)) (ρ : En)
def EndsOk (W : WX) (Lk : Lks) (E : Hp) (pv : List (Nat × V)) (τ : Tm) (N : Ends) : Out → Prop
  | .nx ρ => ∀ σ' H', Sta K cl Lk E pv ρ σ' τ H' → N.nx σ' H'
  | .rt d ρ => ∀ v σ' H', Sta K cl Lk E pv ρ σ' ((v, d) :: τ) H' → N.rt v H'
  | .bk ρ => ∀ σ' H', Sta K cl Lk E pv ρ σ' τ H' → N.bk σ' H'
  | .ct ρ => ∀ σ' H', Sta K cl Lk E pv ρ σ' τ H' → N.ct σ' H'
  | .rs c none ρ => ∀ C σ' H', cl.c c C → Sta K cl Lk E pv ρ σ' τ H' → W (.ref C) none σ' H'
  | .rs c (some (f, d)) ρ => ∀ C dx v σ' H', cl.c c C → H' dx = some (.xd [(f, v)]) → Sta K cl Lk E pv ρ σ' ((v, d) :: τ) H' → W (.ref C) (some dx) σ' H'
structure SE (P : List Nat) (W : WX) (t : TS) (f : En → Option Out) : Prop where
  run : ∀ {Lk : Lks} {E : Hp} {pv : List (Nat × V)} {ρ : En} {σ : St} {τ : Tm} {H : Hp} {o : Out} {N : Ends}, pv.map (·.1) = P → Sta K cl Lk E pv ρ σ τ H → f ρ = some o → EndsOk K cl W Lk E pv τ N o → t N σ H
end
end DL

set_option Elab.async false
set_option linter.all false
set_option maxRecDepth 100000
set_option maxHeartbeats 4000000
/-! DL3: rules for expressions, tests, statements -/
namespace DL
open PySem PySem.Spec L2
open PyProof.Rows hiding St
section
variable {K : PySem.W.Frag} {cl : Cf} {Lk : Lks} {E : Hp} {pv : List (Nat × V)} {ρ ρ' : En} {σ : St} {τ : Tm} {G G' H H' : Hp} {v : V} {d : D} {F F1 F2 : List Addr} {i : Nat}
/-! ### states -/
theorem Sx.same (h : Sx K cl Lk E pv ρ σ τ H G F1 F2) (s : Same H H') : Sx K cl Lk E pv ρ σ τ H' G F1 F2 :=
  ⟨h.ent, h.cfe, h.sub.same s, h.slots.same s, h.tmp.same s, h.nd, h.pin⟩
theorem Sta.same (h : Sta K cl Lk E pv ρ σ τ H) (s : Same H H') : Sta K cl Lk E pv ρ σ τ H' := by
  obtain ⟨G, F1, F2, h⟩ := h
  exact ⟨G, F1, F2, h.same s⟩
theorem same_upd {p : Addr} {o : HO} (h : H p = none) : Same H (upd H p o) := fun b x e => by
  rw [upd_ne (ne_of_none e h)]
  exact e
/-- a thing changed in its place -/
theorem keep_upd {p : Addr} {o o' : HO} (h : H p = some o) (nt : ∀ xs, o ≠ .tup xs) (nf : ∀ ob xs, o ≠ .frz ob (.tup xs)) (hF : ∀ a ∈ F, a ≠ p) : Keep F H (upd H p o') :=
  ⟨fun a m => upd_ne (hF a m), fun a xs e => by
    rw [upd_ne (fun z => by rw [z, h] at e; exact nt xs (Option.some.inj e))]; exact e, fun a ob xs e => by
    rw [upd_ne (fun z => by rw [z, h] at e; exact nf ob xs (Option.some.inj e))]; exact e⟩
/-- new things are held -/
theorem Sx.push (h : Sx K cl Lk E pv ρ σ τ H G F1 F2) (s : Same H H') (r : R K cl G H' v d F) (m : Md.fre.ok H F) : Sta K cl Lk E pv ρ σ ((v, d) :: τ) H' := by
  refine ⟨G, F1, F ++ F2, h.ent, h.cfe, h.sub.same s, h.slots.same s, R.cons r (h.tmp.same s), ?_, h.pin⟩
  obtain ⟨m1, m2⟩ := m
  have n0 := List.nodup_append.mp h.nd
  rw [List.nodup_append]
  refine ⟨n0.1, List.nodup_append.mpr ⟨m2, n0.2.1, fun a ha b hb e => ?_⟩, fun a ha b hb e => ?_⟩
  · subst e
    obtain ⟨_, u, q⟩ := h.tmp.own a hb
    rw [m1 a ha] at q; cases q
  · subst e
    rcases List.mem_append.mp hb with z | z
    · obtain ⟨_, u, q⟩ := h.slots.own a ha
      rw [m1 a z] at q; cases q
    · exact n0.2.2 a ha a z rfl
/-- a slot takes what is held -/
theorem Sta.put (h : Sta K cl Lk E pv ρ σ ((v, d) :: τ) H) (hi : i < ρ.length) (hp : i ∉ pv.map (·.1)) : Sta K cl Lk E pv (ρ.set i (some d)) (σ.set i (some v)) τ H := by
  obtain ⟨G, F1, F2, h⟩ := h
  obtain ⟨B, C2, r, t, rfl⟩ := h.tmp.uncons
  obtain ⟨A, C, s, h'⟩ := h.slots.put hi r
  refine ⟨G, _, C2, h.ent, h.cfe, h.sub, h', t, ?_, fun p m => ?_⟩
  · have p1 : ((A ++ B ++ C) ++ C2).Perm ((A ++ C) ++ (B ++ C2)) := by
      simp only [List.append_assoc]
      refine List.Perm.append_left A ?_
      rw [← List.append_assoc, ← List.append_assoc]
      exact (List.perm_append_comm).append_right C2
    exact p1.nodup_iff.mpr ((s.append_right _).nodup h.nd)
  · have hne : i ≠ p.1 := fun e => hp (e ▸ List.mem_map_of_mem m)
    rw [List.getElem?_set_ne hne]
    exact h.pin p m
/-- a thing is taken out of a slot -/
theorem Sta.take (h : Sta K cl Lk E pv ρ σ τ H) (e : ρ[i]? = some (some d)) : ∃ v, σ[i]? = some (some v) ∧ Sta K cl Lk E pv (ρ.set i none) σ ((v, d) :: τ) H := by
  obtain ⟨G, F1, F2, h⟩ := h
  obtain ⟨v, A, B, C, e1, r, rfl, h'⟩ := h.slots.at e
  refine ⟨v, e1, G, A ++ C, B ++ F2, h.ent, h.cfe, h.sub, h', R.cons r h.tmp, ?_, h.pin⟩
  have p1 : ((A ++ C) ++ (B ++ F2)).Perm ((A ++ B ++ C) ++ F2) := by
    simp only [List.append_assoc]
    refine List.Perm.append_left A ?_
    rw [← List.append_assoc, ← List.append_assoc]
    exact (List.perm_append_comm).append_right F2
  exact p1.nodup_iff.mpr h.nd
/-- what is held may be let go -/
theorem Sta.drop (h : Sta K cl Lk E pv ρ σ ((v, d) :: τ) H) : Sta K cl Lk E pv ρ σ τ H := by
  obtain ⟨G, F1, F2, h⟩ := h
  obtain ⟨B, C2, r, t, rfl⟩ := h.tmp.uncons
  exact ⟨G, F1, C2, h.ent, h.cfe, h.sub, h.slots, t, ((List.Sublist.refl F1).append (List.sublist_append_right B C2)).nodup h.nd, h.pin⟩
theorem Sta.drops {τ' : Tm} (h : Sta K cl Lk E pv ρ σ (τ' ++ τ) H) : Sta K cl Lk E pv ρ σ τ H := by
  induction τ' with
  | nil => exact h
  | cons p τ' ih => exact ih (Sta.drop (v := p.1) (d := p.2) h)
/-- the held things in another order -/
theorem RL.perm {vs : List V} {ds : List D} : ∀ {τ' : Tm} {F : List Addr}, RL K cl G H ((τ' ++ (v, d) :: τ).map (·.1)) ((τ' ++ (v, d) :: τ).map (·.2)) F → ∃ F', F'.Perm F ∧ RL K cl G H (((v, d) :: (τ' ++ τ)).map (·.1)) (((v, d) :: (τ' ++ τ)).map (·.2)) F'
  | [], F, h => ⟨F, .refl _, h⟩
  | p :: τ', F, h => by
    obtain ⟨A, B, r, t, rfl⟩ := RL.uncons h
    obtain ⟨B', pe, h'⟩ := RL.perm (vs := vs) (ds := ds) (τ' := τ') t
    obtain ⟨A2, B2, r2, t2, rfl⟩ := RL.uncons h'
    refine ⟨A2 ++ (A ++ B2), ?_, R.cons r2 (R.cons r t2)⟩
    have : (A2 ++ (A ++ B2)).Perm (A ++ (A2 ++ B2)) := by
      rw [← List.append_assoc, ← List.append_assoc]
      exact (List.perm_append_comm).append_right B2
    exact this.trans (pe.append_left A)
theorem Sta.rot {τ' : Tm} (h : Sta K cl Lk E pv ρ σ (τ' ++ (v, d) :: τ) H) : Sta K cl Lk E pv ρ σ ((v, d) :: (τ' ++ τ)) H := by
  obtain ⟨G, F1, F2, h⟩ := h
  obtain ⟨F', pe, t⟩ := RL.perm (vs := []) (ds := []) h.tmp
  exact ⟨G, F1, F', h.ent, h.cfe, h.sub, h.slots, t, ((pe.append_left F1).nodup_iff).mpr h.nd, h.pin⟩

/-! ### expressions -/
def fVar (i : Nat) : En → Option D := fun ρ => ρ.getD i none
def fFree (f : En → Option D) : En → Option D := fun ρ => (f ρ).bind fun d => if d.ow then none else some d
def fC (x : V) : En → Option D := fun _ => some (.v x)
theorem getD_some (e : ρ.getD i none = some d) : ρ[i]? = some (some d) := by
  rw [List.getD_eq_getElem?_getD] at e
  cases q : ρ[i]? with
  | none => rw [q] at e; cases e
  | some o =>
    rw [q] at e
    have e' : o = some d := e
    rw [e']
variable {m m1 m2 : Md} {t ta tb : TE} {f g : En → Option D}
theorem e_var (i : Nat) : EX K cl .any (tVar i) (fVar i) := ⟨fun s r e q => by
  obtain ⟨v, B, e1, h1, _⟩ := r.get (getD_some e)
  exact ⟨v, e1, q v _ B (Same.refl _) h1 trivial⟩⟩
theorem e_c (x : V) : EX K cl .shr (tC x) (fC x) := ⟨fun s r e q => by
  cases e
  exact q x _ [] (Same.refl _) (RL.sc RL.nil) rfl⟩
theorem e_free (h : EX K cl m t f) : EX K cl .shr t (fFree f) := ⟨fun {Lk G H ρ σ d F Q} s r e q => by
  unfold fFree at e
  cases z : f ρ with
  | none => rw [z] at e; cases e
  | some d0 =>
    rw [z] at e
    simp only [Option.bind_some] at e
    split at e
    · cases e
    · rename_i ho
      cases e
      refine h.run s r z fun v H' F' s' r' _ => ?_
      have : F' = [] := R.free r' (by simpa using ho)
      exact q v H' F' s' r' this⟩
/-- a name, not owned -/
def fRd (i : Nat) : En → Option D := fFree (fVar i)
theorem e_rd (i : Nat) : EX K cl .shr (tVar i) (fRd i) := e_free (e_var i)
theorem e_weak (h : EX K cl m t f) : EX K cl .any t f := ⟨fun s r e q => h.run s r e fun v H' F' s' r' _ => q v H' F' s' r' trivial⟩
theorem e_shr (h : EX K cl .shr t f) : EX K cl m t f := ⟨fun s r e q => h.run s r e fun v H' F' s' r' z => q v H' F' s' r' (by
  have e : F' = [] := z
  subst e
  exact Md.ok.nil)⟩
/-! lists of them -/
variable {tA : TA} {fs : En → Option (List D)}
def fNil : En → Option (List D) := fun _ => some []
def fCons (f : En → Option D) (fs : En → Option (List D)) : En → Option (List D) := fun ρ => (f ρ).bind fun d => (fs ρ).bind fun ds => some (d :: ds)
theorem ea_nil : EA K cl m tNil fNil := ⟨fun s r e q => by
  cases e
  exact q [] _ [] (Same.refl _) .nil Md.ok.nil⟩
theorem ea_cons (h : EX K cl m t f) (h2 : EA K cl m tA fs) : EA K cl m (tCons t tA) (fCons f fs) := ⟨fun {Lk G H ρ σ ds F Q} s r e q => by
  unfold fCons at e
  cases z : f ρ with
  | none => rw [z] at e; cases e
  | some d0 =>
    rw [z] at e
    cases z2 : fs ρ with
    | none => rw [z2] at e; cases e
    | some ds0 =>
      rw [z2] at e
      cases e
      refine h.run s r z fun v H1 F1 s1 r1 m1 => ?_
      refine h2.run (s.same s1) (r.same s1) z2 fun vs H2 F2 s2 r2 m2 => ?_
      exact q _ H2 _ (s1.trans s2) (R.cons (RL.same r1 s2) r2) (m1.app m2 s1 fun a ha => (RL.own r1 a ha).2)⟩
/-! by values -/
def f2 (g : D → D → Option D) (f f' : En → Option D) : En → Option D := fun ρ => (f ρ).bind fun a => (f' ρ).bind fun b => g a b
def f1 (g : D → Option D) (f : En → Option D) : En → Option D := fun ρ => (f ρ).bind g
def fL (g : List D → Option D) (fs : En → Option (List D)) : En → Option D := fun ρ => (fs ρ).bind g
variable {r : R2} {gg : D → D → Option D}
theorem e_op (h : EX K cl m1 ta f) (h2 : EX K cl m2 tb g) (hr : V2 K cl m r gg) : EX K cl m (tOp r ta tb) (f2 gg f g) := ⟨fun {Lk G H ρ σ d F Q} s rr e q => by
  unfold f2 at e
  cases z : f ρ with
  | none => rw [z] at e; cases e
  | some d0 =>
    rw [z] at e
    cases z2 : g ρ with
    | none => rw [z2] at e; cases e
    | some d1 =>
      rw [z2] at e
      refine h.run s rr z fun x H1 F1 s1 r1 _ => ?_
      refine h2.run (s.same s1) (rr.same s1) z2 fun y H2 F2 s2 r2 _ => ?_
      exact hr ((s.same s1).same s2) (RL.same r1 s2) r2 e fun v H' F' s' r' m' => q v H' F' ((s1.trans s2).trans s') r' (m'.back (s1.trans s2))⟩
theorem e_un {r : V → Hp → VK → Prop} {gg : D → Option D} (h : EX K cl m1 ta f) (hr : V1 K cl m r gg) : EX K cl m (tUn r ta) (f1 gg f) := ⟨fun {Lk G H ρ σ d F Q} s rr e q => by
  unfold f1 at e
  cases z : f ρ with
  | none => rw [z] at e; cases e
  | some d0 =>
    rw [z] at e
    refine h.run s rr z fun x H1 F1 s1 r1 _ => ?_
    exact hr (s.same s1) r1 e fun v H' F' s' r' m' => q v H' F' (s1.trans s') r' (m'.back s1)⟩
theorem e_cb {r : List V → Hp → VK → Prop} {gg : List D → Option D} (h : EA K cl m1 tA fs) (hr : VL K cl m r gg) : EX K cl m (tCB r tA) (fL gg fs) := ⟨fun {Lk G H ρ σ d F Q} s rr e q => by
  unfold fL at e
  cases z : fs ρ with
  | none => rw [z] at e; cases e
  | some d0 =>
    rw [z] at e
    refine h.run s rr z fun x H1 F1 s1 r1 _ => ?_
    exact hr (s.same s1) r1 e fun v H' F' s' r' m' => q v H' F' (s1.trans s') r' (m'.back s1)⟩
/-! tests -/
variable {tt uu : TT} {b c : En → Option Bool}
def fT (f : En → Option D) : En → Option Bool := fun ρ => (f ρ).bind fun d => match d with | .v (.bl k) => some k | _ => none
def fAnd (b c : En → Option Bool) : En → Option Bool := fun ρ => (b ρ).bind fun k => if k = true then c ρ else some false
def fOr (b c : En → Option Bool) : En → Option Bool := fun ρ => (b ρ).bind fun k => if k = true then some true else c ρ
def fNot (b : En → Option Bool) : En → Option Bool := fun ρ => (b ρ).map (!·)
theorem t_test (h : EX K cl m t f) : ET K cl (tTest t) (fT f) := ⟨fun {Lk G H ρ σ bb F Q} s rr e q => by
  unfold fT at e
  cases z : f ρ with
  | none => rw [z] at e; cases e
  | some d0 =>
    rw [z] at e
    simp only [Option.bind_some] at e
    split at e
    · cases e
      refine h.run s rr z fun x H1 F1 s1 r1 _ => ?_
      obtain ⟨rfl, _⟩ := R.v_inv r1
      exact ⟨_, rfl, q H1 s1⟩
    · cases e⟩
theorem t_tB (h : EX K cl m t f) : ET K cl (tB t) (fT f) := ⟨(t_test h).run⟩
theorem t_and (h : ET K cl tt b) (h2 : ET K cl uu c) : ET K cl (tAnd tt uu) (fAnd b c) := ⟨fun {Lk G H ρ σ bb F Q} s rr e q => by
  unfold fAnd at e
  cases z : b ρ with
  | none => rw [z] at e; cases e
  | some k =>
    rw [z] at e
    refine h.run s rr z fun H1 s1 => ?_
    cases k with
    | true => exact iteT (h2.run (s.same s1) (rr.same s1) e fun H2 s2 => q H2 (s1.trans s2))
    | false => cases e; exact iteF (q H1 s1)⟩
theorem t_or (h : ET K cl tt b) (h2 : ET K cl uu c) : ET K cl (tOr tt uu) (fOr b c) := ⟨fun {Lk G H ρ σ bb F Q} s rr e q => by
  unfold fOr at e
  cases z : b ρ with
  | none => rw [z] at e; cases e
  | some k =>
    rw [z] at e
    refine h.run s rr z fun H1 s1 => ?_
    cases k with
    | false => exact iteF (h2.run (s.same s1) (rr.same s1) e fun H2 s2 => q H2 (s1.trans s2))
    | true => cases e; exact iteT (q H1 s1)⟩
theorem t_not (h : ET K cl tt b) : ET K cl (tNot tt) (fNot b) := ⟨fun {Lk G H ρ σ bb F Q} s rr e q => by
  unfold fNot at e
  cases z : b ρ with
  | none => rw [z] at e; cases e
  | some k =>
    rw [z] at e
    cases e
    exact h.run s rr z q⟩
/-! and, or, not as values; a if t else b -/
def fAndV (f g : En → Option D) : En → Option D := fun ρ => (fT f ρ).bind fun k => if k = true then g ρ else some (.v (.bl false))
def fOrV (f g : En → Option D) : En → Option D := fun ρ => (fT f ρ).bind fun k => if k = true then some (.v (.bl true)) else g ρ
def fNotV (f : En → Option D) : En → Option D := fun ρ => (fT f ρ).map fun k => .v (.bl (!k))
def fIf (b : En → Option Bool) (f g : En → Option D) : En → Option D := fun ρ => (b ρ).bind fun k => if k = true then f ρ else g ρ
theorem e_andV (h : EX K cl m1 ta f) (h2 : EX K cl m tb g) : EX K cl m (tAndV ta tb) (fAndV f g) := ⟨fun {Lk G H ρ σ d F Q} s rr e q => by
  unfold fAndV at e
  cases z : fT f ρ with
  | none => rw [z] at e; cases e
  | some k =>
    rw [z] at e
    refine (t_tB h).run s rr z fun H1 s1 => ?_
    cases k with
    | true => exact iteT (h2.run (s.same s1) (rr.same s1) e fun v H' F' s' r' m' => q v H' F' (s1.trans s') r' (m'.back s1))
    | false => cases e; exact iteF (q _ H1 [] s1 (RL.sc RL.nil) Md.ok.nil)⟩
theorem e_orV (h : EX K cl m1 ta f) (h2 : EX K cl m tb g) : EX K cl m (tOrV ta tb) (fOrV f g) := ⟨fun {Lk G H ρ σ d F Q} s rr e q => by
  unfold fOrV at e
  cases z : fT f ρ with
  | none => rw [z] at e; cases e
  | some k =>
    rw [z] at e
    refine (t_tB h).run s rr z fun H1 s1 => ?_
    cases k with
    | false => exact iteF (h2.run (s.same s1) (rr.same s1) e fun v H' F' s' r' m' => q v H' F' (s1.trans s') r' (m'.back s1))
    | true => cases e; exact iteT (q _ H1 [] s1 (RL.sc RL.nil) Md.ok.nil)⟩
theorem e_notV (h : EX K cl m1 ta f) : EX K cl .shr (tNotV ta) (fNotV f) := ⟨fun {Lk G H ρ σ d F Q} s rr e q => by
  unfold fNotV at e
  cases z : fT f ρ with
  | none => rw [z] at e; cases e
  | some k =>
    rw [z] at e
    cases e
    refine (t_tB h).run s rr z fun H1 s1 => ?_
    exact q _ H1 [] s1 (RL.sc RL.nil) rfl⟩
theorem e_if (h : ET K cl tt b) (h1 : EX K cl m ta f) (h2 : EX K cl m tb g) : EX K cl m (tIf tt ta tb) (fIf b f g) := ⟨fun {Lk G H ρ σ d F Q} s rr e q => by
  unfold fIf at e
  cases z : b ρ with
  | none => rw [z] at e; cases e
  | some k =>
    rw [z] at e
    refine h.run s rr z fun H1 s1 => ?_
    cases k with
    | true => exact iteT (h1.run (s.same s1) (rr.same s1) e fun v H' F' s' r' m' => q v H' F' (s1.trans s') r' (m'.back s1))
    | false => exact iteF (h2.run (s.same s1) (rr.same s1) e fun v H' F' s' r' m' => q v H' F' (s1.trans s') r' (m'.back s1))⟩
/-! chains -/
def fChain (g h : D → D → Option D) (f1 f2 f3 : En → Option D) : En → Option D := fun ρ => (f1 ρ).bind fun a => (f2 ρ).bind fun b => (g a b).bind fun z => match z with
  | .v (.bl true) => (f3 ρ).bind fun c => h b c
  | .v (.bl false) => some (.v (.bl false))
  | _ => none
/-! taking out -/
variable {o : En → Option (D × En)}
def fMove (i : Nat) : En → Option (D × En) := fun ρ => (ρ.getD i none).map fun d => (d, ρ.set i none)
def fHold (f : En → Option D) : En → Option (D × En) := fun ρ => (f ρ).map fun d => (d, ρ)
theorem o_hold (h : EX K cl .fre t f) : OM K cl t (fHold f) := ⟨fun {Lk E pv ρ ρ' σ τ H d Q} st e q => by
  obtain ⟨G, F1, F2, st⟩ := st
  unfold fHold at e
  cases z : f ρ with
  | none => rw [z] at e; cases e
  | some d0 =>
    rw [z] at e
    cases e
    exact h.run st.sub st.slots z fun v H' F' s' r' m' => q v H' s' (st.push s' r' m')⟩
theorem o_move (i : Nat) : OM K cl (tVar i) (fMove i) := ⟨fun {Lk E pv ρ ρ' σ τ H d Q} st e q => by
  unfold fMove at e
  cases z : ρ.getD i none with
  | none => rw [z] at e; cases e
  | some d0 =>
    rw [z] at e
    cases e
    obtain ⟨v, e1, st'⟩ := st.take (getD_some z)
    exact ⟨v, e1, q v H (Same.refl _) st'⟩⟩
theorem oe_om (h : OM K cl t o) : OE K cl t o := ⟨fun st e q => h.run st e fun v H' _ st' => q v H' st'⟩
variable {os : En → Option (List D × En)}
def oNil : En → Option (List D × En) := fun ρ => some ([], ρ)
def oCons (o : En → Option (D × En)) (os : En → Option (List D × En)) : En → Option (List D × En) := fun ρ => (o ρ).bind fun p => (os p.2).bind fun q => some (p.1 :: q.1, q.2)
theorem oa_nil : OA K cl tNil oNil := ⟨fun st e q => by
  cases e
  exact q [] _ (Same.refl _) rfl st⟩
theorem oa_cons (h : OM K cl t o) (h2 : OA K cl tA os) : OA K cl (tCons t tA) (oCons o os) := ⟨fun {Lk E pv ρ ρ' σ τ H ds Q} st e q => by
  unfold oCons at e
  cases z : o ρ with
  | none => rw [z] at e; cases e
  | some p =>
    rw [z] at e
    simp only [Option.bind_some] at e
    cases z2 : os p.2 with
    | none => rw [z2] at e; cases e
    | some pp =>
      rw [z2] at e
      cases e
      refine h.run st z fun v H1 s1 st1 => ?_
      refine h2.run st1 z2 fun vs H2 s2 l2 st2 => ?_
      exact q (v :: vs) H2 (s1.trans s2) (by simp [l2]) st2.rot⟩
/-! displays -/
def anyOw (ds : List D) : Bool := ds.any D.ow
def gTupD (ds : List D) : D := .n (.tup (anyOw ds)) ds
theorem free_nil {vs : List V} {ds : List D} (h : RL K cl G H vs ds F) (o : anyOw ds = false) : F = [] := by
  induction ds generalizing vs F with
  | nil => cases h; rfl
  | cons d ds ih =>
    cases vs with
    | nil => cases h
    | cons v vs =>
      obtain ⟨A, B, r, t, rfl⟩ := h.uncons
      have o' : (d.ow || anyOw ds) = false := o
      rw [Bool.or_eq_false_iff] at o'
      rw [R.free r o'.1, ih t o'.2]
      rfl
theorem r_tup {vs : List V} {ds : List D} {p : Addr} (h : RL K cl G H vs ds F) (hp : H p = none) : R K cl G (upd H p (.tup vs)) (.ref p) (gTupD ds) F := by
  have ok : Kd.ok K cl G (upd H p (.tup vs)) (.tup (anyOw ds)) p vs [] := by
    cases anyOw ds with
    | false => exact ⟨SqT.of upd_same, rfl⟩
    | true => exact ⟨upd_same, rfl⟩
  have := R.mk (F0 := []) ok (h.same (same_upd hp)) fun o => free_nil h o
  exact this
theorem Sub.free {a : Addr} (s : Sub Lk G H) (h : H a = none) : G a = none := by
  cases q : G a with
  | none => rfl
  | some u =>
    rcases s.at_ a u q with ⟨_, e⟩ | ⟨_, _, _, e⟩ <;> (rw [h] at e; cases e)
theorem r_lst {vs : List V} {ds : List D} {p : Addr} (s : Sub Lk G H) (h : RL K cl G H vs ds F) (hp : H p = none) : R K cl G (upd H p (.lst vs)) (.ref p) (.n (.lst true) ds) (p :: F) :=
  R.mk (F0 := [p]) (k := .lst true) ⟨upd_same, s.free hp, rfl⟩ (h.same (same_upd hp)) fun o => nomatch o
theorem tmp_zip {vs : List V} {ds : List D} (l : vs.length = ds.length) : (vs.zip ds).map (·.1) = vs ∧ (vs.zip ds).map (·.2) = ds :=
  ⟨List.map_fst_zip (by omega), List.map_snd_zip (by omega)⟩
def oTup (os : En → Option (List D × En)) : En → Option (D × En) := fun ρ => (os ρ).bind fun p => if p.1.length ≤ sizeLine then some (gTupD p.1, p.2) else none
def oLst (os : En → Option (List D × En)) : En → Option (D × En) := fun ρ => (os ρ).bind fun p => if p.1.length ≤ sizeLine then some (.n (.lst true) p.1, p.2) else none
def fTup (fs : En → Option (List D)) : En → Option D := fun ρ => (fs ρ).bind fun ds => if ds.length ≤ sizeLine then some (gTupD ds) else none
def fLst (fs : En → Option (List D)) : En → Option D := fun ρ => (fs ρ).bind fun ds => if ds.length ≤ sizeLine then some (.n (.lst true) ds) else none
theorem Sta.unzip {vs : List V} {ds : List D} (l : vs.length = ds.length) (h : Sta K cl Lk E pv ρ σ (vs.zip ds ++ τ) H) : ∃ G F1 F2 F3, (Same E G ∧ Same cl.e G) ∧ Sub Lk G H ∧ RE K cl G H ρ σ F1 ∧ RL K cl G H vs ds F2 ∧ RL K cl G H (τ.map (·.1)) (τ.map (·.2)) F3 ∧ (F1 ++ (F2 ++ F3)).Nodup ∧ ∀ p ∈ pv, σ[p.1]? = some (some p.2) := by
  obtain ⟨G, F1, F2, h⟩ := h
  have t := h.tmp
  obtain ⟨z1, z2⟩ := tmp_zip l
  rw [List.map_append, List.map_append, z1, z2] at t
  obtain ⟨ws, us, A, B, e, h1, h2, rfl⟩ := t.split
  have wl : vs.length = ws.length := by rw [l, h1.len]
  obtain ⟨rfl, rfl⟩ := List.append_inj e wl
  exact ⟨G, F1, A, B, ⟨h.ent, h.cfe⟩, h.sub, h.slots, h1, h2, h.nd, h.pin⟩
theorem o_tup (h : OA K cl tA os) : OM K cl (tTup tA) (oTup os) := ⟨fun {Lk E pv ρ ρ' σ τ H d Q} st e q => by
  unfold oTup at e
  cases z : os ρ with
  | none => rw [z] at e; cases e
  | some p =>
    rw [z] at e
    simp only [Option.bind_some] at e
    split at e
    · rename_i hz
      cases e
      refine h.run st z fun vs H1 s1 l1 st1 => ?_
      refine ⟨by rw [l1]; exact hz, fun a ha => ?_⟩
      obtain ⟨G, F1, F2, F3, q1, q2, q3, q4, q5, q6, q7⟩ := st1.unzip l1
      have s2 := same_upd (o := .tup vs) ha
      exact q (.ref a) _ (s1.trans s2) ⟨G, F1, F2 ++ F3, q1.1, q1.2, q2.same s2, q3.same s2, R.cons (r_tup q4 ha) (q5.same s2), q6, q7⟩
    · cases e⟩
theorem nodup_new {a : Addr} {F1 F2 : List Addr} (h : (F1 ++ F2).Nodup) (n1 : a ∉ F1) (n2 : a ∉ F2) : (F1 ++ (a :: F2)).Nodup := by
  have p : (F1 ++ (a :: F2)).Perm (a :: (F1 ++ F2)) := List.perm_middle
  exact p.nodup_iff.mpr (List.nodup_cons.mpr ⟨fun m => (List.mem_append.mp m).elim n1 n2, h⟩)
theorem o_lst (h : OA K cl tA os) : OM K cl (tLst tA) (oLst os) := ⟨fun {Lk E pv ρ ρ' σ τ H d Q} st e q => by
  unfold oLst at e
  cases z : os ρ with
  | none => rw [z] at e; cases e
  | some p =>
    rw [z] at e
    simp only [Option.bind_some] at e
    split at e
    · rename_i hz
      cases e
      refine h.run st z fun vs H1 s1 l1 st1 => ?_
      refine ⟨by rw [l1]; exact hz, fun a ha => ?_⟩
      obtain ⟨G, F1, F2, F3, q1, q2, q3, q4, q5, q6, q7⟩ := st1.unzip l1
      have s2 := same_upd (o := .lst vs) ha
      refine q (.ref a) _ (s1.trans s2) ⟨G, F1, (a :: F2) ++ F3, q1.1, q1.2, q2.same s2, q3.same s2, R.cons (r_lst q2 q4 ha) (q5.same s2), ?_, q7⟩
      rw [List.cons_append]
      have no : ∀ F0 : List Addr, (∀ b ∈ F0, G b = none ∧ ∃ o, H1 b = some o) → a ∉ F0 := fun F0 k m => by
        obtain ⟨_, o, e⟩ := k a m
        rw [ha] at e; cases e
      exact nodup_new q6 (no F1 q3.own) fun m => (List.mem_append.mp m).elim (no F2 q4.own) (no F3 q5.own)
    · cases e⟩
theorem e_tup (h : EA K cl m tA fs) : EX K cl m (tTup tA) (fTup fs) := ⟨fun {Lk G H ρ σ d F Q} s rr e q => by
  unfold fTup at e
  cases z : fs ρ with
  | none => rw [z] at e; cases e
  | some ds =>
    rw [z] at e
    simp only [Option.bind_some] at e
    split at e
    · rename_i hz
      cases e
      refine h.run s rr z fun vs H1 F1 s1 r1 m1 => ?_
      refine ⟨by rw [r1.len]; exact hz, fun a ha => ?_⟩
      exact q (.ref a) _ F1 (s1.trans (same_upd ha)) (r_tup r1 ha) m1
    · cases e⟩
theorem e_lst (h : EA K cl .fre tA fs) : EX K cl .fre (tLst tA) (fLst fs) := ⟨fun {Lk G H ρ σ d F Q} s rr e q => by
  unfold fLst at e
  cases z : fs ρ with
  | none => rw [z] at e; cases e
  | some ds =>
    rw [z] at e
    simp only [Option.bind_some] at e
    split at e
    · rename_i hz
      cases e
      refine h.run s rr z fun vs H1 F1 s1 r1 m1 => ?_
      refine ⟨by rw [r1.len]; exact hz, fun a ha => ?_⟩
      refine q (.ref a) _ (a :: F1) (s1.trans (same_upd ha)) (r_lst (s.same s1) r1 ha) ⟨fun b hb => ?_, List.nodup_cons.mpr ⟨fun hb => ?_, m1.2⟩⟩
      · rcases List.mem_cons.mp hb with rfl | hb
        · exact Same.free s1 ha
        · exact m1.1 b hb
      · obtain ⟨_, o, e⟩ := r1.own a hb
        rw [ha] at e; cases e
    · cases e⟩
end
end DL

set_option Elab.async false
set_option linter.all false
set_option maxRecDepth 100000
set_option maxHeartbeats 4000000
/-! DL4: statements, loops, comprehensions -/
namespace DL
open PySem PySem.Spec L2
open PyProof.Rows hiding St
section
variable {K : PySem.W.Frag} {cl : Cf} {Lk : Lks} {E : Hp} {pv : List (Nat × V)} {ρ ρ' : En} {σ : St} {τ : Tm} {G G' H H' : Hp} {v : V} {d : D} {F F1 F2 : List Addr} {i : Nat}
variable {P : List Nat} {W : WX} {t u : TS} {f g : En → Option Out} {te : TE} {o : En → Option (D × En)} {m : Md} {fe : En → Option D} {tc : TT} {fc : En → Option Bool}
def sPass : En → Option Out := fun ρ => some (.nx ρ)
def sSeq (f g : En → Option Out) : En → Option Out := fun ρ => (f ρ).bind fun o => match o with | .nx ρ' => g ρ' | o => some o
def sRet (o : En → Option (D × En)) : En → Option Out := fun ρ => (o ρ).map fun p => .rt p.1 p.2
def sRetN : En → Option Out := fun ρ => some (.rt (.v .non) ρ)
def sIf (c : En → Option Bool) (f g : En → Option Out) : En → Option Out := fun ρ => (c ρ).bind fun k => if k = true then f ρ else g ρ
def sDrop (o : En → Option (D × En)) : En → Option Out := fun ρ => (o ρ).map fun p => .nx p.2
def sAsg (o : En → Option (D × En)) (h : D → En → Option En) : En → Option Out := fun ρ => (o ρ).bind fun p => (h p.1 p.2).map .nx
theorem s_pass : SE K cl P W tNext sPass := ⟨fun hp st e q => by cases e; exact q _ _ st⟩
theorem s_seq (h1 : SE K cl P W t f) (h2 : SE K cl P W u g) : SE K cl P W (tSeq t u) (sSeq f g) := ⟨fun {Lk E pv ρ σ τ H oo N} hp st e q => by
  unfold sSeq at e
  cases z : f ρ with
  | none => rw [z] at e; cases e
  | some o1 =>
    rw [z] at e
    refine h1.run hp st z ?_
    cases o1 with
    | nx ρ1 =>
      intro σ' H' st'
      exact h2.run hp st' e q
    | rt d ρ1 => cases e; exact q
    | bk ρ1 => cases e; exact q
    | ct ρ1 => cases e; exact q
    | rs c p ρ1 =>
      cases e
      cases p with
      | none => exact q
      | some p => exact q⟩
theorem s_ret (h : OE K cl te o) : SE K cl P W (tRet te) (sRet o) := ⟨fun {Lk E pv ρ σ τ H oo N} hp st e q => by
  unfold sRet at e
  cases z : o ρ with
  | none => rw [z] at e; cases e
  | some p =>
    rw [z] at e
    cases e
    exact h.run st z fun v H' st' => q v σ H' st'⟩
theorem s_retN : SE K cl P W tRetN sRetN := ⟨fun {Lk E pv ρ σ τ H oo N} hp st e q => by
  cases e
  obtain ⟨G, F1, F2, st⟩ := st
  exact q .non σ H (st.push (Same.refl _) (R.sc (x := .non)) ⟨(fun _ z => nomatch z), List.nodup_nil⟩)⟩
theorem s_if (hc : ET K cl tc fc) (h1 : SE K cl P W t f) (h2 : SE K cl P W u g) : SE K cl P W (tIfS tc t u) (sIf fc f g) := ⟨fun {Lk E pv ρ σ τ H oo N} hp st e q => by
  unfold sIf at e
  cases z : fc ρ with
  | none => rw [z] at e; cases e
  | some k =>
    rw [z] at e
    obtain ⟨G, F1, F2, sx⟩ := id st
    refine hc.run sx.sub sx.slots z fun H' s' => ?_
    cases k with
    | true => exact iteT (h1.run hp (st.same s') e q)
    | false => exact iteF (h2.run hp (st.same s') e q)⟩
theorem s_drop (h : OE K cl te o) : SE K cl P W (tDrop te) (sDrop o) := ⟨fun {Lk E pv ρ σ τ H oo N} hp st e q => by
  unfold sDrop at e
  cases z : o ρ with
  | none => rw [z] at e; cases e
  | some p =>
    rw [z] at e
    cases e
    exact h.run st z fun v H' st' => q σ H' st'.drop⟩
theorem s_asg {gt : TG} {h : D → En → Option En} (ho : OE K cl te o) (hg : SG K cl P gt h) : SE K cl P W (tAsg te gt) (sAsg o h) := ⟨fun {Lk E pv ρ σ τ H oo N} hp st e q => by
  unfold sAsg at e
  cases z : o ρ with
  | none => rw [z] at e; cases e
  | some p =>
    rw [z] at e
    simp only [Option.bind_some] at e
    cases z2 : h p.1 p.2 with
    | none => rw [z2] at e; cases e
    | some ρ1 =>
      rw [z2] at e
      cases e
      exact ho.run st z fun v H' st' => hg.run hp st' z2 q⟩
/-! targets -/
def gSet (i : Nat) : D → En → Option En := fun d ρ => if i < ρ.length then some (ρ.set i (some d)) else none
theorem g_name {i : Nat} (hi : i ∉ P) : SG K cl P (gName i) (gSet i) := ⟨fun {Lk E pv ρ ρ' σ τ H v d Q} hp st e q => by
  unfold gSet at e
  split at e
  · rename_i hl
    cases e
    exact q _ _ (st.put hl (hp ▸ hi))
  · cases e⟩
def gsNil : List D → En → Option En := fun ds ρ => match ds with | [] => some ρ | _ => none
def gsCons (h : D → En → Option En) (hs : List D → En → Option En) : List D → En → Option En := fun ds ρ => match ds with | d :: ds => (h d ρ).bind (hs ds) | [] => none
def gUn (n : Nat) (hs : List D → En → Option En) : D → En → Option En := fun d ρ => match d with | .n (.tup _) ds => if ds.length = n then hs ds ρ else none | _ => none
theorem gs_nil : SGs K cl P gNil gsNil := ⟨fun {Lk E pv ρ ρ' σ τ H vs ds Q} hp hl st e q => by
  cases ds with
  | nil =>
    cases e
    cases vs with
    | nil => exact ⟨rfl, q _ _ st⟩
    | cons _ _ => cases hl
  | cons _ _ => cases e⟩
theorem gs_cons {gt : TG} {gu : TGs} {h : D → En → Option En} {hs : List D → En → Option En} (h1 : SG K cl P gt h) (h2 : SGs K cl P gu hs) : SGs K cl P (gCons gt gu) (gsCons h hs) := ⟨fun {Lk E pv ρ ρ' σ τ H vs ds Q} hp hl st e q => by
  cases ds with
  | nil => cases e
  | cons d ds =>
    cases vs with
    | nil => cases hl
    | cons v vs =>
      have e : (h d ρ).bind (hs ds) = some ρ' := e
      cases z : h d ρ with
      | none => rw [z] at e; cases e
      | some ρ1 =>
        rw [z] at e
        refine ⟨v, vs, rfl, h1.run hp st z fun σ' H' st' => ?_⟩
        exact h2.run hp (by simpa using hl) st' e q⟩
theorem g_un {n : Nat} {gt : TGs} {hs : List D → En → Option En} (h : SGs K cl P gt hs) : SG K cl P (gTup K n gt) (gUn n hs) := ⟨fun {Lk E pv ρ ρ' σ τ H v d Q} hp st e q => by
  unfold gUn at e
  split at e
  · rename_i o ds
    split at e
    · rename_i hn
      obtain ⟨G, F1, F2, sx⟩ := st
      obtain ⟨B, C, r, tt, ef⟩ := sx.tmp.uncons
      obtain ⟨a, ws, F0, F3, rfl, ok, rl, c, rfl⟩ := R.n_inv r
      have ok : SqT K H a ws ∧ F0 = [] := Kd.ok.tupT ok
      obtain ⟨hq, rfl⟩ := ok
      refine ⟨a, ws, rfl, hq, by rw [rl.len, hn], h.run hp rl.len ?_ e q⟩
      refine ⟨G, F1, F3 ++ C, sx.ent, sx.cfe, sx.sub, sx.slots, ?_, ?_, sx.pin⟩
      · obtain ⟨z1, z2⟩ := tmp_zip rl.len
        rw [List.map_append, List.map_append, z1, z2]
        exact rl.append tt
      · have := sx.nd
        rw [ef] at this
        simpa using this
    · cases e
  · cases e⟩
/-- name op= e, by values -/
def sAug (i : Nat) (g : D → D → Option D) (f : En → Option D) : En → Option Out := fun ρ => (ρ.getD i none).bind fun x => (f ρ).bind fun y => (g x y).map fun z => .nx (ρ.set i (some z))
theorem s_aug {i : Nat} {ti : TIp} {gg : D → D → Option D} (hi : i ∉ P) (he : EX K cl m te fe) (hr : V2 K cl .fre ti gg) : SE K cl P W (tAug i te ti) (sAug i gg fe) := ⟨fun {Lk E pv ρ σ τ H oo N} hp st e q => by
  unfold sAug at e
  cases z : ρ.getD i none with
  | none => rw [z] at e; cases e
  | some x =>
    rw [z] at e
    cases z2 : fe ρ with
    | none => rw [z2] at e; cases e
    | some y =>
      rw [z2] at e
      simp only [Option.bind_some] at e
      cases z3 : gg x y with
      | none => rw [z3] at e; cases e
      | some w =>
        rw [z3] at e
        cases e
        obtain ⟨G, F1, F2, sx⟩ := st
        obtain ⟨v, B, e1, r1, _⟩ := sx.slots.get (getD_some z)
        refine ⟨v, e1, he.run sx.sub sx.slots z2 fun y1 H1 F3 s1 r2 _ => ?_⟩
        refine hr (sx.sub.same s1) (RL.same r1 s1) r2 z3 fun v2 H2 F4 s2 r3 m3 => ?_
        have st2 := (sx.same s1).push s2 r3 m3
        have hl : i < ρ.length := (List.getElem?_eq_some_iff.mp (getD_some z)).1
        exact q _ _ (st2.put hl (hp ▸ hi))⟩
/-! while -/
def sWhile : Nat → (En → Option Bool) → (En → Option Out) → En → Option Out
  | 0, _, _, _ => none
  | n + 1, c, b, ρ => (c ρ).bind fun k => if k = true then (b ρ).bind fun o => match o with
      | .nx ρ' => sWhile n c b ρ'
      | .ct ρ' => sWhile n c b ρ'
      | .bk ρ' => some (.nx ρ')
      | .rt d ρ' => some (.rt d ρ')
      | .rs c p ρ' => some (.rs c p ρ')
    else some (.nx ρ)
theorem s_while {n : Nat} (hc : ET K cl tc fc) (hb : SE K cl P W t f) : SE K cl P W (tWhile tc t) (sWhile n fc f) := ⟨fun {Lk E pv ρ σ τ H oo N} hp st e q => by
  refine ⟨fun m σ H => ∃ ρ o, Sta K cl Lk E pv ρ σ τ H ∧ sWhile m fc f ρ = some o ∧ EndsOk K cl W Lk E pv τ N o, ⟨n, ρ, oo, st, e, q⟩, fun m σ H w => ?_⟩
  obtain ⟨ρ, o, st, e, q⟩ := w
  cases m with
  | zero => cases e
  | succ m =>
    unfold sWhile at e
    cases z : fc ρ with
    | none => rw [z] at e; cases e
    | some k =>
      rw [z] at e
      simp only [Option.bind_some] at e
      obtain ⟨G, F1, F2, sx⟩ := id st
      refine hc.run sx.sub sx.slots z fun H' s' => ?_
      have st' := st.same s'
      cases k with
      | false => cases e; exact iteF (q _ _ st')
      | true =>
        rw [if_pos rfl] at e
        cases z2 : f ρ with
        | none => rw [z2] at e; cases e
        | some o1 =>
          rw [z2] at e
          simp only [Option.bind_some] at e
          refine iteT ⟨fun σ' H' => ∃ ρ o, Sta K cl Lk E pv ρ σ' τ H' ∧ sWhile m fc f ρ = some o ∧ EndsOk K cl W Lk E pv τ N o, fun σ' H' w => ⟨m, Nat.lt_succ_self m, w⟩, hb.run hp st' z2 ?_⟩
          cases o1 with
          | nx ρ1 => exact fun σ' H' s => ⟨ρ1, o, s, e, q⟩
          | ct ρ1 => exact fun σ' H' s => ⟨ρ1, o, s, e, q⟩
          | bk ρ1 => cases e; exact q
          | rt d ρ1 => cases e; exact q
          | rs c p ρ1 =>
            cases e
            cases p with
            | none => exact q
            | some p => exact q⟩
/-! what a loop walks -/
variable (K cl) in
/-- J gives the items, as long as what is held (hv) stands -/
def Yl (Lk : Lks) (E : Hp) (J : It) (hv : Tm) (items : List D) : Prop := ∀ {G H : Hp} {F : List Addr}, Same E G → Sub Lk G H → RL K cl G H (hv.map (·.1)) (hv.map (·.2)) F → ∀ i,
  (∀ d, items[i]? = some d → J.go i H ∧ ∀ x H', J.yld i H x H' → Same H H' ∧ R K cl G H' x d []) ∧ (items.length ≤ i → J.stop i H)
variable (K cl) in
structure SI (m : Md) (Lk : Lks) (wi : TI) (f : En → Option (List D)) : Prop where
  run : ∀ {G H : Hp} {ρ : En} {σ : St} {items : List D} {F : List Addr} {R : It → Hp → Prop}, Sub Lk G H → RE K cl G H ρ σ F → f ρ = some items →
    (∀ J hv H' F', Same H H' → RL K cl G H' (hv.map (·.1)) (hv.map (·.2)) F' → m.ok H F' → Yl K cl Lk G J hv items → R J H') → wi σ H R
def sForL (h : D → En → Option En) (b : En → Option Out) : List D → En → Option Out
  | [], ρ => some (.nx ρ)
  | d :: ds, ρ => (h d ρ).bind fun ρ1 => (b ρ1).bind fun o => match o with
      | .nx ρ' => sForL h b ds ρ'
      | .ct ρ' => sForL h b ds ρ'
      | .bk ρ' => some (.nx ρ')
      | .rt d ρ' => some (.rt d ρ')
      | .rs c p ρ' => some (.rs c p ρ')
def sFor (src : En → Option (List D)) (h : D → En → Option En) (b : En → Option Out) : En → Option Out := fun ρ => (src ρ).bind fun items => sForL h b items ρ
theorem Sta.mid {hv : Tm} (h : Sta K cl Lk E pv ρ σ ((v, d) :: (hv ++ τ)) H) : Sta K cl Lk E pv ρ σ ((v, d) :: τ) H := by
  have h1 : Sta K cl Lk E pv ρ σ (((v, d) :: hv) ++ τ) H := h
  clear h
  induction hv with
  | nil => exact h1
  | cons p hv ih =>
    have h2 : Sta K cl Lk E pv ρ σ ([(v, d)] ++ (p.1, p.2) :: (hv ++ τ)) H := h1
    exact ih h2.rot.drop
/-- the loop itself -/
theorem for_core {J : It} {hv : Tm} {items : List D} {gt : TG} {h : D → En → Option En} {oo : Out} {N : Ends} (hg : SG K cl P gt h) (hb : SE K cl P W t f) (hp : pv.map (·.1) = P) (st : Sta K cl Lk E pv ρ σ (hv ++ τ) H) (y : Yl K cl Lk E J hv items)
    (e : sForL h f items ρ = some oo) (q : EndsOk K cl W Lk E pv τ N oo) : ∃ W : Nat → Nat → St → Hp → Prop, (∃ m, W 0 m σ H) ∧ ∀ i m σ H, W i m σ H →
    (J.stop i H ∧ N.nx σ H) ∨ (J.go i H ∧ ∃ Nn : St → Hp → Prop, (∀ σ' H', Nn σ' H' → ∃ m', m' < m ∧ W (i + 1) m' σ' H') ∧ ∀ x H', J.yld i H x H' → gt x σ H' fun σ2 H2 => t { N with nx := Nn, ct := Nn, bk := N.nx } σ2 H2) := by
  refine ⟨fun i m σ H => i + m = items.length ∧ ∃ ρ o, Sta K cl Lk E pv ρ σ (hv ++ τ) H ∧ sForL h f (items.drop i) ρ = some o ∧ EndsOk K cl W Lk E pv τ N o, ⟨items.length, by omega, ρ, oo, st, by simpa using e, q⟩, fun i m σ H w => ?_⟩
  obtain ⟨im, ρ, o, st, e, q⟩ := w
  obtain ⟨G, F1, F2, sx⟩ := id st
  have tm := sx.tmp
  rw [List.map_append, List.map_append] at tm
  obtain ⟨ws, us, A, B, ew, h1, h2, ef⟩ := tm.split
  have wl : (hv.map (·.1)).length = ws.length := by rw [h1.len]; simp
  obtain ⟨rfl, rfl⟩ := List.append_inj ew wl
  have yy := y sx.ent sx.sub h1 i
  by_cases hi : i < items.length
  · have hd : items[i]? = some items[i] := List.getElem?_eq_getElem hi
    rw [List.drop_eq_getElem_cons hi] at e
    unfold sForL at e
    obtain ⟨go, yl⟩ := yy.1 _ hd
    cases z : h items[i] ρ with
    | none => rw [z] at e; cases e
    | some ρ1 =>
      rw [z] at e
      simp only [Option.bind_some] at e
      cases z2 : f ρ1 with
      | none => rw [z2] at e; cases e
      | some o1 =>
        rw [z2] at e
        simp only [Option.bind_some] at e
        refine .inr ⟨go, fun σ' H' => ∃ ρ o, Sta K cl Lk E pv ρ σ' (hv ++ τ) H' ∧ sForL h f (items.drop (i + 1)) ρ = some o ∧ EndsOk K cl W Lk E pv τ N o, fun σ' H' w => ⟨m - 1, by omega, by omega, w⟩, fun x H' hy => ?_⟩
        obtain ⟨s', r'⟩ := yl x H' hy
        have st' := sx.push s' r' ⟨(fun _ z => nomatch z), List.nodup_nil⟩
        refine hg.run hp st' z fun σ2 H2 st2 => hb.run hp st2 z2 ?_
        cases o1 with
        | nx ρ1 => exact fun σ' H' s => ⟨ρ1, o, s, e, q⟩
        | ct ρ1 => exact fun σ' H' s => ⟨ρ1, o, s, e, q⟩
        | bk ρ1 => cases e; exact fun σ' H' s => q σ' H' s.drops
        | rt d ρ1 => cases e; exact fun v σ' H' s => q v σ' H' s.mid
        | rs c p ρ1 =>
          cases e
          cases p with
          | none => exact fun C σ' H' c s => q C σ' H' c s.drops
          | some p => exact fun C dx v σ' H' c x s => q C dx v σ' H' c x s.mid
  · have : items.drop i = [] := List.drop_eq_nil_of_le (by omega)
    rw [this] at e
    cases e
    exact .inl ⟨yy.2 (by omega), q σ H st.drops⟩
theorem Sta.weak {E' : Hp} (h : Sta K cl Lk E' pv ρ σ τ H) (s : Same E E') : Sta K cl Lk E pv ρ σ τ H := by
  obtain ⟨G, F1, F2, h⟩ := h
  exact ⟨G, F1, F2, s.trans h.ent, h.cfe, h.sub, h.slots, h.tmp, h.nd, h.pin⟩
theorem EndsOk.weak {E' : Hp} {N : Ends} {oo : Out} (s : Same E E') (q : EndsOk K cl W Lk E pv τ N oo) : EndsOk K cl W Lk E' pv τ N oo := by
  cases oo with
  | nx ρ => exact fun σ' H' st => q σ' H' (st.weak s)
  | rt d ρ => exact fun v σ' H' st => q v σ' H' (st.weak s)
  | bk ρ => exact fun σ' H' st => q σ' H' (st.weak s)
  | ct ρ => exact fun σ' H' st => q σ' H' (st.weak s)
  | rs c p ρ =>
    cases p with
    | none => exact fun C σ' H' hc st => q C σ' H' hc (st.weak s)
    | some p => exact fun C dx v σ' H' hc hx st => q C dx v σ' H' hc hx (st.weak s)
theorem s_for {wi : TI} {src : En → Option (List D)} {gt : TG} {h : D → En → Option En} (hs : ∀ Lk, SI K cl .fre Lk wi src) (hg : SG K cl P gt h) (hb : SE K cl P W t f) : SE K cl P W (tFor wi gt t) (sFor src h f) := ⟨fun {Lk E pv ρ σ τ H oo N} hp st e q => by
  unfold sFor at e
  cases z : src ρ with
  | none => rw [z] at e; cases e
  | some items =>
    rw [z] at e
    obtain ⟨G, F1, F2, sx⟩ := id st
    refine (hs Lk).run sx.sub sx.slots z fun J hv H' F' s' r' m' y => ?_
    have st' : Sta K cl Lk G pv ρ σ (hv ++ τ) H' := by
      have sx' := sx.same s'
      refine ⟨G, F1, F' ++ F2, Same.refl _, sx'.cfe, sx'.sub, sx'.slots, ?_, ?_, sx'.pin⟩
      · rw [List.map_append, List.map_append]
        exact r'.append sx'.tmp
      · have n0 := List.nodup_append.mp sx.nd
        rw [List.nodup_append]
        refine ⟨n0.1, List.nodup_append.mpr ⟨m'.2, n0.2.1, fun a ha b hb e => ?_⟩, fun a ha b hb e => ?_⟩
        · subst e
          obtain ⟨_, u, q⟩ := sx.tmp.own a hb
          rw [m'.1 a ha] at q; cases q
        · subst e
          rcases List.mem_append.mp hb with z | z
          · obtain ⟨_, u, q⟩ := sx.slots.own a ha
            rw [m'.1 a z] at q; cases q
          · exact n0.2.2 a ha a z rfl
    exact for_core hg hb hp st' y e (q.weak sx.ent)⟩
/-! sources -/
variable {ta tb : TE} {fa fb : En → Option D} {m1 m2 : Md}
theorem si_weak {wi : TI} {src : En → Option (List D)} (h : SI K cl m Lk wi src) : SI K cl .any Lk wi src := ⟨fun s r e q => h.run s r e fun J hv H' F' s' r' _ y => q J hv H' F' s' r' trivial y⟩
/-- the items of a list or a tuple that bear nothing owned -/
def itemsOf : D → Option (List D)
  | .n (.lst false) ds => some ds
  | .n .scr ds => some ds
  | .n .flst ds => some ds
  | .n (.tup false) ds => some ds
  | .n (.lst true) ds => if anyOw ds then none else some ds
  | .n (.tup true) ds => if anyOw ds then none else some ds
  | _ => none
def fItems (f : En → Option D) : En → Option (List D) := fun ρ => (f ρ).bind itemsOf
def iSeq (K : PySem.W.Frag) (te : TE) : TI := fun σ H R => te σ H fun x H1 => ∃ a, x = .ref a ∧ (((∃ xs, SqL K H1 a xs) ∧ R (Itl K a) H1) ∨ ((∃ xs, SqT K H1 a xs) ∧ R (Itt K a) H1))
theorem pi_seq {X : Cx} {tg l : Expr} {tl : TE} (hl : PE X l tl) : PI X tg l (iSeq X.K tl) := by
  refine ⟨fun pins s σ H R I h => ?_⟩
  refine thn (hl.run pins s σ H _ I h) fun v s1 ⟨x, H1, I1, r1, q1⟩ => ?_
  obtain ⟨a, e, hq⟩ := q1
  subst e
  cases r1
  rcases hq with ⟨⟨xs, hq⟩, q⟩ | ⟨⟨xs, hq⟩, q⟩
  · obtain ⟨its, rv, p, hz⟩ := I1.list hq
    refine wpAny_pyIter_list p.isList ?_
    refine ⟨s1.heap.objs.size, [s1.heap.objs.size], _, _, H1, rfl, I1.kept (t' := s1.toks) fun b o e => Heap.get?_push_of_some _ e, turn_list a _, ⟨_, Heap.get?_push_size _ rfl, rfl, rfl⟩, fun b hb => ?_, q⟩
    have e : b = s1.heap.objs.size := by simpa using hb
    subst e
    exact I1.fpOk (Nat.le_refl _) (I1.hok.fresh (Nat.le_refl _))
  · obtain ⟨its, rv, p, hz⟩ := I1.tuple hq
    refine wpAny_pyIter_tuple (show s1.heap.IsTuple a its.toArray from p) ?_
    refine ⟨s1.heap.objs.size, [s1.heap.objs.size], _, _, H1, rfl, I1.kept (t' := s1.toks) fun b o e => Heap.get?_push_of_some _ e, turn_tuple a _, ⟨_, Heap.get?_push_size _ rfl, rfl, rfl⟩, fun b hb => ?_, q⟩
    have e : b = s1.heap.objs.size := by simpa using hb
    subst e
    exact I1.fpOk (Nat.le_refl _) (I1.hok.fresh (Nat.le_refl _))
/-- the items of a node that bears nothing owned -/
theorem item_get {k : Kd} {ws : List V} {ds : List D} {i : Nat} (h : RL K cl G H ws ds F1) (c : F1 = [] ∨ anyOw ds = false) (e : ds[i]? = some d) : ∃ w, ws[i]? = some w ∧ R K cl G H w d [] := by
  obtain ⟨w, B, e1, r, s⟩ := h.get e
  refine ⟨w, e1, ?_⟩
  rcases c with c | c
  · subst c
    have : B = [] := List.sublist_nil.mp s
    subst this
    exact r
  · have hm : d ∈ ds := List.mem_of_getElem? e
    have : d.ow = false := by
      have := List.any_eq_false.mp c d hm
      simpa using this
    have e2 := R.free r this
    subst e2
    exact r
/-- the list at a node -/
theorem node_seq {k : Kd} {a : Addr} {ws : List V} {F0 : List Addr} {ds : List D} {items : List D} (s : Sub Lk G H) (h : Kd.ok K cl G H k a ws F0) (c : k.ow = false → F1 = []) (e : itemsOf (.n k ds) = some items) :
    items = ds ∧ (F1 = [] ∨ anyOw ds = false) ∧ (((∀ b, k ≠ .tup b) ∧ SqL K H a ws) ∨ (∃ b, k = .tup b ∧ SqT K H a ws)) := by
  cases k with
  | scr => cases e; exact ⟨rfl, .inl (c rfl), .inl ⟨(fun _ z => nomatch z), s.seq h.1⟩⟩
  | flst => cases e; exact ⟨rfl, .inl (c rfl), .inl ⟨(fun _ z => nomatch z), SqL.of (s.lst h.1)⟩⟩
  | lst b => cases b with
    | false => cases e; exact ⟨rfl, .inl (c rfl), .inl ⟨(fun _ z => nomatch z), SqL.of (s.lst h.1)⟩⟩
    | true =>
      have e' : (if anyOw ds then none else some ds) = some items := e
      split at e'
      · cases e'
      · rename_i z
        cases e'
        exact ⟨rfl, .inr (by simpa using z), .inl ⟨(fun _ z => nomatch z), SqL.of h.1⟩⟩
  | tup b => cases b with
    | false => cases e; exact ⟨rfl, .inl (c rfl), .inr ⟨_, rfl, h.1⟩⟩
    | true =>
      have e' : (if anyOw ds then none else some ds) = some items := e
      split at e'
      · cases e'
      · rename_i z
        cases e'
        exact ⟨rfl, .inr (by simpa using z), .inr ⟨_, rfl, SqT.of h.1⟩⟩
  | dct b ks => cases e
  | ins b c fs => cases e
  | exc cn fs => cases e
end
end DL

set_option Elab.async false
set_option linter.all false
set_option maxRecDepth 100000
set_option maxHeartbeats 4000000
/-! DL5: sources of loops, comprehensions -/
namespace DL
open PySem PySem.Spec L2
open PyProof.Rows hiding St
section
variable {K : PySem.W.Frag} {cl : Cf} {Lk : Lks} {E : Hp} {pv : List (Nat × V)} {ρ ρ' : En} {σ : St} {τ : Tm} {G G' H H' : Hp} {v : V} {d : D} {F F1 F2 : List Addr} {i : Nat}
variable {m m1 m2 : Md} {te ta tb : TE} {fe fa fb : En → Option D} {tA : TA} {fs : En → Option (List D)}
theorem yl_list {a : Addr} {k : Kd} {ds items : List D} (e : itemsOf (.n k ds) = some items) (hk : ∀ b, k ≠ .tup b) : Yl K cl Lk E (Itl K a) [(.ref a, .n k ds)] items := fun {G H F} _ s rl i => by
  obtain ⟨a', ws, F0, F1, ea, ok, r, c, rfl⟩ := R.n_inv rl
  cases ea
  obtain ⟨rfl, cc, q⟩ := node_seq s ok c e
  have hs : SqL K H a ws := by
    rcases q with ⟨_, q⟩ | ⟨b', z, _⟩
    · exact q
    · exact absurd z (hk b')
  refine ⟨fun d hd => ?_, fun hl => ⟨ws, hs, by rw [r.len]; exact hl⟩⟩
  obtain ⟨w, hw, rw'⟩ := item_get (k := k) r cc hd
  refine ⟨⟨ws, w, hs, hw⟩, fun x H' y => ?_⟩
  obtain ⟨rfl, y⟩ := y
  have := y ws hs
  rw [hw] at this
  cases this
  exact ⟨Same.refl _, rw'⟩
theorem yl_tup {a : Addr} {k : Kd} {b : Bool} {ds items : List D} (e : itemsOf (.n k ds) = some items) (hk : k = .tup b) : Yl K cl Lk E (Itt K a) [(.ref a, .n k ds)] items := fun {G H F} _ s rl i => by
  obtain ⟨a', ws, F0, F1, ea, ok, r, c, rfl⟩ := R.n_inv rl
  cases ea
  obtain ⟨rfl, cc, q⟩ := node_seq s ok c e
  have hs : SqT K H a ws := by
    rcases q with ⟨z, _⟩ | ⟨_, _, q⟩
    · exact absurd hk (z b)
    · exact q
  refine ⟨fun d hd => ?_, fun hl => ⟨ws, hs, by rw [r.len]; exact hl⟩⟩
  obtain ⟨w, hw, rw'⟩ := item_get (k := k) r cc hd
  refine ⟨⟨ws, w, hs, hw⟩, fun x H' y => ?_⟩
  obtain ⟨rfl, y⟩ := y
  have := y ws hs
  rw [hw] at this
  cases this
  exact ⟨Same.refl _, rw'⟩
theorem si_seq (h : EX K cl m te fe) : SI K cl m Lk (iSeq K te) (fItems fe) := ⟨fun {G H ρ σ items F RR} s r e q => by
  unfold fItems at e
  cases z : fe ρ with
  | none => rw [z] at e; cases e
  | some d =>
    rw [z] at e
    have e : itemsOf d = some items := e
    cases d with
    | v x => cases e
    | g => cases e
    | n k ds =>
      refine h.run s r z fun v H' F' s' r' m' => ?_
      obtain ⟨a, ws, F0, F1, rfl, ok, rl, c, rfl⟩ := R.n_inv r'
      obtain ⟨hi, cc, qq⟩ := node_seq (s.same s') ok c e
      refine ⟨a, rfl, ?_⟩
      rcases qq with ⟨hk, hs⟩ | ⟨b, hk, hs⟩
      · exact .inl ⟨⟨ws, hs⟩, q (Itl K a) [(.ref a, .n k ds)] H' _ s' r' m' (yl_list e hk)⟩
      · exact .inr ⟨⟨ws, hs⟩, q (Itt K a) [(.ref a, .n k ds)] H' _ s' r' m' (yl_tup e hk)⟩⟩
/-! ranges -/
def dI (i : Int) : D := .v (.int i)
def rngD (lo : Int) (n : Nat) : List D := (List.range n).map fun i : Nat => dI (lo + i)
theorem yl_range {lo : Int} {n : Nat} : Yl K cl Lk E (Itr lo n) [] (rngD lo n) := fun {G H F} _ s rl i => by
  have hl : (rngD lo n).length = n := by simp [rngD]
  refine ⟨fun d hd => ?_, fun h => by rw [hl] at h; exact h⟩
  have hi : i < n := by rw [← hl]; exact (List.getElem?_eq_some_iff.mp hd).1
  refine ⟨hi, fun x H' y => ?_⟩
  obtain ⟨rfl, rfl⟩ := y
  have : d = dI (lo + i) := by
    rw [rngD, List.getElem?_map, List.getElem?_range hi] at hd
    exact (Option.some.inj hd).symm
  subst this
  exact ⟨Same.refl _, R.sc⟩
def inBd (j : Int) : Bool := decide (j.natAbs < 4611686018427387904)
theorem inBd_ok {j : Int} (h : inBd j = true) : -(2 ^ 62) ≤ j ∧ j < 2 ^ 62 := by
  have := of_decide_eq_true h
  constructor <;> omega
def fRng1 (fs : En → Option (List D)) : En → Option (List D) := fun ρ => (fs ρ).bind fun ds => match ds with
  | [.v (.int j)] => if inBd j then some (rngD 0 j.toNat) else none
  | _ => none
def fRng2 (fs : En → Option (List D)) : En → Option (List D) := fun ρ => (fs ρ).bind fun ds => match ds with
  | [.v (.int i), .v (.int j)] => if inBd i && inBd j then some (rngD i (j - i).toNat) else none
  | _ => none
/-- range(i, j, -1) -/
def downD (lo : Int) (n : Nat) : List D := (List.range n).map fun i : Nat => dI (lo - i)
def fRng3 (fs : En → Option (List D)) : En → Option (List D) := fun ρ => (fs ρ).bind fun ds => match ds with
  | [.v (.int i), .v (.int j), .v (.int (-1))] => if inBd i && inBd j then some (downD i (i - j).toNat) else none
  | _ => none
theorem RL.one {x : D} {vs : List V} (h : RL K cl G H vs [x] F) : ∃ v, vs = [v] ∧ R K cl G H v x F := by
  cases vs with
  | nil => cases h
  | cons v vs =>
    have := h.len
    cases vs with
    | nil => exact ⟨v, rfl, h⟩
    | cons _ _ => simp at this
theorem RL.two {x y : D} {vs : List V} (h : RL K cl G H vs [x, y] F) : ∃ v w F1 F2, vs = [v, w] ∧ R K cl G H v x F1 ∧ R K cl G H w y F2 ∧ F = F1 ++ F2 := by
  cases vs with
  | nil => cases h
  | cons v vs =>
    obtain ⟨A, B, r, t, rfl⟩ := h.uncons
    obtain ⟨w, rfl, r2⟩ := t.one
    exact ⟨v, w, A, B, rfl, r, r2, rfl⟩
theorem RL.three {x y z : D} {vs : List V} (h : RL K cl G H vs [x, y, z] F) : ∃ v w u F1 F2 F3, vs = [v, w, u] ∧ R K cl G H v x F1 ∧ R K cl G H w y F2 ∧ R K cl G H u z F3 ∧ F = F1 ++ (F2 ++ F3) := by
  cases vs with
  | nil => cases h
  | cons v vs =>
    obtain ⟨A, B, r, t, rfl⟩ := h.uncons
    obtain ⟨w, u, F1, F2, rfl, r2, r3, rfl⟩ := t.two
    exact ⟨v, w, u, A, F1, F2, rfl, r, r2, r3, rfl⟩
theorem si_rng1 (h : EA K cl m1 tA fs) : SI K cl m Lk (iRng1 tA) (fRng1 fs) := ⟨fun {G H ρ σ items F RR} s r e q => by
  unfold fRng1 at e
  cases z : fs ρ with
  | none => rw [z] at e; cases e
  | some ds =>
    rw [z] at e
    simp only [Option.bind_some] at e
    split at e
    · rename_i j
      split at e
      · rename_i hb
        cases e
        refine h.run s r z fun vs H' F' s' r' m' => ?_
        obtain ⟨v, rfl, rv⟩ := r'.one
        obtain ⟨rfl, _⟩ := R.v_inv rv
        obtain ⟨b1, b2⟩ := inBd_ok hb
        exact ⟨j, rfl, b1, b2, q (Itr 0 j.toNat) [] H' [] s' .nil Md.ok.nil yl_range⟩
      · cases e
    · cases e⟩
theorem si_rng2 (h : EA K cl m1 tA fs) : SI K cl m Lk (iRng2 tA) (fRng2 fs) := ⟨fun {G H ρ σ items F RR} s r e q => by
  unfold fRng2 at e
  cases z : fs ρ with
  | none => rw [z] at e; cases e
  | some ds =>
    rw [z] at e
    simp only [Option.bind_some] at e
    split at e
    · rename_i i j
      split at e
      · rename_i hb
        cases e
        rw [Bool.and_eq_true] at hb
        refine h.run s r z fun vs H' F' s' r' m' => ?_
        obtain ⟨v, w, A, B, rfl, rv, rw', rfl⟩ := r'.two
        obtain ⟨rfl, _⟩ := R.v_inv rv
        obtain ⟨rfl, _⟩ := R.v_inv rw'
        obtain ⟨b1, b2⟩ := inBd_ok hb.1
        obtain ⟨b3, b4⟩ := inBd_ok hb.2
        exact ⟨i, j, rfl, ⟨b1, b2, b3, b4⟩, q (Itr i (j - i).toNat) [] H' [] s' .nil Md.ok.nil yl_range⟩
      · cases e
    · cases e⟩
theorem yl_down {lo : Int} {n : Nat} : Yl K cl Lk E (Itc lo (-1) n) [] (downD lo n) := fun {G H F} _ s rl i => by
  have hl : (downD lo n).length = n := by simp [downD]
  refine ⟨fun d hd => ?_, fun h => by rw [hl] at h; exact h⟩
  have hi : i < n := by rw [← hl]; exact (List.getElem?_eq_some_iff.mp hd).1
  refine ⟨hi, fun x H' y => ?_⟩
  obtain ⟨rfl, rfl⟩ := y
  have : d = dI (lo - i) := by
    rw [downD, List.getElem?_map, List.getElem?_range hi] at hd
    exact (Option.some.inj hd).symm
  subst this
  have e : lo - (i : Int) = lo + (i : Int) * (-1) := by omega
  rw [e]
  exact ⟨Same.refl _, R.sc⟩
theorem si_rng3 (h : EA K cl m1 tA fs) : SI K cl m Lk (iRng3 tA) (fRng3 fs) := ⟨fun {G H ρ σ items F RR} s r e q => by
  unfold fRng3 at e
  cases z : fs ρ with
  | none => rw [z] at e; cases e
  | some ds =>
    rw [z] at e
    simp only [Option.bind_some] at e
    split at e
    · rename_i i j
      split at e
      · rename_i hb
        cases e
        rw [Bool.and_eq_true] at hb
        refine h.run s r z fun vs H' F' s' r' m' => ?_
        obtain ⟨v, w, u, A, B, C, rfl, rv, rw', ru, rfl⟩ := r'.three
        obtain ⟨rfl, _⟩ := R.v_inv rv
        obtain ⟨rfl, _⟩ := R.v_inv rw'
        obtain ⟨rfl, _⟩ := R.v_inv ru
        obtain ⟨b1, b2⟩ := inBd_ok hb.1
        obtain ⟨b3, b4⟩ := inBd_ok hb.2
        exact ⟨i, j, -1, (i - j).toNat, rfl, RgC.neg b1 b2 b3 b4, q (Itc i (-1) (i - j).toNat) [] H' [] s' .nil Md.ok.nil yl_down⟩
      · cases e
    · cases e⟩
/-! enumerate, zip -/
def enumD (ds : List D) : List D := (List.range ds.length).map fun i : Nat => .n (.tup false) [dI i, ds.getD i (.v .non)]
def zipD (ds es : List D) : List D := (ds.zip es).map fun p => .n (.tup false) [p.1, p.2]
def lstItems : D → Option (List D)
  | .n (.lst b) ds => itemsOf (.n (.lst b) ds)
  | _ => none
def tupItems : D → Option (List D)
  | .n (.tup b) ds => itemsOf (.n (.tup b) ds)
  | _ => none
theorem lstItems_inv {d : D} {items : List D} (e : lstItems d = some items) : ∃ b ds, d = .n (.lst b) ds ∧ itemsOf (.n (.lst b) ds) = some items := by
  unfold lstItems at e
  split at e
  · exact ⟨_, _, rfl, e⟩
  · cases e
theorem tupItems_inv {d : D} {items : List D} (e : tupItems d = some items) : ∃ b ds, d = .n (.tup b) ds ∧ itemsOf (.n (.tup b) ds) = some items := by
  unfold tupItems at e
  split at e
  · exact ⟨_, _, rfl, e⟩
  · cases e
theorem r_pair {x y : V} {dx dy : D} {T : Addr} (rx : R K cl G H x dx []) (ry : R K cl G H y dy []) (hT : H T = none) : R K cl G (upd H T (.tup [x, y])) (.ref T) (.n (.tup false) [dx, dy]) [] :=
  R.mk (F0 := []) (F1 := [] ++ []) (k := .tup false) ⟨SqT.of upd_same, rfl⟩ ((R.cons rx ry).same (same_upd hT)) fun _ => rfl
def fEnum (fs : En → Option (List D)) : En → Option (List D) := fun ρ => (fs ρ).bind fun ds => match ds with
  | [d] => (lstItems d).map enumD
  | _ => none
theorem si_enum (h : EA K cl m tA fs) : SI K cl m Lk (iEnum K tA) (fEnum fs) := ⟨fun {G H ρ σ items F RR} s r e q => by
  unfold fEnum at e
  cases z : fs ρ with
  | none => rw [z] at e; cases e
  | some ds =>
    rw [z] at e
    simp only [Option.bind_some] at e
    split at e
    · rename_i d
      cases z2 : lstItems d with
      | none => rw [z2] at e; cases e
      | some its =>
        rw [z2] at e
        cases e
        obtain ⟨b, ds, rfl, e2⟩ := lstItems_inv z2
        refine h.run s r z fun vs H' F' s' r' m' => ?_
        obtain ⟨v, rfl, rv⟩ := r'.one
        obtain ⟨a, ws, F0, F1, rfl, ok, rl, c, rfl⟩ := R.n_inv rv
        have hs : ∀ {Lk G2 H2 ws F0 F1}, Sub Lk G2 H2 → Kd.ok K cl G2 H2 (.lst b) a ws F0 → ((Kd.lst b).ow = false → F1 = []) → its = ds ∧ (F1 = [] ∨ anyOw ds = false) ∧ SqL K H2 a ws := fun {Lk G2 H2 ws F0 F1} s2 ok2 c2 => by
          obtain ⟨x, y, zz⟩ := node_seq s2 ok2 c2 e2
          rcases zz with ⟨_, zz⟩ | ⟨_, zz, _⟩
          · exact ⟨x, y, zz⟩
          · cases zz
        refine ⟨a, ws, rfl, (hs (s.same s') ok c).2.2, q (Ite K a) [(.ref a, .n (.lst b) ds)] H' _ s' rv m' fun {G2 H2 F2} _ s2 rl2 i => ?_⟩
        obtain ⟨a', ws2, F02, F12, ea, ok2, r2, c2, rfl⟩ := R.n_inv rl2
        cases ea
        obtain ⟨rfl, cc, hq⟩ := hs s2 ok2 c2
        have hl : (enumD its).length = its.length := by simp [enumD]
        refine ⟨fun d hd => ?_, fun hl2 => ⟨ws2, hq, by rw [r2.len]; rw [hl] at hl2; exact hl2⟩⟩
        have hi : i < its.length := by rw [← hl]; exact (List.getElem?_eq_some_iff.mp hd).1
        obtain ⟨w, hw, rw'⟩ := item_get (k := .lst b) r2 cc (List.getElem?_eq_getElem hi)
        refine ⟨⟨ws2, w, hq, hw⟩, fun x H3 y => ?_⟩
        obtain ⟨T, x2, rfl, hT, rfl, hx⟩ := y
        have e3 := hx ws2 hq
        rw [hw] at e3
        cases e3
        have : d = .n (.tup false) [dI i, its[i]] := by
          rw [enumD, List.getElem?_map, List.getElem?_range hi] at hd
          have := (Option.some.inj hd).symm
          rw [this]
          show D.n (Kd.tup false) [dI i, its.getD i (.v .non)] = _
          rw [List.getD_eq_getElem?_getD, List.getElem?_eq_getElem hi]
          rfl
        subst this
        exact ⟨same_upd hT, r_pair R.sc rw' hT⟩
    · cases e⟩
def fZip (fs : En → Option (List D)) : En → Option (List D) := fun ρ => (fs ρ).bind fun ds => match ds with
  | [d, e] => match lstItems d, lstItems e with
    | some x, some y => some (zipD x y)
    | _, _ => match tupItems d, tupItems e with
      | some x, some y => some (zipD x y)
      | _, _ => none
  | _ => none
theorem zipD_get {ds es : List D} {i : Nat} (h : (zipD ds es)[i]? = some d) : ∃ x y, ds[i]? = some x ∧ es[i]? = some y ∧ d = .n (.tup false) [x, y] := by
  rw [zipD, List.getElem?_map] at h
  cases q : (ds.zip es)[i]? with
  | none => rw [q] at h; cases h
  | some p =>
    rw [q] at h
    obtain ⟨h1, h2⟩ := List.getElem?_zip_eq_some.mp q
    exact ⟨p.1, p.2, h1, h2, (Option.some.inj h).symm⟩
theorem zipD_len {ds es : List D} : (zipD ds es).length = min ds.length es.length := by simp [zipD]
theorem si_zip (h : EA K cl m tA fs) : SI K cl m Lk (RZ.iZipA K tA) (fZip fs) := ⟨fun {G H ρ σ items F RR} s r e q => by
  unfold fZip at e
  cases z : fs ρ with
  | none => rw [z] at e; cases e
  | some ds =>
    rw [z] at e
    simp only [Option.bind_some] at e
    split at e
    · rename_i d1 d2
      refine h.run s r z fun vs H' F' s' r' m' => ?_
      obtain ⟨v, w, A, B, rfl, rv, rw', rfl⟩ := r'.two
      split at e
      · rename_i x y hx hy
        cases e
        obtain ⟨b1, ds1, rfl, e1⟩ := lstItems_inv hx
        obtain ⟨b2, ds2, rfl, e2⟩ := lstItems_inv hy
        obtain ⟨a, ws, F0, F1, rfl, ok, rl, c, rfl⟩ := R.n_inv rv
        obtain ⟨a2, ws2, F02, F12, rfl, ok2, rl2, c2, rfl⟩ := R.n_inv rw'
        have hs : ∀ {b a ds its Lk G2 H2 ws F0 F1}, itemsOf (.n (.lst b) ds) = some its → Sub Lk G2 H2 → Kd.ok K cl G2 H2 (.lst b) a ws F0 → ((Kd.lst b).ow = false → F1 = []) → its = ds ∧ (F1 = [] ∨ anyOw ds = false) ∧ SqL K H2 a ws := fun {b a ds its Lk G2 H2 ws F0 F1} e2 s2 ok2 c2 => by
          obtain ⟨x, y, zz⟩ := node_seq s2 ok2 c2 e2
          rcases zz with ⟨_, zz⟩ | ⟨_, zz, _⟩
          · exact ⟨x, y, zz⟩
          · cases zz
        refine ⟨a, a2, ws, ws2, rfl, .inl ⟨(hs e1 (s.same s') ok c).2.2, (hs e2 (s.same s') ok2 c2).2.2, q (Itz K a a2) [(.ref a, .n (.lst b1) ds1), (.ref a2, .n (.lst b2) ds2)] H' _ s' r' m' fun {G2 H2 F2} _ s2 rr2 i => ?_⟩⟩
        obtain ⟨v', w', A', B', ev, rv', rw'', rfl⟩ := RL.two rr2
        cases ev
        obtain ⟨a', us, F0', F1', ea, ok', r1', c', rfl⟩ := R.n_inv rv'
        cases ea
        obtain ⟨a', us2, F02', F12', ea, ok2', r2', c2', rfl⟩ := R.n_inv rw''
        cases ea
        obtain ⟨i1, cc1, hq1⟩ := hs e1 s2 ok' c'
        obtain ⟨i2, cc2, hq2⟩ := hs e2 s2 ok2' c2'
        subst i1 i2
        refine ⟨fun d hd => ?_, fun hl2 => ⟨us, us2, hq1, hq2, ?_⟩⟩
        · obtain ⟨x1, y1, gx, gy, rfl⟩ := zipD_get hd
          obtain ⟨w1, hw1, r1⟩ := item_get (k := .lst b1) r1' cc1 gx
          obtain ⟨w2, hw2, r2⟩ := item_get (k := .lst b2) r2' cc2 gy
          refine ⟨⟨us, us2, w1, w2, hq1, hq2, hw1, hw2⟩, fun x H3 yy => ?_⟩
          obtain ⟨T, x2, y2, rfl, hT, rfl, f1, f2⟩ := yy
          have g1 := f1 us hq1
          have g2 := f2 us2 hq2
          rw [hw1] at g1; rw [hw2] at g2
          cases g1; cases g2
          exact ⟨same_upd hT, r_pair r1 r2 hT⟩
        · rw [zipD_len] at hl2
          rw [r1'.len, r2'.len]
          omega
      · split at e
        · rename_i x y hx hy
          cases e
          obtain ⟨b1, ds1, rfl, e1⟩ := tupItems_inv hx
          obtain ⟨b2, ds2, rfl, e2⟩ := tupItems_inv hy
          obtain ⟨a, ws, F0, F1, rfl, ok, rl, c, rfl⟩ := R.n_inv rv
          obtain ⟨a2, ws2, F02, F12, rfl, ok2, rl2, c2, rfl⟩ := R.n_inv rw'
          have hs : ∀ {b a ds its Lk G2 H2 ws F0 F1}, itemsOf (.n (.tup b) ds) = some its → Sub Lk G2 H2 → Kd.ok K cl G2 H2 (.tup b) a ws F0 → ((Kd.tup b).ow = false → F1 = []) → its = ds ∧ (F1 = [] ∨ anyOw ds = false) ∧ SqT K H2 a ws := fun {b a ds its Lk G2 H2 ws F0 F1} e2 s2 ok2 c2 => by
            obtain ⟨x, y, zz⟩ := node_seq s2 ok2 c2 e2
            rcases zz with ⟨zz, _⟩ | ⟨_, _, zz⟩
            · exact absurd rfl (zz b)
            · exact ⟨x, y, zz⟩
          refine ⟨a, a2, ws, ws2, rfl, .inr ⟨(hs e1 (s.same s') ok c).2.2, (hs e2 (s.same s') ok2 c2).2.2, q (RZ.ItzT K a a2) [(.ref a, .n (.tup b1) ds1), (.ref a2, .n (.tup b2) ds2)] H' _ s' r' m' fun {G2 H2 F2} _ s2 rr2 i => ?_⟩⟩
          obtain ⟨v', w', A', B', ev, rv', rw'', rfl⟩ := RL.two rr2
          cases ev
          obtain ⟨a', us, F0', F1', ea, ok', r1', c', rfl⟩ := R.n_inv rv'
          cases ea
          obtain ⟨a', us2, F02', F12', ea, ok2', r2', c2', rfl⟩ := R.n_inv rw''
          cases ea
          obtain ⟨i1, cc1, hq1⟩ := hs e1 s2 ok' c'
          obtain ⟨i2, cc2, hq2⟩ := hs e2 s2 ok2' c2'
          subst i1 i2
          refine ⟨fun d hd => ?_, fun hl2 => ⟨us, us2, hq1, hq2, ?_⟩⟩
          · obtain ⟨x1, y1, gx, gy, rfl⟩ := zipD_get hd
            obtain ⟨w1, hw1, r1⟩ := item_get (k := .tup b1) r1' cc1 gx
            obtain ⟨w2, hw2, r2⟩ := item_get (k := .tup b2) r2' cc2 gy
            refine ⟨⟨us, us2, w1, w2, hq1, hq2, hw1, hw2⟩, fun x H3 yy => ?_⟩
            obtain ⟨T, x2, y2, rfl, hT, rfl, f1, f2⟩ := yy
            have g1 := f1 us hq1
            have g2 := f2 us2 hq2
            rw [hw1] at g1; rw [hw2] at g2
            cases g1; cases g2
            exact ⟨same_upd hT, r_pair r1 r2 hT⟩
          · rw [zipD_len] at hl2
            rw [r1'.len, r2'.len]
            omega
        · cases e
    · cases e⟩
/-! signs of a text -/
def fSigns (f : En → Option D) : En → Option (List D) := fun ρ => (f ρ).bind fun d => match d with
  | .v (.str z) => some (z.cps.toList.map fun c => .v (.str ⟨#[c]⟩))
  | _ => none
theorem si_str (h : EX K cl m1 te fe) : SI K cl m Lk (iStr te) (fSigns fe) := ⟨fun {G H ρ σ items F RR} s r e q => by
  unfold fSigns at e
  cases z : fe ρ with
  | none => rw [z] at e; cases e
  | some d =>
    rw [z] at e
    simp only [Option.bind_some] at e
    split at e
    · rename_i x
      cases e
      refine h.run s r z fun v H' F' s' r' m' => ?_
      obtain ⟨rfl, _⟩ := R.v_inv r'
      refine ⟨x, rfl, q (Its x) [] H' [] s' .nil Md.ok.nil fun {G2 H2 F2} _ s2 rl i => ?_⟩
      have hl : (x.cps.toList.map fun c => D.v (.str ⟨#[c]⟩)).length = x.cps.size := by simp
      refine ⟨fun d hd => ?_, fun hh => by rw [hl] at hh; exact hh⟩
      have hi : i < x.cps.size := by rw [← hl]; exact (List.getElem?_eq_some_iff.mp hd).1
      refine ⟨hi, fun v H3 y => ?_⟩
      obtain ⟨rfl, c, hc, rfl⟩ := y
      have : d = .v (.str ⟨#[c]⟩) := by
        rw [List.getElem?_map, Array.getElem?_toList, hc] at hd
        exact (Option.some.inj hd).symm
      subst this
      exact ⟨Same.refl _, R.sc⟩
    · cases e⟩
/-! reversed(range(..)) is its own; a list reversed -/
def fRev (fs : En → Option (List D)) : En → Option (List D) := fun ρ => (fs ρ).bind fun ds => match ds with
  | [d] => (lstItems d).map List.reverse
  | _ => none
theorem si_rev (h : EA K cl m tA fs) : SI K cl m Lk (iRev K tA) (fRev fs) := ⟨fun {G H ρ σ items F RR} s r e q => by
  unfold fRev at e
  cases z : fs ρ with
  | none => rw [z] at e; cases e
  | some ds =>
    rw [z] at e
    simp only [Option.bind_some] at e
    split at e
    · rename_i d
      cases z2 : lstItems d with
      | none => rw [z2] at e; cases e
      | some its =>
        rw [z2] at e
        cases e
        obtain ⟨b, ds, rfl, e2⟩ := lstItems_inv z2
        refine h.run s r z fun vs H' F' s' r' m' => ?_
        obtain ⟨v, rfl, rv⟩ := r'.one
        obtain ⟨a, ws, F0, F1, rfl, ok, rl, c, rfl⟩ := R.n_inv rv
        have hs : ∀ {Lk G2 H2 ws F0 F1}, Sub Lk G2 H2 → Kd.ok K cl G2 H2 (.lst b) a ws F0 → ((Kd.lst b).ow = false → F1 = []) → its = ds ∧ (F1 = [] ∨ anyOw ds = false) ∧ SqL K H2 a ws := fun {Lk G2 H2 ws F0 F1} s2 ok2 c2 => by
          obtain ⟨x, y, zz⟩ := node_seq s2 ok2 c2 e2
          rcases zz with ⟨_, zz⟩ | ⟨_, zz, _⟩
          · exact ⟨x, y, zz⟩
          · cases zz
        have hi0 := (hs (s.same s') ok c).1
        refine ⟨a, ws, rfl, (hs (s.same s') ok c).2.2, q (Itv K a ws.length) [(.ref a, .n (.lst b) ds)] H' _ s' rv m' fun {G2 H2 F2} _ s2 rl2 i => ?_⟩
        obtain ⟨a', ws2, F02, F12, ea, ok2, r2, c2, rfl⟩ := R.n_inv rl2
        cases ea
        obtain ⟨_, cc, hq⟩ := hs s2 ok2 c2
        subst hi0
        have l0 : ws.length = its.length := rl.len
        refine ⟨fun d hd => ?_, fun hl2 => by rw [List.length_reverse] at hl2; show ws.length ≤ i; omega⟩
        have hi : i < its.length := by
          have := (List.getElem?_eq_some_iff.mp hd).1
          simpa using this
        rw [List.getElem?_reverse hi] at hd
        obtain ⟨w, hw, rw'⟩ := item_get (k := .lst b) r2 cc hd
        have ei : ws.length - 1 - i = its.length - 1 - i := by omega
        refine ⟨⟨by show i < ws.length; omega, ws2, w, hq, by rw [ei]; exact hw⟩, fun x H3 y => ?_⟩
        obtain ⟨rfl, hx⟩ := y
        have e3 := hx ws2 hq
        rw [ei, hw] at e3
        cases e3
        exact ⟨Same.refl _, rw'⟩
    · cases e⟩

/-! list comprehensions -/
variable (K cl) in
structure GX (vs : List Nat) (g : TG) (f : D → En → Option En) : Prop where
  run : ∀ {G H : Hp} {ρ ρ' : En} {σ : St} {F : List Addr} {v : V} {d : D} {Q : St → Hp → Prop}, RE K cl G H ρ σ F → R K cl G H v d [] → f d ρ = some ρ' →
    (∀ σ' F', wipe σ' vs = wipe σ vs → RE K cl G H ρ' σ' F' → Q σ' H) → g v σ H Q
variable (K cl) in
structure GXs (vs : List Nat) (g : TGs) (f : List D → En → Option En) : Prop where
  run : ∀ {G H : Hp} {ρ ρ' : En} {σ : St} {F : List Addr} {xs : List V} {ds : List D} {Q : St → Hp → Prop}, RE K cl G H ρ σ F → RL K cl G H xs ds [] → f ds ρ = some ρ' →
    (∀ σ' F', wipe σ' vs = wipe σ vs → RE K cl G H ρ' σ' F' → Q σ' H) → g xs σ H Q
theorem wipe_get {σ : St} : ∀ {vs : List Nat} {j : Nat}, (wipe σ vs)[j]? = if j ∈ vs then (σ[j]?).map fun _ => none else σ[j]?
  | [], j => by simp [wipe]
  | v :: vs, j => by
    unfold wipe
    by_cases e : v = j
    · subst e
      rw [List.getElem?_set]
      simp only [if_true, wipe_length, List.mem_cons, true_or, if_pos]
      split
      · rename_i h
        rw [List.getElem?_eq_getElem h]
        rfl
      · rename_i h
        rw [List.getElem?_eq_none (by omega)]
        rfl
    · rw [List.getElem?_set_ne e, wipe_get (vs := vs)]
      have : (j ∈ v :: vs) ↔ j ∈ vs := by simp [List.mem_cons, Ne.symm e]
      simp only [this]
theorem wipe_set {σ : St} {vs : List Nat} {i : Nat} {s : Option V} (h : i ∈ vs) : wipe (σ.set i s) vs = wipe σ vs := by
  apply List.ext_getElem?
  intro j
  rw [wipe_get, wipe_get]
  by_cases e : i = j
  · subst e
    rw [if_pos h, if_pos h, List.getElem?_set]
    simp only [if_true]
    split
    · rename_i hl
      rw [List.getElem?_eq_getElem hl]
      rfl
    · rename_i hl
      rw [List.getElem?_eq_none (by omega)]
  · rw [List.getElem?_set_ne e]
theorem wipe_wipe {σ : St} {vs : List Nat} : wipe (wipe σ vs) vs = wipe σ vs := by
  apply List.ext_getElem?
  intro j
  rw [wipe_get, wipe_get]
  split
  · cases σ[j]? <;> rfl
  · rfl
theorem gx_name {vs : List Nat} {i : Nat} (hi : i ∈ vs) : GX K cl vs (gName i) (gSet i) := ⟨fun {G H ρ ρ' σ F v d Q} r rv e q => by
  unfold gSet at e
  split at e
  · rename_i hl
    cases e
    obtain ⟨A, C, _, r'⟩ := r.put hl rv
    exact q _ _ (wipe_set hi) r'
  · cases e⟩
theorem gxs_nil {vs : List Nat} : GXs K cl vs gNil gsNil := ⟨fun {G H ρ ρ' σ F xs ds Q} r rv e q => by
  cases ds with
  | nil =>
    cases e
    cases rv
    exact ⟨rfl, q _ _ rfl r⟩
  | cons _ _ => cases e⟩
theorem gxs_cons {vs : List Nat} {gt : TG} {gu : TGs} {h : D → En → Option En} {hs : List D → En → Option En} (h1 : GX K cl vs gt h) (h2 : GXs K cl vs gu hs) : GXs K cl vs (gCons gt gu) (gsCons h hs) := ⟨fun {G H ρ ρ' σ F xs ds Q} r rv e q => by
  cases ds with
  | nil => cases e
  | cons d ds =>
    cases xs with
    | nil => cases rv
    | cons x xs =>
      have e : (h d ρ).bind (hs ds) = some ρ' := e
      cases z : h d ρ with
      | none => rw [z] at e; cases e
      | some ρ1 =>
        rw [z] at e
        obtain ⟨A, B, r1, r2, eab⟩ := rv.uncons
        obtain ⟨rfl, rfl⟩ := List.append_eq_nil_iff.mp eab.symm
        refine ⟨x, xs, rfl, h1.run r r1 z fun σ' F' ws r' => ?_⟩
        exact h2.run r' r2 e fun σ2 F2 ws2 r2' => q _ _ (ws2.trans ws) r2'⟩
theorem gx_un {vs : List Nat} {n : Nat} {gt : TGs} {hs : List D → En → Option En} (h : GXs K cl vs gt hs) : GX K cl vs (gTup K n gt) (gUn n hs) := ⟨fun {G H ρ ρ' σ F v d Q} r rv e q => by
  unfold gUn at e
  split at e
  · rename_i o ds
    split at e
    · rename_i hn
      obtain ⟨a, ws, F0, F3, rfl, ok, rl, c, ef⟩ := R.n_inv rv
      have ok : SqT K H a ws ∧ F0 = [] := Kd.ok.tupT ok
      obtain ⟨rfl, rfl⟩ := List.append_eq_nil_iff.mp ef.symm
      exact ⟨a, ws, rfl, ok.1, by rw [rl.len, hn], h.run r rl e q⟩
    · cases e
  · cases e⟩
/-- the slots of the block's own names emptied -/
def fWipe (ρ : En) : List Nat → En
  | [] => ρ
  | v :: vs => (fWipe ρ vs).set v none
theorem RE.wipe (r : RE K cl G H ρ σ F) : ∀ vs : List Nat, ∃ F', RE K cl G H (fWipe ρ vs) (L2.wipe σ vs) F'
  | [] => ⟨F, r⟩
  | v :: vs => by
    obtain ⟨F', r'⟩ := RE.wipe r vs
    obtain ⟨F2, _, r2⟩ := r'.clear v none
    exact ⟨F2, r2⟩
/-- the items that a comprehension makes -/
def lcL (h : D → En → Option En) (c : En → Option Bool) (f : En → Option D) (ρ : En) : List D → Option (List D)
  | [] => some []
  | d :: ds => (h d ρ).bind fun ρ1 => (c ρ1).bind fun k => if k = true then (f ρ1).bind fun x => (lcL h c f ρ ds).map fun xs => x :: xs else lcL h c f ρ ds
def fLc (src : En → Option (List D)) (h : D → En → Option En) (c : En → Option Bool) (f : En → Option D) (vs : List Nat) : En → Option D := fun ρ => (src ρ).bind fun items => (lcL h c f (fWipe ρ vs) items).bind fun xs => if xs.length ≤ sizeLine then some (.n (.lst true) xs) else none
def fYes : En → Option Bool := fun _ => some true
theorem t_yes : ET K cl tYes fYes := ⟨fun s r e q => by cases e; exact q _ (Same.refl _)⟩
/-- what a comprehension does, its source told -/
theorem lc_tail {J : It} {hv : Tm} {items xs : List D} {gt : TG} {h : D → En → Option En} {tt : TT} {c : En → Option Bool} {vs : List Nat} (hg : GX K cl vs gt h) (hc : ET K cl tt c) (he : EX K cl .fre te fe)
    {G H H1 : Hp} {ρ : En} {σ : St} {F F1 : List Addr} {Q : VK} (s : Sub Lk G H) (r : RE K cl G H ρ σ F) (s1 : Same H H1) (r1 : RL K cl G H1 (hv.map (·.1)) (hv.map (·.2)) F1) (y : Yl K cl Lk G J hv items)
    (z2 : lcL h c fe (fWipe ρ vs) items = some xs) (hz : xs.length ≤ sizeLine) (q : ∀ v H' F', Same H H' → R K cl G H' v (.n (.lst true) xs) F' → Md.fre.ok H F' → Q v H') {a : Addr} (ha : H1 a = none) :
    ∃ W : Nat → Nat → Hp → Prop, (∃ m, W 0 m (upd H1 a (.lst []))) ∧ ∀ i m H, W i m H →
  (J.stop i H ∧ Q (.ref a) H) ∨ (J.go i H ∧ ∃ Nx : Hp → Prop, (∀ H', Nx H' → ∃ m', m' < m ∧ W (i + 1) m' H') ∧ ∀ x H', J.yld i H x H' → gt x (wipe σ vs) H' fun σ2 H2 => wipe σ2 vs = wipe σ vs ∧ tt σ2 H2 fun b H3 =>
    if b = true then te σ2 H3 fun y H4 => ∃ acc, H4 a = some (.lst acc) ∧ acc.length < sizeLine ∧ Nx (upd H4 a (.lst (acc ++ [y]))) else Nx H3) := by
  have s1' := s.same s1
  -- W: what is made so far (ds), what is to come
  refine ⟨fun i n H2 => ∃ vs2 ds rest Fa, i + n = items.length ∧ Same H1 H2 ∧ H2 a = some (.lst vs2) ∧ RL K cl G H2 vs2 ds Fa ∧ (∀ b ∈ Fa, H1 b = none ∧ b ≠ a) ∧ Fa.Nodup ∧ lcL h c fe (fWipe ρ vs) (items.drop i) = some rest ∧ xs = ds ++ rest,
    ⟨items.length, [], [], xs, [], by omega, same_upd ha, upd_same, .nil, (fun _ z => nomatch z), List.nodup_nil, by simpa using z2, rfl⟩, fun i n H2 w => ?_⟩
  obtain ⟨vs2, ds, rest, Fa, ein, s2, hD, rl, fa, nd, z3, ex⟩ := w
  have S2 := s1'.same s2
  have R2 := (r.same s1).same s2
  have hvr := r1.same s2
  have yy := y (Same.refl _) S2 hvr i
  by_cases hi : i < items.length
  · have hd : items[i]? = some items[i] := List.getElem?_eq_getElem hi
    obtain ⟨go, yl⟩ := yy.1 _ hd
    rw [List.drop_eq_getElem_cons hi] at z3
    unfold lcL at z3
    cases z4 : h items[i] (fWipe ρ vs) with
    | none => rw [z4] at z3; cases z3
    | some ρ1 =>
      rw [z4] at z3
      simp only [Option.bind_some] at z3
      cases z5 : c ρ1 with
      | none => rw [z5] at z3; cases z3
      | some k =>
        rw [z5] at z3
        simp only [Option.bind_some] at z3
        refine .inr ⟨go, fun H2 => ∃ vs2 ds rest Fa, i + 1 + (n - 1) = items.length ∧ Same H1 H2 ∧ H2 a = some (.lst vs2) ∧ RL K cl G H2 vs2 ds Fa ∧ (∀ b ∈ Fa, H1 b = none ∧ b ≠ a) ∧ Fa.Nodup ∧ lcL h c fe (fWipe ρ vs) (items.drop (i + 1)) = some rest ∧ xs = ds ++ rest,
          fun H' w => ⟨n - 1, by omega, w⟩, fun x H3 hy => ?_⟩
        obtain ⟨s3, rx⟩ := yl x H3 hy
        obtain ⟨F3, R3⟩ := (R2.same s3).wipe vs
        refine hg.run R3 rx z4 fun σ' F' hw R4 => ⟨by rw [hw, wipe_wipe], ?_⟩
        refine hc.run (S2.same s3) R4 z5 fun H4 s4 => ?_
        have s24 := s3.trans s4
        cases k with
        | false =>
          exact iteF ⟨vs2, ds, rest, Fa, by omega, s2.trans s24, s24 _ _ hD, rl.same s24, fa, nd, z3, ex⟩
        | true =>
          rw [if_pos rfl] at z3
          refine iteT ?_
          cases z6 : fe ρ1 with
          | none => rw [z6] at z3; cases z3
          | some x1 =>
            rw [z6] at z3
            simp only [Option.bind_some] at z3
            cases z7 : lcL h c fe (fWipe ρ vs) (items.drop (i + 1)) with
            | none => rw [z7] at z3; cases z3
            | some rest1 =>
              rw [z7] at z3
              cases z3
              refine he.run ((S2.same s3).same s4) (R4.same s4) z6 fun w1 H5 F5 s5 r5 m5 => ?_
              have s25 := s24.trans s5
              have hD5 : H5 a = some (.lst vs2) := s25 _ _ hD
              have m4 : ∀ b ∈ F5, H2 b = none := fun b hb => Same.free s24 (m5.1 b hb)
              have m1 : ∀ b ∈ F5, H1 b = none := fun b hb => Same.free s2 (m4 b hb)
              have na5 : ∀ b ∈ F5, b ≠ a := fun b hb e => by
                subst e
                rw [m4 b hb] at hD; cases hD
              have ups : ∀ b, b ≠ a → (upd H5 a (.lst (vs2 ++ [w1]))) b = H5 b := fun b hb => upd_ne hb
              have kp : ∀ {Fx : List Addr}, (∀ b ∈ Fx, b ≠ a) → Keep Fx H5 (upd H5 a (.lst (vs2 ++ [w1]))) := fun {Fx} hx => keep_upd hD5 (fun _ z => nomatch z) (fun _ _ z => nomatch z) hx
              have hsz : vs2.length < sizeLine := by
                have l1 := rl.len
                have l2 : xs.length = ds.length + (rest1.length + 1) := by rw [ex]; simp
                omega
              refine ⟨vs2, hD5, hsz, vs2 ++ [w1], ds ++ [x1], rest1, Fa ++ F5, by omega, fun b o e => ?_, upd_same, ?_, fun b hb => ?_, ?_, rfl, by rw [ex]; simp⟩
              · have hb : b ≠ a := ne_of_none e ha
                rw [ups b hb]
                exact s25 _ _ (s2 _ _ e)
              · have A1 := (rl.same s25).keep (kp fun b hb => (fa b hb).2) (Same.refl G) fun b hb => (rl.own b hb).1
                have A2 := RL.keep r5 (kp na5) (Same.refl G) fun b hb => (RL.own r5 b hb).1
                exact A1.snoc A2
              · rcases List.mem_append.mp hb with hb | hb
                · exact fa b hb
                · exact ⟨m1 b hb, na5 b hb⟩
              · rw [List.nodup_append]
                refine ⟨nd, m5.2, fun x hx b hb e => ?_⟩
                subst e
                obtain ⟨_, o, q⟩ := rl.own x hx
                rw [m4 x hb] at q; cases q
  · have : items.drop i = [] := List.drop_eq_nil_of_le (by omega)
    rw [this] at z3
    cases z3
    rw [List.append_nil] at ex
    subst ex
    refine .inl ⟨yy.2 (by omega), ?_⟩
    refine q (.ref a) H2 (a :: Fa) (s1.trans s2) ?_ ⟨fun b hb => ?_, List.nodup_cons.mpr ⟨fun hb => (fa a hb).2 rfl, nd⟩⟩
    · exact R.mk (F0 := [a]) (k := .lst true) ⟨hD, s1'.free ha, rfl⟩ rl fun o => nomatch o
    · rcases List.mem_cons.mp hb with rfl | hb
      · exact Same.free s1 ha
      · exact Same.free s1 (fa b hb).1

theorem lc_run {wi : TI} {src : En → Option (List D)} {gt : TG} {h : D → En → Option En} {tt : TT} {c : En → Option Bool} {vs : List Nat} (hs : SI K cl m1 Lk wi src) (hg : GX K cl vs gt h) (hc : ET K cl tt c) (he : EX K cl .fre te fe)
    {G H : Hp} {ρ : En} {σ : St} {d : D} {F : List Addr} {Q : VK} (s : Sub Lk G H) (r : RE K cl G H ρ σ F) (e : fLc src h c fe vs ρ = some d) (q : ∀ v H' F', Same H H' → R K cl G H' v d F' → Md.fre.ok H F' → Q v H') : tLc wi gt tt te vs σ H Q := by
  unfold fLc at e
  cases z : src ρ with
  | none => rw [z] at e; cases e
  | some items =>
    rw [z] at e
    simp only [Option.bind_some] at e
    cases z2 : lcL h c fe (fWipe ρ vs) items with
    | none => rw [z2] at e; cases e
    | some xs =>
      rw [z2] at e
      simp only [Option.bind_some] at e
      split at e
      · rename_i hz
        cases e
        exact hs.run s r z fun J hv H1 F1 s1 r1 _ y a ha => lc_tail hg hc he s r s1 r1 y z2 hz q ha
      · cases e
theorem e_lc {wi : TI} {src : En → Option (List D)} {gt : TG} {h : D → En → Option En} {tt : TT} {c : En → Option Bool} {vs : List Nat} (hs : ∀ Lk, SI K cl m1 Lk wi src) (hg : GX K cl vs gt h) (hc : ET K cl tt c) (he : EX K cl .fre te fe) : EX K cl .fre (tLc wi gt tt te vs) (fLc src h c fe vs) :=
  ⟨fun s r e q => lc_run (hs _) hg hc he s r e q⟩
end
end DL

set_option Elab.async false
set_option linter.all false
set_option maxRecDepth 100000
set_option maxHeartbeats 4000000
/-! DL6: defs and their calls -/
namespace DL
open PySem PySem.Spec L2
open PyProof.Rows hiding St
def Kd.er : Kd → Kd
  | .tup _ => .tup false
  | .lst _ => .lst false
  | .dct _ ks => .dct false ks
  | .ins _ c fs => .ins false c fs
  | .scr => .scr
  | .flst => .lst false
  | .exc cn fs => .exc cn fs
def Kd.cln : Kd → Bool
  | .tup _ => true
  | .lst o => o
  | .dct o _ => o
  | .ins o _ _ => o
  | .scr => false
  | .flst => true
  | .exc _ _ => false
mutual
/-- nothing owned any more -/
def D.er : D → D
  | .v x => .v x
  | .n k ds => .n k.er (D.erL ds)
  | .g => .g
def D.erL : List D → List D
  | [] => []
  | d :: ds => d.er :: D.erL ds
end
mutual
/-- nothing shared that could be changed -/
def D.cln : D → Bool
  | .v _ => true
  | .n k ds => k.cln && D.clnL ds
  | .g => true
def D.clnL : List D → Bool
  | [] => true
  | d :: ds => d.cln && D.clnL ds
end
mutual
/-- neither shared nor once owned -/
def D.cl2 : D → Bool
  | .v _ => true
  | .n k ds => k.cln && (decide (k ≠ .flst) && D.cl2L ds)
  | .g => true
def D.cl2L : List D → Bool
  | [] => true
  | d :: ds => d.cl2 && D.cl2L ds
end
theorem D.erL_map (ds : List D) : D.erL ds = ds.map D.er := by
  induction ds with
  | nil => rfl
  | cons d ds ih => rw [D.erL, ih]; rfl
theorem D.clnL_all (ds : List D) : D.clnL ds = ds.all D.cln := by
  induction ds with
  | nil => rfl
  | cons d ds ih => rw [D.clnL, ih]; rfl
theorem D.cl2L_all (ds : List D) : D.cl2L ds = ds.all D.cl2 := by
  induction ds with
  | nil => rfl
  | cons d ds ih => rw [D.cl2L, ih]; rfl
theorem Kd.er_ow (k : Kd) : k.er.ow = false := by cases k <;> rfl
section
variable {K : PySem.W.Frag} {cl cl' : Cf} {Lk : Lks} {E : Hp} {pv : List (Nat × V)} {ρ ρ' : En} {σ : St} {τ : Tm} {G G' H H' : Hp} {v : V} {d : D} {vs : List V} {ds : List D} {F F1 F2 : List Addr} {i : Nat} {c : Str → Addr → Prop}
theorem Sub.ins {a C dx : Addr} {fs : List (Str × V)} (s : Sub Lk G H) (h : G a = some (.ins C dx fs)) : H a = some (.ins C dx fs) := by
  rcases s.at_ a _ h with ⟨_, y⟩ | ⟨ob, _, ⟨_, m⟩, _⟩
  · exact y
  · cases m
theorem Sub.ownd {a x : Addr} (s : Sub Lk G H) (h : G a = some (.own x)) : H a = some (.own x) := by
  rcases s.at_ a _ h with ⟨_, y⟩ | ⟨ob, _, ⟨_, m⟩, _⟩
  · exact y
  · cases m
theorem Sub.oth {a : Addr} {u : HO} (s : Sub Lk G H) (h : G a = some u) (n : ∀ kvs, u ≠ .dK kvs) : H a = some u := by
  rcases s.at_ a _ h with ⟨_, y⟩ | ⟨ob, _, ⟨kvs, m⟩, _⟩
  · exact y
  · exact absurd m (n kvs)
theorem Kd.ok.er {k : Kd} {a : Addr} (s : Sub Lk G H) (h : Kd.ok K cl G H k a vs F) (hc : cl'.c = cl.c) : Kd.ok K cl' H H k.er a vs [] := by
  cases k with
  | tup b => exact ⟨(Kd.ok.tupT h).1, rfl⟩
  | scr => exact ⟨s.seq h.1, rfl⟩
  | flst => exact ⟨s.lst h.1, rfl⟩
  | exc cn fs =>
    obtain ⟨h0, h1, C, d, h2, h3, h4⟩ := h
    exact ⟨h0, rfl, C, d, hc ▸ h2, s.oth h3 (fun _ z => nomatch z), h4.imp id fun ⟨n, dx, e, q⟩ => ⟨n, dx, e, s.oth q (fun _ z => nomatch z)⟩⟩
  | lst b => cases b with
    | false => exact ⟨s.lst h.1, rfl⟩
    | true => exact ⟨h.1, rfl⟩
  | dct b ks => cases b with
    | false => exact ⟨h.1, s.rd h.2.1, rfl⟩
    | true => exact ⟨h.1, .inl h.2.1, rfl⟩
  | ins b cn fs => cases b with
    | false =>
      obtain ⟨h0, h1, C, dx, h2, h3, h4⟩ := h
      exact ⟨h0, rfl, C, dx, hc ▸ h2, s.ins h3, s.ownd h4⟩
    | true =>
      obtain ⟨h0, C, dx, h2, h3, h4, _⟩ := h
      exact ⟨h0, rfl, C, dx, hc ▸ h2, h3, h4⟩
theorem RL.er (s : Sub Lk G H) (h : RL K cl G H vs ds F) (hc : cl'.c = cl.c) : RL K cl' H H vs (D.erL ds) [] := by
  induction h with
  | nil => exact .nil
  | sc _ ih => exact .sc ih
  | gn _ ih => exact .gn ih
  | nd a b c _ ih1 ih2 =>
    have := RL.nd (a.er s hc) ih1 (fun _ => rfl) ih2
    exact this
/-- clean data lean on nothing that the asker shared -/
theorem RL.clean (h : RL K cl G H vs ds F) (c : D.clnL ds = true) (hc : cl'.c = cl.c) (g1 : ∀ a, G a = none → G' a = none) (g2 : ∀ a u, G a = some u → cl.e a = none → G' a = some u ∧ cl'.e a = none) : RL K cl' G' H vs ds F := by
  induction h with
  | nil => exact .nil
  | sc _ ih =>
    refine .sc (ih ?_)
    simpa [D.clnL, D.cln] using c
  | gn _ ih =>
    refine .gn (ih ?_)
    simpa [D.clnL, D.cln] using c
  | @nd a k ws es F0 F1 vs ds F2 ok r1 cc r2 ih1 ih2 =>
    have c' : (k.cln && D.clnL es && D.clnL ds) = true := c
    rw [Bool.and_eq_true, Bool.and_eq_true] at c'
    refine .nd ?_ (ih1 c'.1.2) cc (ih2 c'.2)
    have ck := c'.1.1
    cases k with
    | tup b => cases b with
      | false => exact ok
      | true => exact ok
    | scr => cases ck
    | exc cn fs => cases ck
    | flst => exact ⟨(g2 _ _ ok.1 ok.2.2).1, ok.2.1, (g2 _ _ ok.1 ok.2.2).2⟩
    | lst b => cases b with
      | false => cases ck
      | true => exact ⟨ok.1, g1 _ ok.2.1, ok.2.2⟩
    | dct b ks => cases b with
      | false => cases ck
      | true => exact ⟨ok.1, ok.2.1, g1 _ ok.2.2.1, ok.2.2.2⟩
    | ins b cn fs => cases b with
      | false => cases ck
      | true =>
        obtain ⟨h0, C, dx, h2, h3, h4, h5, h6, h7, h8⟩ := ok
        exact ⟨h0, C, dx, hc ▸ h2, h3, h4, g1 _ h5, g1 _ h6, h7, h8⟩
theorem RL.clean2 (h : RL K cl G H vs ds F) (c : D.cl2L ds = true) (hc : cl'.c = cl.c) (g1 : ∀ a, G a = none → G' a = none) : RL K cl' G' H vs ds F := by
  induction h with
  | nil => exact .nil
  | sc _ ih =>
    refine .sc (ih ?_)
    simpa [D.cl2L, D.cl2] using c
  | gn _ ih =>
    refine .gn (ih ?_)
    simpa [D.cl2L, D.cl2] using c
  | @nd a k ws es F0 F1 vs ds F2 ok r1 cc r2 ih1 ih2 =>
    have c' : (k.cln && (decide (k ≠ .flst) && D.cl2L es) && D.cl2L ds) = true := c
    rw [Bool.and_eq_true, Bool.and_eq_true, Bool.and_eq_true] at c'
    refine .nd ?_ (ih1 c'.1.2.2) cc (ih2 c'.2)
    have ck := c'.1.1
    have cf := of_decide_eq_true c'.1.2.1
    cases k with
    | tup b => cases b with
      | false => exact ok
      | true => exact ok
    | scr => cases ck
    | flst => exact absurd rfl cf
    | exc cn fs => cases ck
    | lst b => cases b with
      | false => cases ck
      | true => exact ⟨ok.1, g1 _ ok.2.1, ok.2.2⟩
    | dct b ks => cases b with
      | false => cases ck
      | true => exact ⟨ok.1, ok.2.1, g1 _ ok.2.2.1, ok.2.2.2⟩
    | ins b cn fs => cases b with
      | false => cases ck
      | true =>
        obtain ⟨h0, C, dx, h2, h3, h4, h5, h6, h7, h8⟩ := ok
        exact ⟨h0, C, dx, hc ▸ h2, h3, h4, g1 _ h5, g1 _ h6, h7, h8⟩
/-! ### a def's promise -/
inductive Rs where
  | ret (d : D) (outs : List D)
  | exc (c : Str) (pay : Option (Str × D)) (outs : List D)
/-- what stands at the places that may be changed -/
def selV {α : Type} : List Bool → List α → List α
  | true :: md, v :: vs => v :: selV md vs
  | false :: md, _ :: vs => selV md vs
  | _, _ => []
variable (K c) in
def RsOk (md : List Bool) (G0 : Hp) (H : Hp) (vs : List V) (Q : VK) (EX : XK) : Rs → Prop
  | .ret d outs => ∀ v H' G1 F', D.clnL (d :: outs) = true → Same G0 G1 → Same G1 H' → RL K ⟨c, G0⟩ G1 H' (v :: selV md vs) (d :: outs) F' → F'.Nodup → Q v H'
  | .exc cn none outs => ∀ C H' G1 F', D.clnL outs = true → c cn C → Same G0 G1 → Same G1 H' → RL K ⟨c, G0⟩ G1 H' (selV md vs) outs F' → F'.Nodup → EX (.ref C) none H'
  | .exc cn (some (f, d)) outs => ∀ C dx v H' G1 F', D.clnL (d :: outs) = true → c cn C → H' dx = some (.xd [(f, v)]) → Same G0 G1 → Same G1 H' → RL K ⟨c, G0⟩ G1 H' (v :: selV md vs) (d :: outs) F' → F'.Nodup → EX (.ref C) (some dx) H'
variable (K c) in
/-- with the things ds as arguments (those at md may be changed) it ends as g tells -/
def SpG (md : List Bool) (g : List D → Option Rs) : Sp := fun vs H Q EX => ∃ ds G0 F r, ds.length = md.length ∧ Same G0 H ∧ RL K ⟨c, G0⟩ G0 H vs ds F ∧ F.Nodup ∧ g ds = some r ∧ RsOk K c md G0 H vs Q EX r
theorem SpG.len {md : List Bool} {g : List D → Option Rs} {ps : List Str} (h : md.length = ps.length) (vs : List V) (H : Hp) (Q : VK) (E : XK) (s : SpG K c md g vs H Q E) : vs.length = ps.length := by
  obtain ⟨ds, G0, F, r, hl, _, rl, _⟩ := s
  rw [rl.len, hl, h]
/-- the places at md -/
def pinIx : Nat → List Bool → List Nat
  | _, [] => []
  | i, true :: md => i :: pinIx (i + 1) md
  | i, false :: md => pinIx (i + 1) md
def pinV : Nat → List Bool → List V → List (Nat × V)
  | i, true :: md, v :: vs => (i, v) :: pinV (i + 1) md vs
  | i, false :: md, _ :: vs => pinV (i + 1) md vs
  | _, _, _ => []
/-- the things at places, taken out -/
def takeAll : List Nat → En → Option (List D × En)
  | [], ρ => some ([], ρ)
  | i :: is, ρ => (takeAll is ρ).bind fun p => (p.2.getD i none).map fun d => (d :: p.1, p.2.set i none)
def fnG (md : List Bool) (n : Nat) (f : En → Option Out) : List D → Option Rs := fun ds => (f (ds.map some ++ List.replicate (n - ds.length) none)).bind fun o => match o with
  | .rt d ρ => (takeAll (pinIx 0 md) ρ).bind fun p => if D.clnL (d :: p.1) = true then some (.ret d p.1) else none
  | .nx ρ => (takeAll (pinIx 0 md) ρ).bind fun p => if D.clnL (.v .non :: p.1) = true then some (.ret (.v .non) p.1) else none
  | .rs c none ρ => (takeAll (pinIx 0 md) ρ).bind fun p => if D.clnL p.1 = true then some (.exc c none p.1) else none
  | .rs c (some (f, d)) ρ => (takeAll (pinIx 0 md) ρ).bind fun p => if D.clnL (d :: p.1) = true then some (.exc c (some (f, d)) p.1) else none
  | _ => none
theorem RE.start (h : RL K cl G H vs ds F) (k : Nat) : RE K cl G H (ds.map some ++ List.replicate k none) (vs.map some ++ List.replicate k none) F := by
  have nils : ∀ k, RE K cl G H (List.replicate k none) (List.replicate k none) [] := fun k => by
    induction k with
    | zero => exact .nil
    | succ k ih => exact .no ih
  induction h with
  | nil => simpa using nils k
  | @sc x _ _ _ _ ih =>
    have := RE.so (K := K) (cl := cl) (G := G) (H := H) (R.sc (x := x)) ih
    exact this
  | @gn x _ _ _ _ ih =>
    have := RE.so (K := K) (cl := cl) (G := G) (H := H) (d := .g) (v := x) (F1 := []) (RL.gn RL.nil) ih
    exact this
  | nd a b c _ ih1 ih2 => exact RE.so (R.mk a b c) ih2
theorem pinV_ix : ∀ {i : Nat} {md : List Bool} {vs : List V}, vs.length = md.length → (pinV i md vs).map (·.1) = pinIx i md
  | _, [], [], _ => rfl
  | i, true :: md, v :: vs, h => by
    show i :: (pinV (i + 1) md vs).map (·.1) = i :: pinIx (i + 1) md
    rw [pinV_ix (i := i + 1) (md := md) (vs := vs) (by simpa using h)]
  | i, false :: md, v :: vs, h => pinV_ix (i := i + 1) (md := md) (vs := vs) (by simpa using h)
theorem pinV_sel : ∀ {i : Nat} {md : List Bool} {vs : List V}, (pinV i md vs).map (·.2) = selV md vs
  | _, [], [] => rfl
  | _, [], _ :: _ => rfl
  | _, true :: _, [] => rfl
  | _, false :: _, [] => rfl
  | i, true :: md, v :: vs => by
    show v :: (pinV (i + 1) md vs).map (·.2) = v :: selV md vs
    rw [pinV_sel (i := i + 1) (md := md) (vs := vs)]
  | i, false :: md, v :: vs => pinV_sel (i := i + 1) (md := md) (vs := vs)
theorem pinV_at : ∀ {i : Nat} {md : List Bool} {vs : List V} {p : Nat × V}, p ∈ pinV i md vs → ∃ j, p.1 = i + j ∧ vs[j]? = some p.2
  | i, true :: md, v :: vs, p, h => by
    rcases List.mem_cons.mp h with rfl | h
    · exact ⟨0, rfl, rfl⟩
    · obtain ⟨j, e1, e2⟩ := pinV_at h
      exact ⟨j + 1, by omega, by simpa using e2⟩
  | i, false :: md, v :: vs, p, h => by
    obtain ⟨j, e1, e2⟩ := pinV_at (i := i + 1) (md := md) (vs := vs) h
    exact ⟨j + 1, by omega, by simpa using e2⟩
  | _, [], _, _, h => by cases h
  | _, true :: _, [], _, h => by cases h
  | _, false :: _, [], _, h => by cases h
/-- things taken out, one behind the other -/
theorem Sta.takeAll : ∀ {pv' : List (Nat × V)} {ρ ρ' : En} {τ : Tm} {ds : List D}, (∀ p ∈ pv', p ∈ pv) → Sta K cl Lk E pv ρ σ τ H → DL.takeAll (pv'.map (·.1)) ρ = some (ds, ρ') → ds.length = pv'.length ∧ Sta K cl Lk E pv ρ' σ ((pv'.map (·.2)).zip ds ++ τ) H
  | [], ρ, ρ', τ, ds, _, st, e => by
    cases e
    exact ⟨rfl, st⟩
  | p :: pv', ρ, ρ', τ, ds, hp, st, e => by
    have e : (DL.takeAll (pv'.map (·.1)) ρ).bind (fun q => (q.2.getD p.1 none).map fun d => (d :: q.1, q.2.set p.1 none)) = some (ds, ρ') := e
    cases z : DL.takeAll (pv'.map (·.1)) ρ with
    | none => rw [z] at e; cases e
    | some q =>
      rw [z] at e
      simp only [Option.bind_some] at e
      obtain ⟨l1, st1⟩ := Sta.takeAll (fun q hq => hp q (List.mem_cons_of_mem _ hq)) st z
      cases z2 : q.2.getD p.1 none with
      | none => rw [z2] at e; cases e
      | some d =>
        rw [z2] at e
        cases e
        obtain ⟨v, e1, st2⟩ := st1.take (getD_some z2)
        obtain ⟨G, F1, F2, sx⟩ := id st1
        have := sx.pin p (hp p List.mem_cons_self)
        rw [e1] at this
        cases this
        exact ⟨by simp [l1], st2⟩
/-- a body keeps the promise -/
theorem sp_run {md : List Bool} {N : List Str} {t : TS} {f : En → Option Out} {vs : List V} {H : Hp} {Q : VK} {EX : XK} (hb : ∀ e, SE K ⟨c, e⟩ (pinIx 0 md) (fun cls d _ H => EX cls d H) t f)
    (s : SpG K c md (fnG md N.length f) vs H Q EX) : t { nx := fun _ H' => Q .non H', rt := Q } (L2.start N vs) H := by
  obtain ⟨ds, G0, F, r, hl, sm, rl, nd, e, q⟩ := s
  have lv : vs.length = md.length := by rw [rl.len, hl]
  unfold fnG at e
  have hb := hb G0
  have st : Sta K ⟨c, G0⟩ [] G0 (pinV 0 md vs) (ds.map some ++ List.replicate (N.length - ds.length) none) (L2.start N vs) [] H := by
    refine ⟨G0, F, [], Same.refl _, Same.refl _, Sub.of_same sm, ?_, .nil, by rw [List.append_nil]; exact nd, fun p hp => ?_⟩
    · have := RE.start rl (N.length - ds.length)
      rw [show N.length - ds.length = N.length - vs.length by rw [rl.len]] at this ⊢
      exact this
    · obtain ⟨j, e1, e2⟩ := pinV_at hp
      have : p.1 = j := by omega
      rw [this]
      unfold L2.start
      have hj : j < vs.length := (List.getElem?_eq_some_iff.mp e2).1
      rw [List.getElem?_append_left (by simpa using hj), List.getElem?_map, e2]
      rfl
  have hpin := pinV_ix (i := 0) lv
  have hsel := pinV_sel (i := 0) (md := md) (vs := vs)
  -- what is held at the end
  have fin : ∀ {ρ' ρ2 : En} {σ' : St} {τ : Tm} {H' : Hp} {outs : List D}, Sta K ⟨c, G0⟩ [] G0 (pinV 0 md vs) ρ' σ' τ H' → DL.takeAll (pinIx 0 md) ρ' = some (outs, ρ2) → outs.length = (selV md vs).length ∧ Sta K ⟨c, G0⟩ [] G0 (pinV 0 md vs) ρ2 σ' ((selV md vs).zip outs ++ τ) H' := fun {ρ' ρ2 σ' τ H' outs} s' e' => by
    rw [← hpin] at e'
    obtain ⟨l, st'⟩ := s'.takeAll (fun _ h => h) e'
    rw [hsel] at st'
    refine ⟨?_, st'⟩
    rw [l, ← hsel, List.length_map]
  have fin1 : ∀ {ρ' : En} {σ' : St} {H' : Hp} {xs : List V} {es : List D}, xs.length = es.length → Sta K ⟨c, G0⟩ [] G0 (pinV 0 md vs) ρ' σ' (xs.zip es) H' → ∃ G1 F', Same G0 G1 ∧ Same G1 H' ∧ RL K ⟨c, G0⟩ G1 H' xs es F' ∧ F'.Nodup := fun {ρ' σ' H' xs es} l s' => by
    have s'' : Sta K ⟨c, G0⟩ [] G0 (pinV 0 md vs) ρ' σ' (xs.zip es ++ []) H' := by rw [List.append_nil]; exact s'
    obtain ⟨G, F1, F2, F3, q1, q2, q3, q4, q5, q6, q7⟩ := s''.unzip l
    exact ⟨G, F2, q1.1, q2.nil, q4, (List.nodup_append.mp (List.nodup_append.mp q6).2.1).1⟩
  cases z : f (ds.map some ++ List.replicate (N.length - ds.length) none) with
  | none => rw [z] at e; cases e
  | some o =>
    rw [z] at e
    simp only [Option.bind_some] at e
    refine hb.run hpin st z ?_
    cases o with
    | bk ρ => cases e
    | ct ρ => cases e
    | rt d ρ' =>
      cases z2 : DL.takeAll (pinIx 0 md) ρ' with
      | none => simp only [z2] at e; cases e
      | some p =>
        simp only [z2, Option.bind_some] at e
        split at e
        · rename_i hc
          cases e
          intro v σ' H' s'
          obtain ⟨l, s2⟩ := fin s' (outs := p.1) (ρ2 := p.2) z2
          have s3 := s2.rot
          rw [List.append_nil] at s3
          obtain ⟨G1, F', g0, g1, g2, g3⟩ := fin1 (xs := v :: selV md vs) (es := d :: p.1) (by simp [l]) s3
          exact q v H' G1 F' hc g0 g1 g2 g3
        · cases e
    | nx ρ' =>
      cases z2 : DL.takeAll (pinIx 0 md) ρ' with
      | none => simp only [z2] at e; cases e
      | some p =>
        simp only [z2, Option.bind_some] at e
        split at e
        · rename_i hc
          cases e
          intro σ' H' s'
          obtain ⟨l, s2⟩ := fin s' (outs := p.1) (ρ2 := p.2) z2
          rw [List.append_nil] at s2
          obtain ⟨G1, F', g0, g1, g2, g3⟩ := fin1 (xs := selV md vs) (es := p.1) l.symm s2
          exact q .non H' G1 F' hc g0 g1 (RL.sc g2) g3
        · cases e
    | rs c pay ρ' =>
      cases pay with
      | none =>
        cases z2 : DL.takeAll (pinIx 0 md) ρ' with
        | none => simp only [z2] at e; cases e
        | some p =>
          simp only [z2, Option.bind_some] at e
          split at e
          · rename_i hc
            cases e
            intro C σ' H' hC s'
            obtain ⟨l, s2⟩ := fin s' (outs := p.1) (ρ2 := p.2) z2
            rw [List.append_nil] at s2
            obtain ⟨G1, F', g0, g1, g2, g3⟩ := fin1 (xs := selV md vs) (es := p.1) l.symm s2
            exact q C H' G1 F' hc hC g0 g1 g2 g3
          · cases e
      | some fd =>
        obtain ⟨fn, d⟩ := fd
        cases z2 : DL.takeAll (pinIx 0 md) ρ' with
        | none => simp only [z2] at e; cases e
        | some p =>
          simp only [z2, Option.bind_some] at e
          split at e
          · rename_i hc
            cases e
            intro C dx v σ' H' hC hx s'
            obtain ⟨l, s2⟩ := fin s' (outs := p.1) (ρ2 := p.2) z2
            have s3 := s2.rot
            rw [List.append_nil] at s3
            obtain ⟨G1, F', g0, g1, g2, g3⟩ := fin1 (xs := v :: selV md vs) (es := d :: p.1) (by simp [l]) s3
            exact q C dx v H' G1 F' hc hC hx g0 g1 g2 g3
          · cases e
/-! ### calls -/
variable {m m1 : Md} {tA : TA} {fs : En → Option (List D)}
theorem selV_none : ∀ (md : List Bool) (vs : List V), md.all (!·) = true → selV md vs = []
  | [], [], _ => rfl
  | [], _ :: _, _ => rfl
  | true :: md, _, h => by simp at h
  | false :: md, [], _ => rfl
  | false :: md, v :: vs, h => selV_none md vs (by simpa using h)
/-- f(..) of things that are lent -/
def fCall (md : List Bool) (g : List D → Option Rs) (fs : En → Option (List D)) : En → Option D := fun ρ => (fs ρ).bind fun ds => if ds.length = md.length then (match g (D.erL ds) with
  | some (.ret d []) => if d.cl2 then some d else none
  | _ => none) else none
theorem call_core {md : List Bool} {g : List D → Option Rs} {vs : List V} {ds : List D} {Q : VK} {Ex : XK} (hm : md.all (!·) = true) (s : Sub Lk G H) (rl : RL K cl G H vs ds F) (hl : ds.length = md.length) (e : g (D.erL ds) = some (.ret d [])) (h2 : d.cl2 = true)
    (q : ∀ v H' F', Same H H' → R K cl G H' v d F' → Md.fre.ok H F' → Q v H') : SpG K cl.c md g vs H Q Ex := by
  refine ⟨D.erL ds, H, [], .ret d [], by rw [D.erL_map, List.length_map, hl], Same.refl _, rl.er s rfl, List.nodup_nil, e, ?_⟩
  intro v H' G1 F' hc s0 sm r nd
  rw [selV_none _ _ hm] at r
  refine q v H' F' (s0.trans sm) (RL.clean2 (cl' := cl) r (by rw [D.cl2L, h2]; rfl) rfl fun a ha => s.free (Same.free s0 ha)) ⟨fun a ha => Same.free s0 (r.own a ha).1, nd⟩
theorem e_call {md : List Bool} {g : List D → Option Rs} {Ex : XK} (hm : md.all (!·) = true) (h : EA K cl m1 tA fs) : EX K cl .fre (tCall (SpG K cl.c md g) [] Ex tA) (fCall md g fs) := ⟨fun {Lk G H ρ σ d F Q} s rr e q => by
  unfold fCall at e
  cases z : fs ρ with
  | none => rw [z] at e; cases e
  | some ds =>
    rw [z] at e
    simp only [Option.bind_some] at e
    split at e
    · rename_i hl
      split at e
      · rename_i d0 ee
        split at e
        · rename_i h2
          cases e
          refine h.run s rr z fun vs H1 F1 s1 r1 _ => ?_
          show SpG K cl.c md g (vs ++ []) H1 Q Ex
          rw [List.append_nil]
          exact call_core hm (s.same s1) r1 hl ee h2 fun v H' F' s' r' m' => q v H' F' (s1.trans s') r' (m'.back s1)
        · cases e
      · cases e
    · cases e⟩
/-- f(..) of things that are lent; what it tells is held -/
def oCall (md : List Bool) (g : List D → Option Rs) (fs : En → Option (List D)) : En → Option (D × En) := fun ρ => (fs ρ).bind fun ds => if ds.length = md.length then (match g (D.erL ds) with
  | some (.ret d []) => some (d, ρ)
  | _ => none) else none
theorem o_call {md : List Bool} {g : List D → Option Rs} {Ex : XK} (hm : md.all (!·) = true) (h : EA K cl m1 tA fs) : OM K cl (tCall (SpG K cl.c md g) [] Ex tA) (oCall md g fs) := ⟨fun {Lk E pv ρ ρ' σ τ H d Q} st e q => by
  unfold oCall at e
  cases z : fs ρ with
  | none => rw [z] at e; cases e
  | some ds =>
    rw [z] at e
    simp only [Option.bind_some] at e
    split at e
    · rename_i hl
      split at e
      · rename_i d0 ee
        cases e
        obtain ⟨G, F1, F2, sx⟩ := st
        refine h.run sx.sub sx.slots z fun vs H1 F3 s1 r1 _ => ?_
        show SpG K cl.c md g (vs ++ []) H1 Q Ex
        rw [List.append_nil]
        have sx1 := sx.same s1
        refine ⟨D.erL ds, H1, [], .ret d [], by rw [D.erL_map, List.length_map, hl], Same.refl _, r1.er sx1.sub rfl, List.nodup_nil, ee, ?_⟩
        intro v H' G1 F' hc s0 sm r nd
        rw [selV_none _ _ hm] at r
        have s2 : Same H1 H' := s0.trans sm
        have sx2 := sx1.same s2
        -- what is shared from now on
        have fr : ∀ {a : Addr}, H1 a = none → G a = none := fun {a} ha => sx1.sub.free ha
        let G2 : Hp := fun a => if H1 a = none then G1 a else G a
        have hG2 : Same G G2 := fun a u ea => by
          show (if H1 a = none then G1 a else G a) = some u
          by_cases ha : H1 a = none
          · rw [fr ha] at ea; cases ea
          · rw [if_neg ha]; exact ea
        have gn : ∀ {a : Addr}, G a = none → (∃ o, H1 a = some o) → G2 a = none := fun {a} ha ho => by
          obtain ⟨o, ho⟩ := ho
          show (if H1 a = none then G1 a else G a) = none
          rw [if_neg (by rw [ho]; exact fun z => nomatch z)]
          exact ha
        have kp : ∀ {F : List Addr}, (∀ a ∈ F, ∃ o, H1 a = some o) → Keep F H1 H' := fun {F} hF => Same.keep s2 hF
        refine q v H' (s1.trans s2) ⟨G2, F1, F' ++ F2, sx.ent.trans hG2, sx.cfe.trans hG2, ⟨fun a u ea => ?_, fun a ob el => ?_⟩, ?_, ?_, ?_, sx.pin⟩
        · have ea : (if H1 a = none then G1 a else G a) = some u := ea
          by_cases ha : H1 a = none
          · rw [if_pos ha] at ea
            refine .inl ⟨?_, sm _ _ ea⟩
            cases hk : Lk.lookup a with
            | none => rfl
            | some ob =>
              obtain ⟨u', hu⟩ := sx1.sub.lk a ob hk
              rw [fr ha] at hu; cases hu
          · rw [if_neg ha] at ea
            exact sx2.sub.at_ a u ea
        · exact hG2 _ _ (sx1.sub.lku a ob el)
        · exact sx1.slots.keep (kp fun a m => (sx1.slots.own a m).2) hG2 fun a m => gn (sx1.slots.own a m).1 (sx1.slots.own a m).2
        · refine R.cons (RL.clean (cl' := cl) r hc rfl (fun a ha => ?_) fun a u ea he => ?_) (sx1.tmp.keep (kp fun a m => (sx1.tmp.own a m).2) hG2 fun a m => gn (sx1.tmp.own a m).1 (sx1.tmp.own a m).2)
          · show (if H1 a = none then G1 a else G a) = none
            have h1 : H1 a = none := Same.free s0 ha
            rw [if_pos h1]
            exact ha
          · have he : H1 a = none := he
            refine ⟨?_, ?_⟩
            · show (if H1 a = none then G1 a else G a) = some u
              rw [if_pos he]
              exact ea
            · exact Same.free sx.cfe (fr he)
        · have n0 := List.nodup_append.mp sx.nd
          have m1 : ∀ a ∈ F', H1 a = none := fun a ha => Same.free s0 (r.own a ha).1
          rw [List.nodup_append]
          refine ⟨n0.1, List.nodup_append.mpr ⟨nd, n0.2.1, fun a ha b hb e => ?_⟩, fun a ha b hb e => ?_⟩
          · subst e
            obtain ⟨_, u, q⟩ := sx1.tmp.own a hb
            rw [m1 a ha] at q; cases q
          · subst e
            rcases List.mem_append.mp hb with z | z
            · obtain ⟨_, u, q⟩ := sx1.slots.own a ha
              rw [m1 a z] at q; cases q
            · exact n0.2.2 a ha a z rfl
      · cases e
    · cases e⟩
end
end DL

set_option Elab.async false
set_option linter.all false
set_option maxRecDepth 100000
set_option maxHeartbeats 4000000
/-! DL7: operators by values -/
namespace DL
open PySem PySem.Spec L2
open PyProof.Rows hiding St
theorem opr_or {X : Cx} {f : Value → Value → Sem Value} {r r' : R2} (h : OpR X f r) (h' : OpR X f r') : OpR X f (fun x y H Q => r x y H Q ∨ r' x y H Q) := fun pins s σ H x y v u Q I rx ry q =>
  q.elim (h pins s σ H x y v u Q I rx ry) (h' pins s σ H x y v u Q I rx ry)
theorem calr_or {X : Cx} {f : Value} {r r' : List V → Hp → VK → Prop} (h : CallR X f r) (h' : CallR X f r') : CallR X f (fun xs H Q => r xs H Q ∨ r' xs H Q) := fun pins s σ H xs us Q I rx q =>
  q.elim (h pins s σ H xs us Q I rx) (h' pins s σ H xs us Q I rx)
section
variable {X : Cx}
/-- any divisor but 0, below 2 ^ 9000 -/
theorem op_fdivF : OpR X (binaryOp .FloorDiv) (rI (fun _ j => j ≠ 0 ∧ j.natAbs.log2 < 9000) fun i j => .int (i.fdiv j)) := opI fun _ _ _ _ _ _ _ hc q => floordiv_int hc.1 q (.inl (PyProof.noPylong_of_log2 hc.2))
def mulOk (i j : Int) : Bool := decide (i.natAbs.log2 + j.natAbs.log2 < 134217000)
theorem op_mulF : OpR X (binaryOp .Mult) (rI (fun i j => mulOk i j = true) fun i j => .int (i * j)) := opI fun i j _ _ _ _ _ hc q => mul_int q (by
  have b : ∀ x : Int, Builtin.Int.intBits x ≤ x.natAbs.log2 + 1 := fun x => by
    unfold Builtin.Int.intBits
    split <;> omega
  have h1 := b i
  have h2 := b j
  have h3 : i.natAbs.log2 + j.natAbs.log2 < 134217000 := of_decide_eq_true hc
  have e : bitsLine = 134217728 := by decide
  unfold IntMulOk
  intro z
  rw [Bool.and_eq_true] at z
  have z2 := z.2
  unfold Builtin.Int.intTooBig at z2
  have z3 := of_decide_eq_true z2
  rw [e] at z3
  omega)
abbrev rInt (g : Int → Int → V) : R2 := rI0 g
abbrev rAddIB : R2 := fun x y H Q => ∃ i k, x = .int i ∧ y = .bl k ∧ Q (.int (i + b2i k)) H
abbrev rAddS : R2 := fun x y H Q => ∃ i j, x = .str i ∧ y = .str j ∧ i.length + j.length ≤ sizeLine ∧ Q (.str (i ++ j)) H
abbrev rAddX (K : PySem.W.Frag) : R2 := fun x y H Q => rI0 (fun i j => .int (i + j)) x y H Q ∨ (fun x y H Q => rAddIB x y H Q ∨ (fun x y H Q => rAddS x y H Q ∨ (fun x y H Q => rCat x y H Q ∨ rCatA K x y H Q) x y H Q) x y H Q) x y H Q
theorem ox_add : OpR X (binaryOp .Add) (rAddX X.K) := opr_or op_add (opr_or op_add_ib (opr_or op_add_str (opr_or op_cat op_catA)))
abbrev rMulF : R2 := rI (fun i j => mulOk i j = true) fun i j => .int (i * j)
abbrev rMulX : R2 := fun x y H Q => rMulF x y H Q ∨ rRep x y H Q
theorem ox_mul : OpR X (binaryOp .Mult) rMulX := opr_or op_mulF op_rep
abbrev rDivX : R2 := rI (fun _ j => j ≠ 0 ∧ j.natAbs.log2 < 9000) fun i j => .int (i.fdiv j)
abbrev rModX : R2 := rI (fun _ j => j ≠ 0) fun i j => .int (i.fmod j)
abbrev rPowX : R2 := rI CPow fun i j => .int (i ^ j.toNat)
abbrev rSubX : R2 := rI0 fun i j => .int (i - j)
abbrev rCmpI (p : Int → Int → Bool) : R2 := rI0 fun i j => .bl (p i j)
end
section
variable {K : PySem.W.Frag} {cl : Cf} {Lk : Lks} {ρ ρ' : En} {σ : St} {G G' H H' : Hp} {v : V} {d : D} {vs : List V} {ds : List D} {F F1 F2 : List Addr} {m : Md}
/-! arithmetic -/
def gI (C : Int → Int → Bool) (g : Int → Int → V) : D → D → Option D
  | .v (.int i), .v (.int j) => if C i j then some (.v (g i j)) else none
  | _, _ => none
theorem v_I {C : Int → Int → Prop} {C' : Int → Int → Bool} {g : Int → Int → V} (h : ∀ i j, C' i j = true → C i j) : V2 K cl .shr (rI C g) (gI C' g) := fun {Lk G H x y dx dy d Fx Fy Q} s rx ry e q => by
  unfold gI at e
  split at e
  · rename_i i j
    split at e
    · rename_i hc
      cases e
      obtain ⟨rfl, _⟩ := R.v_inv rx
      obtain ⟨rfl, _⟩ := R.v_inv ry
      exact ⟨i, j, rfl, rfl, h i j hc, q _ H [] (Same.refl _) R.sc rfl⟩
    · cases e
  · cases e
def gI0 (g : Int → Int → V) : D → D → Option D
  | .v (.int i), .v (.int j) => some (.v (g i j))
  | _, _ => none
theorem v_I0 {g : Int → Int → V} : V2 K cl .shr (rI0 g) (gI0 g) := fun {Lk G H x y dx dy d Fx Fy Q} s rx ry e q => by
  unfold gI0 at e
  split at e
  · rename_i i j
    cases e
    obtain ⟨rfl, _⟩ := R.v_inv rx
    obtain ⟨rfl, _⟩ := R.v_inv ry
    exact ⟨i, j, rfl, rfl, q _ H [] (Same.refl _) R.sc rfl⟩
  · cases e
def gSubI : D → D → Option D := gI0 fun i j => .int (i - j)
def gMod : D → D → Option D := gI (fun _ j => j != 0) fun i j => .int (i.fmod j)
def gDiv : D → D → Option D := gI (fun _ j => j != 0 && decide (j.natAbs.log2 < 9000)) fun i j => .int (i.fdiv j)
def gPow : D → D → Option D := gI (fun i j => decide (0 ≤ j) && (decide (j.natAbs ≤ 1000000) && decide (i.natAbs < 2 ^ 64))) fun i j => .int (i ^ j.toNat)
def gLt : D → D → Option D := gI0 fun i j => .bl (decide (i < j))
def gLe : D → D → Option D := gI0 fun i j => .bl (decide (i ≤ j))
def gGt : D → D → Option D := gI0 fun i j => .bl (decide (j < i))
def gGe : D → D → Option D := gI0 fun i j => .bl (decide (j ≤ i))
theorem v_sub : V2 K cl .shr rSubX gSubI := v_I0
theorem v_mod : V2 K cl .shr rModX gMod := v_I fun i j h => by simpa using h
theorem v_div : V2 K cl .shr rDivX gDiv := v_I fun i j h => by simpa using h
theorem v_pow : V2 K cl .shr rPowX gPow := v_I fun i j h => by
  rw [Bool.and_eq_true, Bool.and_eq_true] at h
  exact ⟨of_decide_eq_true h.1, by have := of_decide_eq_true h.2.1; omega, of_decide_eq_true h.2.2⟩
theorem v_lt : V2 K cl .shr (rI0 fun i j => .bl (decide (i < j))) gLt := v_I0
theorem v_le : V2 K cl .shr (rI0 fun i j => .bl (decide (i ≤ j))) gLe := v_I0
theorem v_gt : V2 K cl .shr (rI0 fun i j => .bl (decide (j < i))) gGt := v_I0
theorem v_ge : V2 K cl .shr (rI0 fun i j => .bl (decide (j ≤ i))) gGe := v_I0
/-! sums of anything -/
def gAdd : D → D → Option D
  | .v (.int i), .v (.int j) => some (.v (.int (i + j)))
  | .v (.int i), .v (.bl k) => some (.v (.int (i + b2i k)))
  | .v (.str x), .v (.str y) => if x.length + y.length ≤ sizeLine then some (.v (.str (x ++ y))) else none
  | .n (.lst a) xs, .n (.lst b) ys => (itemsOf (.n (.lst a) xs)).bind fun us => (itemsOf (.n (.lst b) ys)).bind fun ws => if us.length + ws.length ≤ sizeLine then some (.n (.lst true) (us ++ ws)) else none
  | .n (.tup a) xs, .n (.tup b) ys => (itemsOf (.n (.tup a) xs)).bind fun us => (itemsOf (.n (.tup b) ys)).bind fun ws => if us.length + ws.length ≤ sizeLine then some (.n (.tup false) (us ++ ws)) else none
  | _, _ => none
/-- an owned list of things not owned, new at p -/
theorem fre_one {p : Addr} (hp : H p = none) (s : Same H H') : Md.fre.ok H [p] := ⟨fun b hb => by rw [List.mem_singleton.mp hb]; exact hp, List.nodup_cons.mpr ⟨(fun z => nomatch z), List.nodup_nil⟩⟩
/-- things that bear nothing owned, by their node -/
theorem node_free {k : Kd} {a : Addr} {ws : List V} {F0 : List Addr} {items : List D} (s : Sub Lk G H) (h : Kd.ok K cl G H k a ws F0) (rl : RL K cl G H ws ds F1) (c : k.ow = false → F1 = []) (e : itemsOf (.n k ds) = some items) : items = ds ∧ RL K cl G H ws ds [] := by
  obtain ⟨rfl, cc, _⟩ := node_seq s h c e
  refine ⟨rfl, ?_⟩
  rcases cc with cc | cc
  · rw [cc] at rl; exact rl
  · have := free_nil rl cc
    rw [this] at rl; exact rl
theorem lst_at {a : Addr} {b : Bool} {ws : List V} {F0 : List Addr} (s : Sub Lk G H) (h : Kd.ok K cl G H (.lst b) a ws F0) : H a = some (.lst ws) := by
  cases b with
  | false => exact s.lst h.1
  | true => exact h.1
theorem r_newlst {p : Addr} (s : Sub Lk G H) (rl : RL K cl G H vs ds []) (hp : H p = none) : R K cl G (upd H p (.lst vs)) (.ref p) (.n (.lst true) ds) [p] := r_lst s rl hp
theorem r_newtup {p : Addr} (rl : RL K cl G H vs ds []) (hp : H p = none) : R K cl G (upd H p (.tup vs)) (.ref p) (.n (.tup false) ds) [] :=
  R.mk (F0 := []) (F1 := []) (k := .tup false) ⟨SqT.of upd_same, rfl⟩ (rl.same (same_upd hp)) fun _ => rfl
theorem r_node {k : Kd} {a : Addr} (o : k.ow = false) (h : Kd.ok K cl G H k a vs []) (rl : RL K cl G H vs ds []) : R K cl G H (.ref a) (.n k ds) [] := R.mk (F0 := []) (F1 := []) h rl fun _ => rfl
theorem v_add : V2 K cl .fre (rAddX K) gAdd := fun {Lk G H x y dx dy d Fx Fy Q} s rx ry e q => by
  unfold gAdd at e
  split at e
  · cases e
    obtain ⟨rfl, _⟩ := R.v_inv rx
    obtain ⟨rfl, _⟩ := R.v_inv ry
    exact .inl ⟨_, _, rfl, rfl, q _ H [] (Same.refl _) R.sc Md.ok.nil⟩
  · cases e
    obtain ⟨rfl, _⟩ := R.v_inv rx
    obtain ⟨rfl, _⟩ := R.v_inv ry
    exact .inr (.inl ⟨_, _, rfl, rfl, q _ H [] (Same.refl _) R.sc Md.ok.nil⟩)
  · split at e
    · rename_i hz
      cases e
      obtain ⟨rfl, _⟩ := R.v_inv rx
      obtain ⟨rfl, _⟩ := R.v_inv ry
      exact .inr (.inr (.inl ⟨_, _, rfl, rfl, hz, q _ H [] (Same.refl _) R.sc Md.ok.nil⟩))
    · cases e
  · rename_i a xs b ys
    cases z1 : itemsOf (.n (.lst a) xs) with
    | none => rw [z1] at e; cases e
    | some us =>
      cases z2 : itemsOf (.n (.lst b) ys) with
      | none => rw [z1, z2] at e; cases e
      | some ws =>
        rw [z1, z2] at e
        simp only [Option.bind_some] at e
        split at e
        · rename_i hz
          cases e
          obtain ⟨p, vs1, A, B, rfl, ok1, r1, c1, rfl⟩ := R.n_inv rx
          obtain ⟨p2, vs2, A2, B2, rfl, ok2, r2, c2, rfl⟩ := R.n_inv ry
          obtain ⟨rfl, f1⟩ := node_free s ok1 r1 c1 z1
          obtain ⟨rfl, f2⟩ := node_free s ok2 r2 c2 z2
          refine .inr (.inr (.inr (.inl ⟨p, p2, vs1, vs2, rfl, rfl, lst_at s ok1, lst_at s ok2, by rw [f1.len, f2.len]; exact hz, fun a ha => ?_⟩)))
          exact q (.ref a) _ [a] (same_upd ha) (r_newlst s (f1.append f2) ha) (fre_one ha (same_upd (o := .lst []) ha))
        · cases e
  · rename_i a xs b ys
    cases z1 : itemsOf (.n (.tup a) xs) with
    | none => rw [z1] at e; cases e
    | some us =>
      cases z2 : itemsOf (.n (.tup b) ys) with
      | none => rw [z1, z2] at e; cases e
      | some ws =>
        rw [z1, z2] at e
        simp only [Option.bind_some] at e
        split at e
        · rename_i hz
          cases e
          obtain ⟨p, vs1, A, B, rfl, ok1, r1, c1, rfl⟩ := R.n_inv rx
          obtain ⟨p2, vs2, A2, B2, rfl, ok2, r2, c2, rfl⟩ := R.n_inv ry
          obtain ⟨rfl, f1⟩ := node_free s ok1 r1 c1 z1
          obtain ⟨rfl, f2⟩ := node_free s ok2 r2 c2 z2
          refine .inr (.inr (.inr (.inr ⟨p, p2, vs1, vs2, rfl, rfl, (Kd.ok.tupT ok1).1, (Kd.ok.tupT ok2).1, by rw [f1.len, f2.len]; exact hz, fun hx => ?_, fun _ hy => ?_, fun _ _ a ha => ?_⟩)))
          · subst hx
            cases f1
            exact q _ H [] (Same.refl _) (r_node (k := .tup false) rfl ⟨(Kd.ok.tupT ok2).1, rfl⟩ f2) Md.ok.nil
          · subst hy
            cases f2
            rw [List.append_nil] at q
            exact q _ H [] (Same.refl _) (r_node (k := .tup false) rfl ⟨(Kd.ok.tupT ok1).1, rfl⟩ f1) Md.ok.nil
          · exact q (.ref a) _ [] (same_upd ha) (r_newtup (f1.append f2) ha) Md.ok.nil
        · cases e
  · cases e
def gMul : D → D → Option D
  | .v (.int i), .v (.int j) => if mulOk i j then some (.v (.int (i * j))) else none
  | .n (.lst a) xs, .v (.int k) => (itemsOf (.n (.lst a) xs)).bind fun us => if decide (k.natAbs < 9223372036854775808) && decide (us.length * k.toNat ≤ sizeLine) then some (.n (.lst true) (List.replicate k.toNat us).flatten) else none
  | _, _ => none
theorem rl_rep (h : RL K cl G H vs ds []) : ∀ k : Nat, RL K cl G H (List.replicate k vs).flatten (List.replicate k ds).flatten []
  | 0 => .nil
  | k + 1 => by
    rw [List.replicate_succ, List.replicate_succ, List.flatten_cons, List.flatten_cons]
    exact h.append (rl_rep h k)
theorem v_mul : V2 K cl .fre rMulX gMul := fun {Lk G H x y dx dy d Fx Fy Q} s rx ry e q => by
  unfold gMul at e
  split at e
  · split at e
    · rename_i hc
      cases e
      obtain ⟨rfl, _⟩ := R.v_inv rx
      obtain ⟨rfl, _⟩ := R.v_inv ry
      exact .inl ⟨_, _, rfl, rfl, hc, q _ H [] (Same.refl _) R.sc Md.ok.nil⟩
    · cases e
  · rename_i a xs k
    cases z1 : itemsOf (.n (.lst a) xs) with
    | none => rw [z1] at e; cases e
    | some us =>
      rw [z1] at e
      simp only [Option.bind_some] at e
      split at e
      · rename_i hc
        rw [Bool.and_eq_true] at hc
        cases e
        obtain ⟨p, vs1, A, B, rfl, ok1, r1, c1, rfl⟩ := R.n_inv rx
        obtain ⟨rfl, _⟩ := R.v_inv ry
        obtain ⟨rfl, f1⟩ := node_free s ok1 r1 c1 z1
        have hk := of_decide_eq_true hc.1
        refine .inr ⟨p, k, vs1, rfl, rfl, lst_at s ok1, by omega, by omega, by rw [f1.len]; exact of_decide_eq_true hc.2, fun a ha => ?_⟩
        exact q (.ref a) _ [a] (same_upd ha) (r_newlst s (rl_rep f1 _) ha) (fre_one ha (same_upd (o := .lst []) ha))
      · cases e
  · cases e
/-! equality of data -/
mutual
def D.py : D → PyData
  | .v .non => .none
  | .v (.bl b) => .bool b
  | .v (.int i) => .int i
  | .v (.str x) => .str x
  | .v _ => .dict []
  | .n k ds => match k with
    | .tup _ => .tuple (D.pyL ds)
    | .lst _ => .list (D.pyL ds)
    | .scr => .list (D.pyL ds)
    | .flst => .list (D.pyL ds)
    | _ => .dict []
  | .g => .dict []
def D.pyL : List D → List PyData
  | [] => []
  | d :: ds => d.py :: D.pyL ds
end
def flatOk : V → Bool
  | .non => true
  | .bl _ => true
  | .int _ => true
  | .str x => PySem.PyData.canLay0 (.str x)
  | _ => false
def Kd.seq : Kd → Bool
  | .tup _ => true
  | .lst _ => true
  | .scr => true
  | .flst => true
  | _ => false
mutual
/-- data that == knows, no deeper than n -/
def D.okD : D → Nat → Bool
  | .v x, _ => flatOk x
  | .n k ds, j => k.seq && (decide (0 < j) && D.okL ds (j - 1))
  | .g, _ => false
def D.okL : List D → Nat → Bool
  | [], _ => true
  | d :: ds, j => d.okD j && D.okL ds j
end
theorem D.pyL_map (ds : List D) : D.pyL ds = ds.map D.py := by
  induction ds with
  | nil => rfl
  | cons d ds ih => rw [D.pyL, ih]; rfl
theorem D.okL_all {j : Nat} (ds : List D) : D.okL ds j = ds.all fun d => d.okD j := by
  induction ds with
  | nil => rfl
  | cons d ds ih => rw [D.okL, ih]; rfl
theorem dp_flat {x : V} (h : flatOk x = true) : Dp K H x (D.py (.v x)) ∧ (D.py (.v x)).canLay0 = true ∧ (D.py (.v x)).depth = 0 := by
  cases x with
  | non => exact ⟨.non, rfl, by simp [D.py, PyData.depth]⟩
  | bl b => exact ⟨.bl b, rfl, by simp [D.py, PyData.depth]⟩
  | int i => exact ⟨.int i, rfl, by simp [D.py, PyData.depth]⟩
  | str y => exact ⟨.str y, h, by simp [D.py, PyData.depth]⟩
  | byt _ => cases h
  | flt _ => cases h
  | ref _ => cases h
  | ty _ => cases h
theorem node_dp {k : Kd} {a : Addr} {ws : List V} {F0 : List Addr} (s : Sub Lk G H) (h : Kd.ok K cl G H k a ws F0) (hs : k.seq = true) (p : DpAll K H ws (D.pyL ds)) : Dp K H (.ref a) (D.py (.n k ds)) := by
  cases k with
  | tup b => exact Dp.tup (Kd.ok.tupT h).1 p
  | scr => exact Dp.lst (s.seq h.1) p
  | flst => exact Dp.lst (SqL.of (s.lst h.1)) p
  | exc cn fs => cases hs
  | lst b => exact Dp.lst (SqL.of (lst_at s h)) p
  | dct b ks => cases hs
  | ins b c fs => cases hs
theorem RL.dp (s : Sub Lk G H) (h : RL K cl G H vs ds F) : ∀ n, D.okL ds n = true → DpAll K H vs (D.pyL ds) ∧ PyData.canLayAll0 (D.pyL ds) = true ∧ PyData.depthAll (D.pyL ds) ≤ n := by
  induction h with
  | nil => exact fun n _ => ⟨.nil, by simp [D.pyL, PyData.canLayAll0], by simp [D.pyL, PyData.depthAll]⟩
  | @sc x vs ds F _ ih =>
    intro n e
    have e' : (flatOk x && D.okL ds n) = true := e
    rw [Bool.and_eq_true] at e'
    obtain ⟨a1, a2, a3⟩ := dp_flat (K := K) (H := H) e'.1
    obtain ⟨b1, b2, b3⟩ := ih n e'.2
    refine ⟨.cons a1 b1, ?_, ?_⟩
    · show ((D.py (.v x)).canLay0 && PyData.canLayAll0 (D.pyL ds)) = true
      rw [a2, b2]; rfl
    · show max (D.py (.v x)).depth (PyData.depthAll (D.pyL ds)) ≤ n
      rw [a3]; omega
  | gn _ ih =>
    intro n e
    cases e
  | @nd a k ws es F0 F1 vs ds F2 ok _ _ _ ih1 ih2 =>
    intro n e
    have e' : ((k.seq && (decide (0 < n) && D.okL es (n - 1))) && D.okL ds n) = true := e
    rw [Bool.and_eq_true, Bool.and_eq_true, Bool.and_eq_true] at e'
    obtain ⟨⟨e1, e2, e3⟩, e4⟩ := e'
    have hn : 0 < n := of_decide_eq_true e2
    obtain ⟨a1, a2, a3⟩ := ih1 (n - 1) e3
    obtain ⟨b1, b2, b3⟩ := ih2 n e4
    have hp := node_dp s ok e1 a1
    have hc : (D.py (.n k es)).canLay0 = true ∧ (D.py (.n k es)).depth ≤ n := by
      cases k with
      | tup b => exact ⟨by simpa [D.py, PyData.canLay0] using a2, by simp only [D.py, PyData.depth]; omega⟩
      | lst b => exact ⟨by simpa [D.py, PyData.canLay0] using a2, by simp only [D.py, PyData.depth]; omega⟩
      | scr => exact ⟨by simpa [D.py, PyData.canLay0] using a2, by simp only [D.py, PyData.depth]; omega⟩
      | exc cn fs => cases e1
      | flst => exact ⟨by simpa [D.py, PyData.canLay0] using a2, by simp only [D.py, PyData.depth]; omega⟩
      | dct b ks => cases e1
      | ins b c fs => cases e1
    refine ⟨.cons hp b1, ?_, ?_⟩
    · show ((D.py (.n k es)).canLay0 && PyData.canLayAll0 (D.pyL ds)) = true
      rw [hc.1, b2]; rfl
    · show max (D.py (.n k es)).depth (PyData.depthAll (D.pyL ds)) ≤ n
      omega
theorem R.dp (s : Sub Lk G H) (h : R K cl G H v d F) (e : d.okD 60 = true) : Dp K H v d.py ∧ SeqAt.shaped d.py = true := by
  obtain ⟨a1, a2, a3⟩ := RL.dp s h 60 (by rw [D.okL, e]; rfl)
  cases a1 with
  | cons a1 _ =>
    refine ⟨a1, ?_⟩
    have a2' : (d.py.canLay0 && PyData.canLayAll0 []) = true := a2
    rw [Bool.and_eq_true] at a2'
    have a3' : max d.py.depth 0 ≤ 60 := a3
    unfold SeqAt.shaped
    rw [a2'.1]
    simp only [Bool.true_and, decide_eq_true_eq]
    omega
def gEq : D → D → Option D := fun a b => if a.okD 60 && b.okD 60 then some (.v (.bl (PyData.eqv a.py b.py))) else none
def gNe : D → D → Option D := fun a b => if a.okD 60 && b.okD 60 then some (.v (.bl (!PyData.eqv a.py b.py))) else none
theorem v_eq : V2 K cl .shr (rEqD K) gEq := fun {Lk G H x y dx dy d Fx Fy Q} s rx ry e q => by
  unfold gEq at e
  split at e
  · rename_i hc
    rw [Bool.and_eq_true] at hc
    cases e
    obtain ⟨a1, a2⟩ := R.dp s rx hc.1
    obtain ⟨b1, b2⟩ := R.dp s ry hc.2
    exact ⟨_, _, a1, b1, a2, b2, q _ H [] (Same.refl _) R.sc rfl⟩
  · cases e
theorem v_ne : V2 K cl .shr (rNeD K) gNe := fun {Lk G H x y dx dy d Fx Fy Q} s rx ry e q => by
  unfold gNe at e
  split at e
  · rename_i hc
    rw [Bool.and_eq_true] at hc
    cases e
    obtain ⟨a1, a2⟩ := R.dp s rx hc.1
    obtain ⟨b1, b2⟩ := R.dp s ry hc.2
    exact ⟨_, _, a1, b1, a2, b2, q _ H [] (Same.refl _) R.sc rfl⟩
  · cases e
/-! is None -/
def isNon : D → Bool
  | .v .non => true
  | _ => false
def isG : D → Bool
  | .g => true
  | _ => false
def fIsN (f : En → Option D) : En → Option D := fun ρ => (f ρ).bind fun d => if isG d then none else some (.v (.bl (isNon d)))
def fNotN (f : En → Option D) : En → Option D := fun ρ => (f ρ).bind fun d => if isG d then none else some (.v (.bl (!isNon d)))
theorem isNon_iff (r : R K cl G H v d F) (hg : ¬ isG d = true) : decide (v = .non) = isNon d := by
  cases d with
  | g => exact absurd rfl hg
  | v x =>
    obtain ⟨rfl, _⟩ := R.v_inv r
    cases v <;> rfl
  | n k ds =>
    obtain ⟨a, ws, F0, F1, rfl, _⟩ := R.n_inv r
    rfl
variable {ta tb : TE} {fa fb : En → Option D} {m1 m2 : Md} {tA : TA} {fs : En → Option (List D)}
theorem e_isN (h : EX K cl m1 ta fa) : EX K cl .shr (tIsN ta) (fIsN fa) := ⟨fun {Lk G H ρ σ d F Q} s rr e q => by
  unfold fIsN at e
  cases z : fa ρ with
  | none => rw [z] at e; cases e
  | some d0 =>
    rw [z] at e
    simp only [Option.bind_some] at e
    split at e
    · cases e
    · rename_i hg
      cases e
      refine h.run s rr z fun x H1 F1 s1 r1 _ => ?_
      show Q (.bl (decide (x = .non))) H1
      rw [isNon_iff r1 hg]
      exact q _ H1 [] s1 R.sc rfl⟩
theorem e_notN (h : EX K cl m1 ta fa) : EX K cl .shr (tNotN ta) (fNotN fa) := ⟨fun {Lk G H ρ σ d F Q} s rr e q => by
  unfold fNotN at e
  cases z : fa ρ with
  | none => rw [z] at e; cases e
  | some d0 =>
    rw [z] at e
    simp only [Option.bind_some] at e
    split at e
    · cases e
    · rename_i hg
      cases e
      refine h.run s rr z fun x H1 F1 s1 r1 _ => ?_
      show Q (.bl (!decide (x = .non))) H1
      rw [isNon_iff r1 hg]
      exact q _ H1 [] s1 R.sc rfl⟩
/-! in: flat things in a list or tuple; texts in texts -/
def flatsOf : List D → Option (List V)
  | [] => some []
  | .v x :: ds => if flatV x then (flatsOf ds).map fun xs => x :: xs else none
  | _ :: _ => none
def gIn (neg : Bool) : D → D → Option D
  | .v x, .n k ds => if flatV x && k.seq then (flatsOf ds).map fun xs => .v (.bl (if neg then !inV x xs else inV x xs)) else none
  | .v (.str x), .v (.str y) => some (.v (.bl (if neg then !(!(Builtin.Str.occurrences y x 0 y.length 1).isEmpty) else !(Builtin.Str.occurrences y x 0 y.length 1).isEmpty)))
  | _, _ => none
abbrev rInS (neg : Bool) : R2 := fun x y H Q => ∃ i j, x = .str i ∧ y = .str j ∧ Q (.bl (if neg then !(!(Builtin.Str.occurrences j i 0 j.length 1).isEmpty) else !(Builtin.Str.occurrences j i 0 j.length 1).isEmpty)) H
abbrev rInX (K : PySem.W.Frag) (neg : Bool) : R2 := fun x y H Q => rIn K neg x y H Q ∨ rInS neg x y H Q
theorem ox_in {X : Cx} : OpR X (compareOp .In) (rInX X.K false) := opr_or op_in_seq op_in_str
theorem ox_notin {X : Cx} : OpR X (compareOp .NotIn) (rInX X.K true) := opr_or op_notIn_seq op_notIn_str
theorem flats_ok : ∀ {ds : List D} {vs : List V} {xs : List V} {F : List Addr}, RL K cl G H vs ds F → flatsOf ds = some xs → vs = xs ∧ xs.all flatV = true
  | [], vs, xs, F, h, e => by
    cases h
    cases e
    exact ⟨rfl, rfl⟩
  | .n k es :: ds, vs, xs, F, h, e => by cases e
  | .v x :: ds, vs, xs, F, h, e => by
    cases vs with
    | nil => cases h
    | cons w vs =>
      obtain ⟨A, B, r1, r2, rfl⟩ := h.uncons
      obtain ⟨rfl, _⟩ := R.v_inv r1
      unfold flatsOf at e
      split at e
      · rename_i hf
        cases z : flatsOf ds with
        | none => rw [z] at e; cases e
        | some ys =>
          rw [z] at e
          cases e
          obtain ⟨rfl, h2⟩ := flats_ok r2 z
          exact ⟨rfl, by rw [List.all_cons, hf, h2]; rfl⟩
      · cases e
theorem v_in {neg : Bool} : V2 K cl .shr (rInX K neg) (gIn neg) := fun {Lk G H x y dx dy d Fx Fy Q} s rx ry e q => by
  unfold gIn at e
  split at e
  · rename_i x k ds
    split at e
    · rename_i hf
      rw [Bool.and_eq_true] at hf
      cases z : flatsOf ds with
      | none => rw [z] at e; cases e
      | some xs =>
        rw [z] at e
        cases e
        obtain ⟨rfl, _⟩ := R.v_inv rx
        obtain ⟨a, ws, F0, F1, rfl, ok, rl, c, rfl⟩ := R.n_inv ry
        obtain ⟨rfl, hall⟩ := flats_ok rl z
        refine .inl ⟨a, ws, rfl, ?_, hf.1, hall, q _ H [] (Same.refl _) R.sc rfl⟩
        cases k with
        | tup b => exact .inr (Kd.ok.tupT ok).1
        | scr => exact .inl (s.seq ok.1)
        | flst => exact .inl (SqL.of (s.lst ok.1))
        | exc cn fs => exact nomatch hf.2
        | lst b => exact .inl (SqL.of (lst_at s ok))
        | dct b ks => exact nomatch hf.2
        | ins b c fs => exact nomatch hf.2
    · cases e
  · cases e
    obtain ⟨rfl, _⟩ := R.v_inv rx
    obtain ⟨rfl, _⟩ := R.v_inv ry
    exact .inr ⟨_, _, rfl, rfl, q _ H [] (Same.refl _) R.sc rfl⟩
  · cases e
/-! items -/
def gIx : D → D → Option D
  | .n k ds, .v (.int i) => if k.seq then atI ds i else none
  | .v (.str z), .v (.int i) => if z.length ≤ sizeLine then (atI z.cps.toList i).map fun c => .v (.str ⟨#[c]⟩) else none
  | _, _ => none
theorem atI_len {α β : Type} {xs : List α} {ys : List β} {i : Int} {y : β} (l : xs.length = ys.length) (h : atI ys i = some y) : ∃ (j : Nat) (x : α), ys[j]? = some y ∧ xs[j]? = some x ∧ atI xs i = some x := by
  unfold atI at h
  cases z : ixN ys.length i with
  | none => rw [z] at h; cases h
  | some j =>
    rw [z] at h
    have h : ys[j]? = some y := h
    have hj : j < xs.length := by rw [l]; exact (List.getElem?_eq_some_iff.mp h).1
    refine ⟨j, xs[j], h, List.getElem?_eq_getElem hj, ?_⟩
    unfold atI
    rw [l, z]
    exact List.getElem?_eq_getElem hj
/-- an item by its place: what it bears is of the whole -/
theorem e_ix (h : EX K cl m ta fa) (h2 : EX K cl m2 tb fb) : EX K cl m (tOp (rIx K) ta tb) (f2 gIx fa fb) := ⟨fun {Lk G H ρ σ d F Q} s rr e q => by
  unfold f2 at e
  cases z : fa ρ with
  | none => rw [z] at e; cases e
  | some d0 =>
    rw [z] at e
    cases z2 : fb ρ with
    | none => rw [z2] at e; cases e
    | some d1 =>
      rw [z2] at e
      simp only [Option.bind_some] at e
      refine h.run s rr z fun x H1 F1 s1 r1 mm => ?_
      refine h2.run (s.same s1) (rr.same s1) z2 fun y H2 F2 s2 r2 _ => ?_
      have r1' := RL.same r1 s2
      have S2 := (s.same s1).same s2
      unfold gIx at e
      split at e
      · rename_i k ds i
        split at e
        · rename_i hk
          obtain ⟨a, ws, F0, F3, rfl, ok, rl, c, rfl⟩ := R.n_inv r1'
          obtain ⟨rfl, _⟩ := R.v_inv r2
          obtain ⟨j, w, e1, e2, e3⟩ := atI_len rl.len e
          obtain ⟨w', B, e4, rw', sb⟩ := rl.get e1
          rw [e2] at e4
          cases e4
          have fin : Q w H2 := q w H2 B (s1.trans s2) rw' (mm.sub (sb.trans (List.sublist_append_right _ _)))
          cases k with
          | tup b => exact .inr (.inl ⟨a, ws, i, w, rfl, rfl, (Kd.ok.tupT ok).1, e3, fin⟩)
          | scr => exact .inl ⟨a, ws, i, w, rfl, rfl, S2.seq ok.1, e3, fin⟩
          | exc cn fs => exact nomatch hk
          | flst => exact .inl ⟨a, ws, i, w, rfl, rfl, SqL.of (S2.lst ok.1), e3, fin⟩
          | lst b => exact .inl ⟨a, ws, i, w, rfl, rfl, SqL.of (lst_at S2 ok), e3, fin⟩
          | dct b ks => exact nomatch hk
          | ins b c fs => exact nomatch hk
        · cases e
      · rename_i zz i
        split at e
        · rename_i hz
          obtain ⟨rfl, _⟩ := R.v_inv r1'
          obtain ⟨rfl, _⟩ := R.v_inv r2
          cases z5 : atI zz.cps.toList i with
          | none => rw [z5] at e; cases e
          | some c =>
            rw [z5] at e
            cases e
            exact .inr (.inr ⟨zz, i, c, rfl, rfl, hz, z5, q _ H2 [] (s1.trans s2) R.sc Md.ok.nil⟩)
        · cases e
      · cases e⟩
/-! lengths, max, min, abs -/
def kLen : Kd → Bool
  | .ins _ _ _ => false
  | _ => true
abbrev rLenD : List V → Hp → VK → Prop := fun xs H Q => ∃ a kvs, xs = [.ref a] ∧ Rd H a (.dK kvs) ∧ Q (.int kvs.length) H
abbrev rLenX (K : PySem.W.Frag) : List V → Hp → VK → Prop := fun xs H Q => (∃ p ys, xs = [.ref p] ∧ (SqL K H p ys ∨ SqT K H p ys) ∧ Q (.int ys.length) H) ∨ ((∃ z : Str, xs = [.str z] ∧ z.length ≤ sizeLine ∧ Q (.int z.length) H) ∨ ∃ a kvs, xs = [V.ref a] ∧ H a = some (.dK kvs) ∧ Q (.int kvs.length) H)
theorem cx_len {X : Cx} : CallR X (.builtin "len") (rLenX X.K) := calr_or call_len_seq (calr_or call_len_str call_lenD)
def gLen : List D → Option D
  | [.n (.dct true ks) _] => some (.v (.int ks.length))
  | [.n k ds] => if k.seq then some (.v (.int ds.length)) else none
  | [.v (.str z)] => if z.length ≤ sizeLine then some (.v (.int z.length)) else none
  | _ => none
theorem v_len : VL K cl .shr (rLenX K) gLen := fun {Lk G H xs ds d F Q} s r e q => by
  unfold gLen at e
  split at e
  · rename_i ks ds
    cases e
    obtain ⟨x, rfl, rx⟩ := r.one
    obtain ⟨a, ws, F0, F3, rfl, ok, rl, c, rfl⟩ := R.n_inv rx
    obtain ⟨l, h1, _⟩ := ok
    have hl : (ks.zip ws).length = ks.length := by rw [List.length_zip]; omega
    exact .inr (.inr ⟨a, _, rfl, h1, by rw [hl]; exact q _ H [] (Same.refl _) R.sc rfl⟩)
  · rename_i k ds _
    split at e
    · rename_i hk
      cases e
      obtain ⟨x, rfl, rx⟩ := r.one
      obtain ⟨a, ws, F0, F3, rfl, ok, rl, c, rfl⟩ := R.n_inv rx
      rw [← rl.len] at q
      refine .inl ⟨a, ws, rfl, ?_, q _ H [] (Same.refl _) R.sc rfl⟩
      cases k with
      | tup b => exact .inr (Kd.ok.tupT ok).1
      | scr => exact .inl (s.seq ok.1)
      | flst => exact .inl (SqL.of (s.lst ok.1))
      | exc cn fs => exact nomatch hk
      | lst b => exact .inl (SqL.of (lst_at s ok))
      | dct b ks => exact nomatch hk
      | ins b c fs => exact nomatch hk
    · cases e
  · split at e
    · rename_i hz
      cases e
      obtain ⟨x, rfl, rx⟩ := r.one
      obtain ⟨rfl, _⟩ := R.v_inv rx
      exact .inr (.inl ⟨_, rfl, hz, q _ H [] (Same.refl _) R.sc rfl⟩)
    · cases e
  · cases e
def gMax2 : List D → Option D
  | [.v (.int i), .v (.int j)] => some (.v (.int (if j > i then j else i)))
  | _ => none
def gMin2 : List D → Option D
  | [.v (.int i), .v (.int j)] => some (.v (.int (if j < i then j else i)))
  | _ => none
def gAbs : List D → Option D
  | [.v (.int i)] => some (.v (.int (if i < 0 then -i else i)))
  | _ => none
abbrev rMax2 : List V → Hp → VK → Prop := fun xs H Q => ∃ i j, xs = [.int i, .int j] ∧ Q (.int (if j > i then j else i)) H
abbrev rMin2 : List V → Hp → VK → Prop := fun xs H Q => ∃ i j, xs = [.int i, .int j] ∧ Q (.int (if j < i then j else i)) H
abbrev rAbs1 : List V → Hp → VK → Prop := fun xs H Q => ∃ i, xs = [.int i] ∧ Q (.int (if i < 0 then -i else i)) H
theorem v_max2 : VL K cl .shr rMax2 gMax2 := fun {Lk G H xs ds d F Q} s r e q => by
  unfold gMax2 at e
  split at e
  · cases e
    obtain ⟨x, y, A, B, rfl, rx, ry, rfl⟩ := r.two
    obtain ⟨rfl, _⟩ := R.v_inv rx
    obtain ⟨rfl, _⟩ := R.v_inv ry
    exact ⟨_, _, rfl, q _ H [] (Same.refl _) R.sc rfl⟩
  · cases e
theorem v_min2 : VL K cl .shr rMin2 gMin2 := fun {Lk G H xs ds d F Q} s r e q => by
  unfold gMin2 at e
  split at e
  · cases e
    obtain ⟨x, y, A, B, rfl, rx, ry, rfl⟩ := r.two
    obtain ⟨rfl, _⟩ := R.v_inv rx
    obtain ⟨rfl, _⟩ := R.v_inv ry
    exact ⟨_, _, rfl, q _ H [] (Same.refl _) R.sc rfl⟩
  · cases e
theorem v_abs : VL K cl .shr rAbs1 gAbs := fun {Lk G H xs ds d F Q} s r e q => by
  unfold gAbs at e
  split at e
  · cases e
    obtain ⟨x, rfl, rx⟩ := r.one
    obtain ⟨rfl, _⟩ := R.v_inv rx
    exact ⟨_, rfl, q _ H [] (Same.refl _) R.sc rfl⟩
  · cases e
/-! list(..), tuple(..) of a list or tuple -/
def gList : List D → Option D
  | [d] => (itemsOf d).map fun ds => .n (.lst true) ds
  | _ => none
abbrev rListOf (K : PySem.W.Frag) : List V → Hp → VK → Prop := fun xs H Q => ∃ p ys, xs = [.ref p] ∧ (SqL K H p ys ∨ SqT K H p ys) ∧ ∀ l, H l = none → Q (.ref l) (upd H l (.lst ys))
theorem v_list : VL K cl .fre (rListOf K) gList := fun {Lk G H xs ds d F Q} s r e q => by
  unfold gList at e
  split at e
  · rename_i d0
    cases z : itemsOf d0 with
    | none => rw [z] at e; cases e
    | some its =>
      rw [z] at e
      cases e
      obtain ⟨x, rfl, rx⟩ := r.one
      cases d0 with
      | v y => cases z
      | g => cases z
      | n k ds =>
        obtain ⟨a, ws, F0, F3, rfl, ok, rl, c, rfl⟩ := R.n_inv rx
        obtain ⟨rfl, f1⟩ := node_free s ok rl c z
        obtain ⟨_, _, qq⟩ := node_seq s ok c z
        refine ⟨a, ws, rfl, ?_, fun l hl => q (.ref l) _ [l] (same_upd hl) (r_newlst s f1 hl) (fre_one hl (same_upd (o := .lst []) hl))⟩
        rcases qq with ⟨_, hs⟩ | ⟨b, _, hs⟩
        · exact .inl hs
        · exact .inr hs
  · cases e
def gTuple : List D → Option D
  | [d] => (itemsOf d).map fun ds => .n (.tup false) ds
  | _ => none
abbrev rTupOf (K : PySem.W.Frag) : List V → Hp → VK → Prop := fun xs H Q => ∃ p ys, xs = [.ref p] ∧ ((SqL K H p ys ∧ ∀ l, H l = none → Q (.ref l) (upd H l (.tup ys))) ∨ (SqT K H p ys ∧ Q (.ref p) H))
theorem v_tuple : VL K cl .shr (rTupOf K) gTuple := fun {Lk G H xs ds d F Q} s r e q => by
  unfold gTuple at e
  split at e
  · rename_i d0
    cases z : itemsOf d0 with
    | none => rw [z] at e; cases e
    | some its =>
      rw [z] at e
      cases e
      obtain ⟨x, rfl, rx⟩ := r.one
      cases d0 with
      | v y => cases z
      | g => cases z
      | n k ds =>
        obtain ⟨a, ws, F0, F3, rfl, ok, rl, c, rfl⟩ := R.n_inv rx
        obtain ⟨rfl, f1⟩ := node_free s ok rl c z
        obtain ⟨_, _, qq⟩ := node_seq s ok c z
        refine ⟨a, ws, rfl, ?_⟩
        rcases qq with ⟨_, hs⟩ | ⟨b, _, hs⟩
        · exact .inl ⟨hs, fun l hl => q (.ref l) _ [] (same_upd hl) (r_newtup f1 hl) rfl⟩
        · exact .inr ⟨hs, q _ H [] (Same.refl _) (r_node (k := .tup false) rfl ⟨hs, rfl⟩ f1) rfl⟩
  · cases e
/-! int(..) -/
def gInt : List D → Option D
  | [.v (.int i)] => some (.v (.int i))
  | [.v (.bl k)] => some (.v (.int (if k then 1 else 0)))
  | _ => none
abbrev rInt1 : List V → Hp → VK → Prop := fun xs H Q => (∃ i, xs = [.int i] ∧ Q (.int i) H) ∨ ∃ k, xs = [.bl k] ∧ Q (.int (if k then 1 else 0)) H
theorem v_int : VL K cl .shr rInt1 gInt := fun {Lk G H xs ds d F Q} s r e q => by
  unfold gInt at e
  split at e
  · cases e
    obtain ⟨x, rfl, rx⟩ := r.one
    obtain ⟨rfl, _⟩ := R.v_inv rx
    exact .inl ⟨_, rfl, q _ H [] (Same.refl _) R.sc rfl⟩
  · cases e
    obtain ⟨x, rfl, rx⟩ := r.one
    obtain ⟨rfl, _⟩ := R.v_inv rx
    exact .inr ⟨_, rfl, q _ H [] (Same.refl _) R.sc rfl⟩
  · cases e
/-! -n -/
def gNeg : D → Option D
  | .v (.int i) => some (.v (.int (-i)))
  | _ => none
theorem v_neg : V1 K cl .shr (rU fun i => .int (-i)) gNeg := fun {Lk G H x dx d Fx Q} s rx e q => by
  unfold gNeg at e
  split at e
  · cases e
    obtain ⟨rfl, _⟩ := R.v_inv rx
    exact ⟨_, rfl, q _ H [] (Same.refl _) R.sc rfl⟩
  · cases e
/-! slices -/
variable (K cl) in
structure EO (t : TO) (f : En → Option (Option Int)) : Prop where
  run : ∀ {Lk : Lks} {G H : Hp} {ρ : En} {σ : St} {o : Option Int} {F : List Addr} {Q : Option Int → Hp → Prop}, Sub Lk G H → RE K cl G H ρ σ F → f ρ = some o → (∀ H', Same H H' → Q o H') → t σ H Q
def oPart (f : En → Option D) : En → Option (Option Int) := fun ρ => (f ρ).bind fun d => match d with | .v (.int i) => some (some i) | _ => none
def oNone : En → Option (Option Int) := fun _ => some none
theorem eo_none : EO K cl tNoPart oNone := ⟨fun s r e q => by cases e; exact q _ (Same.refl _)⟩
theorem eo_part (h : EX K cl m ta fa) : EO K cl (tPart ta) (oPart fa) := ⟨fun {Lk G H ρ σ o F Q} s rr e q => by
  unfold oPart at e
  cases z : fa ρ with
  | none => rw [z] at e; cases e
  | some d0 =>
    rw [z] at e
    simp only [Option.bind_some] at e
    split at e
    · cases e
      refine h.run s rr z fun x H1 F1 s1 r1 _ => ?_
      obtain ⟨rfl, _⟩ := R.v_inv r1
      exact ⟨_, rfl, q H1 s1⟩
    · cases e⟩
def cutD (ds : List D) (lo hi : Option Int) : List D := (ds.drop (HT.sIx ds.length 0 lo)).take (HT.sIx ds.length ds.length hi - HT.sIx ds.length 0 lo)
theorem rl_cut (h : RL K cl G H vs ds []) (lo hi : Option Int) : RL K cl G H (cutV vs lo hi) (cutD ds lo hi) [] := by
  have e : ∀ {vs : List V} {ds : List D} (n : Nat), RL K cl G H vs ds [] → RL K cl G H (vs.take n) (ds.take n) [] ∧ RL K cl G H (vs.drop n) (ds.drop n) [] := fun {vs ds} n h => by
    have h' := h
    rw [← List.take_append_drop n ds] at h'
    obtain ⟨ws, us, A, B, e, h1, h2, e2⟩ := h'.split
    obtain ⟨rfl, rfl⟩ := List.append_eq_nil_iff.mp e2.symm
    have wl : ws.length = (ds.take n).length := h1.len
    have : vs.take n = ws ∧ vs.drop n = us := by
      have l0 := h.len
      rw [List.length_take] at wl
      rcases Nat.lt_or_ge n ds.length with hn | hn
      · have wn : ws.length = n := by omega
        rw [e, ← wn]; simp
      · have wn : ws.length = vs.length := by omega
        have un : us = [] := by
          have : vs.length = ws.length + us.length := by rw [e]; simp
          exact List.length_eq_zero_iff.mp (by omega)
        subst un
        rw [List.append_nil] at e
        subst e
        exact ⟨List.take_of_length_le (by omega), List.drop_eq_nil_of_le (by omega)⟩
    rw [this.1, this.2]
    exact ⟨h1, h2⟩
  unfold cutV cutD
  rw [h.len]
  exact (e _ (e _ h).2).1
abbrev rSlX (K : PySem.W.Frag) : V → Option Int → Option Int → Hp → VK → Prop := fun x lo hi H Q => rSlL K x lo hi H Q ∨ (rSlA K x lo hi H Q ∨ rSlS x lo hi H Q)
theorem sl_or {X : Cx} {r r' : V → Option Int → Option Int → Hp → VK → Prop} (h : SlR X r) (h' : SlR X r') : SlR X (fun x lo hi H Q => r x lo hi H Q ∨ r' x lo hi H Q) := fun pins s σ H x v vl vu lo hi sl Q I rx hs pl pu q =>
  q.elim (h pins s σ H x v vl vu lo hi sl Q I rx hs pl pu) (h' pins s σ H x v vl vu lo hi sl Q I rx hs pl pu)
theorem slx {X : Cx} : SlR X (rSlX X.K) := sl_or sl_list (sl_or sl_tupA sl_str)
def gSl (lo hi : Option Int) : D → Option D
  | .n (.tup b) ds => (itemsOf (.n (.tup b) ds)).map fun us => .n (.tup false) (cutD us lo hi)
  | .n k ds => (itemsOf (.n k ds)).map fun us => .n (.lst true) (cutD us lo hi)
  | .v (.str z) => if z.length ≤ sizeLine then some (.v (.str (cutS z lo hi))) else none
  | _ => none
def fSl (f : En → Option D) (l h : En → Option (Option Int)) : En → Option D := fun ρ => (f ρ).bind fun d => (l ρ).bind fun lo => (h ρ).bind fun hi => gSl lo hi d
theorem whole_cut {ds : List D} {lo hi : Option Int} (h : HT.sIx ds.length 0 lo = 0 ∧ HT.sIx ds.length ds.length hi = ds.length) : cutD ds lo hi = ds := by
  unfold cutD
  rw [h.1, h.2]
  simp
theorem e_sl {tl th : TO} {fl fh : En → Option (Option Int)} (h : EX K cl m1 ta fa) (hl : EO K cl tl fl) (hh : EO K cl th fh) : EX K cl .fre (tSl (rSlX K) ta tl th) (fSl fa fl fh) := ⟨fun {Lk G H ρ σ d F Q} s rr e q => by
  unfold fSl at e
  cases z : fa ρ with
  | none => rw [z] at e; cases e
  | some d0 =>
    rw [z] at e
    cases z2 : fl ρ with
    | none => rw [z2] at e; cases e
    | some lo =>
      rw [z2] at e
      cases z3 : fh ρ with
      | none => rw [z3] at e; cases e
      | some hi =>
        rw [z3] at e
        simp only [Option.bind_some] at e
        refine h.run s rr z fun x H1 F1 s1 r1 _ => ?_
        refine hl.run (s.same s1) (rr.same s1) z2 fun H2 s2 => ?_
        refine hh.run ((s.same s1).same s2) ((rr.same s1).same s2) z3 fun H3 s3 => ?_
        have S3 := ((s.same s1).same s2).same s3
        have r3 := (RL.same r1 s2).same s3
        have s03 := (s1.trans s2).trans s3
        unfold gSl at e
        split at e
        · rename_i b ds
          cases z4 : itemsOf (.n (.tup b) ds) with
          | none => rw [z4] at e; cases e
          | some us =>
            rw [z4] at e
            cases e
            obtain ⟨a, ws, F0, F3, rfl, ok, rl, c, rfl⟩ := R.n_inv r3
            obtain ⟨rfl, f1⟩ := node_free S3 ok rl c z4
            refine .inr (.inl ⟨a, ws, rfl, (Kd.ok.tupT ok).1, fun hw => ?_, fun _ p hp => ?_⟩)
            · rw [f1.len] at hw
              simp only [whole_cut hw] at q
              exact q _ H3 [] s03 (r_node (k := .tup false) rfl ⟨(Kd.ok.tupT ok).1, rfl⟩ f1) Md.ok.nil
            · exact q (.ref p) _ [] (s03.trans (same_upd hp)) (r_newtup (rl_cut f1 lo hi) hp) Md.ok.nil
        · rename_i k ds hnt
          cases z4 : itemsOf (.n k ds) with
          | none => rw [z4] at e; cases e
          | some us =>
            rw [z4] at e
            cases e
            obtain ⟨a, ws, F0, F3, rfl, ok, rl, c, rfl⟩ := R.n_inv r3
            obtain ⟨rfl, f1⟩ := node_free S3 ok rl c z4
            obtain ⟨_, _, qq⟩ := node_seq S3 ok c z4
            rcases qq with ⟨_, hs⟩ | ⟨b, hb, _⟩
            · refine .inl ⟨a, ws, rfl, hs, fun p hp => ?_⟩
              exact q (.ref p) _ [p] (s03.trans (same_upd hp)) (r_newlst S3 (rl_cut f1 lo hi) hp) (Md.ok.back (fre_one hp (same_upd (o := .lst []) hp)) s03)
            · exact absurd hb (hnt b)
        · split at e
          · rename_i hz
            cases e
            obtain ⟨rfl, _⟩ := R.v_inv r3
            exact .inr (.inr ⟨_, rfl, hz, q _ H3 [] s03 R.sc Md.ok.nil⟩)
          · cases e
        · cases e⟩
end
end DL

set_option Elab.async false
set_option linter.all false
set_option maxRecDepth 100000
set_option maxHeartbeats 4000000
/-! DL8: things changed in their place -/
namespace DL
open PySem PySem.Spec L2
open PyProof.Rows hiding St
/-- a step of a path -/
inductive Stp where
  | ix (i : Nat)
  | ky (k : Key)
  | fl (f : Str)
/-- which child a step takes -/
def Kd.at (k : Kd) : Stp → Option Nat
  | .ix i => if k.seq then some i else none
  | .ky x => match k with | .dct _ ks => ks.findIdx? (fun y => decide (y = x)) | _ => none
  | .fl f => match k with | .ins _ _ fs => fs.findIdx? (fun y => decide (y = f)) | _ => none
def D.get : D → List Stp → Option D
  | d, [] => some d
  | .v _, _ :: _ => none
  | .g, _ :: _ => none
  | .n k ds, s :: ps => if k.ow then (k.at s).bind fun i => (ds[i]?).bind fun d => D.get d ps else none
def D.put : D → List Stp → D → Option D
  | _, [], e => some e
  | .v _, _ :: _, _ => none
  | .g, _ :: _, _ => none
  | .n k ds, s :: ps, e => if k.ow then (k.at s).bind fun i => (ds[i]?).bind fun d => (D.put d ps e).map fun d' => .n k (ds.set i d') else none
section
variable (K : PySem.W.Frag) (cl : Cf)
/-- an owned node's children, by the heap -/
def KdV (H : Hp) : Kd → Addr → List V → Prop
  | .tup true, a, vs => H a = some (.tup vs)
  | .lst true, a, vs => H a = some (.lst vs)
  | .dct true ks, a, vs => ks.length = vs.length ∧ H a = some (.dK (ks.zip vs))
  | .ins true _ fs, a, vs => fs.length = vs.length ∧ ∃ C dx, H a = some (.ins C dx (fs.zip vs))
  | _, _, _ => False
inductive VAt (H : Hp) : V → D → List Stp → V → Prop
  | nil {v d} : VAt H v d [] v
  | cons {k a vs ds s i v' d' ps v} : KdV H k a vs → k.at s = some i → vs[i]? = some v' → ds[i]? = some d' → VAt H v' d' ps v → VAt H (.ref a) (.n k ds) (s :: ps) v
end
section
variable {K : PySem.W.Frag} {cl : Cf} {Lk : Lks} {E : Hp} {pv : List (Nat × V)} {ρ ρ' : En} {σ : St} {τ : Tm} {G G' H H' : Hp} {v vn v0 : V} {d dn d0 : D} {vs ws : List V} {ds : List D} {F F0 F1 F2 : List Addr} {i : Nat} {k : Kd} {a : Addr} {ps : List Stp}
theorem zip_inj {α : Type} : ∀ {ks : List α} {vs ws : List V}, ks.length = vs.length → ks.length = ws.length → ks.zip vs = ks.zip ws → vs = ws
  | [], [], [], _, _, _ => rfl
  | k :: ks, v :: vs, w :: ws, h1, h2, e => by
    simp only [List.zip_cons_cons, List.cons.injEq, Prod.mk.injEq, true_and] at e
    rw [e.1, zip_inj (by simpa using h1) (by simpa using h2) e.2]
theorem KdV.same (h : KdV H k a vs) (s : Same H H') : KdV H' k a vs := by
  cases k with
  | tup b => cases b with
    | true => exact s _ _ h
    | false => exact h.elim
  | lst b => cases b with
    | true => exact s _ _ h
    | false => exact h.elim
  | dct b ks => cases b with
    | true => exact ⟨h.1, s _ _ h.2⟩
    | false => exact h.elim
  | ins b c fs => cases b with
    | true => obtain ⟨l, C, dx, e⟩ := h; exact ⟨l, C, dx, s _ _ e⟩
    | false => exact h.elim
  | scr => exact h.elim
  | flst => exact h.elim
  | exc cn fs => exact h.elim
theorem VAt.same (h : VAt H v d ps vn) (s : Same H H') : VAt H' v d ps vn := by
  induction h with
  | nil => exact .nil
  | cons a b c e _ ih => exact .cons (a.same s) b c e ih
theorem KdV.ow (h : KdV H k a vs) : k.ow = true := by
  cases k with
  | tup b => cases b <;> first | rfl | exact h.elim
  | lst b => cases b <;> first | rfl | exact h.elim
  | dct b ks => cases b <;> first | rfl | exact h.elim
  | ins b c fs => cases b <;> first | rfl | exact h.elim
  | scr => exact h.elim
  | flst => exact h.elim
  | exc cn fs => exact h.elim
theorem KdV.fun_ (h : KdV H k a vs) (o : Kd.ok K cl G H k a ws F) : vs = ws := by
  cases k with
  | tup b => cases b with
    | true => have := h.symm.trans o.1; cases this; rfl
    | false => exact h.elim
  | lst b => cases b with
    | true => have := h.symm.trans o.1; cases this; rfl
    | false => exact h.elim
  | dct b ks => cases b with
    | true =>
      have := h.2.symm.trans o.2.1
      simp only [Option.some.injEq, HO.dK.injEq] at this
      exact zip_inj h.1 o.1 this
    | false => exact h.elim
  | ins b c fs => cases b with
    | true =>
      obtain ⟨l, C, dx, e⟩ := h
      obtain ⟨l2, C2, dx2, _, e2, _⟩ := o
      have := e.symm.trans e2
      simp only [Option.some.injEq, HO.ins.injEq] at this
      exact zip_inj l l2 this.2.2
    | false => exact h.elim
  | scr => exact h.elim
  | flst => exact h.elim
  | exc cn fs => exact h.elim
theorem KdV.of (o : Kd.ok K cl G H k a vs F) (w : k.ow = true) : KdV H k a vs := by
  cases k with
  | tup b => cases b with
    | true => exact o.1
    | false => cases w
  | lst b => cases b with
    | true => exact o.1
    | false => cases w
  | dct b ks => cases b with
    | true => exact ⟨o.1, o.2.1⟩
    | false => cases w
  | ins b c fs => cases b with
    | true => obtain ⟨l, C, dx, _, e, _⟩ := o; exact ⟨l, C, dx, e⟩
    | false => cases w
  | scr => cases w
  | flst => cases w
  | exc cn fs => cases w
/-- an item with the parts around it -/
theorem RL.at2 (h : RL K cl G H vs ds F) (e : ds[i]? = some d) : ∃ v A B C, vs[i]? = some v ∧ R K cl G H v d B ∧ F = A ++ B ++ C ∧ RL K cl G H (vs.take i) (ds.take i) A ∧ RL K cl G H (vs.drop (i + 1)) (ds.drop (i + 1)) C := by
  have hi : i < ds.length := (List.getElem?_eq_some_iff.mp e).1
  have e2 : ds = ds.take i ++ (d :: ds.drop (i + 1)) := by
    have := List.getElem?_eq_some_iff.mp e
    rw [← this.2, ← List.drop_eq_getElem_cons hi, List.take_append_drop]
  have h' := h
  rw [e2] at h'
  obtain ⟨ws, us, A, B', rfl, h1, h2, rfl⟩ := h'.split
  cases us with
  | nil => cases h2
  | cons u us =>
    obtain ⟨B, C, h3, h4, rfl⟩ := h2.uncons
    have wl : ws.length = i := by rw [h1.len, List.length_take]; omega
    refine ⟨u, A, B, C, ?_, h3, by simp, ?_, ?_⟩
    · rw [List.getElem?_append_right (by omega), wl]; simp
    · have q1 : (ws ++ u :: us).take i = ws := by rw [← wl]; simp
      rw [q1]; exact h1
    · have q2 : (ws ++ u :: us).drop (i + 1) = us := by rw [← wl]; simp [List.drop_append]
      rw [q2]; exact h4
theorem RL.glue {v : V} {A B C : List Addr} (hi : i < ds.length) (hv : vs[i]? = some v) (h1 : RL K cl G H (vs.take i) (ds.take i) A) (h2 : R K cl G H v d B) (h3 : RL K cl G H (vs.drop (i + 1)) (ds.drop (i + 1)) C) : RL K cl G H vs (ds.set i d) (A ++ B ++ C) := by
  have hi2 : i < vs.length := (List.getElem?_eq_some_iff.mp hv).1
  have e1 : vs = vs.take i ++ (v :: vs.drop (i + 1)) := by
    have := List.getElem?_eq_some_iff.mp hv
    rw [← this.2, ← List.drop_eq_getElem_cons hi2, List.take_append_drop]
  have e2 : ds.set i d = ds.take i ++ (d :: ds.drop (i + 1)) := by rw [List.set_eq_take_append_cons_drop, if_pos hi]
  rw [e1, e2, List.append_assoc]
  exact h1.append (R.cons h2 h3)
/-- the thing at a path, changed, and what is around it -/
theorem R.focus : ∀ {ps : List Stp} {v0 : V} {d0 : D} {F0 : List Addr}, R K cl G H v0 d0 F0 → VAt H v0 d0 ps vn → D.get d0 ps = some dn → ∃ A B C, F0 = A ++ B ++ C ∧ R K cl G H vn dn B ∧
    ∀ {H' : Hp} {dn' d0' : D} {B' : List Addr}, Keep (A ++ C) H H' → R K cl G H' vn dn' B' → D.put d0 ps dn' = some d0' → R K cl G H' v0 d0' (A ++ B' ++ C)
  | [], v0, d0, F0, r, va, g => by
    cases va
    have g : d0 = dn := by
      cases d0 <;> exact Option.some.inj g
    subst g
    refine ⟨[], F0, [], by simp, r, fun {H' dn' d0' B'} kp r' e => ?_⟩
    have e : dn' = d0' := by
      cases d0 <;> exact Option.some.inj e
    subst e
    simpa using r'
  | s :: ps, v0, d0, F0, r, va, g => by
    cases va with
    | @cons k a vs ds _ i v' d' _ _ kv ka hv hd va =>
      obtain ⟨a', ws, F00, F11, ea, ok, rl, c, rfl⟩ := R.n_inv r
      cases ea
      have hw := kv.ow
      have := kv.fun_ ok
      subst this
      obtain ⟨v2, A1, B1, C1, e1, r1, rfl, p1, p2⟩ := rl.at2 hd
      rw [hv] at e1
      cases e1
      have g' : D.get d' ps = some dn := by
        have g2 : (if k.ow then (k.at s).bind fun i => (ds[i]?).bind fun d => D.get d ps else none) = some dn := g
        rw [if_pos hw, ka] at g2
        simp only [Option.bind_some] at g2
        rw [hd] at g2
        exact g2
      obtain ⟨A2, B2, C2, rfl, r2, back⟩ := R.focus r1 va g'
      refine ⟨F00 ++ A1 ++ A2, B2, C2 ++ C1, by simp, r2, fun {H' dn' d0' B'} kp r' e => ?_⟩
      have e2 : (if k.ow then (k.at s).bind fun i => (ds[i]?).bind fun d => (D.put d ps dn').map fun d' => D.n k (ds.set i d') else none) = some d0' := e
      rw [if_pos hw, ka] at e2
      simp only [Option.bind_some] at e2
      rw [hd] at e2
      simp only [Option.bind_some] at e2
      cases z : D.put d' ps dn' with
      | none => rw [z] at e2; cases e2
      | some d2 =>
        rw [z] at e2
        cases e2
        have r3 := back (kp.mono fun x m => by simp only [List.mem_append] at m ⊢; rcases m with m | m <;> simp [m]) r' z
        have q1 := p1.keep (kp.mono fun x m => by simp [m]) (Same.refl G) fun x m => (p1.own x m).1
        have q2 := p2.keep (kp.mono fun x m => by simp [m]) (Same.refl G) fun x m => (p2.own x m).1
        have ok' := ok.keep (kp.mono fun x m => by simp [m]) (Same.refl G) fun x m => (ok.own x m).1
        have hi : i < ds.length := (List.getElem?_eq_some_iff.mp hd).1
        have q := RL.glue hi hv q1 r3 q2
        have := R.mk ok' q fun o => by rw [hw] at o; cases o
        simpa using this
/-! ### a place: a slot and a path -/
def fGet (i : Nat) (fp : En → Option (List Stp)) : En → Option D := fun ρ => (ρ.getD i none).bind fun d => (fp ρ).bind fun ps => D.get d ps
variable (K cl) in
structure LV (t : TE) (i : Nat) (fp : En → Option (List Stp)) : Prop where
  run : ∀ {Lk : Lks} {G H : Hp} {ρ : En} {σ : St} {F F0 : List Addr} {ps : List Stp} {d0 dn : D} {v0 : V} {Q : VK}, Sub Lk G H → RE K cl G H ρ σ F → ρ[i]? = some (some d0) → σ[i]? = some (some v0) → R K cl G H v0 d0 F0 → fp ρ = some ps → D.get d0 ps = some dn →
    (∀ vn H', Same H H' → VAt H' v0 d0 ps vn → Q vn H') → t σ H Q
def pNil : En → Option (List Stp) := fun _ => some []
theorem lv_name (i : Nat) : LV K cl (tVar i) i pNil := ⟨fun {Lk G H ρ σ F F0 ps d0 dn v0 Q} s r e1 e2 r0 e g q => by
  cases e
  exact ⟨v0, e2, q v0 H (Same.refl _) .nil⟩⟩
theorem get_snoc : ∀ {ps : List Stp} {d0 d1 : D} {s : Stp}, D.get d0 (ps ++ [s]) = some d1 → ∃ k ds i, D.get d0 ps = some (.n k ds) ∧ k.ow = true ∧ k.at s = some i ∧ ds[i]? = some d1
  | [], .v x, d1, s, h => by cases h
  | [], .g, d1, s, h => by cases h
  | [], .n k ds, d1, s, h => by
    have h2 : (if k.ow then (k.at s).bind fun i => (ds[i]?).bind fun d => D.get d [] else none) = some d1 := h
    split at h2
    · rename_i hw
      cases z : k.at s with
      | none => rw [z] at h2; cases h2
      | some i =>
        rw [z] at h2
        simp only [Option.bind_some] at h2
        cases z2 : ds[i]? with
        | none => rw [z2] at h2; cases h2
        | some d =>
          rw [z2] at h2
          have h2 : D.get d [] = some d1 := h2
          have : d = d1 := by cases d <;> exact Option.some.inj h2
          subst this
          exact ⟨k, ds, i, rfl, hw, z, z2⟩
    · cases h2
  | p :: ps, .v x, d1, s, h => by cases h
  | p :: ps, .g, d1, s, h => by cases h
  | p :: ps, .n k ds, d1, s, h => by
    have h2 : (if k.ow then (k.at p).bind fun i => (ds[i]?).bind fun d => D.get d (ps ++ [s]) else none) = some d1 := h
    split at h2
    · rename_i hw
      cases z : k.at p with
      | none => rw [z] at h2; cases h2
      | some i =>
        rw [z] at h2
        simp only [Option.bind_some] at h2
        cases z2 : ds[i]? with
        | none => rw [z2] at h2; cases h2
        | some d =>
          rw [z2] at h2
          obtain ⟨k', ds', j, g1, g2, g3, g4⟩ := get_snoc (ps := ps) (d0 := d) h2
          refine ⟨k', ds', j, ?_, g2, g3, g4⟩
          show (if k.ow then (k.at p).bind fun i => (ds[i]?).bind fun d => D.get d ps else none) = some (.n k' ds')
          rw [if_pos hw, z]
          simp only [Option.bind_some]
          rw [z2]
          exact g1
    · cases h2
theorem VAt.snoc {s : Stp} {w : V} {vs : List V} (h : VAt H v d ps (.ref a)) (g : D.get d ps = some (.n k ds)) (kv : KdV H k a vs) (ka : k.at s = some i) (hv : vs[i]? = some w) (hd : ds[i]? = some dn) : VAt H v d (ps ++ [s]) w := by
  generalize hx : V.ref a = x at h
  induction h with
  | nil =>
    subst hx
    rename_i d
    have : d = .n k ds := by cases d <;> exact Option.some.inj g
    subst this
    exact .cons kv ka hv hd .nil
  | @cons k2 a2 vs2 ds2 s2 i2 v2 d2 ps2 vv kv2 ka2 hv2 hd2 _ ih =>
    refine .cons kv2 ka2 hv2 hd2 (ih ?_ hx)
    have g2 : (if k2.ow then (k2.at s2).bind fun i => (ds2[i]?).bind fun d => D.get d ps2 else none) = some (.n k ds) := g
    rw [if_pos kv2.ow, ka2] at g2
    simp only [Option.bind_some] at g2
    rw [hd2] at g2
    exact g2
/-- .. and an item of it -/
def pIx (i : Nat) (fp : En → Option (List Stp)) (f : En → Option D) : En → Option (List Stp) := fun ρ => (ρ.getD i none).bind fun d0 => (fp ρ).bind fun ps => (D.get d0 ps).bind fun dn => (f ρ).bind fun x => match dn, x with
  | .n k ds, .v (.int j) => if k.seq then (ixN ds.length j).map fun n => ps ++ [.ix n] else none
  | _, _ => none
theorem getD_of {d : D} (e : ρ[i]? = some (some d)) : ρ.getD i none = some d := by rw [List.getD_eq_getElem?_getD, e]; rfl
variable {m m1 m2 : Md} {to te ti : TE} {fe fx : En → Option D} {fp : En → Option (List Stp)}
theorem lv_ix (h : LV K cl to i fp) (hx : EX K cl m te fx) : LV K cl (tOp (rIx K) to te) i (pIx i fp fx) := ⟨fun {Lk G H ρ σ F F0 ps d0 dn v0 Q} s r e1 e2 r0 e g q => by
  unfold pIx at e
  rw [getD_of e1] at e
  simp only [Option.bind_some] at e
  cases z : fp ρ with
  | none => rw [z] at e; cases e
  | some ps1 =>
    rw [z] at e
    simp only [Option.bind_some] at e
    cases z1 : D.get d0 ps1 with
    | none => rw [z1] at e; cases e
    | some d1 =>
      rw [z1] at e
      simp only [Option.bind_some] at e
      cases z2 : fx ρ with
      | none => rw [z2] at e; cases e
      | some x =>
        rw [z2] at e
        simp only [Option.bind_some] at e
        split at e
        · rename_i k ds j
          split at e
          · rename_i hk
            cases z3 : ixN ds.length j with
            | none => rw [z3] at e; cases e
            | some n =>
              rw [z3] at e
              cases e
              refine h.run s r e1 e2 r0 z z1 fun vn H1 s1 va => ?_
              refine hx.run (s.same s1) (r.same s1) z2 fun y H2 F2 s2 ry _ => ?_
              obtain ⟨rfl, _⟩ := R.v_inv ry
              have S2 := (s.same s1).same s2
              have va2 := va.same s2
              obtain ⟨A, B, C, _, r2, _⟩ := R.focus ((RL.same r0 s1).same s2) va2 z1
              obtain ⟨a, ws, F3, F4, rfl, ok, rl, c, _⟩ := R.n_inv r2
              obtain ⟨k', ds', j', g1, g2, g3, g4⟩ := get_snoc g
              rw [z1] at g1
              cases g1
              have e3 : (if k.seq then some n else none) = some j' := g3
              rw [if_pos hk] at e3
              cases e3
              have hn : n < ds.length := (List.getElem?_eq_some_iff.mp g4).1
              have hw : n < ws.length := by rw [rl.len]; exact hn
              have hat : atI ws j = some ws[n] := by
                unfold atI
                rw [rl.len, z3]
                exact List.getElem?_eq_getElem hw
              have kv := KdV.of ok g2
              have fin : Q ws[n] H2 := q _ H2 (s1.trans s2) (va2.snoc z1 kv g3 (List.getElem?_eq_getElem hw) g4)
              cases k with
              | tup b => exact .inr (.inl ⟨a, ws, j, _, rfl, rfl, (Kd.ok.tupT ok).1, hat, fin⟩)
              | scr => exact .inl ⟨a, ws, j, _, rfl, rfl, S2.seq ok.1, hat, fin⟩
              | exc cn fs => exact nomatch hk
              | flst => exact .inl ⟨a, ws, j, _, rfl, rfl, SqL.of (S2.lst ok.1), hat, fin⟩
              | lst b => exact .inl ⟨a, ws, j, _, rfl, rfl, SqL.of (lst_at S2 ok), hat, fin⟩
              | dct b ks => exact nomatch hk
              | ins b c fs => exact nomatch hk
          · cases e
        · cases e⟩
/-! ### a change at a place -/
/-- what a change may do with footprints -/
def Fits (F' F : List Addr) : Prop := (F.Nodup → F'.Nodup) ∧ ∀ a ∈ F', a ∈ F
theorem Fits.refl : Fits F F := ⟨fun h => h, fun _ h => h⟩
/-- the node at a place of slot i gets new children; tm is used up, tm' is held instead -/
theorem Sta.mutate {tm tm' : Tm} {b : Bool} {k k' : Kd} {vs' : List V} {ds' : List D} {o o' : HO} {p : Addr} {d0' : D} (st : Sta K cl Lk E pv ρ σ (tm ++ τ) H) (e1 : ρ[i]? = some (some d0)) (e2 : σ[i]? = some (some v0)) (va : VAt H v0 d0 ps (.ref p)) (g : D.get d0 ps = some (.n k ds)) (hk : ∀ b, k ≠ .tup b) (hki : ∀ b c fs, k ≠ .ins b c fs) (hw : k.ow = true) (hw' : k'.ow = true)
    (kv : KdV H k p vs) (ho : H p = some o) (nt : ∀ xs, o ≠ .tup xs) (nf : ∀ ob u, o ≠ .frz ob u)
    (new : ∀ {G : Hp}, G p = none → Kd.ok K cl G (upd H p o') k' p vs' [p])
    (ch : ∀ {G : Hp} {Fc Ft : List Addr}, RL K cl G H vs ds Fc → RL K cl G H (tm.map (·.1)) (tm.map (·.2)) Ft → ∃ Fc' Ft', RL K cl G H vs' ds' Fc' ∧ RL K cl G H (tm'.map (·.1)) (tm'.map (·.2)) Ft' ∧ Fits (Fc' ++ Ft') (Fc ++ Ft))
    (pu : D.put d0 ps (.n k' ds') = some d0') : Sta K cl Lk E pv (ρ.set i (some d0')) σ (tm' ++ τ) (upd H p o') := by
  obtain ⟨G, F1, F2, sx⟩ := st
  have tmp := sx.tmp
  rw [List.map_append, List.map_append] at tmp
  obtain ⟨us, us2, T1, T2, eu, t1, t2, rfl⟩ := tmp.split
  obtain ⟨rfl, rfl⟩ := List.append_inj eu (by rw [t1.len]; simp)
  obtain ⟨v, A, B, C, e3, r, rfl, sl⟩ := sx.slots.at e1
  rw [e2] at e3
  cases e3
  obtain ⟨A2, B2, C2, rfl, rn, back⟩ := R.focus r va g
  obtain ⟨a, ws, P, Fc, ea, ok, rl, c, rfl⟩ := R.n_inv rn
  cases ea
  have := kv.fun_ ok
  subst this
  -- the node's own footprint is p
  have hP : P = [p] := by
    cases k with
    | tup b => exact absurd rfl (hk b)
    | lst b => cases b with
      | true => exact ok.2.2
      | false => cases hw
    | dct b ks => cases b with
      | true => exact ok.2.2.2
      | false => cases hw
    | ins b cc fs => exact absurd rfl (hki b cc fs)
    | scr => cases hw
    | flst => cases hw
    | exc cn fs => cases hw
  subst hP
  have hGp : G p = none := (ok.own p List.mem_cons_self).1
  obtain ⟨Fc', T1', rl', t1', fit⟩ := ch rl t1
  have nd := sx.nd
  -- p stands nowhere else
  have perm : (A ++ (A2 ++ ([p] ++ Fc) ++ C2) ++ C ++ (T1 ++ T2)).Perm (p :: ((A ++ A2 ++ C2 ++ C ++ T2) ++ (Fc ++ T1))) := by
    rw [List.perm_iff_count]
    intro x
    simp only [List.count_append, List.count_cons, List.count_nil]
    omega
  have nd2 := perm.nodup_iff.mp nd
  rw [List.nodup_cons] at nd2
  obtain ⟨np, nd3⟩ := nd2
  have npa : ∀ x ∈ A ++ A2 ++ C2 ++ C ++ T2, x ≠ p := fun x m e => np (by rw [← e]; exact List.mem_append_left _ m)
  have npc : ∀ x ∈ Fc ++ T1, x ≠ p := fun x m e => np (by rw [← e]; exact List.mem_append_right _ m)
  have kp : ∀ {F : List Addr}, (∀ x ∈ F, x ≠ p) → Keep F H (upd H p o') := fun {F} hF => keep_upd ho nt (fun ob xs => nf ob _) hF
  have hFc' : ∀ x ∈ Fc' ++ T1', x ≠ p := fun x m => npc x (fit.2 x m)
  have gk : ∀ {vs : List V} {ds : List D} {F : List Addr}, RL K cl G H vs ds F → (∀ x ∈ F, x ≠ p) → RL K cl G (upd H p o') vs ds F := fun {vs ds F} h hF => h.keep (kp hF) (Same.refl G) fun x m => (h.own x m).1
  have rn' : R K cl G (upd H p o') (.ref p) (.n k' ds') ([p] ++ Fc') := R.mk (new hGp) (gk rl' fun x m => hFc' x (List.mem_append_left _ m)) fun o => by rw [hw'] at o; cases o
  have r0' := back (kp fun x m => npa x (by simp only [List.mem_append] at m ⊢; rcases m with m | m <;> simp [m])) rn' pu
  have sl' := sl.keep (kp fun x m => npa x (by simp only [List.mem_append] at m ⊢; rcases m with m | m <;> simp [m])) (Same.refl G) fun x m => (sl.own x m).1
  have hi : i < ρ.length := (List.getElem?_eq_some_iff.mp e1).1
  obtain ⟨A3, C3, eac, sl2⟩ := sl'.fill (i := i) (by simp [hi]) r0'
  rw [List.set_set] at sl2
  have eσ : σ.set i (some v0) = σ := by
    apply List.ext_getElem?
    intro j
    by_cases hj : i = j
    · subst hj
      rw [List.getElem?_set]
      simp only [if_true]
      rw [e2]
      have : i < σ.length := (List.getElem?_eq_some_iff.mp e2).1
      rw [if_pos this]
    · rw [List.getElem?_set_ne hj]
  rw [eσ] at sl2
  refine ⟨G, _, T1' ++ T2, sx.ent, sx.cfe, ⟨fun x u e => ?_, sx.sub.lku⟩, sl2, ?_, ?_, sx.pin⟩
  · have hx : x ≠ p := fun z => by rw [z, hGp] at e; cases e
    rw [upd_ne hx]
    exact sx.sub.at_ x u e
  · rw [List.map_append, List.map_append]
    exact (gk t1' fun x m => hFc' x (List.mem_append_right _ m)).append (gk t2 fun x m => npa x (by simp [m]))
  · have perm2 : ((A3 ++ (A2 ++ ([p] ++ Fc') ++ C2) ++ C3) ++ (T1' ++ T2)).Perm (p :: ((A ++ A2 ++ C2 ++ C ++ T2) ++ (Fc' ++ T1'))) := by
      rw [List.perm_iff_count]
      intro x
      have ec := congrArg (List.count x) eac
      simp only [List.count_append, List.count_cons, List.count_nil] at ec ⊢
      omega
    rw [perm2.nodup_iff, List.nodup_cons]
    rw [List.nodup_append] at nd3
    refine ⟨fun m => ?_, List.nodup_append.mpr ⟨nd3.1, fit.1 nd3.2.1, fun x hx y hy e => nd3.2.2 x hx y (fit.2 y hy) e⟩⟩
    rcases List.mem_append.mp m with m | m
    · exact npa p m rfl
    · exact hFc' p m rfl
end
end DL

set_option Elab.async false
set_option linter.all false
set_option maxRecDepth 100000
set_option maxHeartbeats 4000000
/-! DL9: methods that change a list, stores, dicts -/
namespace DL
open PySem PySem.Spec L2
open PyProof.Rows hiding St
section
variable {K : PySem.W.Frag} {cl : Cf} {Lk : Lks} {E : Hp} {pv : List (Nat × V)} {ρ ρ' ρ1 : En} {σ : St} {τ : Tm} {G G' H H' : Hp} {v vn v0 : V} {d dn d0 : D} {vs ws : List V} {ds : List D} {F F0 F1 F2 : List Addr} {i : Nat} {k : Kd} {a : Addr} {ps : List Stp}
variable {m m1 m2 : Md} {to te ti : TE} {fe fx : En → Option D} {fp : En → Option (List Stp)} {tA : TA} {os : En → Option (List D × En)} {P : List Nat} {W : WX}
/-- slot i is left alone -/
def Keeps (i : Nat) (os : En → Option (List D × En)) : Prop := ∀ ρ ds ρ1, os ρ = some (ds, ρ1) → ρ1.getD i none = ρ.getD i none
def Keep1 (i : Nat) (o : En → Option (D × En)) : Prop := ∀ ρ d ρ1, o ρ = some (d, ρ1) → ρ1.getD i none = ρ.getD i none
theorem keeps_nil : Keeps i oNil := fun ρ ds ρ1 e => by cases e; rfl
theorem keeps_cons {o : En → Option (D × En)} (h1 : Keep1 i o) (h2 : Keeps i os) : Keeps i (oCons o os) := fun ρ ds ρ1 e => by
  unfold oCons at e
  cases z : o ρ with
  | none => rw [z] at e; cases e
  | some p =>
    rw [z] at e
    simp only [Option.bind_some] at e
    cases z2 : os p.2 with
    | none => rw [z2] at e; cases e
    | some q =>
      rw [z2] at e
      cases e
      exact (h2 p.2 q.1 q.2 z2).trans (h1 ρ p.1 p.2 z)
theorem keep_hold : Keep1 i (fHold fe) := fun ρ d ρ1 e => by
  unfold fHold at e
  cases z : fe ρ with
  | none => rw [z] at e; cases e
  | some p => rw [z] at e; cases e; rfl
theorem keep_move {j : Nat} (h : j ≠ i) : Keep1 i (fMove j) := fun ρ d ρ1 e => by
  unfold fMove at e
  cases z : ρ.getD j none with
  | none => rw [z] at e; cases e
  | some p =>
    rw [z] at e
    cases e
    rw [List.getD_eq_getElem?_getD, List.getD_eq_getElem?_getD, List.getElem?_set_ne h]
theorem keep_tup (h : Keeps i os) : Keep1 i (oTup os) := fun ρ d ρ1 e => by
  unfold oTup at e
  cases z : os ρ with
  | none => rw [z] at e; cases e
  | some p =>
    rw [z] at e
    simp only [Option.bind_some] at e
    split at e
    · cases e; exact h ρ _ _ z
    · cases e
theorem keep_lst (h : Keeps i os) : Keep1 i (oLst os) := fun ρ d ρ1 e => by
  unfold oLst at e
  cases z : os ρ with
  | none => rw [z] at e; cases e
  | some p =>
    rw [z] at e
    simp only [Option.bind_some] at e
    split at e
    · cases e; exact h ρ _ _ z
    · cases e
/-- a place, then the arguments -/
theorem bm_core {T : String} {r : V → List V → Hp → VK → Prop} {Q : VK} (hl : LV K cl to i fp) (ha : OA K cl tA os) (hk : Keeps i os) (st : Sta K cl Lk E pv ρ σ τ H) (e1 : ρ.getD i none = some d0) (e2 : fp ρ = some ps) (e3 : os ρ = some (ds, ρ1)) (g : D.get d0 ps = some dn)
    (ty : ∀ {G H vn F}, Sub Lk G H → R K cl G H vn dn F → tyV K T vn H)
    (fin : ∀ vs vn v0 H2, Same H H2 → vs.length = ds.length → Sta K cl Lk E pv ρ1 σ (vs.zip ds ++ τ) H2 → ρ1[i]? = some (some d0) → σ[i]? = some (some v0) → VAt H2 v0 d0 ps vn → r vn vs H2 Q) : tBM K T r to tA σ H Q := by
  obtain ⟨G, F1, F2, sx⟩ := id st
  obtain ⟨v0, B, ev, r0, _⟩ := sx.slots.get (getD_some e1)
  refine hl.run sx.sub sx.slots (getD_some e1) ev r0 e2 g fun vn H1 s1 va => ?_
  obtain ⟨_, B2, _, _, rn, _⟩ := R.focus (RL.same r0 s1) va g
  refine ⟨ty (sx.sub.same s1) rn, ha.run (st.same s1) e3 fun vs H2 s2 l st2 => ?_⟩
  exact fin vs vn v0 H2 (s1.trans s2) l st2 (getD_some ((hk _ _ _ e3).trans e1)) ev (va.same s2)
theorem bm0_core {T : String} {r : V → List V → Hp → VK → Prop} {Q : VK} (hl : LV K cl to i fp) (st : Sta K cl Lk E pv ρ σ τ H) (e1 : ρ.getD i none = some d0) (e2 : fp ρ = some ps) (g : D.get d0 ps = some dn)
    (ty : ∀ {G H vn F}, Sub Lk G H → R K cl G H vn dn F → tyV K T vn H)
    (fin : ∀ vn v0 H2, Same H H2 → Sta K cl Lk E pv ρ σ τ H2 → ρ[i]? = some (some d0) → σ[i]? = some (some v0) → VAt H2 v0 d0 ps vn → r vn [] H2 Q) : tBM0 K T r to σ H Q := by
  obtain ⟨G, F1, F2, sx⟩ := id st
  obtain ⟨v0, B, ev, r0, _⟩ := sx.slots.get (getD_some e1)
  refine hl.run sx.sub sx.slots (getD_some e1) ev r0 e2 g fun vn H1 s1 va => ?_
  obtain ⟨_, B2, _, _, rn, _⟩ := R.focus (RL.same r0 s1) va g
  exact ⟨ty (sx.sub.same s1) rn, fin vn v0 H1 s1 (st.same s1) (getD_some e1) ev va⟩
theorem ty_lst {b : Bool} {G H : Hp} {vn : V} {F : List Addr} (s : Sub Lk G H) (r : R K cl G H vn (.n (.lst b) ds) F) : tyV K "list" vn H := by
  obtain ⟨a, ws, F0, F3, rfl, ok, rl, c, rfl⟩ := R.n_inv r
  exact Or.inl ⟨rfl, ws, SqL.of (lst_at s ok)⟩
/-- the list at a place -/
theorem lst_place (st : Sta K cl Lk E pv ρ σ τ H) (e1 : ρ[i]? = some (some d0)) (e2 : σ[i]? = some (some v0)) (va : VAt H v0 d0 ps vn) (g : D.get d0 ps = some (.n (.lst true) ds)) : ∃ p vs, vn = .ref p ∧ H p = some (.lst vs) ∧ vs.length = ds.length := by
  obtain ⟨G, F1, F2, sx⟩ := id st
  obtain ⟨v, B, ev, r0, _⟩ := sx.slots.get e1
  rw [e2] at ev
  cases ev
  obtain ⟨_, B2, _, _, rn, _⟩ := R.focus r0 va g
  obtain ⟨a, ws, F0, F3, rfl, ok, rl, c, rfl⟩ := R.n_inv rn
  exact ⟨a, ws, rfl, ok.1, rl.len⟩
/-- a list changed at a place -/
theorem Sta.lmut {tm tm' : Tm} {vs vs' : List V} {ds' : List D} {p : Addr} {d0' : D} (st : Sta K cl Lk E pv ρ σ (tm ++ τ) H) (e1 : ρ[i]? = some (some d0)) (e2 : σ[i]? = some (some v0)) (va : VAt H v0 d0 ps (.ref p)) (g : D.get d0 ps = some (.n (.lst true) ds)) (hp : H p = some (.lst vs))
    (ch : ∀ {G : Hp} {Fc Ft : List Addr}, RL K cl G H vs ds Fc → RL K cl G H (tm.map (·.1)) (tm.map (·.2)) Ft → ∃ Fc' Ft', RL K cl G H vs' ds' Fc' ∧ RL K cl G H (tm'.map (·.1)) (tm'.map (·.2)) Ft' ∧ Fits (Fc' ++ Ft') (Fc ++ Ft))
    (pu : D.put d0 ps (.n (.lst true) ds') = some d0') : Sta K cl Lk E pv (ρ.set i (some d0')) σ (tm' ++ τ) (upd H p (.lst vs')) :=
  st.mutate (k := .lst true) (k' := .lst true) (b := true) e1 e2 va g (fun _ z => nomatch z) (fun _ _ _ z => nomatch z) rfl rfl hp hp (fun _ z => nomatch z) (fun _ _ z => nomatch z) (fun hG => ⟨upd_same, hG, rfl⟩) ch pu
def sMut (i : Nat) (fp : En → Option (List Stp)) (os : En → Option (List D × En)) (op : D → List D → Option (D × D)) : En → Option (D × En) := fun ρ => (ρ.getD i none).bind fun d0 => (fp ρ).bind fun ps => (D.get d0 ps).bind fun dn => (os ρ).bind fun q => (op dn q.1).bind fun r => (D.put d0 ps r.1).map fun d0' => (r.2, q.2.set i (some d0'))
def sMut0 (i : Nat) (fp : En → Option (List Stp)) (op : D → Option (D × D)) : En → Option (D × En) := fun ρ => (ρ.getD i none).bind fun d0 => (fp ρ).bind fun ps => (D.get d0 ps).bind fun dn => (op dn).bind fun r => (D.put d0 ps r.1).map fun d0' => (r.2, ρ.set i (some d0'))
theorem sMut_inv {op : D → List D → Option (D × D)} {ρ2 : En} (e : sMut i fp os op ρ = some (d, ρ2)) : ∃ d0 ps dn ds ρ1 r d0', ρ.getD i none = some d0 ∧ fp ρ = some ps ∧ D.get d0 ps = some dn ∧ os ρ = some (ds, ρ1) ∧ op dn ds = some (r, d) ∧ D.put d0 ps r = some d0' ∧ ρ2 = ρ1.set i (some d0') := by
  unfold sMut at e
  cases z1 : ρ.getD i none with
  | none => rw [z1] at e; cases e
  | some d0 =>
    rw [z1] at e
    cases z2 : fp ρ with
    | none => rw [z2] at e; cases e
    | some ps =>
      rw [z2] at e
      simp only [Option.bind_some] at e
      cases z3 : D.get d0 ps with
      | none => rw [z3] at e; cases e
      | some dn =>
        rw [z3] at e
        cases z4 : os ρ with
        | none => rw [z4] at e; cases e
        | some q =>
          rw [z4] at e
          simp only [Option.bind_some] at e
          cases z5 : op dn q.1 with
          | none => rw [z5] at e; cases e
          | some r =>
            rw [z5] at e
            simp only [Option.bind_some] at e
            cases z6 : D.put d0 ps r.1 with
            | none => rw [z6] at e; cases e
            | some d0' =>
              rw [z6] at e
              cases e
              exact ⟨d0, ps, dn, q.1, q.2, r.1, d0', rfl, rfl, z3, rfl, z5, z6, rfl⟩
theorem sMut0_inv {op : D → Option (D × D)} {ρ2 : En} (e : sMut0 i fp op ρ = some (d, ρ2)) : ∃ d0 ps dn r d0', ρ.getD i none = some d0 ∧ fp ρ = some ps ∧ D.get d0 ps = some dn ∧ op dn = some (r, d) ∧ D.put d0 ps r = some d0' ∧ ρ2 = ρ.set i (some d0') := by
  unfold sMut0 at e
  cases z1 : ρ.getD i none with
  | none => rw [z1] at e; cases e
  | some d0 =>
    rw [z1] at e
    cases z2 : fp ρ with
    | none => rw [z2] at e; cases e
    | some ps =>
      rw [z2] at e
      simp only [Option.bind_some] at e
      cases z3 : D.get d0 ps with
      | none => rw [z3] at e; cases e
      | some dn =>
        rw [z3] at e
        simp only [Option.bind_some] at e
        cases z5 : op dn with
        | none => rw [z5] at e; cases e
        | some r =>
          rw [z5] at e
          simp only [Option.bind_some] at e
          cases z6 : D.put d0 ps r.1 with
          | none => rw [z6] at e; cases e
          | some d0' =>
            rw [z6] at e
            cases e
            exact ⟨d0, ps, dn, r.1, d0', rfl, rfl, z3, z5, z6, rfl⟩
theorem Sta.non (st : Sta K cl Lk E pv ρ σ τ H) : Sta K cl Lk E pv ρ σ ((.non, .v .non) :: τ) H := by
  obtain ⟨G, F1, F2, sx⟩ := st
  exact sx.push (Same.refl _) (R.sc (x := .non)) ⟨(fun _ z => nomatch z), List.nodup_nil⟩
/-! append, insert, pop, clear -/
def opApp : D → List D → Option (D × D)
  | .n (.lst true) ds, [x] => if ds.length < sizeLine then some (.n (.lst true) (ds ++ [x]), .v .non) else none
  | _, _ => none
theorem m_append (hl : LV K cl to i fp) (ha : OA K cl tA os) (hk : Keeps i os) : OE K cl (tBM K "list" rAppend to tA) (sMut i fp os opApp) := ⟨fun {Lk E pv ρ ρ' σ τ H d Q} st e q => by
  obtain ⟨d0, ps, dn, ds, ρ1, r, d0', z1, z2, z3, z4, z5, z6, rfl⟩ := sMut_inv e
  unfold opApp at z5
  split at z5
  · rename_i es x
    split at z5
    · rename_i hz
      cases z5
      refine bm_core hl ha hk st z1 z2 z4 z3 ty_lst fun vs vn v0 H2 s l st2 e1 e2 va => ?_
      obtain ⟨w, rfl⟩ : ∃ w, vs = [w] := by
        match vs, l with
        | [w], _ => exact ⟨w, rfl⟩
      obtain ⟨p, us, rfl, hp, hl2⟩ := lst_place st2 e1 e2 va z3
      refine ⟨p, us, w, rfl, rfl, hp, by rw [hl2]; exact hz, q _ _ (Sta.non ?_)⟩
      have st3 : Sta K cl Lk E pv ρ1 σ ([(w, x)] ++ τ) H2 := st2
      refine st3.lmut (tm' := []) e1 e2 va z3 hp (fun {G Fc Ft} r1 r2 => ?_) z6
      exact ⟨Fc ++ Ft, [], r1.snoc r2, .nil, by rw [List.append_nil]; exact Fits.refl⟩
    · cases z5
  · cases z5⟩
def opPop : D → Option (D × D)
  | .n (.lst true) ds => (ds.getLast?).map fun x => (.n (.lst true) ds.dropLast, x)
  | _ => none
theorem last_split {α : Type} {xs : List α} {x : α} (h : xs.getLast? = some x) : xs = xs.dropLast ++ [x] := by
  cases xs with
  | nil => cases h
  | cons y ys =>
    rw [List.getLast?_eq_getLast (List.cons_ne_nil y ys)] at h
    cases h
    exact (List.dropLast_concat_getLast _).symm
theorem m_pop (hl : LV K cl to i fp) : OE K cl (tBM0 K "list" rPop to) (sMut0 i fp opPop) := ⟨fun {Lk E pv ρ ρ' σ τ H d Q} st e q => by
  obtain ⟨d0, ps, dn, r, d0', z1, z2, z3, z5, z6, rfl⟩ := sMut0_inv e
  unfold opPop at z5
  split at z5
  · rename_i es
    cases z7 : es.getLast? with
    | none => rw [z7] at z5; cases z5
    | some x =>
      rw [z7] at z5
      cases z5
      refine bm0_core hl st z1 z2 z3 ty_lst fun vn v0 H2 s st2 e1 e2 va => ?_
      obtain ⟨p, us, rfl, hp, hl2⟩ := lst_place st2 e1 e2 va z3
      have hes := last_split z7
      have hne : es ≠ [] := fun z => by rw [z] at z7; cases z7
      have hun : us ≠ [] := fun z => by
        rw [z] at hl2
        exact hne (List.length_eq_zero_iff.mp hl2.symm)
      obtain ⟨w, hw⟩ : ∃ w, us.getLast? = some w := ⟨_, List.getLast?_eq_getLast hun⟩
      have hus := last_split hw
      refine ⟨p, us, w, rfl, rfl, hp, by rw [← List.getLast?_eq_getElem?]; exact hw, q _ _ ?_⟩
      have st3 : Sta K cl Lk E pv ρ σ ([] ++ τ) H2 := st2
      refine st3.lmut (tm' := [(w, d)]) e1 e2 va z3 hp (fun {G Fc Ft} r1 r2 => ?_) z6
      cases r2
      rw [hes, hus] at r1
      obtain ⟨w1, w2, A, B, ew, h1, h2, rfl⟩ := r1.split
      have hlen : w1.length = us.dropLast.length := by
        rw [h1.len, List.length_dropLast, List.length_dropLast, hl2]
      obtain ⟨rfl, rfl⟩ := List.append_inj ew hlen.symm
      exact ⟨A, B, h1, h2, by rw [List.append_nil]; exact Fits.refl⟩
  · cases z5⟩
def opClear : D → Option (D × D)
  | .n (.lst true) _ => some (.n (.lst true) [], .v .non)
  | _ => none
theorem m_clear (hl : LV K cl to i fp) : OE K cl (tBM0 K "list" rClear to) (sMut0 i fp opClear) := ⟨fun {Lk E pv ρ ρ' σ τ H d Q} st e q => by
  obtain ⟨d0, ps, dn, r, d0', z1, z2, z3, z5, z6, rfl⟩ := sMut0_inv e
  unfold opClear at z5
  split at z5
  · rename_i es
    cases z5
    refine bm0_core hl st z1 z2 z3 ty_lst fun vn v0 H2 s st2 e1 e2 va => ?_
    obtain ⟨p, us, rfl, hp, hl2⟩ := lst_place st2 e1 e2 va z3
    refine ⟨p, us, rfl, rfl, hp, q _ _ (Sta.non ?_)⟩
    have st3 : Sta K cl Lk E pv ρ σ ([] ++ τ) H2 := st2
    refine st3.lmut (tm' := []) e1 e2 va z3 hp (fun {G Fc Ft} r1 r2 => ?_) z6
    cases r2
    exact ⟨[], [], .nil, .nil, fun _ => List.nodup_nil, fun _ m => nomatch m⟩
  · cases z5⟩
def opIns : D → List D → Option (D × D)
  | .n (.lst true) ds, [.v (.int j), x] => if ds.length < sizeLine ∧ 0 ≤ j ∧ j.natAbs < 9223372036854775808 then some (.n (.lst true) (ds.take j.toNat ++ [x] ++ ds.drop j.toNat), .v .non) else none
  | _, _ => none
abbrev rIns : V → List V → Hp → VK → Prop := fun x vs H Q => ∃ (l : Addr) (xs : List V) (i : Int) (y : V), x = .ref l ∧ vs = [.int i, y] ∧ H l = some (.lst xs) ∧ xs.length < sizeLine ∧ 0 ≤ i ∧ i < 2 ^ 63 ∧
    Q .non (upd H l (.lst (xs.take i.toNat ++ [y] ++ xs.drop i.toNat)))
theorem rl_cutat (h : RL K cl G H vs ds F) (n : Nat) : ∃ A B, F = A ++ B ∧ RL K cl G H (vs.take n) (ds.take n) A ∧ RL K cl G H (vs.drop n) (ds.drop n) B := by
  have h' := h
  rw [← List.take_append_drop n ds] at h'
  obtain ⟨ws, us, A, B, e, h1, h2, e2⟩ := h'.split
  refine ⟨A, B, e2, ?_⟩
  have wl : ws.length = (ds.take n).length := h1.len
  have l0 := h.len
  rw [List.length_take] at wl
  have : vs.take n = ws ∧ vs.drop n = us := by
    rcases Nat.lt_or_ge n ds.length with hn | hn
    · have wn : ws.length = n := by omega
      rw [e, ← wn]; simp
    · have wn : ws.length = vs.length := by omega
      have un : us = [] := by
        have : vs.length = ws.length + us.length := by rw [e]; simp
        exact List.length_eq_zero_iff.mp (by omega)
      subst un
      rw [List.append_nil] at e
      subst e
      exact ⟨List.take_of_length_le (by omega), List.drop_eq_nil_of_le (by omega)⟩
  rw [this.1, this.2]
  exact ⟨h1, h2⟩
theorem fits_perm {F F' : List Addr} (h : F'.Perm F) : Fits F' F := ⟨fun n => h.nodup_iff.mpr n, fun a m => h.mem_iff.mp m⟩
theorem m_insert (hl : LV K cl to i fp) (ha : OA K cl tA os) (hk : Keeps i os) : OE K cl (tBM K "list" rIns to tA) (sMut i fp os opIns) := ⟨fun {Lk E pv ρ ρ' σ τ H d Q} st e q => by
  obtain ⟨d0, ps, dn, ds, ρ1, r, d0', z1, z2, z3, z4, z5, z6, rfl⟩ := sMut_inv e
  unfold opIns at z5
  split at z5
  · rename_i es j x
    split at z5
    · rename_i hz
      cases z5
      refine bm_core hl ha hk st z1 z2 z4 z3 ty_lst fun vs vn v0 H2 s l st2 e1 e2 va => ?_
      obtain ⟨u, w, rfl⟩ : ∃ u w, vs = [u, w] := by
        match vs, l with
        | [u, w], _ => exact ⟨u, w, rfl⟩
      obtain ⟨p, us, rfl, hp, hl2⟩ := lst_place st2 e1 e2 va z3
      have hu : u = .int j := by
        obtain ⟨G, F1, F2, sx⟩ := st2
        obtain ⟨A, B, r1, _, _⟩ := RL.uncons sx.tmp
        exact (R.v_inv r1).1
      subst hu
      have st3 : Sta K cl Lk E pv ρ1 σ ([(w, x)] ++ τ) H2 := Sta.drop st2
      refine ⟨p, us, j, w, rfl, rfl, hp, by rw [hl2]; exact hz.1, hz.2.1, by omega, q _ _ (Sta.non ?_)⟩
      refine st3.lmut (tm' := []) e1 e2 va z3 hp (fun {G Fc Ft} r1 r2 => ?_) z6
      obtain ⟨A, B, rfl, g1, g2⟩ := rl_cutat r1 j.toNat
      refine ⟨A ++ Ft ++ B, [], (g1.snoc r2).append g2, .nil, ?_⟩
      refine fits_perm ?_
      rw [List.append_nil, List.append_assoc, List.append_assoc]
      exact List.Perm.append_left A (List.perm_append_comm)
    · cases z5
  · cases z5⟩
/-! xs[i] = e -/
def gStore (i : Nat) (fp : En → Option (List Stp)) (fx : En → Option D) : D → En → Option En := fun x ρ => (ρ.getD i none).bind fun d0 => (fp ρ).bind fun ps => (fx ρ).bind fun y => (D.get d0 ps).bind fun dn => match dn, y with
  | .n (.lst true) ds, .v (.int j) => (ixN ds.length j).bind fun n => (D.put d0 ps (.n (.lst true) (ds.set n x))).map fun d0' => ρ.set i (some d0')
  | _, _ => none
theorem g_store (hl : LV K cl to i fp) (hx : EX K cl m ti fx) : SG K cl P (gSub to ti rSetL) (gStore i fp fx) := ⟨fun {Lk E pv ρ ρ' σ τ H v d Q} hp st e q => by
  unfold gStore at e
  cases z1 : ρ.getD i none with
  | none => rw [z1] at e; cases e
  | some d0 =>
    rw [z1] at e
    cases z2 : fp ρ with
    | none => rw [z2] at e; cases e
    | some ps =>
      rw [z2] at e
      cases z4 : fx ρ with
      | none => rw [z4] at e; cases e
      | some y =>
        rw [z4] at e
        simp only [Option.bind_some] at e
        cases z3 : D.get d0 ps with
        | none => rw [z3] at e; cases e
        | some dn =>
          rw [z3] at e
          simp only [Option.bind_some] at e
          split at e
          · rename_i es j
            cases z5 : ixN es.length j with
            | none => rw [z5] at e; cases e
            | some n =>
              rw [z5] at e
              simp only [Option.bind_some] at e
              cases z6 : D.put d0 ps (.n (.lst true) (es.set n d)) with
              | none => rw [z6] at e; cases e
              | some d0' =>
                rw [z6] at e
                cases e
                obtain ⟨G, F1, F2, sx⟩ := id st
                obtain ⟨v0, B, ev, r0, _⟩ := sx.slots.get (getD_some z1)
                refine hl.run sx.sub sx.slots (getD_some z1) ev r0 z2 z3 fun vn H1 s1 va => ?_
                refine hx.run (sx.sub.same s1) (sx.slots.same s1) z4 fun w H2 F3 s2 rw' _ => ?_
                obtain ⟨rfl, _⟩ := R.v_inv rw'
                have st2 := (st.same s1).same s2
                obtain ⟨p, us, rfl, hpp, hl2⟩ := lst_place st2 (getD_some z1) ev (va.same s2) z3
                refine ⟨p, us, j, n, rfl, rfl, hpp, by rw [hl2]; exact z5, q _ _ ?_⟩
                have st3 : Sta K cl Lk E pv ρ σ ([(v, d)] ++ τ) H2 := st2
                refine st3.lmut (tm' := []) (getD_some z1) ev (va.same s2) z3 hpp (fun {G Fc Ft} r1 r2 => ?_) z6
                have hn : n < es.length := (ixN_seq z5).2.1
                obtain ⟨v2, A, B2, C, e4, _, rfl, p1, p2⟩ := r1.at2 (List.getElem?_eq_getElem hn)
                refine ⟨A ++ Ft ++ C, [], ?_, .nil, ?_⟩
                · have hn2 : n < us.length := by omega
                  have e5 : us.set n v = us.take n ++ (v :: us.drop (n + 1)) := by rw [List.set_eq_take_append_cons_drop, if_pos hn2]
                  have e6 : es.set n d = es.take n ++ (d :: es.drop (n + 1)) := by rw [List.set_eq_take_append_cons_drop, if_pos hn]
                  rw [e5, e6, List.append_assoc]
                  exact p1.append (R.cons r2 p2)
                · rw [List.append_nil]
                  have pm : ((A ++ Ft ++ C) ++ B2).Perm (A ++ B2 ++ C ++ Ft) := by
                    rw [List.perm_iff_count]
                    intro x
                    simp only [List.count_append]
                    omega
                  exact ⟨fun nd => (List.nodup_append.mp (pm.nodup_iff.mpr nd)).1, fun x mx => pm.mem_iff.mp (List.mem_append_left _ mx)⟩
          · cases e⟩
/-! dicts: read -/
def toKey : D → Option Key
  | .v (.int i) => some (.inl i)
  | .v (.str x) => some (.inr x)
  | _ => none
/-- what stands at a key -/
def dLook : List Key → List D → Key → Option D
  | k :: ks, d :: ds, x => if k = x then some d else dLook ks ds x
  | _, _, _ => none
theorem look_ok : ∀ {ks : List Key} {vs : List V} {ds : List D} {F : List Addr} {x : Key}, RL K cl G H vs ds F → ks.length = vs.length → (∀ d, dLook ks ds x = some d → ∃ v B, valV (ks.zip vs) x = some v ∧ R K cl G H v d B ∧ B.Sublist F) ∧ (dLook ks ds x = none → valV (ks.zip vs) x = none)
  | [], vs, ds, F, x, h, l => by
    exact ⟨(fun d e => by cases e), fun _ => rfl⟩
  | k :: ks, [], ds, F, x, h, l => by simp at l
  | k :: ks, v :: vs, [], F, x, h, l => by cases h
  | k :: ks, v :: vs, d :: ds, F, x, h, l => by
    obtain ⟨A, B, r1, r2, rfl⟩ := h.uncons
    obtain ⟨i1, i2⟩ := look_ok (ks := ks) (x := x) r2 (by simpa using l)
    refine ⟨fun d' e => ?_, fun e => ?_⟩
    · have e' : (if k = x then some d else dLook ks ds x) = some d' := e
      by_cases hk : k = x
      · rw [if_pos hk] at e'
        cases e'
        refine ⟨v, A, ?_, r1, List.sublist_append_left _ _⟩
        exact valV_pos hk
      · rw [if_neg hk] at e'
        obtain ⟨w, B', e1, e2, e3⟩ := i1 d' e'
        refine ⟨w, B', ?_, e2, e3.trans (List.sublist_append_right _ _)⟩
        rw [List.zip_cons_cons, valV_neg hk]
        exact e1
    · have e' : (if k = x then some d else dLook ks ds x) = none := e
      by_cases hk : k = x
      · rw [if_pos hk] at e'; cases e'
      · rw [if_neg hk] at e'
        rw [List.zip_cons_cons, valV_neg hk]
        exact i2 e'
theorem dct_at {b : Bool} {ks : List Key} (s : Sub Lk G H) (h : Kd.ok K cl G H (.dct b ks) a vs F) : ks.length = vs.length ∧ Rd H a (.dK (ks.zip vs)) := by
  cases b with
  | false => exact ⟨h.1, s.rd h.2.1⟩
  | true => exact ⟨h.1, .inl h.2.1⟩
theorem key_of {v : V} {d : D} {x : Key} (r : R K cl G H v d F) (e : toKey d = some x) : v = kV x := by
  cases d with
  | n k ds => cases e
  | g => cases e
  | v y =>
    obtain ⟨rfl, _⟩ := R.v_inv r
    cases v <;> first | cases e; rfl | cases e
def gDGet : D → D → Option D
  | .n (.dct _ ks) ds, y => (toKey y).bind fun x => dLook ks ds x
  | _, _ => none
theorem e_dget (h : EX K cl m to fe) (h2 : EX K cl m2 ti fx) : EX K cl m (tDGet to ti) (f2 gDGet fe fx) := ⟨fun {Lk G H ρ σ d F Q} s rr e q => by
  unfold f2 at e
  cases z : fe ρ with
  | none => rw [z] at e; cases e
  | some d0 =>
    rw [z] at e
    cases z2 : fx ρ with
    | none => rw [z2] at e; cases e
    | some d1 =>
      rw [z2] at e
      simp only [Option.bind_some] at e
      refine h.run s rr z fun x H1 F1 s1 r1 mm => ?_
      refine h2.run (s.same s1) (rr.same s1) z2 fun y H2 F2 s2 r2 _ => ?_
      have r1' := RL.same r1 s2
      have S2 := (s.same s1).same s2
      unfold gDGet at e
      split at e
      · rename_i b ks ds
        cases z3 : toKey d1 with
        | none => rw [z3] at e; cases e
        | some kx =>
          rw [z3] at e
          simp only [Option.bind_some] at e
          obtain ⟨a, ws, F0, F3, rfl, ok, rl, c, rfl⟩ := R.n_inv r1'
          obtain ⟨l, rd⟩ := dct_at S2 ok
          obtain ⟨w, B, e1, rw', sb⟩ := (look_ok (x := kx) rl l).1 d e
          exact ⟨a, w, rfl, .inl ⟨_, kx, rd, key_of r2 z3, e1.symm⟩, q w H2 B (s1.trans s2) rw' (mm.sub (sb.trans (List.sublist_append_right _ _)))⟩
      · cases e⟩
/-- k in d, by its value -/
def gDIn (neg : Bool) : D → D → Option D
  | y, .n (.dct _ ks) ds => (toKey y).map fun x => .v (.bl (if neg then !(dLook ks ds x).isSome else (dLook ks ds x).isSome))
  | _, _ => none
theorem look_some {ks : List Key} {x : Key} (rl : RL K cl G H vs ds F) (l : ks.length = vs.length) : (valV (ks.zip vs) x).isSome = (dLook ks ds x).isSome := by
  cases z : dLook ks ds x with
  | none => rw [(look_ok rl l).2 z]; rfl
  | some d =>
    obtain ⟨w, B, e1, _⟩ := (look_ok rl l).1 d z
    rw [e1]; rfl
theorem e_din (h : EX K cl m te fe) (h2 : EX K cl m2 to fx) : EX K cl .shr (tDIn te to) (f2 (gDIn false) fe fx) := ⟨fun {Lk G H ρ σ d F Q} s rr e q => by
  unfold f2 at e
  cases z : fe ρ with
  | none => rw [z] at e; cases e
  | some d0 =>
    rw [z] at e
    cases z2 : fx ρ with
    | none => rw [z2] at e; cases e
    | some d1 =>
      rw [z2] at e
      simp only [Option.bind_some] at e
      refine h.run s rr z fun y H1 F1 s1 r1 _ => ?_
      refine h2.run (s.same s1) (rr.same s1) z2 fun x H2 F2 s2 r2 _ => ?_
      have S2 := (s.same s1).same s2
      unfold gDIn at e
      split at e
      · rename_i b ks ds
        cases z3 : toKey d0 with
        | none => rw [z3] at e; cases e
        | some kx =>
          rw [z3] at e
          cases e
          obtain ⟨a, ws, F0, F3, rfl, ok, rl, c, rfl⟩ := R.n_inv r2
          obtain ⟨l, rd⟩ := dct_at S2 ok
          refine ⟨a, _, rfl, .inl ⟨_, kx, rd, key_of r1 z3, rfl⟩, ?_⟩
          rw [look_some rl l]
          exact q _ H2 [] (s1.trans s2) R.sc rfl
      · cases e⟩
theorem e_dnotin (h : EX K cl m te fe) (h2 : EX K cl m2 to fx) : EX K cl .shr (tDNotIn te to) (f2 (gDIn true) fe fx) := ⟨fun {Lk G H ρ σ d F Q} s rr e q => by
  unfold f2 at e
  cases z : fe ρ with
  | none => rw [z] at e; cases e
  | some d0 =>
    rw [z] at e
    cases z2 : fx ρ with
    | none => rw [z2] at e; cases e
    | some d1 =>
      rw [z2] at e
      simp only [Option.bind_some] at e
      refine h.run s rr z fun y H1 F1 s1 r1 _ => ?_
      refine h2.run (s.same s1) (rr.same s1) z2 fun x H2 F2 s2 r2 _ => ?_
      have S2 := (s.same s1).same s2
      unfold gDIn at e
      split at e
      · rename_i b ks ds
        cases z3 : toKey d0 with
        | none => rw [z3] at e; cases e
        | some kx =>
          rw [z3] at e
          cases e
          obtain ⟨a, ws, F0, F3, rfl, ok, rl, c, rfl⟩ := R.n_inv r2
          obtain ⟨l, rd⟩ := dct_at S2 ok
          refine ⟨a, _, rfl, .inl ⟨_, kx, rd, key_of r1 z3, rfl⟩, ?_⟩
          rw [look_some rl l]
          exact q _ H2 [] (s1.trans s2) R.sc rfl
      · cases e⟩
/-- d.get(k, x), d.get(k) -/
def fDGet2 (fd fk fx : En → Option D) : En → Option D := fun ρ => (fd ρ).bind fun a => (fk ρ).bind fun y => (fx ρ).bind fun z => match a with
  | .n (.dct _ ks) ds => (toKey y).bind fun x => some ((dLook ks ds x).getD z)
  | _ => none
theorem isD_of {ks : List Key} (rd : Rd H a (.dK (ks.zip vs))) : IsD H a := .inl ⟨_, rd⟩
theorem e_dget2 {tk tx : TE} {fk : En → Option D} (h : EX K cl m to fe) (h2 : EX K cl m1 tk fk) (h3 : EX K cl .shr tx fx) : EX K cl .any (tDGet2 to tk tx) (fDGet2 fe fk fx) := ⟨fun {Lk G H ρ σ d F Q} s rr e q => by
  unfold fDGet2 at e
  cases z : fe ρ with
  | none => rw [z] at e; cases e
  | some d0 =>
    rw [z] at e
    cases z2 : fk ρ with
    | none => rw [z2] at e; cases e
    | some d1 =>
      rw [z2] at e
      cases z3 : fx ρ with
      | none => rw [z3] at e; cases e
      | some d2 =>
        rw [z3] at e
        simp only [Option.bind_some] at e
        split at e
        · rename_i b ks ds
          cases z4 : toKey d1 with
          | none => rw [z4] at e; cases e
          | some kx =>
            rw [z4] at e
            simp only [Option.bind_some] at e
            cases e
            refine h.run s rr z fun x H1 F1 s1 r1 _ => ?_
            obtain ⟨a, ws, F0, F3, rfl, ok, rl, c, rfl⟩ := R.n_inv r1
            obtain ⟨l, rd⟩ := dct_at (s.same s1) ok
            refine ⟨a, rfl, isD_of rd, h2.run (s.same s1) (rr.same s1) z2 fun y H2 F2 s2 r2 _ => ?_⟩
            refine h3.run ((s.same s1).same s2) ((rr.same s1).same s2) z3 fun w H3 F4 s3 r3 _ => ?_
            have S3 := ((s.same s1).same s2).same s3
            have rl3 := (rl.same s2).same s3
            refine ⟨valV (ks.zip ws) kx, .inl ⟨ks.zip ws, kx, ?_, key_of r2 z4, rfl⟩, ?_⟩
            · exact Rd.same (s2.trans s3) rd
            · cases z5 : dLook ks ds kx with
              | none =>
                rw [(look_ok rl3 l).2 z5]
                rw [z5] at q
                exact q w H3 F4 ((s1.trans s2).trans s3) r3 trivial
              | some d3 =>
                obtain ⟨w2, B, e1, r4, _⟩ := (look_ok rl3 l).1 d3 z5
                rw [e1]
                rw [z5] at q
                exact q w2 H3 B ((s1.trans s2).trans s3) r4 trivial
        · cases e⟩
def fDGet1 (fd fk : En → Option D) : En → Option D := fDGet2 fd fk (fC .non)
theorem e_dget1 {tk : TE} {fk : En → Option D} (h : EX K cl m to fe) (h2 : EX K cl m1 tk fk) : EX K cl .any (tDGet1 to tk) (fDGet1 fe fk) := ⟨fun {Lk G H ρ σ d F Q} s rr e q => by
  have h3 := (e_dget2 h h2 (e_c (K := K) (cl := cl) .non)).run s rr e q
  exact h3⟩
/-! dicts: made, stored -/
def fD0 : En → Option D := fun _ => some (.n (.dct true []) [])
theorem e_d0 : EX K cl .fre tDNewK fD0 := ⟨fun {Lk G H ρ σ d F Q} s rr e q => by
  cases e
  intro p hp
  refine q (.ref p) _ [p] (same_upd hp) ?_ (fre_one hp (same_upd (o := .lst []) hp))
  exact R.mk (F0 := [p]) (F1 := []) (k := .dct true []) ⟨rfl, upd_same, s.free hp, rfl⟩ .nil fun o => nomatch o⟩
def putKs (ks : List Key) (x : Key) : List Key := if (ks.any fun k => decide (k = x)) = true then ks else ks ++ [x]
def putDs (ks : List Key) (ds : List D) (x : Key) (d : D) : List D := if (ks.any fun k => decide (k = x)) = true then (ks.zip ds).map (fun p => if p.1 = x then d else p.2) else ds ++ [d]
theorem any_zip {ks : List Key} {vs : List V} (l : ks.length = vs.length) (x : Key) : ((ks.zip vs).any fun kv => decide (kv.1 = x)) = ks.any fun k => decide (k = x) := by
  induction ks generalizing vs with
  | nil => rfl
  | cons k ks ih =>
    cases vs with
    | nil => simp at l
    | cons v vs => rw [List.zip_cons_cons, List.any_cons, List.any_cons, ih (by simpa using l)]
theorem put_zip {ks : List Key} {vs : List V} {x : Key} {w : V} (l : ks.length = vs.length) : ∃ vs', (putKs ks x).length = vs'.length ∧ putK (ks.zip vs) x w = (putKs ks x).zip vs' ∧
    ∀ {G H : Hp} {ds : List D} {F : List Addr} {d : D}, RL K cl G H vs ds F → R K cl G H w d [] → ∃ F', F'.Sublist F ∧ RL K cl G H vs' (putDs ks ds x d) F' := by
  by_cases h : (ks.any fun k => decide (k = x)) = true
  · refine ⟨(ks.zip vs).map fun p => if p.1 = x then w else p.2, ?_, ?_, ?_⟩
    · unfold putKs
      rw [if_pos h]
      simp [l]
    · unfold putKs putK
      rw [if_pos h, any_zip l, if_pos h]
      clear h
      induction ks generalizing vs with
      | nil => rfl
      | cons k ks ih =>
        cases vs with
        | nil => simp at l
        | cons v vs =>
          rw [List.zip_cons_cons, List.map_cons, List.map_cons, List.zip_cons_cons, ih (by simpa using l)]
          by_cases hk : k = x
          · simp [hk]
          · simp [hk]
    · intro G H ds F d rl rd
      unfold putDs
      rw [if_pos h]
      clear h
      induction ks generalizing vs ds F with
      | nil => exact ⟨[], List.nil_sublist _, .nil⟩
      | cons k ks ih =>
        cases vs with
        | nil => simp at l
        | cons v vs =>
          cases ds with
          | nil => cases rl
          | cons e ds =>
            obtain ⟨A, B, r1, r2, rfl⟩ := rl.uncons
            obtain ⟨F', s, r3⟩ := ih (by simpa using l) r2
            rw [List.zip_cons_cons, List.zip_cons_cons, List.map_cons, List.map_cons]
            by_cases hk : k = x
            · refine ⟨[] ++ F', s.trans (List.sublist_append_right _ _), ?_⟩
              simp only [hk, if_true]
              exact R.cons rd r3
            · refine ⟨A ++ F', (List.Sublist.refl A).append s, ?_⟩
              simp only [hk, if_false]
              exact R.cons r1 r3
  · refine ⟨vs ++ [w], ?_, ?_, ?_⟩
    · unfold putKs
      rw [if_neg h]
      simp [l]
    · unfold putKs putK
      rw [if_neg h, any_zip l, if_neg h]
      rw [List.zip_append l]
      rfl
    · intro G H ds F d rl rd
      unfold putDs
      rw [if_neg h]
      refine ⟨F ++ [], by rw [List.append_nil]; exact List.Sublist.refl F, rl.snoc rd⟩
/-- d[k] = e -/
def sDPutF (fe : En → Option D) (i : Nat) (fp : En → Option (List Stp)) (fx : En → Option D) : En → Option Out := fun ρ => (fFree fe ρ).bind fun w => (ρ.getD i none).bind fun d0 => (fp ρ).bind fun ps => (fx ρ).bind fun y => (D.get d0 ps).bind fun dn => match dn with
  | .n (.dct true ks) ds => (toKey y).bind fun x => if ks.length < sizeLine then (D.put d0 ps (.n (.dct true (putKs ks x)) (putDs ks ds x w))).map fun d0' => .nx (ρ.set i (some d0')) else none
  | _ => none
theorem fFree_ow {f : En → Option D} (e : fFree f ρ = some d) : d.ow = false := by
  unfold fFree at e
  cases z : f ρ with
  | none => rw [z] at e; cases e
  | some d0 =>
    rw [z] at e
    simp only [Option.bind_some] at e
    split at e
    · cases e
    · rename_i h
      cases e
      simpa using h
theorem s_dput (he : EX K cl m1 te fe) (hl : LV K cl to i fp) (hx : EX K cl m ti fx) : SE K cl P W (sDPut to ti te) (sDPutF fe i fp fx) := ⟨fun {Lk E pv ρ σ τ H oo N} hp st e q => by
  unfold sDPutF at e
  cases z0 : fFree fe ρ with
  | none => rw [z0] at e; cases e
  | some w =>
    rw [z0] at e
    cases z1 : ρ.getD i none with
    | none => rw [z1] at e; cases e
    | some d0 =>
      rw [z1] at e
      cases z2 : fp ρ with
      | none => rw [z2] at e; cases e
      | some ps =>
        rw [z2] at e
        cases z4 : fx ρ with
        | none => rw [z4] at e; cases e
        | some y =>
          rw [z4] at e
          simp only [Option.bind_some] at e
          cases z3 : D.get d0 ps with
          | none => rw [z3] at e; cases e
          | some dn =>
            rw [z3] at e
            simp only [Option.bind_some] at e
            split at e
            · rename_i ks ds
              cases z5 : toKey y with
              | none => rw [z5] at e; cases e
              | some kx =>
                rw [z5] at e
                simp only [Option.bind_some] at e
                split at e
                · rename_i hz
                  cases z6 : D.put d0 ps (.n (.dct true (putKs ks kx)) (putDs ks ds kx w)) with
                  | none => rw [z6] at e; cases e
                  | some d0' =>
                    rw [z6] at e
                    cases e
                    obtain ⟨G, F1, F2, sx⟩ := id st
                    refine (e_free he).run sx.sub sx.slots z0 fun wv H1 Fw s1 rw' mw => ?_
                    have mw : Fw = [] := mw
                    subst mw
                    have sx1 := sx.same s1
                    obtain ⟨v0, B, ev, r0, _⟩ := sx1.slots.get (getD_some z1)
                    refine hl.run sx1.sub sx1.slots (getD_some z1) ev r0 z2 z3 fun vn H2 s2 va => ?_
                    refine hx.run (sx1.sub.same s2) (sx1.slots.same s2) z4 fun yv H3 F3 s3 ry _ => ?_
                    have s13 := s2.trans s3
                    have va3 := va.same s3
                    have sx3 := sx1.same s13
                    obtain ⟨_, B2, _, _, rn, _⟩ := R.focus (RL.same r0 s13) va3 z3
                    obtain ⟨p, us, F0, F4, rfl, ok, rl, c, _⟩ := R.n_inv rn
                    have hpp : H3 p = some (.dK (ks.zip us)) := ok.2.1
                    obtain ⟨us', l', ez, ch⟩ := put_zip (K := K) (cl := cl) (x := kx) (w := wv) ok.1
                    have hkl : (ks.zip us).length < sizeLine := by
                      rw [List.length_zip]
                      omega
                    refine ⟨p, _, rfl, .inl ⟨_, kx, hpp, key_of ry z5, hkl, rfl⟩, ?_⟩
                    rw [ez]
                    have rw3 := RL.same rw' s13
                    have st3 : Sta K cl Lk E pv ρ σ ([(wv, w)] ++ τ) H3 := sx3.push (F := []) (Same.refl _) rw3 ⟨(fun _ z => nomatch z), List.nodup_nil⟩
                    refine q σ _ (st3.mutate (k := .dct true ks) (k' := .dct true (putKs ks kx)) (b := true) (tm' := []) (vs := us) (getD_some z1) ev va3 z3 (fun _ z => nomatch z) (fun _ _ _ z => nomatch z) rfl rfl ⟨ok.1, hpp⟩ hpp (fun _ z => nomatch z) (fun _ _ z => nomatch z) (fun hG => ⟨l', upd_same, hG, rfl⟩) (fun {G Fc Ft} r1 r2 => ?_) z6)
                    have r2' : R K cl G H3 wv w Ft := r2
                    have hFt : Ft = [] := R.free r2' (fFree_ow z0)
                    subst hFt
                    obtain ⟨F', sb, r3⟩ := ch r1 r2'
                    exact ⟨F', [], r3, .nil, by rw [List.append_nil, List.append_nil]; exact ⟨fun n => sb.nodup n, fun x mx => sb.subset mx⟩⟩
                · cases e
            · cases e⟩
end
end DL

set_option Elab.async false
set_option linter.all false
set_option maxRecDepth 100000
set_option maxHeartbeats 4000000
/-! DL10: exceptions raised, caught, kept -/
namespace DL
open PySem PySem.Spec L2
open PyProof.Rows hiding St
section
variable {X : Cx} {pins : List (Addr × Obj)} {σ : St} {H : Hp} {s : Shared}
/-- a caught exception is tracked from now on -/
theorem inv_adopt {a : Addr} {oe : Obj} {vs : Array Value} {cls : Value} {d : Option Addr} (I : Inv X pins σ H s) (na : H a = none) (he : s.heap.get? a = some oe) (hz : Zc cls d oe) (hd : oe.data = .fields vs) (n0 : X.s_0.heap.get? a = none) (nL : a ≠ X.env.locals) (hp : ∀ p ∈ X.pn ++ pins, p.1 ≠ a) :
    Inv X pins σ (upd H a (ExT cls d a)) s := by
  have hne : ∀ {b : Addr} {o : HO}, H b = some o → b ≠ a := fun {b o} e z => by rw [z, na] at e; cases e
  refine ⟨I.ok, I.os, I.bare, ⟨I.base.keep, I.base.slot, fun b o e n hx => ?_, I.base.there, fun b xs e => ?_, fun b o u e => ?_, fun b ps e => ?_⟩, I.loc, I.cell, ?_, fun x c e => ?_, fun p m => ?_, fun b u e => ?_, I.len⟩
  · have hb : b ≠ a := fun z => by rw [z, n0] at e; cases e
    rw [upd_ne hb]
    exact I.base.free b o e n hx
  · rw [upd_ne (hne (I.base.tups b xs e))]
    exact I.base.tups b xs e
  · rw [upd_ne (hne (I.base.frzs b o u e))]
    exact I.base.frzs b o u e
  · obtain ⟨more, q⟩ := I.base.tbls b ps e
    exact ⟨more, by rw [upd_ne (hne q)]; exact q⟩
  · rw [upd_ne (Ne.symm nL)]
    exact I.free
  · have hc : c ≠ a := fun z => by
      obtain ⟨w, q⟩ := I.cell x c e
      obtain ⟨oc, hoc, hocd⟩ := q
      rw [z, he] at hoc
      cases hoc
      rw [hd] at hocd
      cases hocd
    rw [upd_ne hc]
    exact I.freeC x c e
  · obtain ⟨e, n, r⟩ := I.pin p m
    exact ⟨e, by rw [upd_ne (hp p m)]; exact n, r⟩
  · by_cases hb : b = a
    · subst hb
      rw [upd_same] at e
      cases e
      exact ⟨⟨oe, vs, he, hz, hd⟩, ⟨oe, he⟩, fun _ _ ⟨o, v, q, r⟩ k => ⟨o, v, k o q, r⟩⟩
    · rw [upd_ne hb] at e
      exact (I.hok b u e).stay (fun c v _ q => q) (fun c q => by rw [upd_ne (hne q)]; exact q) fun c xs q => by rw [upd_ne (hne q)]; exact q
theorem inv_suiteT (I : Inv X pins σ H s) (a : Addr) : Inv (X.suite a (X.pn ++ pins)) [] σ H s :=
  ⟨I.ok.suite _ _, I.os, I.bare, I.base, I.loc, I.cell, I.free, I.freeC, fun p hp => I.pin p (by
    have hp' : p ∈ (X.pn ++ pins) ++ [] := hp
    rw [List.append_nil] at hp'; exact hp'), I.hok, I.len⟩
theorem inv_unsuiteT {a : Addr} {pn' : List (Addr × Obj)} (I : Inv (X.suite a (X.pn ++ pins)) pn' σ H s) (ok : X.Ok) : Inv X pins σ H s :=
  ⟨ok, I.os, I.bare, I.base, I.loc, I.cell, I.free, I.freeC, fun p hp => I.pin p (List.mem_append_left _ hp), I.hok, I.len⟩
/-- what 'except x as n' wishes: the exception is tracked -/
def wAsT (K : PySem.W.Frag) (c : Value) (i : Nat) (ts : TS) (Wout : WX) (D : Ends) : WX := fun cls d σ H =>
  ∃ b, PySem.W.exmOne K cls c = some b ∧ (b = true → ∀ a, H a = none → ts { nx := fun σ' H' => D.nx (σ'.set i none) H', rt := D.rt, bk := fun σ' H' => D.bk (σ'.set i none) H', ct := fun σ' H' => D.ct (σ'.set i none) H' } (σ.set i (some (.ref a))) (upd H a (ExT cls d a))) ∧
    (b = false → Wout cls d σ H)
variable {x n : Str} {c : Value} {i : Nat} {body suite : List Stmt} {b₀ : Stmt} {np pos pos' : Pos} {tb : WX → TS} {ts : TS} {Wout : WX}
theorem ps_try_asT (hs : X.stack = X.env :: X.outer) (hf : X.env.frame = some X.env.locals) (hex : X.ex = []) (hN : X.N.Nodup) (hi : X.N[i]? = some n) (hln : X.env.kindOf n = some .local) (hc : Names X x c) (tk : Takes X Wout)
    (hb : ∀ (W : WX) (pn : List (Addr × Obj)) (xe : Value → Shared → Prop), Takes (X.tr pn xe) W → PassesOwn (model X.prog X.w) X.A X.env xe → PSs (X.tr pn xe) body (tb W))
    (hsu : ∀ (a : Addr) (pn : List (Addr × Obj)), PSs (X.suite a pn) (b₀ :: suite) ts) :
    PS X (.Try body [.ExceptHandler (some (.Name x np)) (some n) (b₀ :: suite) pos'] [] [] pos) (fun D σ H => tb (wAsT X.K c i ts Wout D) D σ H) := by
  refine ⟨fun pins s σ H D I h => ?_⟩
  have ok := I.ok
  have hfr : X.A.frames = some (X.env :: X.outer) := by rw [ok.frames, hs]
  have hloc : Loc X.env.scope n := .inl hln
  refine wpAny_Try_except ?_
  refine wpAny_mono ((hb (wAsT X.K c i ts Wout D) (X.pn ++ pins) (fun e s₁ => wpAny (model X.prog X.w) X.A (noteFrame e X.env) (fun _ s₂ => wpAny (model X.prog X.w) X.A (setFlight e none) (fun _ s₃ =>
    wpAny (model X.prog X.w) X.A (handleBy e X.env [.ExceptHandler (some (.Name x np)) (some n) (b₀ :: suite) pos']) (SP X pins D) X.xe s₃) X.xe s₂) X.xe s₁) (fun u s' xx => ?_) PassesOwn.looking).run [] s σ H D (I.toTry _) h) (fun f s1 hsp => ?_) (fun e s1 he => he)
  · obtain ⟨a, B, sI, pins', σ', H', cls, d, rfl, J', nb, up, sky, na, os, ag, b, hb1, hyes, hno⟩ := xx
    have J : Inv X pins σ' H' sI := J'.ofTry ok
    have sky' : Sky B (X.env :: X.outer) a (Zc cls d) X.env.locals s'.heap := by rw [← hs]; exact sky
    show wpAny (model X.prog X.w) X.A (noteFrame (.ref a) X.env) _ _ _
    refine Sky.land Zc.steady hfr hf sky' fun h3 fl3 up3 => ?_
    have J3 : Inv X pins σ' H' { s' with heap := h3 } := J.landed nb fl3.1 (up.trans up3) os ag
    obtain ⟨oe3, vs3, he3, hz3, hd3⟩ := fl3.there
    have notFr : ∀ {h : Heap} {o : Obj} {vs : Array Value}, h.FunFrames B (X.env :: X.outer) → h.get? a = some o → o.data = .fields vs → a ∉ frs (X.env :: X.outer) := fun {h o vs} ff e dd hm => by
      obtain ⟨_, o', e', hnf⟩ := ff.mem hm
      rw [e] at e'; cases e'
      exact hnf _ dd
    have nfr := notFr fl3.2.2.1 he3 hd3
    have nL : a ≠ X.env.locals := fun z => nfr (List.mem_filterMap.mpr ⟨X.env, List.mem_cons_self, by rw [hf, z]⟩)
    have nF : a ∉ X.fs := fun hm => by
      obtain ⟨e, he, q⟩ := List.mem_filterMap.mp hm
      exact nfr (List.mem_filterMap.mpr ⟨e, List.mem_cons_of_mem _ he, q⟩)
    -- the exception is younger than the entry
    have notI : sI.heap.get? a = none := by
      cases q : sI.heap.get? a with
      | none => rfl
      | some o =>
        have := nb a o q (by rw [hs]; exact nfr)
        rw [fl3.2.1] at this
        cases this
    have n0 : X.s_0.heap.get? a = none := by
      cases q : X.s_0.heap.get? a with
      | none => rfl
      | some o =>
        obtain ⟨o', q'⟩ := J.base.there a o q (by rw [hex]; exact fun z => nomatch z)
        rw [notI] at q'
        cases q'
    have hpn : ∀ p ∈ X.pn ++ pins, p.1 ≠ a := fun p m z => by
      have := (J.pin p m).1
      rw [z, notI] at this
      cases this
    have S3 := J3.suite he3 hd3 na nL nF
    refine wpAny_handleBy_cons (codeAny_handlers_test ?_) (by intro q; cases q)
    have LT : PySem.W.Looks (model X.prog X.w) h3 (typeOf (.ref a)) cls := fun A Q E s k q => wpAny_typeOf_ref (k _ _ he3) (by rw [hz3.1]; exact q)
    have LM := PySem.W.exm_one (M := model X.prog X.w) (J3.kIn) LT hb1
    have test : ∀ {Q : Value → Shared → Prop} {E : Value → Shared → Prop}, Q c { s' with heap := h3 } → wpAny (model X.prog X.w) (X.A.mark (some (.ref a))) (eval (.Name x np) X.env) Q E { s' with heap := h3 } := fun {Q E} q => by
      obtain ⟨hg, hdbg, hm | ⟨hm, hv, hnn⟩⟩ := hc
      · exact ld_glob (X := X.suite a ((a, oe3) :: (X.pn ++ pins))) S3 hg hm q hdbg
      · exact ld_blt (X := X.suite a ((a, oe3) :: (X.pn ++ pins))) S3 hg hm hv q hnn hdbg
    refine test (LM.here ?_)
    cases b with
    | true =>
      refine codeAny_handlers_suite_as ?_
      refine HandSPX.lands_againZ fl3 fun h4 fl4 up4 => ?_
      have J4 : Inv X pins σ' H' { s' with heap := h4 } := J.landed nb fl4.1 ((up.trans up3).trans up4) os ag
      obtain ⟨oe4, vs4, he4, hz4, hd4⟩ := fl4.there
      have J5 := inv_adopt J4 na he4 hz4 hd4 n0 nL hpn
      have S4 := inv_suiteT J5 a
      refine store_ok (X := X.suite a (X.pn ++ pins)) (v := .ref a) S4 hN hi hloc rfl (fun s5 S5 => ?_) (.inr hln)
      refine wpAny_mono ((hsu a (X.pn ++ pins)).run [] s5 _ _ _ S5 (hyes rfl a na)) (fun f s6 hsp => ?_) (fun _ _ z => False.elim z)
      have end_ : ∀ {σ6 : St} {H6 : Hp} {Q : Shared → Prop}, Inv (X.suite a (X.pn ++ pins)) [] σ6 H6 s6 → (∀ s7, Inv X pins (σ6.set i none) H6 s7 → Q s7) →
          wpAny (model X.prog X.w) X.A (do bindName X.env n .none; unbindBehindTheSuite X.env n pos') (fun _ s7 => Q s7) X.xe s6 := fun {σ6 H6 Q} S6 hq => gone_ok (inv_unsuiteT S6 ok) hN hi hln hq
      cases f with
      | next =>
        obtain ⟨σ6, H6, S6, q6⟩ := hsp
        exact end_ S6 fun s7 J7 => ⟨_, _, J7, q6⟩
      | brk =>
        obtain ⟨σ6, H6, S6, q6⟩ := hsp
        exact end_ S6 fun s7 J7 => ⟨_, _, J7, q6⟩
      | cont =>
        obtain ⟨σ6, H6, S6, q6⟩ := hsp
        exact end_ S6 fun s7 J7 => ⟨_, _, J7, q6⟩
      | ret u =>
        obtain ⟨v6, σ6, H6, S6, r6, q6⟩ := hsp
        exact end_ S6 fun s7 J7 => ⟨_, _, _, J7, r6, q6⟩
    | false =>
      show wpAny _ X.A (handleBy (.ref a) X.env []) _ _ _
      refine wpAny_handleBy_nil ?_
      obtain ⟨k1, k2, k3, oe, vs, T, oT, ts', he, hz, hd, h1, hr⟩ := id fl3
      unfold PySem.passOn
      refine wpAny_bind (wpAny_field he hd h1 ?_)
      rw [if_neg (show ¬ ((Value.ref T == Value.none) = true) from by simp)]
      have fin : wpAny (model X.prog X.w) X.A (setFlight (.ref a) X.env.frame) (fun _ s4 => wpAny (model X.prog X.w) X.A (throw (.ref a) : Sem Flow) (SP X pins D) X.xe s4) X.xe { s' with heap := h3 } := by
        rw [hf]
        refine HandSPX.setFlight_upZ fl3 fun h4 hh4 up4 => wpAny_throw (tk _ _ ?_)
        exact ⟨a, B, sI, pins, σ', H', cls, d, rfl, J, nb, (up.trans up3).trans up4, .inr (.inr (by rw [hs]; exact hh4)), na, os, ag, hno rfl⟩
      first
        | exact wpAny_bind (wpAny_pure (wpAny_bind fin))
        | exact wpAny_bind fin
  · cases f with
    | next =>
      obtain ⟨σ', H', J', q⟩ := hsp
      exact wpAny_execs_nil ⟨σ', H', J'.ofTry ok, q⟩
    | brk =>
      obtain ⟨σ', H', J', q⟩ := hsp
      exact ⟨σ', H', J'.ofTry ok, q⟩
    | cont =>
      obtain ⟨σ', H', J', q⟩ := hsp
      exact ⟨σ', H', J'.ofTry ok, q⟩
    | ret u =>
      obtain ⟨v, σ', H', J', r, q⟩ := hsp
      exact ⟨v, σ', H', J'.ofTry ok, r, q⟩
/-- isinstance of a tracked exception without a dict of its own -/
def rIsX (K : PySem.W.Frag) : List V → Hp → VK → Prop := fun xs H Q => ∃ (a D : Addr) (c : V) (cv : Value) (b : Bool), xs = [.ref a, c] ∧ H a = some (ExT (.ref D) none a) ∧ ExcC K D ∧ (∀ u, RelV c u → u = cv) ∧ PySem.W.kitOne K (.ref D) cv = some b ∧ Q (.bl b) H
theorem call_isX : CallR X (.builtin "isinstance") (rIsX X.K) := by
  intro pins s σ H xs us Q I r h
  obtain ⟨a, D, c, cv, b, rfl, ha, C, hcv, e, q⟩ := h
  cases r with
  | cons rx rr =>
    cases rr with
    | cons rt rr =>
      cases rr
      cases rx
      have ec := hcv _ rt
      subst ec
      obtain ⟨⟨oe, vs, hget, hz, hv⟩, _⟩ := I.hok a _ ha
      have J : PySem.W.InstAt s.heap a oe D none := by
        obtain ⟨oc, od, oda, osl⟩ := oe
        obtain ⟨h1, h2⟩ := hz
        dsimp only at h1 h2 hv
        subst h1 h2 hv
        exact ⟨hget, rfl, rfl, trivial⟩
      exact PySem.W.kia_one (PySem.W.handS_kitx_exc C.hg C.hk C.hs C.hd C.ha C.hn C.ht C.hm) I.kIn J e (fun z => nomatch z) fun tk => ⟨.bl b, H, I.kept (t' := tk) fun _ _ z => z, rfl, q⟩
end
section
variable {K : PySem.W.Frag} {cl : Cf} {Lk : Lks} {E : Hp} {pv : List (Nat × V)} {ρ ρ' ρ1 : En} {σ : St} {τ : Tm} {G G' H H' : Hp} {v vn v0 : V} {d dn d0 : D} {vs ws : List V} {ds : List D} {F F0 F1 F2 : List Addr} {i : Nat} {k : Kd} {a : Addr} {ps : List Stp}
variable {m m1 m2 : Md} {to te ti t : TE} {fe fx : En → Option D} {fp : En → Option (List Stp)} {tA : TA} {fs : En → Option (List D)} {P : List Nat} {W : WX} {f g : En → Option Out}
/-- raise C('..') -/
def sRaise (cn : Str) : En → Option Out := fun ρ => some (.rs cn none ρ)
theorem s_raise {cn : Str} {C : Addr} (hC : cl.c cn C) : SE K cl P W (fun _ σ H => W (.ref C) none σ H) (sRaise cn) := ⟨fun {Lk E pv ρ σ τ H oo N} hp st e q => by
  cases e
  exact q C σ H hC st⟩
/-- what is never come to -/
def sNever : En → Option Out := fun _ => none
theorem s_never {t : TS} : SE K cl P W t sNever := ⟨fun {Lk E pv ρ σ τ H oo N} hp st e q => by cases e⟩
/-- a call that may raise, its value dropped -/
def sCallX (md : List Bool) (g : List D → Option Rs) (fs : En → Option (List D)) : En → Option Out := fun ρ => (fs ρ).bind fun ds => if ds.length = md.length then (match g (D.erL ds) with
  | some (.ret _ []) => some (.nx ρ)
  | some (.exc c none []) => some (.rs c none ρ)
  | _ => none) else none
theorem s_callX {md : List Bool} {g : List D → Option Rs} (hm : md.all (!·) = true) (h : EA K cl m1 tA fs) : SE K cl P W (tDrop (tCallS (SpG K cl.c md g) (WE W) tA)) (sCallX md g fs) := ⟨fun {Lk E pv ρ σ τ H oo N} hp st e q => by
  unfold sCallX at e
  cases z : fs ρ with
  | none => rw [z] at e; cases e
  | some ds =>
    rw [z] at e
    simp only [Option.bind_some] at e
    split at e
    · rename_i hl
      obtain ⟨G, F1, F2, sx⟩ := id st
      refine h.run sx.sub sx.slots z fun vs H1 F3 s1 r1 _ => ?_
      have sx1 := sx.same s1
      split at e
      · rename_i d0 ee
        cases e
        refine ⟨D.erL ds, H1, [], .ret d0 [], by rw [D.erL_map, List.length_map, hl], Same.refl _, r1.er sx1.sub rfl, List.nodup_nil, ee, ?_⟩
        intro v H' G1 F' hc s0 sm r nd
        exact q σ H' (st.same (s1.trans (s0.trans sm)))
      · rename_i c ee
        cases e
        refine ⟨D.erL ds, H1, [], .exc c none [], by rw [D.erL_map, List.length_map, hl], Same.refl _, r1.er sx1.sub rfl, List.nodup_nil, ee, ?_⟩
        intro C H' G1 F' hc hC s0 sm r nd
        exact q C σ H' hC (st.same (s1.trans (s0.trans sm)))
      · cases e
    · cases e⟩
/-- more is shared -/
theorem Sta.share {a : Addr} {o : HO} (st : Sta K cl Lk E pv ρ σ τ H) (ha : H a = none) : ∃ G F1 F2, Sx K cl Lk E pv ρ σ τ (upd H a o) (upd G a o) F1 F2 := by
  obtain ⟨G, F1, F2, sx⟩ := st
  have hG : G a = none := sx.sub.free ha
  have sG : Same G (upd G a o) := same_upd hG
  have sH : Same H (upd H a o) := same_upd ha
  have own : ∀ {F : List Addr}, (∀ b ∈ F, G b = none ∧ ∃ o, H b = some o) → (∀ b ∈ F, (upd G a o) b = none) := fun {F} h b m => by
    obtain ⟨h1, u, h2⟩ := h b m
    have hb : b ≠ a := fun z => by rw [z, ha] at h2; cases h2
    rw [upd_ne hb]
    exact h1
  refine ⟨G, F1, F2, sx.ent.trans sG, sx.cfe.trans sG, ⟨fun b u e => ?_, fun b ob e => ?_⟩, ?_, ?_, sx.nd, sx.pin⟩
  · by_cases hb : b = a
    · subst hb
      rw [upd_same] at e ⊢
      cases e
      refine .inl ⟨?_, rfl⟩
      cases hk : Lk.lookup b with
      | none => rfl
      | some ob =>
        obtain ⟨u, hu⟩ := sx.sub.lk b ob hk
        rw [hG] at hu; cases hu
    · rw [upd_ne hb] at e ⊢
      exact sx.sub.at_ b u e
  · exact sG _ _ (sx.sub.lku b ob e)
  · exact sx.slots.keep (Same.keep sH fun b m => (sx.slots.own b m).2) sG (own sx.slots.own)
  · exact sx.tmp.keep (Same.keep sH fun b m => (sx.tmp.own b m).2) sG (own sx.tmp.own)
/-- try: .. except X as n: suite -/
def clr (i : Nat) : Out → Out
  | .nx ρ => .nx (ρ.set i none)
  | .bk ρ => .bk (ρ.set i none)
  | .ct ρ => .ct (ρ.set i none)
  | .rt d ρ => .rt d ρ
  | .rs c p ρ => .rs c p ρ
def noRs : Out → Bool
  | .rs _ _ _ => false
  | _ => true
def sTry (hit : Str → Bool) (i : Nat) (fb fs : En → Option Out) : En → Option Out := fun ρ => (fb ρ).bind fun o => match o with
  | .rs c none ρ1 => if hit c then (if i < ρ1.length then (fs (ρ1.set i (some (.n (.exc c []) [])))).bind fun o2 => if noRs o2 then some (clr i o2) else none else none) else some (.rs c none ρ1)
  | .rs c (some p) ρ1 => none
  | o => some o
theorem Sta.clear (st : Sta K cl Lk E pv ρ σ τ H) (hp : i ∉ pv.map (·.1)) : Sta K cl Lk E pv (ρ.set i none) (σ.set i none) τ H := by
  obtain ⟨G, F1, F2, sx⟩ := st
  obtain ⟨F', s, h'⟩ := sx.slots.clear i none
  refine ⟨G, F', F2, sx.ent, sx.cfe, sx.sub, h', sx.tmp, (s.append (List.Sublist.refl F2)).nodup sx.nd, fun p m => ?_⟩
  have hne : i ≠ p.1 := fun e => hp (e ▸ List.mem_map_of_mem m)
  rw [List.getElem?_set_ne hne]
  exact sx.pin p m
theorem s_try {hit : Str → Bool} {cv : Value} {tb : WX → TS} {ts : TS} {fb fs : En → Option Out} (hi : i ∉ P) (hh : ∀ cn C, cl.c cn C → PySem.W.exmOne K (.ref C) cv = some (hit cn)) (hb : ∀ W', SE K cl P W' (tb W') fb) (hs : SE K cl P (fun _ _ _ _ => False) ts fs) :
    SE K cl P W (fun N σ H => tb (wAsT K cv i ts W N) N σ H) (sTry hit i fb fs) := ⟨fun {Lk E pv ρ σ τ H oo N} hp st e q => by
  unfold sTry at e
  cases z : fb ρ with
  | none => rw [z] at e; cases e
  | some o =>
    rw [z] at e
    simp only [Option.bind_some] at e
    refine (hb _).run hp st z ?_
    cases o with
    | nx ρ1 => cases e; exact q
    | rt d ρ1 => cases e; exact q
    | bk ρ1 => cases e; exact q
    | ct ρ1 => cases e; exact q
    | rs c p ρ1 =>
      cases p with
      | some p => cases e
      | none =>
        intro C σ' H' hC st'
        refine ⟨hit c, hh c C hC, fun hb1 a ha => ?_, fun hb0 => ?_⟩
        · have e : (if hit c then (if i < ρ1.length then (fs (ρ1.set i (some (.n (.exc c []) [])))).bind fun o2 => if noRs o2 then some (clr i o2) else none else none) else some (.rs c none ρ1)) = some oo := e
          rw [if_pos hb1] at e
          split at e
          · rename_i hl
            cases z2 : fs (ρ1.set i (some (.n (.exc c []) []))) with
            | none => rw [z2] at e; cases e
            | some o2 =>
              rw [z2] at e
              simp only [Option.bind_some] at e
              split at e
              · rename_i hnr
                cases e
                obtain ⟨G, F1, F2, sx⟩ := st'.share (o := ExT (.ref C) none a) ha
                have st2 : Sta K cl Lk E pv ρ1 σ' ((.ref a, .n (.exc c []) []) :: τ) (upd H' a (ExT (.ref C) none a)) :=
                  sx.push (F := []) (Same.refl _) (R.mk (F0 := []) (F1 := []) (vs := []) (k := .exc c []) ⟨rfl, rfl, C, none, hC, upd_same, .inl ⟨rfl, rfl⟩⟩ .nil fun _ => rfl) ⟨(fun _ z => nomatch z), List.nodup_nil⟩
                have st3 := st2.put hl (hp ▸ hi)
                refine hs.run hp st3 z2 ?_
                cases o2 with
                | nx ρ2 => exact fun σ2 H2 s2 => q _ _ (s2.clear (hp ▸ hi))
                | bk ρ2 => exact fun σ2 H2 s2 => q _ _ (s2.clear (hp ▸ hi))
                | ct ρ2 => exact fun σ2 H2 s2 => q _ _ (s2.clear (hp ▸ hi))
                | rt d ρ2 => exact fun v σ2 H2 s2 => q v σ2 H2 s2
                | rs c p ρ2 => cases hnr
              · cases e
          · cases e
        · have e : (if hit c then (if i < ρ1.length then (fs (ρ1.set i (some (.n (.exc c []) [])))).bind fun o2 => if noRs o2 then some (clr i o2) else none else none) else some (.rs c none ρ1)) = some oo := e
          rw [hb0, if_neg Bool.false_ne_true] at e
          cases e
          exact q C σ' H' hC st'⟩
/-- isinstance(x, T): builtin types; own exception classes -/
def tyN : D → Option String
  | .v .non => some "NoneType"
  | .v (.bl _) => some "bool"
  | .v (.int _) => some "int"
  | .v (.str _) => some "str"
  | .n (.tup _) _ => some "tuple"
  | .n (.lst _) _ => some "list"
  | .n .scr _ => some "list"
  | .n .flst _ => some "list"
  | .n (.dct _ _) _ => some "dict"
  | _ => none
/-- isT: what is told of a type's name; isE: of an exception's class -/
def gIs (isT : String → Option Bool) (isE : Str → Option Bool) : D → Option D
  | .n (.exc cn []) _ => (isE cn).map fun b => .v (.bl b)
  | d => (tyN d).bind fun t => (isT t).map fun b => .v (.bl b)
def fIs (isT : String → Option Bool) (isE : Str → Option Bool) (f : En → Option D) : En → Option D := fun ρ => (f ρ).bind (gIs isT isE)
abbrev rIsA (K : PySem.W.Frag) : List V → Hp → VK → Prop := fun xs H Q => rIsi K xs H Q ∨ rIsX K xs H Q
theorem call_isA {X : Cx} : CallR X (.builtin "isinstance") (rIsA X.K) := calr_or call_isi call_isX
theorem ty_of {n : String} (s : Sub Lk G H) (r : R K cl G H v d F) (e : tyN d = some n) : TyX K H v (.type n) := by
  cases d with
  | g => cases e
  | v x =>
    obtain ⟨rfl, _⟩ := R.v_inv r
    cases v with
    | non => cases e; exact .base .non
    | bl b => cases e; exact .base (.bl b)
    | int i => cases e; exact .base (.int i)
    | str y => cases e; exact .base (.str y)
    | byt _ => cases e
    | flt _ => cases e
    | ref _ => cases e
    | ty _ => cases e
  | n k ds =>
    obtain ⟨a, ws, F0, F3, rfl, ok, rl, c, rfl⟩ := R.n_inv r
    have sl : ∀ {xs : List V}, SqL K H a xs → TyX K H (.ref a) (.type "list") := fun {xs} h => by
      rcases h with (h | ⟨o, h⟩) | ⟨o, its, n, h, hc, _⟩
      · exact .base (.lst h)
      · exact .base (.frz h)
      · exact .kList h hc
    cases k with
    | tup b =>
      cases e
      rcases (Kd.ok.tupT ok).1 with (h | ⟨o, h⟩) | ⟨o, its, n, h, hc, _⟩
      · exact .base (.tup h)
      · exact .fTuple h
      · exact .kTuple h hc
    | lst b => cases e; exact sl (SqL.of (lst_at s ok))
    | scr => cases e; exact sl (s.seq ok.1)
    | flst => cases e; exact sl (SqL.of (s.lst ok.1))
    | dct b ks =>
      cases e
      rcases (dct_at s ok).2 with h | ⟨o, h⟩
      · exact .base (.dK h)
      · exact .fDict h
    | ins b cn fs => cases e
    | exc cn fs => cases e
/-- the class stands as cv; isT, isE as the written part says -/
theorem v_is {isT : String → Option Bool} {isE : Str → Option Bool} {cv : Value} {cx : V} (hc : ClsV cx cv) (hcu : ∀ u, RelV cx u → u = cv) (hT : ∀ n b, isT n = some b → PySem.W.kitOne K (.type n) cv = some b) (hE : ∀ cn b C, isE cn = some b → cl.c cn C → ExcC K C ∧ PySem.W.kitOne K (.ref C) cv = some b)
    {te : TE} {fe : En → Option D} (h : EX K cl m te fe) : EX K cl .shr (tCB (rIsA K) (tCons te (tCons (tC cx) tNil))) (fIs isT isE fe) := ⟨fun {Lk G H ρ σ d F Q} s rr e q => by
  unfold fIs at e
  cases z : fe ρ with
  | none => rw [z] at e; cases e
  | some d0 =>
    rw [z] at e
    simp only [Option.bind_some] at e
    refine h.run s rr z fun x H1 F1 s1 r1 _ => ?_
    show rIsA K [x, cx] H1 Q
    unfold gIs at e
    split at e
    · rename_i cn es
      cases z2 : isE cn with
      | none => rw [z2] at e; cases e
      | some b =>
        rw [z2] at e
        cases e
        obtain ⟨a, ws, F0, F3, rfl, ok, rl, c, rfl⟩ := R.n_inv r1
        obtain ⟨h0, h1, C, dd, h2, h3, h4⟩ := ok
        have hdd : dd = none := by
          rcases h4 with ⟨_, q⟩ | ⟨n, _⟩
          · exact q
          · exact absurd rfl n
        subst hdd
        obtain ⟨g1, g2⟩ := hE cn b C z2 h2
        exact .inr ⟨a, C, cx, cv, b, rfl, (s.same s1).oth h3 (fun _ z => nomatch z), g1, hcu, g2, q _ H1 [] s1 R.sc rfl⟩
    · rename_i dd
      cases z2 : tyN d0 with
      | none => rw [z2] at e; cases e
      | some n =>
        rw [z2] at e
        simp only [Option.bind_some] at e
        cases z3 : isT n with
        | none => rw [z3] at e; cases e
        | some b =>
          rw [z3] at e
          cases e
          exact .inl ⟨x, cx, _, _, b, rfl, hc, ty_of (s.same s1) r1 z2, hT n b z3, q _ H1 [] s1 R.sc rfl⟩⟩
end
end DL

set_option Elab.async false
set_option linter.all false
set_option maxRecDepth 100000
set_option maxHeartbeats 4000000
/-! DL11: things shared from now on, dicts walked, more built-ins -/
namespace DL
open PySem PySem.Spec L2
open PyProof.Rows hiding St
def Kd.fz : Kd → Kd
  | .tup _ => .tup false
  | .lst true => .flst
  | .dct _ ks => .dct false ks
  | .ins _ c fs => .ins false c fs
  | k => k
mutual
/-- shared from now on -/
def D.fz : D → D
  | .v x => .v x
  | .n k ds => .n k.fz (D.fzL ds)
  | .g => .g
def D.fzL : List D → List D
  | [] => []
  | d :: ds => d.fz :: D.fzL ds
end
theorem D.fzL_map (ds : List D) : D.fzL ds = ds.map D.fz := by
  induction ds with
  | nil => rfl
  | cons d ds ih => rw [D.fzL, ih]; rfl
section
variable {K : PySem.W.Frag} {cl : Cf} {Lk : Lks} {E : Hp} {pv : List (Nat × V)} {ρ ρ' ρ1 : En} {σ : St} {τ : Tm} {G G' H H' : Hp} {v vn v0 : V} {d dn d0 : D} {vs ws : List V} {ds : List D} {F F0 F1 F2 : List Addr} {i : Nat} {k : Kd} {a : Addr} {ps : List Stp}
variable {m m1 m2 : Md} {to te ti t : TE} {fe fx : En → Option D} {fp : En → Option (List Stp)} {tA : TA} {fs : En → Option (List D)} {P : List Nat} {W : WX} {f g : En → Option Out}
theorem Kd.ok.fz (h : Kd.ok K cl G H k a vs F) (s : Same G G') (hF : ∀ b ∈ F, G' b = H b ∧ cl.e b = none) : Kd.ok K cl G' H k.fz a vs [] := by
  cases k with
  | tup b => exact ⟨(Kd.ok.tupT h).1, rfl⟩
  | scr => exact ⟨SqL.of_same s h.1, rfl⟩
  | flst => exact ⟨s _ _ h.1, rfl, h.2.2⟩
  | exc cn fs =>
    obtain ⟨h0, h1, C, d, h2, h3, h4⟩ := h
    exact ⟨h0, rfl, C, d, h2, s _ _ h3, h4.imp id fun ⟨n, dx, e, q⟩ => ⟨n, dx, e, s _ _ q⟩⟩
  | lst b => cases b with
    | false => exact ⟨s _ _ h.1, rfl⟩
    | true =>
      obtain ⟨h1, h2, rfl⟩ := h
      obtain ⟨q1, q2⟩ := hF a List.mem_cons_self
      exact ⟨by rw [q1]; exact h1, rfl, q2⟩
  | dct b ks => cases b with
    | false => exact ⟨h.1, Rd.same s h.2.1, rfl⟩
    | true =>
      obtain ⟨h0, h1, h2, rfl⟩ := h
      exact ⟨h0, .inl (by rw [(hF a List.mem_cons_self).1]; exact h1), rfl⟩
  | ins b cn fs => cases b with
    | false =>
      obtain ⟨h0, h1, C, dx, h2, h3, h4⟩ := h
      exact ⟨h0, rfl, C, dx, h2, s _ _ h3, s _ _ h4⟩
    | true =>
      obtain ⟨h0, C, dx, h2, h3, h4, h5, h6, h7, rfl⟩ := h
      exact ⟨h0, rfl, C, dx, h2, by rw [(hF a List.mem_cons_self).1]; exact h3, by rw [(hF dx (List.mem_cons_of_mem _ List.mem_cons_self)).1]; exact h4⟩
theorem RL.fz (h : RL K cl G H vs ds F) (s : Same G G') (hF : ∀ b ∈ F, G' b = H b ∧ cl.e b = none) : RL K cl G' H vs (D.fzL ds) [] := by
  induction h with
  | nil => exact .nil
  | sc _ ih => exact .sc (ih hF)
  | gn _ ih => exact .gn (ih hF)
  | @nd a k ws es F0 F1 vs ds F2 ok r1 cc r2 ih1 ih2 =>
    have h1 := ok.fz s fun b m => hF b (by simp [m])
    have h2 := ih1 fun b m => hF b (by simp [m])
    have h3 := ih2 fun b m => hF b (by simp [m])
    have := RL.nd h1 h2 (fun _ => rfl) h3
    exact this
/-- what a slot holds is shared from now on -/
theorem Sta.freeze (st : Sta K cl Lk E pv ρ σ τ H) (e : ρ[i]? = some (some d)) : Sta K cl Lk E pv (ρ.set i (some d.fz)) σ τ H := by
  obtain ⟨G, F1, F2, sx⟩ := st
  obtain ⟨v, A, B, C, e1, r, rfl, sl⟩ := sx.slots.at e
  let G2 : Hp := fun b => if b ∈ B then H b else G b
  have hG2 : Same G G2 := fun b u eb => by
    show (if b ∈ B then H b else G b) = some u
    by_cases m : b ∈ B
    · rw [(RL.own r b m).1] at eb; cases eb
    · rw [if_neg m]; exact eb
  have nd := sx.nd
  have pm : ((A ++ B ++ C) ++ F2).Perm (B ++ ((A ++ C) ++ F2)) := by
    rw [List.perm_iff_count]
    intro x
    simp only [List.count_append]
    omega
  have nd2 := pm.nodup_iff.mp nd
  rw [List.nodup_append] at nd2
  have notB : ∀ b ∈ (A ++ C) ++ F2, b ∉ B := fun b m mb => nd2.2.2 b mb b m rfl
  have gn : ∀ b ∈ (A ++ C) ++ F2, G b = none → G2 b = none := fun b m hb => by
    show (if b ∈ B then H b else G b) = none
    rw [if_neg (notB b m)]; exact hb
  have r' := RL.fz (G' := G2) r hG2 fun b m => ⟨by show (if b ∈ B then H b else G b) = H b; rw [if_pos m], by
    exact Same.free sx.cfe (RL.own r b m).1⟩
  have r'' : R K cl G2 H v d.fz [] := r'
  have sl' := sl.keep (Same.keep (Same.refl H) fun b m => (sl.own b m).2) hG2 fun b m => gn b (List.mem_append_left _ m) (sl.own b m).1
  have hi : i < ρ.length := (List.getElem?_eq_some_iff.mp e).1
  obtain ⟨A3, C3, eac, sl2⟩ := sl'.fill (i := i) (by simp [hi]) r''
  rw [List.set_set] at sl2
  have eσ : σ.set i (some v) = σ := by
    apply List.ext_getElem?
    intro j
    by_cases hj : i = j
    · subst hj
      rw [List.getElem?_set]
      simp only [if_true]
      rw [e1]
      have : i < σ.length := (List.getElem?_eq_some_iff.mp e1).1
      rw [if_pos this]
    · rw [List.getElem?_set_ne hj]
  rw [eσ] at sl2
  refine ⟨G2, _, F2, sx.ent.trans hG2, sx.cfe.trans hG2, ⟨fun b u eb => ?_, fun b p el => hG2 _ _ (sx.sub.lku b p el)⟩, sl2, sx.tmp.keep (Same.keep (Same.refl H) fun b m => (sx.tmp.own b m).2) hG2 fun b m => gn b (List.mem_append_right _ m) (sx.tmp.own b m).1, ?_, sx.pin⟩
  · have eb : (if b ∈ B then H b else G b) = some u := eb
    by_cases mb : b ∈ B
    · rw [if_pos mb] at eb
      refine .inl ⟨?_, eb⟩
      cases hk : Lk.lookup b with
      | none => rfl
      | some p =>
        have := sx.sub.lku b p hk
        rw [(RL.own r b mb).1] at this; cases this
    · rw [if_neg mb] at eb
      exact sx.sub.at_ b u eb
  · rw [List.append_nil]
    rw [← eac]
    exact nd2.2.1
def sFz (i : Nat) (f : En → Option Out) : En → Option Out := fun ρ => (ρ.getD i none).bind fun d => f (ρ.set i (some d.fz))
theorem s_fz {t : TS} (h : SE K cl P W t f) : SE K cl P W t (sFz i f) := ⟨fun {Lk E pv ρ σ τ H oo N} hp st e q => by
  unfold sFz at e
  cases z : ρ.getD i none with
  | none => rw [z] at e; cases e
  | some d =>
    rw [z] at e
    exact h.run hp (st.freeze (getD_some z)) e q⟩
/-! a, b, .. = a list -/
def gUnL (n : Nat) (hs : List D → En → Option En) : D → En → Option En := fun d ρ => match d with | .n (.lst _) ds => if ds.length = n then hs ds ρ else none | _ => none
theorem g_unl {n : Nat} {gt : TGs} {hs : List D → En → Option En} (h : SGs K cl P gt hs) : SG K cl P (gUnl K n gt) (gUnL n hs) := ⟨fun {Lk E pv ρ ρ' σ τ H v d Q} hp st e q => by
  unfold gUnL at e
  split at e
  · rename_i o ds
    split at e
    · rename_i hn
      obtain ⟨G, F1, F2, sx⟩ := st
      obtain ⟨B, C, r, tt, ef⟩ := sx.tmp.uncons
      obtain ⟨a, ws, F0, F3, rfl, ok, rl, c, rfl⟩ := R.n_inv r
      refine ⟨a, ws, rfl, SqL.of (lst_at sx.sub ok), by rw [rl.len, hn], h.run hp rl.len ?_ e q⟩
      refine ⟨G, F1, F3 ++ C, sx.ent, sx.cfe, sx.sub, sx.slots, ?_, ?_, sx.pin⟩
      · obtain ⟨z1, z2⟩ := tmp_zip rl.len
        rw [List.map_append, List.map_append, z1, z2]
        exact rl.append tt
      · have nd := sx.nd
        rw [ef] at nd
        have sb : (F1 ++ (F3 ++ C)).Sublist (F1 ++ (F0 ++ F3 ++ C)) := by
          refine (List.Sublist.refl F1).append ?_
          rw [List.append_assoc]
          exact List.sublist_append_right _ _
        exact sb.nodup nd
    · cases e
  · cases e⟩
/-! a list display of things that are lent -/
theorem e_lstA (h : EA K cl m tA fs) : EX K cl .any (tLst tA) (fLst fs) := ⟨fun {Lk G H ρ σ d F Q} s rr e q => by
  unfold fLst at e
  cases z : fs ρ with
  | none => rw [z] at e; cases e
  | some ds =>
    rw [z] at e
    simp only [Option.bind_some] at e
    split at e
    · rename_i hz
      cases e
      refine h.run s rr z fun vs H1 F1 s1 r1 m1 => ?_
      refine ⟨by rw [r1.len]; exact hz, fun a ha => ?_⟩
      exact q (.ref a) _ (a :: F1) (s1.trans (same_upd ha)) (r_lst (s.same s1) r1 ha) trivial
    · cases e⟩
/-! ranges as lists, reversed -/
variable (K cl) in
structure ER (t : St → Hp → (Int → Int → Hp → Prop) → Prop) (f : En → Option (Int × Int)) : Prop where
  run : ∀ {Lk : Lks} {G H : Hp} {ρ : En} {σ : St} {p : Int × Int} {F : List Addr} {Q : Int → Int → Hp → Prop}, Sub Lk G H → RE K cl G H ρ σ F → f ρ = some p → (∀ H', Same H H' → Q p.1 p.2 H') → t σ H Q
def r1F (f : En → Option D) : En → Option (Int × Int) := fun ρ => (f ρ).bind fun d => match d with | .v (.int n) => some (0, n) | _ => none
def r2F (f g : En → Option D) : En → Option (Int × Int) := fun ρ => (f ρ).bind fun d => (g ρ).bind fun e => match d, e with | .v (.int i), .v (.int j) => some (i, j) | _, _ => none
theorem er_1 (h : EX K cl m te fe) : ER K cl (tRg1 te) (r1F fe) := ⟨fun {Lk G H ρ σ p F Q} s rr e q => by
  unfold r1F at e
  cases z : fe ρ with
  | none => rw [z] at e; cases e
  | some d =>
    rw [z] at e
    simp only [Option.bind_some] at e
    split at e
    · cases e
      refine h.run s rr z fun x H1 F1 s1 r1 _ => ?_
      obtain ⟨rfl, _⟩ := R.v_inv r1
      exact ⟨_, rfl, q H1 s1⟩
    · cases e⟩
theorem er_2 (h : EX K cl m te fe) (h2 : EX K cl m2 ti fx) : ER K cl (tRg2 te ti) (r2F fe fx) := ⟨fun {Lk G H ρ σ p F Q} s rr e q => by
  unfold r2F at e
  cases z : fe ρ with
  | none => rw [z] at e; cases e
  | some d =>
    rw [z] at e
    cases z2 : fx ρ with
    | none => rw [z2] at e; cases e
    | some d2 =>
      rw [z2] at e
      simp only [Option.bind_some] at e
      split at e
      · cases e
        refine h.run s rr z fun x H1 F1 s1 r1 _ => ?_
        refine h2.run (s.same s1) (rr.same s1) z2 fun y H2 F2 s2 r2 _ => ?_
        obtain ⟨rfl, _⟩ := R.v_inv r1
        obtain ⟨rfl, _⟩ := R.v_inv r2
        exact ⟨_, _, rfl, rfl, q H2 (s1.trans s2)⟩
      · cases e⟩
def fRevR (r : En → Option (Int × Int)) : En → Option (List D) := fun ρ => (r ρ).bind fun p => if inBd p.1 && inBd p.2 then some (downD (p.1 + (((p.2 - p.1).toNat : Nat) : Int) - 1) (p.2 - p.1).toNat) else none
theorem si_revR {tr : St → Hp → (Int → Int → Hp → Prop) → Prop} {r : En → Option (Int × Int)} (h : ER K cl tr r) : SI K cl m Lk (iRevR tr) (fRevR r) := ⟨fun {G H ρ σ items F RR} s rr e q => by
  unfold fRevR at e
  cases z : r ρ with
  | none => rw [z] at e; cases e
  | some p =>
    rw [z] at e
    simp only [Option.bind_some] at e
    split at e
    · rename_i hb
      cases e
      rw [Bool.and_eq_true] at hb
      refine h.run s rr z fun H1 s1 => ?_
      obtain ⟨b1, b2⟩ := inBd_ok hb.1
      obtain ⟨b3, b4⟩ := inBd_ok hb.2
      exact ⟨b1, b2, b3, b4, q _ [] H1 [] s1 .nil Md.ok.nil yl_down⟩
    · cases e⟩
def fLstR (r : En → Option (Int × Int)) : En → Option D := fun ρ => (r ρ).bind fun p => if inBd p.1 && (inBd p.2 && decide ((p.2 - p.1).toNat ≤ 2 ^ 20)) then some (.n (.lst true) (rngD p.1 (p.2 - p.1).toNat)) else none
theorem rl_ints : ∀ (ns : List Int), RL K cl G H (ns.map V.int) (ns.map dI) []
  | [] => .nil
  | n :: ns => .sc (rl_ints ns)
/-! list.index -/
/-- the first of flat things that is a wanted one -/
def idxV (y : V) : List V → Option Nat
  | [] => none
  | x :: xs => if eqV x y then some 0 else (idxV y xs).map (· + 1)
theorem idxV_ok : ∀ {xs : List V} {y : V} {j : Nat}, idxV y xs = some j → ∃ z, xs[j]? = some z ∧ eqV z y = true ∧ ∀ (m : Nat) (z' : V), m < j → xs[m]? = some z' → eqV z' y = false
  | x :: xs, y, j, h => by
    unfold idxV at h
    split at h
    · rename_i he
      cases h
      exact ⟨x, rfl, he, fun m z' hm => absurd hm (Nat.not_lt_zero m)⟩
    · rename_i he
      cases z : idxV y xs with
      | none => rw [z] at h; cases h
      | some j' =>
        rw [z] at h
        cases h
        obtain ⟨w, h1, h2, h3⟩ := idxV_ok z
        refine ⟨w, by simpa using h1, h2, fun m z' hm hz => ?_⟩
        cases m with
        | zero =>
          have : x = z' := by simpa using hz
          subst this
          simpa using he
        | succ m =>
          have hm' : m + 1 < j' + 1 := hm
          exact h3 m z' (by omega) (by simpa using hz)
def kList : Kd → Bool
  | .lst _ => true
  | .scr => true
  | .flst => true
  | _ => false
def fIndex (f g : En → Option D) : En → Option D := fun ρ => (f ρ).bind fun d => (g ρ).bind fun e => match d, e with
  | .n k ds, .v y => if kList k && flatV y then (flatsOf ds).bind fun xs => (idxV y xs).map fun j => .v (.int (j : Nat)) else none
  | _, _ => none
theorem sq_of {k : Kd} (s : Sub Lk G H) (ok : Kd.ok K cl G H k a vs F) (hk : kList k = true) : SqL K H a vs := by
  cases k with
  | tup b => cases hk
  | lst b => exact SqL.of (lst_at s ok)
  | scr => exact s.seq ok.1
  | flst => exact SqL.of (s.lst ok.1)
  | dct b ks => cases hk
  | ins b cn fs => cases hk
  | exc cn fs => cases hk
theorem e_index (h : EX K cl m te fe) (h2 : EX K cl m2 ti fx) : EX K cl .shr (tBM K "list" (rIndex K) te (tCons ti tNil)) (fIndex fe fx) := ⟨fun {Lk G H ρ σ d F Q} s rr e q => by
  unfold fIndex at e
  cases z : fe ρ with
  | none => rw [z] at e; cases e
  | some d0 =>
    rw [z] at e
    cases z2 : fx ρ with
    | none => rw [z2] at e; cases e
    | some d1 =>
      rw [z2] at e
      simp only [Option.bind_some] at e
      split at e
      · rename_i k ds y
        split at e
        · rename_i hk
          rw [Bool.and_eq_true] at hk
          cases z3 : flatsOf ds with
          | none => rw [z3] at e; cases e
          | some xs =>
            rw [z3] at e
            simp only [Option.bind_some] at e
            cases z4 : idxV y xs with
            | none => rw [z4] at e; cases e
            | some j =>
              rw [z4] at e
              cases e
              refine h.run s rr z fun x H1 F1 s1 r1 _ => ?_
              obtain ⟨a, us, F0, F3, rfl, ok, rl, c, rfl⟩ := R.n_inv r1
              have sq1 := sq_of (s.same s1) ok hk.1
              refine ⟨Or.inl ⟨rfl, us, sq1⟩, h2.run (s.same s1) (rr.same s1) z2 fun w H2 F2 s2 r2 _ => ?_⟩
              obtain ⟨rfl, _⟩ := R.v_inv r2
              obtain ⟨rfl, hall⟩ := flats_ok rl z3
              obtain ⟨zz, g1, g2, g3⟩ := idxV_ok z4
              exact ⟨a, us, w, j, zz, rfl, rfl, s2.seq sq1, hk.2, hall, g1, g2, g3, q _ H2 [] (s1.trans s2) R.sc rfl⟩
        · cases e
      · cases e⟩
/-! sorted(d), d a dict of ints -/
def sortI : List Int → List Int := fun ns => ns.mergeSort (fun a b => decide (a ≤ b))
theorem sortI_perm (ns : List Int) : (sortI ns).Perm ns := List.mergeSort_perm ns _
theorem sortI_pair (ns : List Int) : (sortI ns).Pairwise (· ≤ ·) := by
  have := List.pairwise_mergeSort (le := fun a b : Int => decide (a ≤ b)) (fun a b c h1 h2 => by
    simp only [decide_eq_true_eq] at *; omega) (fun a b => by simp only [Bool.or_eq_true, decide_eq_true_eq]; omega) ns
  exact this.imp fun h => of_decide_eq_true h
theorem sorted_uniq : ∀ {xs ys : List Int}, xs.Perm ys → xs.Pairwise (· ≤ ·) → ys.Pairwise (· ≤ ·) → xs = ys
  | [], ys, p, _, _ => (List.nil_perm.mp p).symm ▸ rfl
  | x :: xs, [], p, _, _ => by cases (List.Perm.length_eq p)
  | x :: xs, y :: ys, p, h1, h2 => by
    have hxy : x = y := by
      have m1 : x ∈ y :: ys := p.mem_iff.mp List.mem_cons_self
      have m2 : y ∈ x :: xs := p.mem_iff.mpr List.mem_cons_self
      rw [List.pairwise_cons] at h1 h2
      rcases List.mem_cons.mp m1 with e | m1
      · exact e
      · rcases List.mem_cons.mp m2 with e | m2
        · exact e.symm
        · have a1 := h2.1 x m1
          have a2 := h1.1 y m2
          omega
    subst hxy
    rw [List.pairwise_cons] at h1 h2
    rw [sorted_uniq (List.perm_cons x |>.mp p) h1.2 h2.2]
def keyInts : List Key → Option (List Int)
  | [] => some []
  | .inl i :: ks => (keyInts ks).map fun ns => i :: ns
  | .inr _ :: _ => none
theorem keyInts_ok : ∀ {ks : List Key} {ns : List Int}, keyInts ks = some ns → ks = ns.map Sum.inl
  | [], ns, h => by cases h; rfl
  | .inl i :: ks, ns, h => by
    unfold keyInts at h
    cases z : keyInts ks with
    | none => rw [z] at h; cases h
    | some ms =>
      rw [z] at h
      cases h
      rw [keyInts_ok z]; rfl
  | .inr x :: ks, ns, h => by cases h
def gSortD : List D → Option D
  | [.n (.dct _ ks) _] => (keyInts ks).bind fun ns => if ns.length < 64 then some (.n (.lst true) ((sortI ns).map dI)) else none
  | _ => none
abbrev rSortDI : List V → Hp → VK → Prop := fun xs H Q => ∃ (a : Addr) (kvs : List (Key × V)) (ks : List Int), xs = [.ref a] ∧ Rd H a (.dK kvs) ∧ kvs.map (·.1) = ks.map Sum.inl ∧ ks.length < 64 ∧
    ∀ (ys : List Int) (p : Addr), ys.Perm ks → ys.Pairwise (· ≤ ·) → H p = none → Q (.ref p) (upd H p (.lst (ys.map V.int)))
theorem v_sortD : VL K cl .fre rSortDI gSortD := fun {Lk G H xs ds d F Q} s r e q => by
  unfold gSortD at e
  split at e
  · rename_i b ks es
    cases z : keyInts ks with
    | none => rw [z] at e; cases e
    | some ns =>
      rw [z] at e
      simp only [Option.bind_some] at e
      split at e
      · rename_i hz
        cases e
        obtain ⟨x, rfl, rx⟩ := r.one
        obtain ⟨a, ws, F0, F3, rfl, ok, rl, c, rfl⟩ := R.n_inv rx
        obtain ⟨l, rd⟩ := dct_at s ok
        refine ⟨a, _, ns, rfl, rd, ?_, hz, fun ys p h1 h2 hp => ?_⟩
        · rw [← keyInts_ok z]
          exact List.map_fst_zip (by omega)
        · have : ys = sortI ns := sorted_uniq (h1.trans (sortI_perm ns).symm) h2 (sortI_pair ns)
          subst this
          exact q (.ref p) _ [p] (same_upd hp) (r_newlst s (rl_ints _) hp) (fre_one hp (same_upd (o := .lst []) hp))
      · cases e
  · cases e
/-! dicts walked: a shared dict in a slot, locked meanwhile -/
def kD : Key → D
  | .inl i => .v (.int i)
  | .inr x => .v (.str x)
theorem r_key {k : Key} : R K cl G H (kV k) (kD k) [] := by cases k <;> exact R.sc
/-- at a stands a dict that nobody changes meanwhile -/
def Stands (Lk : Lks) (G : Hp) (a : Addr) (ob : Obj) (kvs : List (Key × V)) : Prop := Lk.lookup a = some (ob, .dK kvs) ∨ G a = some (.frz ob (.dK kvs))
theorem rd_dk {kvs : List (Key × V)} {ob : Obj} (s : Sub Lk G H) (hl : Lk.lookup a = some (ob, .dK kvs)) : H a = some (.frz ob (.dK kvs)) ∧ G a = some (.dK kvs) := by
  have hg := s.lku a _ hl
  refine ⟨?_, hg⟩
  rcases s.at_ a _ hg with ⟨n, _⟩ | ⟨ob', n, _, e⟩
  · rw [hl] at n; cases n
  · rw [hl] at n; cases n; exact e
theorem Stands.at {kvs : List (Key × V)} {ob : Obj} (h : Stands Lk G a ob kvs) (g : Same G G') (s : Sub Lk G' H) : H a = some (.frz ob (.dK kvs)) ∧ ∀ kvs', Rd G' a (.dK kvs') → kvs' = kvs := by
  rcases h with h | h
  · obtain ⟨h1, h2⟩ := rd_dk s h
    refine ⟨h1, fun u r => ?_⟩
    rcases r with e | ⟨o, e⟩
    · rw [h2] at e; exact (HO.dK.inj (Option.some.inj e)).symm
    · rw [h2] at e; cases e
  · have h2 := g _ _ h
    refine ⟨s.oth h2 (fun _ z => nomatch z), fun u r => ?_⟩
    rcases r with e | ⟨o, e⟩
    · rw [h2] at e; cases e
    · rw [h2] at e; cases e; rfl
/-- the pairs, each a new tuple -/
def pairD (ks : List Key) (ds : List D) : List D := (ks.zip ds).map fun p => .n (.tup false) [kD p.1, p.2]
/-- the heap with a shared dict locked -/
theorem Sub.lock {kvs : List (Key × V)} {ob : Obj} (s : Sub Lk G H) (hn : Lk.lookup a = none) (hg : G a = some (.dK kvs)) : Sub ((a, (ob, .dK kvs)) :: Lk) G (upd H a (.frz ob (.dK kvs))) := by
  refine ⟨fun b u e => ?_, fun b p e => ?_⟩
  · by_cases hb : b = a
    · subst hb
      rw [hg] at e
      cases e
      refine .inr ⟨ob, by simp [List.lookup], ⟨kvs, rfl⟩, upd_same⟩
    · rw [upd_ne hb]
      have hbe : (b == a) = false := by simpa using hb
      have : List.lookup b ((a, (ob, HO.dK kvs)) :: Lk) = Lk.lookup b := by simp [List.lookup, hbe]
      rw [this]
      exact s.at_ b u e
  · by_cases hb : b = a
    · subst hb
      have : List.lookup b ((b, (ob, HO.dK kvs)) :: Lk) = some (ob, .dK kvs) := by simp [List.lookup]
      rw [this] at e
      cases e
      exact hg
    · have hbe : (b == a) = false := by simpa using hb
      have : List.lookup b ((a, (ob, HO.dK kvs)) :: Lk) = Lk.lookup b := by simp [List.lookup, hbe]
      rw [this] at e
      exact s.lku b p e
theorem keep_lock {kvs : List (Key × V)} {ob : Obj} (hH : H a = some (.dK kvs)) (hF : ∀ b ∈ F, b ≠ a) : Keep F H (upd H a (.frz ob (.dK kvs))) := keep_upd hH (fun _ z => nomatch z) (fun _ _ z => nomatch z) hF
theorem keep_unlock {kvs : List (Key × V)} {ob : Obj} (hH : H a = some (.frz ob (.dK kvs))) (hF : ∀ b ∈ F, b ≠ a) : Keep F H (upd H a (.dK kvs)) := keep_upd hH (fun _ z => nomatch z) (fun _ _ z => by cases z) hF
/-- a shared dict in slot i, walked: it tells the items of keys and values -/
def DW (K : PySem.W.Frag) (cl : Cf) (wi : TI) (i : Nat) (it : List Key → List D → List D) : Prop := ∃ J : Addr → Obj → List (Key × V) → It, (∀ (σ : St) (H : Hp) (R : It → Hp → Prop) (a : Addr) (kvs : List (Key × V)) (ob : Obj), σ[i]? = some (some (.ref a)) → H a = some (.frz ob (.dK kvs)) → R (J a ob kvs) H → wi σ H R) ∧
  ∀ (Lk : Lks) (G : Hp) (a : Addr) (ob : Obj) (ks : List Key) (ws : List V) (ds : List D), ks.length = ws.length → ks.length = ds.length → Stands Lk G a ob (ks.zip ws) → Yl K cl Lk G (J a ob (ks.zip ws)) [(.ref a, .n (.dct false ks) ds)] (it ks ds)
def itK (ks : List Key) (_ : List D) : List D := ks.map kD
theorem dw_keys (i : Nat) : DW K cl (iKeys (tVar i)) i itK := ⟨Itk, fun σ H R a kvs ob e h q => ⟨.ref a, e, a, ob, rfl, .inl ⟨kvs, h, q⟩⟩, fun Lk G a ob ks ws ds l l2 st => fun {G2 H2 F} g s rl i => by
  obtain ⟨hH, _⟩ := st.at g s
  have hl : (ks.zip ws).length = ks.length := by rw [List.length_zip]; omega
  refine ⟨fun d hd => ?_, fun h => ⟨hH, by rw [hl]; simpa [itK] using h⟩⟩
  rw [itK, List.getElem?_map] at hd
  cases z : ks[i]? with
  | none => rw [z] at hd; cases hd
  | some k =>
    rw [z] at hd
    have hd : kD k = d := Option.some.inj hd
    have hi : i < ks.length := (List.getElem?_eq_some_iff.mp z).1
    refine ⟨⟨hH, by rw [hl]; exact hi⟩, fun x H' y => ?_⟩
    obtain ⟨rfl, k', v, hk, rfl⟩ := y
    obtain ⟨h1, h2⟩ := List.getElem?_zip_eq_some.mp hk
    rw [z] at h1
    cases h1
    refine ⟨Same.refl _, ?_⟩
    rw [← hd]
    exact r_key⟩
theorem dw_keysM (i : Nat) : DW K cl (iKeysM (tVar i)) i itK := by
  obtain ⟨J, h1, h2⟩ := dw_keys (K := K) (cl := cl) i
  exact ⟨Itk, fun σ H R a kvs ob e h q => ⟨.ref a, e, a, ob, kvs, rfl, h, q⟩, (by
    intro Lk G a ob ks ws ds l l2 st
    intro G2 H2 F g s rl i
    obtain ⟨hH, _⟩ := st.at g s
    have hl : (ks.zip ws).length = ks.length := by rw [List.length_zip]; omega
    refine ⟨fun d hd => ?_, fun h => ⟨hH, by rw [hl]; simpa [itK] using h⟩⟩
    rw [itK, List.getElem?_map] at hd
    cases z : ks[i]? with
    | none => rw [z] at hd; cases hd
    | some k =>
      rw [z] at hd
      have hd : kD k = d := Option.some.inj hd
      have hi : i < ks.length := (List.getElem?_eq_some_iff.mp z).1
      refine ⟨⟨hH, by rw [hl]; exact hi⟩, fun x H' y => ?_⟩
      obtain ⟨rfl, k', v, hk, rfl⟩ := y
      obtain ⟨h1, h2⟩ := List.getElem?_zip_eq_some.mp hk
      rw [z] at h1
      cases h1
      refine ⟨Same.refl _, ?_⟩
      rw [← hd]
      exact r_key)⟩
theorem dw_items (i : Nat) : DW K cl (iItems (tVar i)) i pairD := ⟨Iti, fun σ H R a kvs ob e h q => ⟨.ref a, e, a, ob, kvs, rfl, h, q⟩, fun Lk G a ob ks ws ds l l2 st => fun {G2 H2 F} g s rl i => by
  obtain ⟨hH, hu⟩ := st.at g s
  obtain ⟨a', ws2, F0, F1, ea, ok, r, c, rfl⟩ := R.n_inv rl
  cases ea
  obtain ⟨l3, rd, _⟩ := ok
  have e1 := hu _ rd
  have e2 : ks.zip ws2 = ks.zip ws := e1
  have e3 : ws2 = ws := zip_inj l3 l e2
  subst e3
  have hl : (ks.zip ws2).length = ks.length := by rw [List.length_zip]; omega
  refine ⟨fun d hd => ?_, fun h => ⟨hH, by rw [hl]; have : (pairD ks ds).length = ks.length := by simp [pairD]; omega
                                           omega⟩⟩
  rw [pairD, List.getElem?_map] at hd
  cases z : (ks.zip ds)[i]? with
  | none => rw [z] at hd; cases hd
  | some p =>
    rw [z] at hd
    have hd : D.n (.tup false) [kD p.1, p.2] = d := Option.some.inj hd
    obtain ⟨g1, g2⟩ := List.getElem?_zip_eq_some.mp z
    have hi : i < ks.length := (List.getElem?_eq_some_iff.mp g1).1
    refine ⟨⟨hH, by rw [hl]; exact hi⟩, fun x H' y => ?_⟩
    obtain ⟨T, k', v, hk, rfl, hT, rfl⟩ := y
    obtain ⟨h1, h2⟩ := List.getElem?_zip_eq_some.mp hk
    rw [g1] at h1
    cases h1
    obtain ⟨w, hw, rw'⟩ := item_get (k := .dct false ks) r (.inl (c rfl)) g2
    rw [h2] at hw
    cases hw
    refine ⟨same_upd hT, ?_⟩
    rw [← hd]
    exact r_pair r_key rw' hT⟩
def fDct (i : Nat) (it : List Key → List D → List D) : En → Option (List D) := fun ρ => (ρ.getD i none).bind fun d => match d with
  | .n (.dct false ks) ds => if ks.length = ds.length then some (it ks ds) else none
  | _ => none
theorem fDct_inv {it : List Key → List D → List D} {items : List D} (e : fDct i it ρ = some items) : ∃ ks ds, ρ[i]? = some (some (.n (.dct false ks) ds)) ∧ ks.length = ds.length ∧ items = it ks ds := by
  unfold fDct at e
  cases z : ρ.getD i none with
  | none => rw [z] at e; cases e
  | some d =>
    rw [z] at e
    simp only [Option.bind_some] at e
    split at e
    · split at e
      · rename_i hl
        cases e
        exact ⟨_, _, getD_some z, hl, rfl⟩
      · cases e
    · cases e
theorem dct_open {ks : List Key} (s : Sub Lk G H) (r : RE K cl G H ρ σ F) (e : ρ[i]? = some (some (.n (.dct false ks) ds))) : ∃ a ws, σ[i]? = some (some (.ref a)) ∧ ks.length = ws.length ∧ R K cl G H (.ref a) (.n (.dct false ks) ds) [] ∧
    ((Lk.lookup a = none ∧ H a = some (.dK (ks.zip ws)) ∧ G a = some (.dK (ks.zip ws))) ∨ ∃ ob, H a = some (.frz ob (.dK (ks.zip ws))) ∧ Stands Lk G a ob (ks.zip ws)) := by
  obtain ⟨v, B, ev, r0, _⟩ := r.get e
  have hB : B = [] := R.free r0 rfl
  subst hB
  obtain ⟨a, ws, F0, F3, rfl, ok, rl, c, _⟩ := R.n_inv r0
  obtain ⟨l, rd, _⟩ := ok
  refine ⟨a, ws, ev, l, r0, ?_⟩
  rcases rd with hg | ⟨ob, hg⟩
  · rcases s.at_ a _ hg with ⟨hn, hH⟩ | ⟨ob, hl, _, hH⟩
    · exact .inl ⟨hn, hH, hg⟩
    · exact .inr ⟨ob, hH, .inl hl⟩
  · exact .inr ⟨ob, s.oth hg (fun _ z => nomatch z), .inr hg⟩
/-! the readings: locked here, or locked already -/
def tLk (t : TS) : TS := fun D σ H => tLock t D σ H ∨ t D σ H
def tLkE (t : TE) : TE := fun σ H Q => tLockE t σ H Q ∨ t σ H Q
theorem ps_lk {X : Cx} {st : Stmt} {t : TS} (h : PS X st t) : PS X st (tLk t) := ⟨fun pins s σ H D I q => q.elim ((ps_lock h).run pins s σ H D I) (h.run pins s σ H D I)⟩
theorem pe_lk {X : Cx} {e : Expr} {t : TE} (h : PE X e t) : PE X e (tLkE t) := ⟨fun pins s σ H Q I q => q.elim ((pe_lock h).run pins s σ H Q I) (h.run pins s σ H Q I)⟩
theorem notat {b : Addr} {kvs : List (Key × V)} (own : ∀ b ∈ F, G b = none ∧ ∃ o, H b = some o) (hg : G a = some (.dK kvs)) : ∀ b ∈ F, b ≠ a := fun b m e => by
  have := (own b m).1
  rw [e, hg] at this; cases this
theorem Sx.lock {kvs : List (Key × V)} {ob : Obj} (sx : Sx K cl Lk E pv ρ σ τ H G F1 F2) (hn : Lk.lookup a = none) (hH : H a = some (.dK kvs)) (hg : G a = some (.dK kvs)) : Sx K cl ((a, (ob, .dK kvs)) :: Lk) G pv ρ σ τ (upd H a (.frz ob (.dK kvs))) G F1 F2 :=
  ⟨Same.refl _, sx.cfe, sx.sub.lock hn hg, sx.slots.keep (keep_lock hH (notat (b := a) sx.slots.own hg)) (Same.refl G) fun b m => (sx.slots.own b m).1, sx.tmp.keep (keep_lock hH (notat (b := a) sx.tmp.own hg)) (Same.refl G) fun b m => (sx.tmp.own b m).1, sx.nd, sx.pin⟩
theorem Sta.unlock {kvs : List (Key × V)} {ob : Obj} (st : Sta K cl ((a, (ob, .dK kvs)) :: Lk) E pv ρ σ τ H) (hn : Lk.lookup a = none) : H a = some (.frz ob (.dK kvs)) ∧ Sta K cl Lk E pv ρ σ τ (upd H a (.dK kvs)) := by
  obtain ⟨G, F1, F2, sx⟩ := st
  have hl : List.lookup a ((a, (ob, HO.dK kvs)) :: Lk) = some (ob, .dK kvs) := by simp [List.lookup]
  obtain ⟨hH, hg⟩ := rd_dk sx.sub hl
  have lk : ∀ b, b ≠ a → List.lookup b ((a, (ob, HO.dK kvs)) :: Lk) = Lk.lookup b := fun b hb => by
    have : (b == a) = false := by simpa using hb
    simp [List.lookup, this]
  refine ⟨hH, G, F1, F2, sx.ent, sx.cfe, ⟨fun b u e => ?_, fun b p e => ?_⟩, sx.slots.keep (keep_unlock hH (notat (b := a) sx.slots.own hg)) (Same.refl G) fun b m => (sx.slots.own b m).1, sx.tmp.keep (keep_unlock hH (notat (b := a) sx.tmp.own hg)) (Same.refl G) fun b m => (sx.tmp.own b m).1, sx.nd, sx.pin⟩
  · by_cases hb : b = a
    · subst hb
      rw [hg] at e
      cases e
      exact .inl ⟨hn, upd_same⟩
    · rw [upd_ne hb]
      have := sx.sub.at_ b u e
      rw [lk b hb] at this
      exact this
  · have hb : b ≠ a := fun z => by rw [z, hn] at e; cases e
    rw [← lk b hb] at e
    exact sx.sub.lku b p e
/-- a loop over a locked dict does not raise -/
def fNoRs (f : En → Option Out) : En → Option Out := fun ρ => (f ρ).bind fun o => if noRs o then some o else none
theorem fNoRs_inv {oo : Out} (e : fNoRs f ρ = some oo) : f ρ = some oo ∧ noRs oo = true := by
  unfold fNoRs at e
  cases z : f ρ with
  | none => rw [z] at e; cases e
  | some o =>
    rw [z] at e
    simp only [Option.bind_some] at e
    split at e
    · rename_i h
      cases e
      exact ⟨rfl, h⟩
    · cases e
/-- for .. in d, d.items(), d.keys() -/
theorem s_forD {wi : TI} {it : List Key → List D → List D} {gt : TG} {t : TS} {h : D → En → Option En} (dw : DW K cl wi i it) (hg : SG K cl P gt h) (hb : SE K cl P W t f) : SE K cl P W (tLk (tFor wi gt t)) (fNoRs (sFor (fDct i it) h f)) := ⟨fun {Lk E pv ρ σ τ H oo N} hp st e q => by
  obtain ⟨e, hrs⟩ := fNoRs_inv e
  unfold sFor at e
  cases z : fDct i it ρ with
  | none => rw [z] at e; cases e
  | some items =>
    rw [z] at e
    obtain ⟨ks, ds, e1, l2, rfl⟩ := fDct_inv z
    obtain ⟨J, j1, j2⟩ := dw
    obtain ⟨G, F1, F2, sx⟩ := id st
    obtain ⟨a, ws, ev, l, r0, hc⟩ := dct_open sx.sub sx.slots e1
    rcases hc with ⟨hn, hH, hg0⟩ | ⟨ob, hH, hs⟩
    · refine .inl ⟨a, .dK (ks.zip ws), hH, trivial, fun od => j1 _ _ _ a (ks.zip ws) od ev upd_same ?_⟩
      have sx2 := sx.lock (ob := od) hn hH hg0
      have r2 : R K cl G (upd H a (.frz od (.dK (ks.zip ws)))) (.ref a) (.n (.dct false ks) ds) [] := RL.keep r0 (keep_lock hH fun _ m => nomatch m) (Same.refl G) fun _ m => nomatch m
      have st2 : Sta K cl ((a, (od, .dK (ks.zip ws))) :: Lk) G pv ρ σ ([(.ref a, .n (.dct false ks) ds)] ++ τ) (upd H a (.frz od (.dK (ks.zip ws)))) := sx2.push (F := []) (Same.refl _) r2 ⟨(fun _ z => nomatch z), List.nodup_nil⟩
      have hl : List.lookup a ((a, (od, HO.dK (ks.zip ws))) :: Lk) = some (od, .dK (ks.zip ws)) := by simp [List.lookup]
      refine for_core hg hb hp st2 (j2 _ G a od ks ws ds l l2 (.inl hl)) e ?_
      have q := q.weak sx.ent
      cases oo with
      | nx ρ => exact fun σ' H' s => ⟨(s.unlock hn).1, q σ' _ (s.unlock hn).2⟩
      | rt d ρ => exact fun v σ' H' s => ⟨(s.unlock hn).1, q v σ' _ (s.unlock hn).2⟩
      | bk ρ => exact fun σ' H' s => ⟨(s.unlock hn).1, q σ' _ (s.unlock hn).2⟩
      | ct ρ => exact fun σ' H' s => ⟨(s.unlock hn).1, q σ' _ (s.unlock hn).2⟩
      | rs c p ρ =>
        cases hrs
    · refine .inr (j1 _ _ _ a (ks.zip ws) ob ev hH ?_)
      have st2 : Sta K cl Lk G pv ρ σ ([(.ref a, .n (.dct false ks) ds)] ++ τ) H := Sx.push (E := G) ⟨Same.refl _, sx.cfe, sx.sub, sx.slots, sx.tmp, sx.nd, sx.pin⟩ (F := []) (Same.refl _) r0 ⟨(fun _ z => nomatch z), List.nodup_nil⟩
      exact for_core hg hb hp st2 (j2 _ G a ob ks ws ds l l2 hs) e (q.weak sx.ent)⟩
/-- [.. for .. in d ..] -/
theorem e_lcD {wi : TI} {it : List Key → List D → List D} {gt : TG} {h : D → En → Option En} {tt : TT} {c : En → Option Bool} {vs : List Nat} (dw : DW K cl wi i it) (hg : GX K cl vs gt h) (hc : ET K cl tt c) (he : EX K cl .fre te fe) : EX K cl .fre (tLkE (tLc wi gt tt te vs)) (fLc (fDct i it) h c fe vs) := ⟨fun {Lk G H ρ σ d F Q} s r e q => by
  unfold fLc at e
  cases z : fDct i it ρ with
  | none => rw [z] at e; cases e
  | some items =>
    rw [z] at e
    simp only [Option.bind_some] at e
    cases z2 : lcL h c fe (fWipe ρ vs) items with
    | none => rw [z2] at e; cases e
    | some xs =>
      rw [z2] at e
      simp only [Option.bind_some] at e
      split at e
      · rename_i hz
        cases e
        obtain ⟨ks, ds, e1, l2, rfl⟩ := fDct_inv z
        obtain ⟨J, j1, j2⟩ := dw
        obtain ⟨a, ws, ev, l, r0, hcs⟩ := dct_open s r e1
        rcases hcs with ⟨hn, hH, hg0⟩ | ⟨ob, hH, hs⟩
        · refine .inl ⟨a, .dK (ks.zip ws), hH, trivial, fun od => j1 _ _ _ a (ks.zip ws) od ev upd_same ?_⟩
          have s2 := s.lock (ob := od) hn hg0
          have r2 : RE K cl G (upd H a (.frz od (.dK (ks.zip ws)))) ρ σ F := r.keep (keep_lock hH (notat (b := a) r.own hg0)) (Same.refl G) fun b m => (r.own b m).1
          have rd : RL K cl G (upd H a (.frz od (.dK (ks.zip ws)))) [.ref a] [.n (.dct false ks) ds] [] := RL.keep r0 (keep_lock hH fun _ m => nomatch m) (Same.refl G) fun _ m => nomatch m
          have hl : List.lookup a ((a, (od, HO.dK (ks.zip ws))) :: Lk) = some (od, .dK (ks.zip ws)) := by simp [List.lookup]
          refine fun D hD => lc_tail (hv := [(.ref a, .n (.dct false ks) ds)]) (Q := fun v H' => H' a = some (.frz od (.dK (ks.zip ws))) ∧ Q v (upd H' a (.dK (ks.zip ws)))) hg hc he s2 r2 (Same.refl _) rd (j2 _ G a od ks ws ds l l2 (.inl hl)) z2 hz (fun v H' F' sm rv mm => ?_) hD
          have hH' : H' a = some (.frz od (.dK (ks.zip ws))) := sm _ _ upd_same
          have hF' : ∀ b ∈ F', b ≠ a := fun b m e => by
            have := mm.1 b m
            rw [e, upd_same] at this; cases this
          refine ⟨hH', q v _ F' (fun b o e => ?_) (RL.keep rv (keep_unlock hH' hF') (Same.refl G) fun b m => (RL.own rv b m).1) ⟨fun b m => ?_, mm.2⟩⟩
          · by_cases hb : b = a
            · subst hb
              rw [hH] at e
              cases e
              exact upd_same
            · rw [upd_ne hb]
              exact sm b o (by rw [upd_ne hb]; exact e)
          · have := mm.1 b m
            rw [upd_ne (hF' b m)] at this
            exact this
        · refine .inr (j1 _ _ _ a (ks.zip ws) ob ev hH ?_)
          exact fun D hD => lc_tail (hv := [(.ref a, .n (.dct false ks) ds)]) hg hc he s r (Same.refl _) r0 (j2 _ G a ob ks ws ds l l2 hs) z2 hz q hD
      · cases e⟩
end
end DL

set_option Elab.async false
set_option linter.all false
set_option maxRecDepth 100000
set_option maxHeartbeats 4000000
/-! DL12: chains, ranges as lists, break and continue -/
namespace DL
open PySem PySem.Spec L2
open PyProof.Rows hiding St
section
variable {K : PySem.W.Frag} {cl : Cf} {Lk : Lks} {E : Hp} {pv : List (Nat × V)} {ρ ρ' ρ1 : En} {σ : St} {τ : Tm} {G G' H H' : Hp} {v : V} {d : D} {vs ws : List V} {ds : List D} {F : List Addr} {i : Nat} {k : Kd} {a : Addr}
variable {m m1 m2 m3 : Md} {ta tb tc te t : TE} {fa fb fc fe : En → Option D} {P : List Nat} {W : WX} {f g : En → Option Out} {r r' : R2} {gg hh : D → D → Option D}
theorem e_chain (ha : EX K cl m1 ta fa) (hb : EX K cl m2 tb fb) (hc : EX K cl m3 tc fc) (hr : V2 K cl m r gg) (hr' : V2 K cl .shr r' hh) : EX K cl .shr (tChain r r' ta tb tc) (fChain gg hh fa fb fc) := ⟨fun {Lk G H ρ σ d F Q} s rr e q => by
  unfold fChain at e
  cases z : fa ρ with
  | none => rw [z] at e; cases e
  | some d0 =>
    rw [z] at e
    cases z2 : fb ρ with
    | none => rw [z2] at e; cases e
    | some d1 =>
      rw [z2] at e
      simp only [Option.bind_some] at e
      cases z3 : gg d0 d1 with
      | none => rw [z3] at e; cases e
      | some d2 =>
        rw [z3] at e
        simp only [Option.bind_some] at e
        refine ha.run s rr z fun x H1 F1 s1 r1 _ => ?_
        refine hb.run (s.same s1) (rr.same s1) z2 fun y H2 F2 s2 r2 _ => ?_
        refine hr ((s.same s1).same s2) (RL.same r1 s2) r2 z3 fun v3 H3 F3 s3 r3 _ => ?_
        have s03 := (s1.trans s2).trans s3
        split at e
        · obtain ⟨rfl, _⟩ := R.v_inv r3
          refine ⟨true, rfl, ?_⟩
          rw [if_pos rfl]
          cases z4 : fc ρ with
          | none => rw [z4] at e; cases e
          | some d4 =>
            rw [z4] at e
            refine hc.run (s.same s03) (rr.same s03) z4 fun w H4 F4 s4 r4 _ => ?_
            exact hr' ((s.same s03).same s4) ((RL.same r2 s3).same s4) r4 e fun v' H' F' s' r' m' => q v' H' F' ((s03.trans s4).trans s') r' m'
        · obtain ⟨rfl, _⟩ := R.v_inv r3
          cases e
          refine ⟨false, rfl, ?_⟩
          rw [if_neg (by decide)]
          exact q _ H3 [] s03 R.sc rfl
        · cases e⟩
theorem rng_eq (x y : Int) : (rgV x y).map (fun v => v) = rgV x y := List.map_id' _
theorem rl_rng : ∀ (n : Nat) (x : Int), RL K cl G H ((List.range n).map fun (j : Nat) => V.int (x + (j : Nat))) ((List.range n).map fun (j : Nat) => D.v (.int (x + (j : Nat)))) [] := fun n x => by
  generalize List.range n = l
  induction l with
  | nil => exact .nil
  | cons j l ih => exact .sc ih
theorem e_listR {tr : St → Hp → (Int → Int → Hp → Prop) → Prop} {rr : En → Option (Int × Int)} (h : ER K cl tr rr) : EX K cl .fre (tLstRg tr) (fLstR rr) := ⟨fun {Lk G H ρ σ d F Q} s re e q => by
  unfold fLstR at e
  cases z : rr ρ with
  | none => rw [z] at e; cases e
  | some p =>
    rw [z] at e
    simp only [Option.bind_some] at e
    split at e
    · rename_i hb
      cases e
      rw [Bool.and_eq_true, Bool.and_eq_true] at hb
      refine h.run s re z fun H1 s1 => ?_
      obtain ⟨b1, b2⟩ := inBd_ok hb.1
      obtain ⟨b3, b4⟩ := inBd_ok hb.2.1
      have b5 := of_decide_eq_true hb.2.2
      refine ⟨⟨by omega, by omega, by omega, by omega, by omega⟩, fun a ha => ?_⟩
      have hk : RL K cl G H1 (rgV p.1 p.2) (rngD p.1 (p.2 - p.1).toNat) [] := rl_rng _ _
      exact q (.ref a) _ [a] (s1.trans (same_upd ha)) (r_newlst (s.same s1) hk ha) (fre_one (Same.free s1 ha) (Same.refl _))
    · cases e⟩
def sBrk : En → Option Out := fun ρ => some (.bk ρ)
def sCnt : En → Option Out := fun ρ => some (.ct ρ)
theorem s_brk : SE K cl P W tBreak sBrk := ⟨fun {Lk E pv ρ σ τ H oo N} hp st e q => by cases e; exact q σ H st⟩
theorem s_cnt : SE K cl P W tCont sCnt := ⟨fun {Lk E pv ρ σ τ H oo N} hp st e q => by cases e; exact q σ H st⟩
end
end DL

set_option Elab.async false
set_option linter.all false
set_option maxRecDepth 100000
set_option maxHeartbeats 4000000
/-! DL13: loops over what a slot holds, which stays as it is meanwhile -/
namespace DL
open PySem PySem.Spec L2
open PyProof.Rows hiding St
section
variable {K : PySem.W.Frag} {cl : Cf} {Lk : Lks} {E : Hp} {pv : List (Nat × V)} {ρ ρ' ρ1 : En} {σ : St} {τ : Tm} {G G' H H' : Hp} {v : V} {d : D} {vs ws : List V} {ds : List D} {F : List Addr} {i : Nat} {k : Kd} {a : Addr}
variable {m m1 m2 m3 : Md} {te t : TE} {fe : En → Option D} {P : List Nat} {W : WX} {f g : En → Option Out}
variable (K cl) in
def LW (wi : TI) (i : Nat) (src : En → Option (List D)) : Prop := ∀ {Lk : Lks} {G H : Hp} {ρ : En} {σ : St} {items : List D} {F : List Addr} {R : It → Hp → Prop}, Sub Lk G H → RE K cl G H ρ σ F → src ρ = some items →
  (∀ J v d, σ[i]? = some (some v) → ρ[i]? = some (some d) → Yl K cl Lk G J [(v, d)] items → R J H) → wi σ H R
theorem lw_seq (i : Nat) : LW K cl (iSeq K (tVar i)) i (fItems (fVar i)) := fun {Lk G H ρ σ items F RR} s r e q => by
  have e0 := e
  unfold fItems fVar at e
  cases z : ρ.getD i none with
  | none => rw [z] at e; cases e
  | some d =>
    rw [z] at e
    have e : itemsOf d = some items := e
    obtain ⟨v, B, ev, r', _⟩ := r.get (getD_some z)
    cases d with
    | v x => cases e
    | g => cases e
    | n k ds =>
      obtain ⟨a, ws, F0, F1, rfl, ok, rl, c, rfl⟩ := R.n_inv r'
      obtain ⟨hi, cc, qq⟩ := node_seq s ok c e
      refine ⟨_, ev, a, rfl, ?_⟩
      rcases qq with ⟨hk, hs⟩ | ⟨b, hk, hs⟩
      · exact .inl ⟨⟨ws, hs⟩, q (Itl K a) _ _ ev (getD_some z) (yl_list e hk)⟩
      · exact .inr ⟨⟨ws, hs⟩, q (Itt K a) _ _ ev (getD_some z) (yl_tup e hk)⟩
theorem lw_enum (i : Nat) : LW K cl (iEnum K (tCons (tVar i) tNil)) i (fEnum (fCons (fVar i) fNil)) := fun {Lk G H ρ σ items F RR} s r e q => by
  cases z : ρ.getD i none with
  | none => unfold fEnum fCons fVar at e; rw [z] at e; cases e
  | some d =>
    obtain ⟨v, B, ev, r', _⟩ := r.get (getD_some z)
    unfold fEnum fCons fVar fNil at e
    rw [z] at e
    have e : (lstItems d).map enumD = some items := e
    cases z2 : lstItems d with
    | none => rw [z2] at e; cases e
    | some its =>
      rw [z2] at e
      cases e
      obtain ⟨b, ds, rfl, e2⟩ := lstItems_inv z2
      obtain ⟨a, ws, F0, F1, rfl, ok, rl, c, rfl⟩ := R.n_inv r'
      have hs : ∀ {Lk G2 H2 ws F0 F1}, Sub Lk G2 H2 → Kd.ok K cl G2 H2 (.lst b) a ws F0 → ((Kd.lst b).ow = false → F1 = []) → its = ds ∧ (F1 = [] ∨ anyOw ds = false) ∧ SqL K H2 a ws := fun {Lk G2 H2 ws F0 F1} s2 ok2 c2 => by
        obtain ⟨x, y, zz⟩ := node_seq s2 ok2 c2 e2
        rcases zz with ⟨_, zz⟩ | ⟨_, zz, _⟩
        · exact ⟨x, y, zz⟩
        · cases zz
      refine ⟨.ref a, ev, a, ws, rfl, (hs s ok c).2.2, q (Ite K a) (.ref a) (.n (.lst b) ds) ev (getD_some z) ?_⟩
      intro G2 H2 F2 _ s2 rl2 i
      obtain ⟨a', ws2, F02, F12, ea, ok2, r2, c2, rfl⟩ := R.n_inv rl2
      cases ea
      obtain ⟨rfl, cc, hq⟩ := hs s2 ok2 c2
      have hl : (enumD its).length = its.length := by simp [enumD]
      refine ⟨fun d hd => ?_, fun hl2 => ⟨ws2, hq, by rw [r2.len]; rw [hl] at hl2; exact hl2⟩⟩
      have hi : i < its.length := by rw [← hl]; exact (List.getElem?_eq_some_iff.mp hd).1
      obtain ⟨w, hw, rw'⟩ := item_get (k := .lst b) r2 cc (List.getElem?_eq_getElem hi)
      refine ⟨⟨ws2, w, hq, hw⟩, fun x H3 y => ?_⟩
      obtain ⟨T, x2, rfl, hT, rfl, hx⟩ := y
      have := hx _ hq
      rw [hw] at this
      cases this
      have hd2 : d = .n (.tup false) [dI i, its[i]] := by
        rw [enumD, List.getElem?_map, List.getElem?_range hi] at hd
        have := (Option.some.inj hd).symm
        rw [this]
        show D.n (Kd.tup false) [dI i, its.getD i (.v .non)] = _
        rw [List.getD_eq_getElem?_getD, List.getElem?_eq_getElem hi]
        rfl
      subst hd2
      exact ⟨same_upd hT, r_pair R.sc rw' hT⟩
open Classical in
noncomputable def sForSL (i : Nat) (d0 : Option D) (h : D → En → Option En) (b : En → Option Out) : List D → En → Option Out
  | [], ρ => if ρ.getD i none = d0 then some (.nx ρ) else none
  | d :: ds, ρ => if ρ.getD i none = d0 then ((h d ρ).bind fun ρ1 => (b ρ1).bind fun o => match o with
      | .nx ρ' => sForSL i d0 h b ds ρ'
      | .ct ρ' => sForSL i d0 h b ds ρ'
      | .bk ρ' => some (.nx ρ')
      | .rt d ρ' => some (.rt d ρ')
      | .rs c p ρ' => some (.rs c p ρ')) else none
noncomputable def sForS (i : Nat) (src : En → Option (List D)) (h : D → En → Option En) (b : En → Option Out) : En → Option Out := fun ρ => (src ρ).bind fun items => sForSL i (ρ.getD i none) h b items ρ
theorem Sta.unpin {p : Nat × V} (st : Sta K cl Lk E (p :: pv) ρ σ τ H) : Sta K cl Lk E pv ρ σ τ H := by
  obtain ⟨G, F1, F2, sx⟩ := st
  exact ⟨G, F1, F2, sx.ent, sx.cfe, sx.sub, sx.slots, sx.tmp, sx.nd, fun q m => sx.pin q (List.mem_cons_of_mem _ m)⟩
theorem s_forS {wi : TI} {src : En → Option (List D)} {gt : TG} {t : TS} {h : D → En → Option En} (lw : LW K cl wi i src) (hg : SG K cl (i :: P) gt h) (hb : SE K cl (i :: P) W t f) : SE K cl P W (tFor wi gt t) (sForS i src h f) := ⟨fun {Lk E pv ρ σ τ H oo N} hp st e q => by
  unfold sForS at e
  cases z : src ρ with
  | none => rw [z] at e; cases e
  | some items =>
    rw [z] at e
    simp only [Option.bind_some] at e
    obtain ⟨G, F1, F2, sx⟩ := id st
    refine lw sx.sub sx.slots z fun J v0 d0 ev ed y => ?_
    have q := q.weak sx.ent
    have st0 : Sta K cl Lk G ((i, v0) :: pv) ρ σ τ H := ⟨G, F1, F2, Same.refl _, sx.cfe, sx.sub, sx.slots, sx.tmp, sx.nd, fun p m => by
      rcases List.mem_cons.mp m with rfl | m
      · exact ev
      · exact sx.pin p m⟩
    have ed' : ρ.getD i none = some d0 := by
      rw [List.getD_eq_getElem?_getD, ed]; rfl
    rw [ed'] at e
    have hp' : ((i, v0) :: pv).map (·.1) = i :: P := by rw [List.map_cons, hp]
    refine ⟨fun j m σ H => j + m = items.length ∧ ∃ ρ o, Sta K cl Lk G ((i, v0) :: pv) ρ σ τ H ∧ sForSL i (some d0) h f (items.drop j) ρ = some o ∧ EndsOk K cl W Lk G pv τ N o, ⟨items.length, by omega, ρ, oo, st0, by simpa using e, q⟩, fun j m σ H w => ?_⟩
    obtain ⟨im, ρ, o, st, e, q⟩ := w
    obtain ⟨G2, F1, F2, sx⟩ := id st
    have fix : ρ.getD i none = some d0 → (∀ d, items[j]? = some d → J.go j H ∧ ∀ x H', J.yld j H x H' → Same H H' ∧ R K cl G2 H' x d []) ∧ (items.length ≤ j → J.stop j H) := fun c => by
      obtain ⟨v', B, e1, r, _⟩ := sx.slots.get (getD_some c)
      have e2 := sx.pin (i, v0) List.mem_cons_self
      rw [e1] at e2
      cases e2
      exact y sx.ent sx.sub r j
    by_cases hi : j < items.length
    · have hd : items[j]? = some items[j] := List.getElem?_eq_getElem hi
      rw [List.drop_eq_getElem_cons hi] at e
      unfold sForSL at e
      split at e
      · rename_i c
        obtain ⟨go, yl⟩ := (fix c).1 _ hd
        cases z : h items[j] ρ with
        | none => rw [z] at e; cases e
        | some ρ1 =>
          rw [z] at e
          simp only [Option.bind_some] at e
          cases z2 : f ρ1 with
          | none => rw [z2] at e; cases e
          | some o1 =>
            rw [z2] at e
            simp only [Option.bind_some] at e
            refine .inr ⟨go, fun σ' H' => ∃ ρ o, Sta K cl Lk G ((i, v0) :: pv) ρ σ' τ H' ∧ sForSL i (some d0) h f (items.drop (j + 1)) ρ = some o ∧ EndsOk K cl W Lk G pv τ N o, fun σ' H' w => ⟨m - 1, by omega, by omega, w⟩, fun x H' hy => ?_⟩
            obtain ⟨s', r'⟩ := yl x H' hy
            have st' := sx.push s' r' ⟨(fun _ z => nomatch z), List.nodup_nil⟩
            refine hg.run hp' st' z fun σ2 H2 st2 => hb.run hp' st2 z2 ?_
            cases o1 with
            | nx ρ1 => exact fun σ' H' s => ⟨ρ1, o, s, e, q⟩
            | ct ρ1 => exact fun σ' H' s => ⟨ρ1, o, s, e, q⟩
            | bk ρ1 => cases e; exact fun σ' H' s => q σ' H' s.unpin
            | rt d ρ1 => cases e; exact fun v σ' H' s => q v σ' H' s.unpin
            | rs c p ρ1 =>
              cases e
              cases p with
              | none => exact fun C σ' H' c s => q C σ' H' c s.unpin
              | some p => exact fun C dx v σ' H' c x s => q C dx v σ' H' c x s.unpin
      · cases e
    · have : items.drop j = [] := List.drop_eq_nil_of_le (by omega)
      rw [this] at e
      unfold sForSL at e
      split at e
      · rename_i c
        cases e
        exact .inl ⟨(fix c).2 (by omega), q σ H st.unpin⟩
      · cases e⟩
end
end DL

set_option Elab.async false
set_option linter.all false
set_option maxRecDepth 100000
set_option maxHeartbeats 4000000
/-! DL14: defs that are called, by name; isinstance of built-in types -/
namespace DL
open PySem PySem.Spec L2
open PyProof.Rows hiding St
/-- the class names that are raised -/
def cls (EN : List Str) (mg : Str → Option Value) : Str → Addr → Prop := fun cn C => cn ∈ EN ∧ mg cn = some (.ref C)
/-- a def that stands under its name and keeps its promise -/
structure Fk (P : Program) (w : World) (K : PySem.W.Frag) (mg : Str → Option Value) (base : Heap) (CX : CXT) (k : Nat) (x : Str) (ps : List Str) (sp : Sp) : Prop where
  ex : ∃ f fd, mg x = some (.ref f) ∧ PySem.W.keepIn K (.ref f) = true ∧ Binds K fd ps [] ∧ FnOk P w K mg base CX k f fd ps sp
section
variable {X : Cx} {CX : CXT} {j k : Nat} {x : Str} {ps : List Str} {sp : Sp} {e : Expr} {es : List Expr} {t : TA} {p pos : Pos} {W : WX} {E : XK}
theorem pe_fk (c : Fk X.prog X.w X.K X.mg X.base CX k x ps sp) (hr : Room j X.A) (hk : k ≤ j) (hg : Gl X x) (hx : Passes CX X E) (ha : PA X (e :: es) t) (hdb : (x == ("__debug__" : Str)) = false := by decide)
    (he : starEach (e :: es) X.env = (false, eval e X.env) :: starEach es X.env := by rfl) (hpl : (backTo pos (starEach es X.env)).any (·.1) = false := by rfl) : PE X (.Call (.Name x p) (e :: es) [] pos) (tCall sp [] E t) := by
  obtain ⟨f, fd, hm, kp, b, F⟩ := c.ex
  exact pe_call F (hr.mono hk) hg hm kp b .nil hx ha hdb he hpl
theorem pe_fk0 (c : Fk X.prog X.w X.K X.mg X.base CX k x ps sp) (hr : Room j X.A) (hk : k ≤ j) (hg : Gl X x) (hx : Passes CX X E) (hdb : (x == ("__debug__" : Str)) = false := by decide) : PE X (.Call (.Name x p) [] [] pos) (tCall sp [] E tNil) := by
  obtain ⟨f, fd, hm, kp, b, F⟩ := c.ex
  exact pe_call0 F (hr.mono hk) hg hm kp b .nil hx hdb
theorem pe_fkS (c : Fk X.prog X.w X.K X.mg X.base (L2.CX X.prog X.w) k x ps sp) (hr : Room j X.A) (hk : k ≤ j) (hg : Gl X x) (tk : Takes X W) (ha : PA X (e :: es) t) (hdb : (x == ("__debug__" : Str)) = false := by decide)
    (he : starEach (e :: es) X.env = (false, eval e X.env) :: starEach es X.env := by rfl) (hpl : (backTo pos (starEach es X.env)).any (·.1) = false := by rfl) : PE X (.Call (.Name x p) (e :: es) [] pos) (tCallS sp (WE W) t) := by
  obtain ⟨f, fd, hm, kp, b, F⟩ := c.ex
  exact pe_callS F (hr.mono hk) hg hm kp b (fun σ => passAt tk σ) ha hdb he hpl
end
section
variable {K : PySem.W.Frag} {cl : Cf} {m : Md} {te : TE} {fe : En → Option D}
/-- isinstance(x, T), T built in; of exceptions isE tells -/
theorem x_isTE (T : String) {isE : Str → Option Bool} (hE : ∀ cn b C, isE cn = some b → cl.c cn C → ExcC K C ∧ PySem.W.kitOne K (.ref C) (.type T) = some b) (h : EX K cl m te fe) :
    EX K cl .shr (tCB (rIsA K) (tCons te (tCons (tC (.ty T)) tNil))) (fIs (fun n => kitB n T) isE fe) := v_is (.ty T) (fun u r => r) (fun n b h => kit_ty h) hE h
def noE : Str → Option Bool := fun _ => none
theorem x_isT (T : String) (h : EX K cl m te fe) : EX K cl .shr (tCB (rIsA K) (tCons te (tCons (tC (.ty T)) tNil))) (fIs (fun n => kitB n T) noE fe) := x_isTE T (fun _ _ _ e => by cases e) h
def noT : String → Option Bool := fun _ => none
theorem x_isC {C : Addr} {isE : Str → Option Bool} (hE : ∀ cn b D, isE cn = some b → cl.c cn D → ExcC K D ∧ PySem.W.kitOne K (.ref D) (.ref C) = some b) (h : EX K cl m te fe) :
    EX K cl .shr (tCB (rIsA K) (tCons te (tCons (tC (.ref C)) tNil))) (fIs noT isE fe) := v_is (.own C) (fun u r => r) (fun _ _ e => by cases e) hE h
end
/-- what does not raise -/
def noX (g : List D → Option Rs) : List D → Option Rs := fun ds => (g ds).bind fun r => match r with | .ret d os => some (.ret d os) | _ => none
theorem noX_inv {g : List D → Option Rs} {ds : List D} {r : Rs} (e : noX g ds = some r) : ∃ d os, r = .ret d os ∧ g ds = some (.ret d os) := by
  unfold noX at e
  cases z : g ds with
  | none => rw [z] at e; cases e
  | some r0 =>
    rw [z] at e
    cases r0 with
    | ret d os => cases e; exact ⟨d, os, rfl, rfl⟩
    | exc c p os => cases e
theorem sp_runN {K : PySem.W.Frag} {c : Str → Addr → Prop} {md : List Bool} {N : List Str} {t : TS} {f : En → Option Out} {vs : List V} {H : Hp} {Q : VK} {EX : XK} (hb : ∀ e, SE K ⟨c, e⟩ (pinIx 0 md) (fun _ _ _ _ => False) t f)
    (s : SpG K c md (noX (fnG md N.length f)) vs H Q EX) : t { nx := fun _ H' => Q .non H', rt := Q } (L2.start N vs) H := by
  obtain ⟨ds, G0, F, r, hl, sm, rl, nd, e, q⟩ := s
  obtain ⟨d, os, rfl, e2⟩ := noX_inv e
  exact sp_run (EX := fun _ _ _ => False) hb ⟨ds, G0, F, _, hl, sm, rl, nd, e2, q⟩
abbrev rLtX : R2 := rI0 fun i j => .bl (decide (i < j))
abbrev rLeX : R2 := rI0 fun i j => .bl (decide (i ≤ j))
abbrev rGtX : R2 := rI0 fun i j => .bl (decide (j < i))
abbrev rGeX : R2 := rI0 fun i j => .bl (decide (j ≤ i))
abbrev rNegX : V → Hp → VK → Prop := rU fun i => .int (-i)
theorem bt_len : bootBuiltins "len" = some (.builtin "len") := by decide +kernel
theorem bt_list : bootBuiltins "list" = some (.type "list") := by decide +kernel
theorem bt_tuple : bootBuiltins "tuple" = some (.type "tuple") := by decide +kernel
theorem bt_int : bootBuiltins "int" = some (.type "int") := by decide +kernel
theorem bt_max : bootBuiltins "max" = some (.builtin "max") := by decide +kernel
theorem bt_min : bootBuiltins "min" = some (.builtin "min") := by decide +kernel
theorem bt_abs : bootBuiltins "abs" = some (.builtin "abs") := by decide +kernel
theorem bt_sorted : bootBuiltins "sorted" = some (.builtin "sorted") := by decide +kernel
theorem bt_range : bootBuiltins "range" = some (.type "range") := by decide +kernel
theorem bt_enumerate : bootBuiltins "enumerate" = some (.type "enumerate") := by decide +kernel
theorem bt_zip : bootBuiltins "zip" = some (.type "zip") := by decide +kernel
theorem bt_reversed : bootBuiltins "reversed" = some (.type "reversed") := by decide +kernel
theorem bt_isinstance : bootBuiltins "isinstance" = some (.builtin "isinstance") := by decide +kernel
theorem bt_bool : bootBuiltins "bool" = some (.type "bool") := by decide +kernel
theorem bt_str : bootBuiltins "str" = some (.type "str") := by decide +kernel
theorem bt_dict : bootBuiltins "dict" = some (.type "dict") := by decide +kernel
theorem bt_ValueError : bootBuiltins "ValueError" = some (.type "ValueError") := by decide +kernel
theorem bt_sum : bootBuiltins "sum" = some (.builtin "sum") := by decide +kernel
theorem kb_int_int : kitB "int" "int" = some true := by kernel_rfl
theorem kb_bool_int : kitB "bool" "int" = some true := by kernel_rfl
theorem kb_str_int : kitB "str" "int" = some false := by kernel_rfl
theorem kb_non_int : kitB "NoneType" "int" = some false := by kernel_rfl
theorem kb_tup_int : kitB "tuple" "int" = some false := by kernel_rfl
theorem kb_lst_int : kitB "list" "int" = some false := by kernel_rfl
theorem kb_int_bool : kitB "int" "bool" = some false := by kernel_rfl
theorem kb_bool_bool : kitB "bool" "bool" = some true := by kernel_rfl
theorem kb_tup_tup : kitB "tuple" "tuple" = some true := by kernel_rfl
theorem kb_lst_tup : kitB "list" "tuple" = some false := by kernel_rfl
theorem kb_int_tup : kitB "int" "tuple" = some false := by kernel_rfl
theorem kb_bool_tup : kitB "bool" "tuple" = some false := by kernel_rfl
theorem kb_str_tup : kitB "str" "tuple" = some false := by kernel_rfl
theorem kb_non_tup : kitB "NoneType" "tuple" = some false := by kernel_rfl
theorem kb_lst_lst : kitB "list" "list" = some true := by kernel_rfl
end DL

set_option Elab.async false
set_option linter.all false
set_option maxRecDepth 100000
set_option maxHeartbeats 4000000
/-! DL15: the law's own promise -/
namespace DL
open PySem PySem.Spec L2
open PyProof.Rows hiding St
section
variable {K : PySem.W.Frag} {c : Str → Addr → Prop} {P : Program} {w : World} {mg : Str → Option Value} {base : Heap} {CX : CXT} {k : Nat} {f : Addr} {fd : FuncData} {x : Str} {g : List D → Option Rs}
/-- of a script of at most 63 ints: True -/
def spLaw (K : PySem.W.Frag) : Sp := fun vs H Q _ => ∃ (a : Addr) (ns : List Int), vs = [.ref a] ∧ SqL K H a (ns.map V.int) ∧ ns.length ≤ 63 ∧ (∀ z ∈ ns, Builtin.Int.intBits z ≤ 1048576) ∧ ∀ H', Q (.bl true) H'
theorem rl_ints2 {cl : Cf} {G H : Hp} : ∀ (ns : List Int), RL K cl G H (ns.map V.int) (ns.map dI) []
  | [] => .nil
  | n :: ns => .sc (rl_ints2 ns)
theorem fn_law (hg : ∀ ns : List Int, ns.length ≤ 63 → (∀ z ∈ ns, Builtin.Int.intBits z ≤ 1048576) → g [.n .scr (ns.map dI)] = some (.ret (.v (.bl true)) [])) (F : FnOk P w K mg base CX k f fd [x] (SpG K c [false] g)) : FnOk P w K mg base CX k f fd [x] (spLaw K) :=
  F.imp fun vs H Q E h => by
    obtain ⟨a, ns, rfl, hS, hl, hb, q⟩ := h
    have r : R K ⟨c, H⟩ H H (.ref a) (.n .scr (ns.map dI)) [] := R.mk (F0 := []) (F1 := []) (k := .scr) ⟨hS, rfl⟩ (rl_ints2 ns) fun _ => rfl
    refine ⟨[.n .scr (ns.map dI)], H, [], _, rfl, Same.refl _, r, List.nodup_nil, hg ns hl hb, ?_⟩
    intro v H' G1 F' _ _ _ rr _
    obtain ⟨v', e, rv⟩ := RL.one rr
    cases e
    obtain ⟨rfl, _⟩ := R.v_inv rv
    exact q H'
/-- a def, as the top has written it -/
structure Dk (K : PySem.W.Frag) (mg : Str → Option Value) (name : Str) (st : Stmt) (f : Addr) (fd : FuncData) : Prop where
  mg : mg name = some (.ref f)
  kp : PySem.W.keepIn K (.ref f) = true
  fn : Fun K name name st f fd
theorem dk {h : Heap} {st : Stmt} {name : Str} {oc : Value} {od an : Option Addr} {osl : Array (Option Value)} {kV doc pm cdv ct : Value} (X : K.In h) (G : h.Ns mainGlobals mg) (a : PySem.W.nsIn K mainGlobals name = some (some (.ref f)))
    (l : K.lookup f = some ⟨oc, od, .func (PySem.W.fnOf name name (defArgs st) (defBody st) (defScope st) .none kV doc pm an cdv ct), osl⟩) (c : PySem.W.codeIn K cdv name = true) (k : PySem.W.keepIn K (.ref f) = true) : Dk K mg name st f (PySem.W.fnOf name name (defArgs st) (defBody st) (defScope st) .none kV doc pm an cdv ct) :=
  ⟨PySem.W.mg_of X G a, k, fun_mk l c k⟩
theorem Dk.fk {name : Str} {st : Stmt} {ps : List Str} {sp : Sp} (d : Dk K mg name st f fd) (b : Binds K fd ps []) (h : FnOk P w K mg base CX k f fd ps sp) : Fk P w K mg base CX k name ps sp := ⟨f, fd, d.mg, d.kp, b, h⟩
theorem kit_self {K : PySem.W.Frag} {C : Addr} : PySem.W.kitOne K (.ref C) (.ref C) = some true := by
  unfold PySem.W.kitOne
  rw [if_pos (by simp)]
theorem exm_sub {K : PySem.W.Frag} {C S : Addr} (h1 : PySem.W.subIn K (.ref S) (.type "BaseException") = some true) (h2 : PySem.W.isClsIn K S = true) (h3 : PySem.W.typeIn K (.ref S) = some (.type "type")) (h4 : PySem.W.subIn K (.ref C) (.ref S) = some true) : PySem.W.exmOne K (.ref C) (.ref S) = some true := by
  unfold PySem.W.exmOne
  rw [if_pos (by rw [h1]; rfl)]
  show (if ((PySem.W.clsIn K S).isSome && PySem.W.typeIn K (.ref S) == some (.type "type")) = true then PySem.W.subIn K (.ref C) (.ref S) else none) = some true
  have h2' : (PySem.W.clsIn K S).isSome = true := h2
  rw [if_pos (by rw [h2', h3]; rfl)]
  exact h4
theorem kit_ve {K : PySem.W.Frag} {C : Addr} (h4 : PySem.W.subIn K (.ref C) (.type "ValueError") = some true) : PySem.W.kitOne K (.ref C) (.type "ValueError") = some true := by
  unfold PySem.W.kitOne
  rw [if_neg (by simp)]
  show (if PySem.W.kitMeta "ValueError" = true then PySem.W.subIn K (.ref C) (.type "ValueError") else none) = some true
  rw [if_pos (by decide +kernel)]
  exact h4
end
end DL

set_option Elab.async false
set_option linter.all false
set_option maxRecDepth 100000
set_option maxHeartbeats 4000000
/-! the defs as pure functions; printed by gen95.py -/
namespace A95
open DL PySem L2
open PyProof.Rows hiding St
def hitF_HoleError : Str → Bool := fun _ => true
def i_NoGlue : Str → Option Bool := fun cn => if cn = "NoGlue" then some true else none
def i_ValueError : Str → Option Bool := fun cn => if cn = "NoGlue" then some true else none
noncomputable def b_is_whole : En → Option Out :=
  (sRet (fHold (fAndV (fIs (fun n => kitB n "int") noE (fVar 0)) (fNotV (fIs (fun n => kitB n "bool") noE (fVar 0))))))
noncomputable def p_is_whole : List D → Option Rs := fnG [false] 1 b_is_whole
noncomputable def b_level_of : En → Option Out :=
  (sSeq (sIf (fT (f2 gEq (fL gLen (fCons (fVar 0) fNil)) (fC (.int 0)))) (sRet (fHold (fC (.int 0)))) sPass)
  (sRet (fHold (f2 gSubI (fL gLen (fCons (fVar 0) fNil)) (fC (.int 1))))))
noncomputable def p_level_of : List D → Option Rs := fnG [false] 1 b_level_of
noncomputable def b_is_spot : En → Option Out :=
  (sRet (fHold (fAndV (fCall [false] p_is_whole (fCons (fVar 1) fNil)) (fChain gLe gLt (fC (.int 0)) (fVar 1) (fL gLen (fCons (fVar 0) fNil))))))
noncomputable def p_is_spot : List D → Option Rs := fnG [false, false] 2 b_is_spot
noncomputable def l_part_0 : En → Option Out :=
  (sFor (fItems (fFree (fVar 1))) (gSet 3) (sSeq (sIf (fNot (fT (fCall [false, false] p_is_spot (fCons (fVar 0) (fCons (fVar 3) fNil))))) (sRaise "NoGlue") sPass)
  (sDPutF (fC (.bl true)) 2 pNil (fVar 3))))
noncomputable def l_part_1 : En → Option Out :=
  (sFor (fItems (fFree (f2 gIx (fVar 0) (fVar 4)))) (gSet 5) (sDPutF (fC (.bl true)) 2 pNil (fVar 5)))
noncomputable def l_part_2 : En → Option Out :=
  (sFor (fRng3 (fCons (f2 gSubI (fL gLen (fCons (fVar 0) fNil)) (fC (.int 1))) (fCons (f1 gNeg (fC (.int 1))) (fCons (f1 gNeg (fC (.int 1))) fNil)))) (gSet 4) (sIf (fT (f2 (gDIn false) (fVar 4) (fVar 2))) l_part_1 sPass))
noncomputable def l_part_3 : En → Option Out :=
  (sForS 6 (fEnum (fCons (fVar 6) fNil)) (gUn 2 (gsCons (gSet 8) (gsCons (gSet 4) gsNil))) (sDPutF (fVar 8) 7 pNil (fVar 4)))
noncomputable def c_part_0 : En → Option D :=
  (fLc (fItems (f2 gIx (fVar 0) (fVar 4))) (gSet 5) fYes (fFree (f2 gDGet (fVar 7) (fVar 5))) [5])
noncomputable def c_part_1 : En → Option D :=
  (fLc (fItems (fVar 6)) (gSet 4) fYes (fL gTuple (fCons c_part_0 fNil)) [4])
noncomputable def b_part : En → Option Out :=
  (sSeq (sAsg (fHold fD0) (gSet 2))
  (sSeq l_part_0
  (sSeq l_part_2
  (sSeq (sAsg (fHold (fL gSortD (fCons (fVar 2) fNil))) (gSet 6))
  (sSeq (sAsg (fHold fD0) (gSet 7))
  (sSeq l_part_3
  (sFz 7 (sRet (oTup (oCons (fHold c_part_1) (oCons (fMove 6) oNil)))))))))))
noncomputable def p_part : List D → Option Rs := fnG [false, false] 9 b_part
noncomputable def b_is_glue : En → Option Out :=
  (sSeq (sIf (fOr (fNot (fT (fIs (fun n => kitB n "tuple") noE (fVar 1)))) (fT (f2 gNe (fL gLen (fCons (fVar 1) fNil)) (fC (.int 2))))) (sRet (fHold (fC (.bl false)))) sPass)
  (sSeq (sIf (fOr (fNot (fT (fCall [false, false] p_is_spot (fCons (fVar 0) (fCons (f2 gIx (fVar 1) (fC (.int 0))) fNil))))) (fNot (fT (fCall [false, false] p_is_spot (fCons (fVar 0) (fCons (f2 gIx (fVar 1) (fC (.int 1))) fNil)))))) (sRet (fHold (fC (.bl false)))) sPass)
  (sRet (fHold (f2 gEq (fCall [false] p_level_of (fCons (f2 gIx (fVar 0) (f2 gIx (fVar 1) (fC (.int 0)))) fNil)) (fCall [false] p_level_of (fCons (f2 gIx (fVar 0) (f2 gIx (fVar 1) (fC (.int 1)))) fNil)))))))
noncomputable def p_is_glue : List D → Option Rs := fnG [false, false] 2 b_is_glue
noncomputable def l_first_of_0 : En → Option Out :=
  (sWhile 100000 (fT (f2 gNe (f2 gIx (fVar 0) (fVar 1)) (fVar 1))) (sAsg (fHold (fFree (f2 gIx (fVar 0) (fVar 1)))) (gSet 1)))
noncomputable def b_first_of : En → Option Out :=
  (sSeq l_first_of_0
  (sRet (fHold (fFree (fVar 1)))))
noncomputable def p_first_of : List D → Option Rs := fnG [false, false] 2 b_first_of
noncomputable def l_lots_of_0 : En → Option Out :=
  (sFor (fZip (fCons (fFree (f2 gIx (fVar 0) (fVar 5))) (fCons (fFree (f2 gIx (fVar 0) (fVar 6))) fNil))) (gUn 2 (gsCons (gSet 7) (gsCons (gSet 8) gsNil))) (sDrop (sMut 3 pNil (oCons (fHold (fTup (fCons (fFree (fVar 7)) (fCons (fFree (fVar 8)) fNil)))) oNil) opApp)))
noncomputable def l_lots_of_1 : En → Option Out :=
  (sWhile 100000 (fT (f2 gGt (fL gLen (fCons (fVar 3) fNil)) (fC (.int 0)))) (sSeq (sAsg (sMut0 3 pNil opPop) (gSet 4))
  (sSeq (sAsg (oCall [false, false] p_first_of (fCons (fVar 2) (fCons (f2 gIx (fVar 4) (fC (.int 0))) fNil))) (gSet 5))
  (sSeq (sAsg (oCall [false, false] p_first_of (fCons (fVar 2) (fCons (f2 gIx (fVar 4) (fC (.int 1))) fNil))) (gSet 6))
  (sIf (fT (f2 gNe (fVar 5) (fVar 6))) (sSeq (sAsg (fHold (fL gMin2 (fCons (fVar 5) (fCons (fVar 6) fNil)))) (gStore 2 pNil (fL gMax2 (fCons (fVar 5) (fCons (fVar 6) fNil)))))
  l_lots_of_0) sPass)))))
noncomputable def c_lots_of_0 : En → Option D :=
  (fLc (fRng1 (fCons (fL gLen (fCons (fVar 0) fNil)) fNil)) (gSet 9) fYes (fCall [false, false] p_first_of (fCons (fVar 2) (fCons (fVar 9) fNil))) [9])
noncomputable def b_lots_of : En → Option Out :=
  (sSeq (sAsg (fHold (fLstR (r1F (fL gLen (fCons (fVar 0) fNil))))) (gSet 2))
  (sSeq (sAsg (fHold (fL gList (fCons (fVar 1) fNil))) (gSet 3))
  (sSeq l_lots_of_1
  (sRet (fHold c_lots_of_0)))))
noncomputable def p_lots_of : List D → Option Rs := fnG [false, false] 10 b_lots_of
noncomputable def l_glued_0 : En → Option Out :=
  (sFor (fItems (fFree (fVar 1))) (gSet 2) (sIf (fNot (fT (fCall [false, false] p_is_glue (fCons (fVar 0) (fCons (fVar 2) fNil))))) (sRaise "NoGlue") sPass))
noncomputable def l_glued_1 : En → Option Out :=
  (sFor (fRng1 (fCons (fL gLen (fCons (fVar 0) fNil)) fNil)) (gSet 5) (sIf (fT (f2 gEq (f2 gIx (fVar 3) (fVar 5)) (fVar 5))) (sDPutF (fL gLen (fCons (fVar 4) fNil)) 4 pNil (fVar 5)) sPass))
noncomputable def c_glued_0 : En → Option D :=
  (fLc (fItems (fVar 3)) (gSet 7) fYes (fFree (f2 gDGet (fVar 4) (fVar 7))) [7])
noncomputable def c_glued_1 : En → Option D :=
  (fLc (fItems (f2 gIx (fVar 0) (fVar 7))) (gSet 8) fYes (fFree (f2 gIx (fVar 6) (fVar 8))) [8])
noncomputable def c_glued_2 : En → Option D :=
  (fLc (fDct 4 itK) (gSet 7) fYes (fL gTuple (fCons c_glued_1 fNil)) [7])
noncomputable def b_glued : En → Option Out :=
  (sSeq l_glued_0
  (sSeq (sAsg (oCall [false, false] p_lots_of (fCons (fVar 0) (fCons (fVar 1) fNil))) (gSet 3))
  (sSeq (sAsg (fHold fD0) (gSet 4))
  (sSeq l_glued_1
  (sSeq (sAsg (fHold c_glued_0) (gSet 6))
  (sFz 4 (sRet (oTup (oCons (fHold c_glued_2) (oCons (fMove 6) oNil))))))))))
noncomputable def p_glued : List D → Option Rs := fnG [false, false] 9 b_glued
noncomputable def b__law_cell : En → Option Out :=
  (sSeq (sIf (fT (f2 gLt (fVar 1) (fL gLen (fCons (fVar 0) fNil)))) (sRet (fHold (fFree (f2 gIx (fVar 0) (fVar 1))))) sPass)
  (sRet (fHold (fC (.int 0)))))
noncomputable def p__law_cell : List D → Option Rs := fnG [false, false] 2 b__law_cell
noncomputable def l__law_row_0 : En → Option Out :=
  (sFor (fRng1 (fCons (fVar 2) fNil)) (gSet 7) (sSeq (sAsg (fHold (f2 gMod (f2 gMul (f2 gAdd (f2 gAdd (f2 gAdd (f2 gMod (fVar 4) (fC (.int 2147483647))) (f2 gMul (fC (.int 7919)) (fVar 7))) (f2 gMul (fC (.int 104729)) (fVar 1))) (fC (.int 1))) (fC (.int 48271))) (fC (.int 2147483647)))) (gSet 8))
  (sSeq (sAsg (fHold (f2 gMod (f2 gMul (fVar 8) (fC (.int 39373))) (fC (.int 2147483629)))) (gSet 8))
  (sSeq (sAsg (fHold (f2 gDiv (f2 gMod (f2 gMul (fVar 8) (f2 gAdd (f2 gAdd (f2 gDiv (fVar 8) (fC (.int 1009))) (fC (.int 7919))) (fVar 7))) (fC (.int 2147483629))) (fC (.int 7)))) (gSet 8))
  (sSeq (sIf (fAnd (fT (f2 gGe (fVar 4) (f2 gPow (fC (.int 10)) (fC (.int 18))))) (fT (f2 gGt (fVar 5) (fC (.int 0))))) (sSeq (sAsg (fHold (fFree (fVar 5))) (gSet 8))
  (sAsg (fHold (f2 gDiv (fVar 5) (fVar 3))) (gSet 5))) sPass)
  (sDrop (sMut 6 pNil (oCons (fHold (f2 gMod (fVar 8) (fVar 3))) oNil) opApp)))))))
noncomputable def b__law_row : En → Option Out :=
  (sSeq (sAsg (oCall [false, false] p__law_cell (fCons (fVar 0) (fCons (fVar 1) fNil))) (gSet 4))
  (sSeq (sAsg (fHold (fFree (fVar 4))) (gSet 5))
  (sSeq (sAsg (fHold (fLst fNil)) (gSet 6))
  (sSeq l__law_row_0
  (sRet (fMove 6))))))
noncomputable def p__law_row : List D → Option Rs := fnG [false, false, false, false] 9 b__law_row
noncomputable def l__law_meets_0 : En → Option Out :=
  (sFor (fEnum (fCons (fFree (fVar 1)) fNil)) (gUn 2 (gsCons (gSet 5) (gsCons (gSet 6) gsNil))) (sIf (fAnd (fT (f2 gGt (fVar 3) (fC (.int 1)))) (fT (f2 gNe (f2 gIx (fVar 2) (fVar 5)) (f2 gIx (f2 gIx (fVar 0) (fVar 6)) (fVar 4))))) (sRet (fHold (fC (.bl false)))) sPass))
noncomputable def b__law_meets : En → Option Out :=
  (sSeq (sIf (fT (f2 gNe (fL gMax2 (fCons (fC (.int 0)) (fCons (f2 gSubI (fL gLen (fCons (fVar 2) fNil)) (fC (.int 1))) fNil))) (f2 gSubI (fVar 3) (fC (.int 1))))) (sRet (fHold (fC (.bl false)))) sPass)
  (sSeq (sAsg (fHold (f2 gSubI (fL gLen (fCons (fVar 1) fNil)) (fC (.int 1)))) (gSet 4))
  (sSeq l__law_meets_0
  (sRet (fHold (fC (.bl true)))))))
noncomputable def p__law_meets : List D → Option Rs := fnG [false, false, false, false] 7 b__law_meets
noncomputable def l__law_faces_0 : En → Option Out :=
  (sFor (fEnum (fCons (fFree (fVar 0)) fNil)) (gUn 2 (gsCons (gSet 6) (gsCons (gSet 7) gsNil))) (sIf (fT (fCall [false, false, false, false] p__law_meets (fCons (fVar 0) (fCons (fVar 3) (fCons (fVar 7) (fCons (fVar 1) fNil)))))) (sDrop (sMut 5 pNil (oCons (fHold (fFree (fVar 6))) oNil) opApp)) sPass))
noncomputable def l__law_faces_1 : En → Option Out :=
  (sFor (fRng1 (fCons (f2 gAdd (fVar 1) (fC (.int 1))) fNil)) (gSet 4) (sSeq (sAsg (fHold (fLst fNil)) (gSet 5))
  (sSeq l__law_faces_0
  (sSeq (sIf (fT (f2 gEq (fVar 5) (fLst fNil))) (sRet (fHold (fC .non))) sPass)
  (sSeq (sDrop (sMut 3 pNil (oCons (fHold (fFree (f2 gIx (fVar 5) (f2 gMod (fVar 2) (fL gLen (fCons (fVar 5) fNil)))))) oNil) opApp))
  (sAsg (fHold (f2 gDiv (fVar 2) (fL gLen (fCons (fVar 5) fNil)))) (gSet 2)))))))
noncomputable def b__law_faces : En → Option Out :=
  (sSeq (sAsg (fHold (fLst fNil)) (gSet 3))
  (sSeq l__law_faces_1
  (sRet (fHold (fL gTuple (fCons (fVar 3) fNil))))))
noncomputable def p__law_faces : List D → Option Rs := fnG [false, false, false] 8 b__law_faces
noncomputable def l__law_shape_0 : En → Option Out :=
  (sFor (fItems (fCall [false, false, false, false] p__law_row (fCons (fVar 0) (fCons (fVar 1) (fCons (fVar 2) (fCons (fC (.int 999983)) fNil)))))) (gSet 5) (sSeq (sAsg (fHold (fL gMin2 (fCons (fVar 3) (fCons (f2 gIx (fLst (fCons (fC (.int 0)) (fCons (fC (.int 1)) (fCons (fC (.int 1)) (fCons (fC (.int 2)) (fCons (fC (.int 2)) (fCons (fC (.int 2)) (fCons (fC (.int 3)) (fCons (fC (.int 3)) fNil))))))))) (f2 gMod (fVar 5) (fC (.int 8)))) fNil)))) (gSet 6))
  (sSeq (sAsg (fHold (fC .non)) (gSet 7))
  (sSeq (sIf (fT (f2 gGt (fVar 6) (fC (.int 0)))) (sAsg (oCall [false, false, false] p__law_faces (fCons (fVar 4) (fCons (fVar 6) (fCons (f2 gDiv (fVar 5) (fC (.int 8))) fNil)))) (gSet 7)) sPass)
  (sSeq (sIf (fAnd (fT (fIsN (fVar 7))) (fAnd (fT (f2 gGt (f2 gMod (f2 gDiv (fVar 5) (fC (.int 8))) (fC (.int 4))) (fC (.int 0)))) (fT (f2 gGt (fL gLen (fCons (fVar 4) fNil)) (fC (.int 0)))))) (sAsg (oCall [false, false, false] p__law_faces (fCons (fVar 4) (fCons (fC (.int 1)) (fCons (f2 gDiv (fVar 5) (fC (.int 32))) fNil)))) (gSet 7)) sPass)
  (sSeq (sIf (fT (fIsN (fVar 7))) (sAsg (fHold (fTup fNil)) (gSet 7)) sPass)
  (sDrop (sMut 4 pNil (oCons (fHold (fFree (fVar 7))) oNil) opApp))))))))
noncomputable def b__law_shape : En → Option Out :=
  (sSeq (sAsg (fHold (fLst fNil)) (gSet 4))
  (sSeq l__law_shape_0
  (sRet (fMove 4))))
noncomputable def p__law_shape : List D → Option Rs := fnG [false, false, false, false] 8 b__law_shape
noncomputable def c__law_part_0 : En → Option D :=
  (fLc (fRng1 (fCons (fL gLen (fCons (fVar 0) fNil)) fNil)) (gSet 3) fYes (f2 (gIn false) (fVar 3) (fVar 1)) [3])
noncomputable def l__law_part_0 : En → Option Out :=
  (sFor (fItems (fFree (f2 gIx (fVar 0) (fVar 3)))) (gSet 4) (sAsg (fHold (fC (.bl true))) (gStore 2 pNil (fVar 4))))
noncomputable def l__law_part_1 : En → Option Out :=
  (sFor (fRevR (r1F (fL gLen (fCons (fVar 0) fNil)))) (gSet 3) (sIf (fT (f2 gIx (fVar 2) (fVar 3))) l__law_part_0 sPass))
noncomputable def c__law_part_1 : En → Option D :=
  (fLc (fRng1 (fCons (fL gLen (fCons (fVar 0) fNil)) fNil)) (gSet 3) (fT (f2 gIx (fVar 2) (fVar 3))) (fFree (fVar 3)) [3])
noncomputable def c__law_part_2 : En → Option D :=
  (fLc (fItems (f2 gIx (fVar 0) (fVar 3))) (gSet 4) fYes (fIndex (fVar 5) (fVar 4)) [4])
noncomputable def l__law_part_2 : En → Option Out :=
  (sForS 5 (fItems (fVar 5)) (gSet 3) (sDrop (sMut 6 pNil (oCons (fHold (fL gTuple (fCons c__law_part_2 fNil))) oNil) opApp)))
noncomputable def b__law_part : En → Option Out :=
  (sSeq (sAsg (fHold c__law_part_0) (gSet 2))
  (sSeq l__law_part_1
  (sSeq (sAsg (fHold c__law_part_1) (gSet 5))
  (sSeq (sAsg (fHold (fLst fNil)) (gSet 6))
  (sSeq l__law_part_2
  (sRet (oTup (oCons (fMove 6) (oCons (fMove 5) oNil)))))))))
noncomputable def p__law_part : List D → Option Rs := fnG [false, false] 7 b__law_part
noncomputable def c__law_glued_0 : En → Option D :=
  (fLc (fItems (fVar 2)) (gSet 8) fYes (fFree (fIf (fT (f2 gEq (fVar 8) (fVar 7))) (fVar 6) (fVar 8))) [8])
noncomputable def l__law_glued_0 : En → Option Out :=
  (sFor (fZip (fCons (fFree (f2 gIx (fVar 0) (fVar 4))) (fCons (fFree (f2 gIx (fVar 0) (fVar 5))) fNil))) (gUn 2 (gsCons (gSet 9) (gsCons (gSet 10) gsNil))) (sDrop (sMut 3 pNil (oCons (fHold (fTup (fCons (fFree (fVar 9)) (fCons (fFree (fVar 10)) fNil)))) oNil) opApp)))
noncomputable def l__law_glued_1 : En → Option Out :=
  (sWhile 100000 (fT (f2 gGt (fL gLen (fCons (fVar 3) fNil)) (fC (.int 0)))) (sSeq (sAsg (sMut0 3 pNil opPop) (gUn 2 (gsCons (gSet 4) (gsCons (gSet 5) gsNil))))
  (sSeq (sAsg (fHold (fL gMin2 (fCons (f2 gIx (fVar 2) (fVar 4)) (fCons (f2 gIx (fVar 2) (fVar 5)) fNil)))) (gSet 6))
  (sSeq (sAsg (fHold (fL gMax2 (fCons (f2 gIx (fVar 2) (fVar 4)) (fCons (f2 gIx (fVar 2) (fVar 5)) fNil)))) (gSet 7))
  (sIf (fT (f2 gNe (fVar 6) (fVar 7))) (sSeq (sAsg (fHold c__law_glued_0) (gSet 2))
  l__law_glued_0) sPass)))))
noncomputable def c__law_glued_1 : En → Option D :=
  (fLc (fRng1 (fCons (fL gLen (fCons (fVar 0) fNil)) fNil)) (gSet 12) (fT (f2 gEq (f2 gIx (fVar 2) (fVar 12)) (fVar 12))) (fFree (fVar 12)) [12])
noncomputable def c__law_glued_2 : En → Option D :=
  (fLc (fItems (f2 gIx (fVar 0) (fVar 12))) (gSet 9) fYes (fIndex (fVar 11) (f2 gIx (fVar 2) (fVar 9))) [9])
noncomputable def l__law_glued_2 : En → Option Out :=
  (sForS 11 (fItems (fVar 11)) (gSet 12) (sDrop (sMut 13 pNil (oCons (fHold (fL gTuple (fCons c__law_glued_2 fNil))) oNil) opApp)))
noncomputable def c__law_glued_3 : En → Option D :=
  (fLc (fItems (fVar 2)) (gSet 8) fYes (fIndex (fVar 11) (fVar 8)) [8])
noncomputable def b__law_glued : En → Option Out :=
  (sSeq (sAsg (fHold (fLstR (r1F (fL gLen (fCons (fVar 0) fNil))))) (gSet 2))
  (sSeq (sAsg (fHold (fL gList (fCons (fVar 1) fNil))) (gSet 3))
  (sSeq l__law_glued_1
  (sSeq (sAsg (fHold c__law_glued_1) (gSet 11))
  (sSeq (sAsg (fHold (fLst fNil)) (gSet 13))
  (sSeq l__law_glued_2
  (sRet (oTup (oCons (fMove 13) (oCons (fHold c__law_glued_3) oNil))))))))))
noncomputable def p__law_glued : List D → Option Rs := fnG [false, false] 14 b__law_glued
noncomputable def l__law_pairs_0 : En → Option Out :=
  (sFor (fEnum (fCons (fFree (fVar 1)) fNil)) (gUn 2 (gsCons (gSet 8) (gsCons (gSet 9) gsNil))) (sIf (fT (f2 gEq (fL gLen (fCons (fVar 9) fNil)) (fL gLen (fCons (f2 gIx (fVar 1) (fVar 6)) fNil)))) (sDrop (sMut 7 pNil (oCons (fHold (fFree (fVar 8))) oNil) opApp)) sPass))
noncomputable def l__law_pairs_1 : En → Option Out :=
  (sFor (fItems (fCall [false, false, false, false] p__law_row (fCons (fVar 0) (fCons (fC (.int 3)) (fCons (fVar 2) (fCons (fC (.int 999983)) fNil)))))) (gSet 5) (sSeq (sAsg (fHold (f2 gMod (fVar 5) (fL gLen (fCons (fVar 1) fNil)))) (gSet 6))
  (sSeq (sIf (fAnd (fT (fVar 3)) (fT (f2 gNe (f2 gIx (fVar 1) (fVar 6)) (fTup fNil)))) (sAsg (fHold (fC (.int 0))) (gSet 6)) sPass)
  (sSeq (sAsg (fHold (fLst fNil)) (gSet 7))
  (sSeq l__law_pairs_0
  (sDrop (sMut 4 pNil (oCons (fHold (fTup (fCons (fFree (fVar 6)) (fCons (fFree (f2 gIx (fVar 7) (f2 gMod (f2 gDiv (fVar 5) (fC (.int 64))) (fL gLen (fCons (fVar 7) fNil))))) fNil)))) oNil) opApp)))))))
noncomputable def b__law_pairs : En → Option Out :=
  (sSeq (sAsg (fHold (fLst fNil)) (gSet 4))
  (sSeq l__law_pairs_1
  (sRet (fMove 4))))
noncomputable def p__law_pairs : List D → Option Rs := fnG [false, false, false, false] 10 b__law_pairs
noncomputable def l__law_refused_0 : En → Option Out :=
  (sFor (fRng1 (fCons (fC (.int 2)) fNil)) (gSet 3) (sSeq (sAsg (fHold (fC .non)) (gSet 4))
  (sSeq (sTry hitF_HoleError 5 (sIf (fT (f2 gEq (fVar 3) (fC (.int 0)))) (sCallX [false, false] p_part (fCons (fVar 0) (fCons (fVar 1) fNil))) (sCallX [false, false] p_glued (fCons (fVar 0) (fCons (fVar 2) fNil)))) (sAsg (fHold (fFree (fVar 5))) (gSet 4)))
  (sIf (fOr (fNot (fT (fIs noT i_NoGlue (fVar 4)))) (fNot (fT (fIs (fun n => kitB n "ValueError") i_ValueError (fVar 4))))) (sRet (fHold (fC (.bl false)))) sPass))))
noncomputable def b__law_refused : En → Option Out :=
  (sSeq l__law_refused_0
  (sRet (fHold (fC (.bl true)))))
noncomputable def p__law_refused : List D → Option Rs := noX (fnG [false, false, false] 6 b__law_refused)
noncomputable def b__law_none : En → Option Out :=
  (sSeq (sAsg (fHold (f2 gIx (fLst (fCons (fFree (fVar 1)) (fCons (f2 gSubI (fC (.int 0)) (fC (.int 1))) (fCons (fC (.bl true)) (fCons (fC .non) (fCons (fC (.str "0")) (fCons (fTup (fCons (fC (.int 0)) fNil)) (fCons (fLst (fCons (fC (.int 0)) fNil)) (fCons (f2 gPow (fC (.int 10)) (fC (.int 30))) fNil))))))))) (f2 gMod (fVar 0) (fC (.int 8))))) (gSet 2))
  (sSeq (sFz 2 (sAsg (fHold (f2 gIx (fLst (fCons (fTup (fCons (fC (.int 0)) (fCons (fFree (fVar 2)) fNil))) (fCons (fTup (fCons (fFree (fVar 2)) (fCons (fC (.int 0)) fNil))) (fCons (fTup (fCons (fC (.int 0)) (fCons (fC (.int 0)) (fCons (fC (.int 0)) fNil)))) (fCons (fLst (fCons (fC (.int 0)) (fCons (fC (.int 0)) fNil))) (fCons (fTup (fCons (fC (.int 0)) fNil)) (fCons (fFree (fVar 2)) fNil))))))) (f2 gMod (f2 gDiv (fVar 0) (fC (.int 8))) (fC (.int 6))))) (gSet 3)))
  (sRet (oTup (oCons (fMove 2) (oCons (fMove 3) oNil))))))
noncomputable def p__law_none : List D → Option Rs := fnG [false, false] 4 b__law_none
noncomputable def c_law_0 : En → Option D :=
  (fLc (fItems (fCall [false, false, false, false] p__law_row (fCons (fVar 0) (fCons (fC (.int 2)) (fCons (f2 gMod (fVar 2) (fC (.int 101))) (fCons (fC (.int 999983)) fNil)))))) (gSet 7) fYes (f2 gMod (fVar 7) (fL gLen (fCons (fVar 5) fNil))) [7])
noncomputable def l_law_0 : En → Option Out :=
  (sFor (fRng1 (fCons (fC (.int 2)) fNil)) (gSet 10) (sSeq (sAsg (oCall [false, false] p_part (fCons (f2 gIx (fVar 9) (fC (.int 0))) (fCons (f2 gIx (fVar 9) (fC (.int 1))) fNil))) (gSet 11))
  (sSeq (sAsg (oCall [false, false] p_glued (fCons (f2 gIx (fVar 9) (fC (.int 0))) (fCons (f2 gIx (fVar 9) (fC (.int 2))) fNil))) (gSet 12))
  (sSeq (sIf (fOr (fT (f2 gNe (fVar 11) (fCall [false, false] p__law_part (fCons (fVar 5) (fCons (fVar 6) fNil))))) (fT (f2 gNe (fVar 12) (fCall [false, false] p__law_glued (fCons (fVar 5) (fCons (fVar 8) fNil)))))) (sRet (fHold (fC (.bl false)))) sPass)
  (sSeq (sIf (fOr (fNot (fT (fIs (fun n => kitB n "list") noE (f2 gIx (fVar 11) (fC (.int 0)))))) (fNot (fT (fIs (fun n => kitB n "list") noE (f2 gIx (fVar 12) (fC (.int 1))))))) (sRet (fHold (fC (.bl false)))) sPass)
  (sSeq (sIf (fT (f2 gNe (fVar 9) (fLst (fCons (fVar 5) (fCons (fVar 6) (fCons (fVar 8) fNil)))))) (sRet (fHold (fC (.bl false)))) sPass)
  (sSeq (sDrop (sMut0 11 (pIx 11 pNil (fC (.int 0))) opClear))
  (sSeq (sDrop (sMut 12 (pIx 12 pNil (fC (.int 0))) (oCons (fHold (fTup fNil)) oNil) opApp))
  (sDrop (sMut0 12 (pIx 12 pNil (fC (.int 1))) opClear))))))))))
noncomputable def b_law : En → Option Out :=
  (sSeq (sAsg (oCall [false, false, false, false] p__law_row (fCons (fVar 0) (fCons (fC (.int 0)) (fCons (fC (.int 4)) (fCons (fC (.int 999983)) fNil))))) (gUnL 4 (gsCons (gSet 1) (gsCons (gSet 2) (gsCons (gSet 3) (gsCons (gSet 4) gsNil))))))
  (sSeq (sAsg (oCall [false, false, false, false] p__law_shape (fCons (fVar 0) (fCons (fC (.int 1)) (fCons (f2 gAdd (fC (.int 1)) (f2 gMod (fVar 1) (fC (.int 40)))) (fCons (fC (.int 3)) fNil))))) (gSet 5))
  (sSeq (sAsg (fHold c_law_0) (gSet 6))
  (sSeq (sAsg (oCall [false, false, false, false] p__law_pairs (fCons (fVar 0) (fCons (fVar 5) (fCons (f2 gMod (fVar 3) (fC (.int 61))) (fCons (f2 gEq (f2 gMod (fVar 4) (fC (.int 2))) (fC (.int 1))) fNil))))) (gSet 8))
  (sSeq (sAsg (fHold (fLst (fCons (fL gList (fCons (fVar 5) fNil)) (fCons (fL gList (fCons (fVar 6) fNil)) (fCons (fL gList (fCons (fVar 8) fNil)) fNil))))) (gSet 9))
  (sSeq l_law_0
  (sSeq (sAsg (oCall [false, false] p__law_none (fCons (f2 gDiv (fVar 4) (fC (.int 2))) (fCons (fL gLen (fCons (fVar 5) fNil)) fNil))) (gUn 2 (gsCons (gSet 13) (gsCons (gSet 14) gsNil))))
  (sSeq (sAsg (fHold (f2 gMod (f2 gDiv (fVar 4) (fC (.int 128))) (f2 gAdd (fL gLen (fCons (fVar 6) fNil)) (fC (.int 1))))) (gSet 15))
  (sSeq (sAsg (fHold (f2 gMod (f2 gDiv (fVar 4) (fC (.int 128))) (f2 gAdd (fL gLen (fCons (fVar 8) fNil)) (fC (.int 1))))) (gSet 16))
  (sSeq (sDrop (sMut 9 (pIx 9 pNil (fC (.int 1))) (oCons (fHold (fFree (fVar 15))) (oCons (fMove 13) oNil)) opIns))
  (sSeq (sDrop (sMut 9 (pIx 9 pNil (fC (.int 2))) (oCons (fHold (fFree (fVar 16))) (oCons (fMove 14) oNil)) opIns))
  (sSeq (sIf (fNot (fT (fCall [false, false, false] p__law_refused (fCons (f2 gIx (fVar 9) (fC (.int 0))) (fCons (f2 gIx (fVar 9) (fC (.int 1))) (fCons (f2 gIx (fVar 9) (fC (.int 2))) fNil)))))) (sRet (fHold (fC (.bl false)))) sPass)
  (sRet (fHold (fAndV (f2 gEq (f2 gIx (fVar 9) (fC (.int 0))) (fVar 5)) (f2 gEq (fCall [false, false] p_part (fCons (fVar 5) (fCons (fVar 6) fNil))) (fCall [false, false] p__law_part (fCons (fVar 5) (fCons (fVar 6) fNil)))))))))))))))))))
noncomputable def p_law : List D → Option Rs := fnG [false] 17 b_law
end A95

set_option Elab.async false
set_option linter.all false
set_option maxRecDepth 100000
set_option maxHeartbeats 4000000
/-! DM1: the pure functions, evaluated -/
namespace DL
open PySem L2
open PyProof.Rows hiding St
section
variable {h : D → En → Option En} {b f g : En → Option Out} {c : En → Option Bool} {fe : En → Option D} {ρ : En} {items : List D}
/-- a loop that does not leave, by an invariant of what is behind it -/
theorem for_inv (Inv : List D → En → Prop) (step : ∀ dn d rest ρ, items = dn ++ d :: rest → Inv dn ρ → ∃ ρ1 ρ2, h d ρ = some ρ1 ∧ (b ρ1 = some (.nx ρ2) ∨ b ρ1 = some (.ct ρ2)) ∧ Inv (dn ++ [d]) ρ2) (h0 : Inv [] ρ) :
    ∃ ρ', sForL h b items ρ = some (.nx ρ') ∧ Inv items ρ' := by
  suffices H : ∀ (rest dn : List D) (ρ : En), items = dn ++ rest → Inv dn ρ → ∃ ρ', sForL h b rest ρ = some (.nx ρ') ∧ Inv items ρ' from H items [] ρ rfl h0
  intro rest
  induction rest with
  | nil =>
    intro dn ρ e i
    rw [List.append_nil] at e
    subst e
    exact ⟨ρ, rfl, i⟩
  | cons d rest ih =>
    intro dn ρ e i
    obtain ⟨ρ1, ρ2, e1, e2, i2⟩ := step dn d rest ρ e i
    obtain ⟨ρ', e3, i3⟩ := ih (dn ++ [d]) ρ2 (by rw [e]; simp) i2
    refine ⟨ρ', ?_, i3⟩
    unfold sForL
    rw [e1]
    simp only [Option.bind_some]
    rcases e2 with e2 | e2
    · rw [e2]; exact e3
    · rw [e2]; exact e3
theorem for_to {Pp : En → Prop} (Inv : List D → En → Prop) (step : ∀ dn d rest ρ, items = dn ++ d :: rest → Inv dn ρ → ∃ ρ1 ρ2, h d ρ = some ρ1 ∧ (b ρ1 = some (.nx ρ2) ∨ b ρ1 = some (.ct ρ2)) ∧ Inv (dn ++ [d]) ρ2) (h0 : Inv [] ρ) (k : ∀ ρ', Inv items ρ' → Pp ρ') :
    ∃ ρ', sForL h b items ρ = some (.nx ρ') ∧ Pp ρ' := by
  obtain ⟨ρ', e, i⟩ := for_inv Inv step h0
  exact ⟨ρ', e, k ρ' i⟩
/-- one turn of a loop -/
theorem turn {d : D} {Q : En → Prop} {ρ1 : En} (e1 : h d ρ = some ρ1) (e2 : ∃ ρ2, b ρ1 = some (.nx ρ2) ∧ Q ρ2) : ∃ ρ1 ρ2, h d ρ = some ρ1 ∧ (b ρ1 = some (.nx ρ2) ∨ b ρ1 = some (.ct ρ2)) ∧ Q ρ2 := by
  obtain ⟨ρ2, e, q⟩ := e2
  exact ⟨ρ1, ρ2, e1, .inl e, q⟩
theorem out_nx {ρ1 : En} {Q : En → Prop} (q : Q ρ1) : ∃ ρ2, some (Out.nx ρ1) = some (Out.nx ρ2) ∧ Q ρ2 := ⟨ρ1, rfl, q⟩
theorem forL_cons {d : D} {ρ1 ρ2 : En} (e1 : h d ρ = some ρ1) (e2 : b ρ1 = some (.nx ρ2)) : sForL h b (d :: items) ρ = sForL h b items ρ2 := by
  conv => lhs; unfold sForL
  rw [e1]
  simp only [Option.bind_some, e2]
theorem forL_rt {d d2 : D} {ρ1 ρ2 : En} (e1 : h d ρ = some ρ1) (e2 : b ρ1 = some (.rt d2 ρ2)) : sForL h b (d :: items) ρ = some (.rt d2 ρ2) := by
  unfold sForL
  rw [e1]
  simp only [Option.bind_some, e2]
theorem forL_rs {d : D} {cn : Str} {p : Option (Str × D)} {ρ1 ρ2 : En} (e1 : h d ρ = some ρ1) (e2 : b ρ1 = some (.rs cn p ρ2)) : sForL h b (d :: items) ρ = some (.rs cn p ρ2) := by
  unfold sForL
  rw [e1]
  simp only [Option.bind_some, e2]
/-- the loop's head part goes through -/
theorem forL_app {xs : List D} : ∀ {ρ ρ' : En}, sForL h b xs ρ = some (.nx ρ') → (∀ d ∈ xs, ∀ ρ ρ2, (h d ρ).bind b ≠ some (.bk ρ2)) → sForL h b (xs ++ items) ρ = sForL h b items ρ' := by
  induction xs with
  | nil => intro ρ ρ' e _; cases e; rfl
  | cons d xs ih =>
    intro ρ ρ' e hb
    unfold sForL at e
    cases z : h d ρ with
    | none => rw [z] at e; cases e
    | some ρ1 =>
      rw [z] at e
      simp only [Option.bind_some] at e
      cases z2 : b ρ1 with
      | none => rw [z2] at e; cases e
      | some o =>
        rw [z2] at e
        simp only [Option.bind_some] at e
        rw [List.cons_append]
        conv => lhs; unfold sForL
        rw [z]
        simp only [Option.bind_some, z2]
        cases o with
        | nx ρ2 => exact ih e fun d m => hb d (List.mem_cons_of_mem _ m)
        | ct ρ2 => exact ih e fun d m => hb d (List.mem_cons_of_mem _ m)
        | bk ρ2 => exact absurd (by rw [z]; exact z2) (hb d List.mem_cons_self ρ ρ2)
        | rt d2 ρ2 => cases e
        | rs c2 p2 ρ2 => cases e
/-- a comprehension without test -/
theorem lcL_map {gx : D → D} (H : ∀ d ∈ items, ∃ ρ1, h d ρ = some ρ1 ∧ c ρ1 = some true ∧ fe ρ1 = some (gx d)) : lcL h c fe ρ items = some (items.map gx) := by
  induction items with
  | nil => rfl
  | cons d ds ih =>
    obtain ⟨ρ1, e1, e2, e3⟩ := H d List.mem_cons_self
    unfold lcL
    rw [e1]
    simp only [Option.bind_some, e2, if_true, e3]
    rw [ih fun d m => H d (List.mem_cons_of_mem _ m)]
    rfl
/-- a comprehension with its test -/
theorem lcL_filter {gx : D → D} {p : D → Bool} (H : ∀ d ∈ items, ∃ ρ1, h d ρ = some ρ1 ∧ c ρ1 = some (p d) ∧ (p d = true → fe ρ1 = some (gx d))) : lcL h c fe ρ items = some ((items.filter p).map gx) := by
  induction items with
  | nil => rfl
  | cons d ds ih =>
    obtain ⟨ρ1, e1, e2, e3⟩ := H d List.mem_cons_self
    have ih := ih fun d m => H d (List.mem_cons_of_mem _ m)
    unfold lcL
    rw [e1]
    simp only [Option.bind_some, e2]
    cases hp : p d with
    | true =>
      rw [if_pos rfl, e3 hp]
      simp only [Option.bind_some]
      rw [ih]
      simp [List.filter_cons, hp]
    | false =>
      rw [if_neg (by decide), ih]
      simp [List.filter_cons, hp]
/-- a while loop, by an invariant and a measure -/
theorem while_inv (Inv : En → Prop) (μ : En → Nat) (step : ∀ ρ, Inv ρ → ∃ k, c ρ = some k ∧ (k = true → ∃ ρ2, b ρ = some (.nx ρ2) ∧ Inv ρ2 ∧ μ ρ2 < μ ρ)) : ∀ (n : Nat) (ρ : En), Inv ρ → μ ρ < n → ∃ ρ', sWhile n c b ρ = some (.nx ρ') ∧ Inv ρ' ∧ c ρ' = some false := by
  intro n
  induction n with
  | zero => intro ρ _ h; omega
  | succ n ih =>
    intro ρ i hm
    obtain ⟨k, e, hk⟩ := step ρ i
    unfold sWhile
    rw [e]
    simp only [Option.bind_some]
    cases k with
    | false => exact ⟨ρ, by simp, i, e⟩
    | true =>
      obtain ⟨ρ2, e2, i2, m2⟩ := hk rfl
      obtain ⟨ρ', e3, i3, c3⟩ := ih ρ2 i2 (by omega)
      refine ⟨ρ', ?_, i3, c3⟩
      rw [if_pos rfl, e2]
      exact e3
end
/-- small ints may be multiplied -/
theorem mulOk_small {i j : Int} (h1 : i.natAbs < 2 ^ 1000) (h2 : j.natAbs < 2 ^ 1000) : mulOk i j = true := by
  unfold mulOk
  have e : ∀ n : Nat, n < 2 ^ 1000 → n.log2 ≤ 1000 := fun n h => by
    by_cases z : n = 0
    · subst z; simp
    · exact Nat.le_of_lt ((Nat.log2_lt z).mpr h)
  have := e _ h1
  have := e _ h2
  exact decide_eq_true (by omega)
theorem dI_eq (i : Int) : dI i = .v (.int i) := rfl
theorem gMod_ii (i j : Int) : gMod (.v (.int i)) (.v (.int j)) = if (j != 0) = true then some (.v (.int (i.fmod j))) else none := rfl
theorem gDiv_ii (i j : Int) : gDiv (.v (.int i)) (.v (.int j)) = if (j != 0 && decide (j.natAbs.log2 < 9000)) = true then some (.v (.int (i.fdiv j))) else none := rfl
theorem gPow_ii (i j : Int) : gPow (.v (.int i)) (.v (.int j)) = if (decide (0 ≤ j) && (decide (j.natAbs ≤ 1000000) && decide (i.natAbs < 2 ^ 64))) = true then some (.v (.int (i ^ j.toNat))) else none := rfl
theorem gSub_ii (i j : Int) : gSubI (.v (.int i)) (.v (.int j)) = some (.v (.int (i - j))) := rfl
theorem gLt_ii (i j : Int) : gLt (.v (.int i)) (.v (.int j)) = some (.v (.bl (decide (i < j)))) := rfl
theorem gLe_ii (i j : Int) : gLe (.v (.int i)) (.v (.int j)) = some (.v (.bl (decide (i ≤ j)))) := rfl
theorem gGt_ii (i j : Int) : gGt (.v (.int i)) (.v (.int j)) = some (.v (.bl (decide (j < i)))) := rfl
theorem gGe_ii (i j : Int) : gGe (.v (.int i)) (.v (.int j)) = some (.v (.bl (decide (j ≤ i)))) := rfl
theorem gMul_ii (i j : Int) : gMul (.v (.int i)) (.v (.int j)) = if mulOk i j = true then some (.v (.int (i * j))) else none := rfl
theorem gAdd_ii (i j : Int) : gAdd (.v (.int i)) (.v (.int j)) = some (.v (.int (i + j))) := rfl
theorem gEq_ii (i j : Int) : gEq (.v (.int i)) (.v (.int j)) = some (.v (.bl (decide (i = j)))) := by
  show (if (true && true) = true then some (D.v (.bl (PyData.eqv (.int i) (.int j)))) else none) = _
  rw [Bool.true_and, if_pos rfl]
  rw [PyData.eqv]
  rfl
theorem gNe_ii (i j : Int) : gNe (.v (.int i)) (.v (.int j)) = some (.v (.bl (!decide (i = j)))) := by
  show (if (true && true) = true then some (D.v (.bl (!PyData.eqv (.int i) (.int j)))) else none) = _
  rw [Bool.true_and, if_pos rfl]
  rw [PyData.eqv]
  rfl
theorem div_ok {j : Int} (h : 0 < j) (h2 : j < 2 ^ 64) : (j != 0 && decide (j.natAbs.log2 < 9000)) = true := by
  have e : j.natAbs ≠ 0 := by omega
  have : j.natAbs.log2 < 64 := (Nat.log2_lt e).mpr (by omega)
  rw [Bool.and_eq_true]
  exact ⟨by simp; omega, decide_eq_true (by omega)⟩
theorem mod_ok {j : Int} (h : 0 < j) : (j != 0) = true := by simp; omega
theorem mulOk_lit {i j : Int} (h1 : i.natAbs < 18446744073709551616) (h2 : j.natAbs < 18446744073709551616) : mulOk i j = true := mulOk_small (Nat.lt_of_lt_of_le h1 (by decide +kernel)) (Nat.lt_of_lt_of_le h2 (by decide +kernel))
theorem gMod_pos {i j : Int} (h : 0 < j) : gMod (.v (.int i)) (.v (.int j)) = some (.v (.int (i % j))) := by
  rw [gMod_ii, if_pos (mod_ok h), Int.fmod_eq_emod_of_nonneg _ (Int.le_of_lt h)]
theorem gDiv_pos {i j : Int} (h : 0 < j) (h2 : j < 18446744073709551616) : gDiv (.v (.int i)) (.v (.int j)) = some (.v (.int (i / j))) := by
  rw [gDiv_ii, if_pos (div_ok h h2), Int.fdiv_eq_ediv_of_nonneg _ (Int.le_of_lt h)]
theorem gMul_sm {i j : Int} (h1 : i.natAbs < 18446744073709551616) (h2 : j.natAbs < 18446744073709551616) : gMul (.v (.int i)) (.v (.int j)) = some (.v (.int (i * j))) := by
  rw [gMul_ii, if_pos (mulOk_lit h1 h2)]
theorem gPow_sm {i j : Int} (h0 : 0 ≤ j) (h1 : j ≤ 1000000) (h2 : i.natAbs < 18446744073709551616) : gPow (.v (.int i)) (.v (.int j)) = some (.v (.int (i ^ j.toNat))) := by
  rw [gPow_ii, if_pos]
  rw [decide_eq_true h0, decide_eq_true (show j.natAbs ≤ 1000000 by omega), decide_eq_true (show i.natAbs < 2 ^ 64 from h2)]
  rfl
theorem rng_split {lo : Int} {n : Nat} {dn rest : List D} {d : D} (h : rngD lo n = dn ++ d :: rest) : d = .v (.int (lo + (dn.length : Nat))) ∧ dn.length < n := by
  have hl : dn.length < (rngD lo n).length := by rw [h]; simp
  have hn : (rngD lo n).length = n := by simp [rngD]
  rw [hn] at hl
  refine ⟨?_, hl⟩
  have e : (rngD lo n)[dn.length]? = some d := by rw [h]; simp
  rw [rngD, List.getElem?_map, List.getElem?_range hl] at e
  exact (Option.some.inj e).symm
theorem rng_len {lo : Int} {n : Nat} : (rngD lo n).length = n := by simp [rngD]
theorem fmod_pos {i j : Int} (h : 0 < j) : 0 ≤ i.fmod j ∧ i.fmod j < j := ⟨Int.fmod_nonneg_of_pos i h, Int.fmod_lt_of_pos i h⟩
theorem anyOw_nil : anyOw [] = false := rfl
theorem anyOw_cons (d : D) (ds : List D) : anyOw (d :: ds) = (d.ow || anyOw ds) := rfl
theorem cl2_v (x : V) : D.cl2 (.v x) = true := rfl
theorem cl2_lst (ds : List D) : D.cl2 (.n (.lst true) ds) = D.cl2L ds := by
  show (true && (decide (Kd.lst true ≠ .flst) && D.cl2L ds)) = _
  rw [decide_eq_true (fun h => by cases h)]; rfl
theorem cl2_tup (b : Bool) (ds : List D) : D.cl2 (.n (.tup b) ds) = D.cl2L ds := by
  show (true && (decide (Kd.tup b ≠ .flst) && D.cl2L ds)) = _
  rw [decide_eq_true (fun h => by cases h)]; rfl
theorem er_dI (n : Int) : (dI n).er = dI n := rfl
theorem erL_dI (ns : List Int) : D.erL (ns.map dI) = ns.map dI := by
  rw [D.erL_map, List.map_map]; rfl
theorem clnL_dI (ns : List Int) : D.clnL (ns.map dI) = true := by
  rw [D.clnL_all, List.all_map]
  exact List.all_eq_true.mpr fun _ _ => rfl
theorem atI_dI {ns : List Int} {k : Int} (h0 : 0 ≤ k) (h1 : k.toNat < ns.length) : atI (ns.map dI) k = some (dI (ns[k.toNat])) := by
  obtain ⟨n, rfl⟩ := Int.eq_ofNat_of_zero_le h0
  have h1' : n < ns.length := h1
  rw [atI_nat (j := n)] <;> simp [h1']
end DL

set_option Elab.async false
set_option linter.all false
set_option maxRecDepth 100000
set_option maxHeartbeats 4000000
/-! DM2: data of ints, pieces, shapes -/
namespace DL
open PySem L2
open PyProof.Rows hiding St
/-- plain data: nothing owned at all -/
def nD (n : Nat) : D := .v (.int n)
def pcD (p : List Nat) : D := .n (.tup false) (p.map nD)
theorem nD_eq (n : Nat) : nD n = .v (.int n) := rfl
theorem pcD_eq (p : List Nat) : pcD p = .n (.tup false) (p.map nD) := rfl
/-- data that bears no flag -/
def Pl (d : D) : Prop := d.er = d ∧ d.ow = false ∧ d.cl2 = true ∧ d.cln = true ∧ (∀ j, 5 ≤ j → d.okD j = true) ∧ d.fz = d
theorem pl_v {x : V} (h : flatOk x = true) : Pl (.v x) := ⟨rfl, rfl, rfl, rfl, fun j _ => h, rfl⟩
theorem pl_n (n : Nat) : Pl (nD n) := pl_v rfl
theorem pl_i (i : Int) : Pl (dI i) := pl_v rfl
/-- small data -/
theorem okL_map {α : Type} {g : α → D} {xs : List α} {j : Nat} (h : ∀ x ∈ xs, (g x).okD j = true) : D.okL (xs.map g) j = true := by
  rw [D.okL_all, List.all_map]
  exact List.all_eq_true.mpr h
theorem erL_map {α : Type} {g : α → D} {xs : List α} (h : ∀ x ∈ xs, (g x).er = g x) : D.erL (xs.map g) = xs.map g := by
  rw [D.erL_map, List.map_map]
  exact List.map_congr_left h
theorem fzL_map {α : Type} {g : α → D} {xs : List α} (h : ∀ x ∈ xs, (g x).fz = g x) : D.fzL (xs.map g) = xs.map g := by
  rw [D.fzL_map, List.map_map]
  exact List.map_congr_left h
theorem anyOw_map {α : Type} {g : α → D} {xs : List α} (h : ∀ x ∈ xs, (g x).ow = false) : anyOw (xs.map g) = false := by
  show (xs.map g).any D.ow = false
  rw [List.any_map]
  exact List.any_eq_false.mpr fun x m => by simp [h x m]
theorem cl2L_map {α : Type} {g : α → D} {xs : List α} (h : ∀ x ∈ xs, (g x).cl2 = true) : D.cl2L (xs.map g) = true := by
  induction xs with
  | nil => rfl
  | cons x xs ih =>
    rw [List.map_cons, D.cl2L, h x List.mem_cons_self, ih fun y m => h y (List.mem_cons_of_mem _ m)]
    rfl
theorem clnL_map {α : Type} {g : α → D} {xs : List α} (h : ∀ x ∈ xs, (g x).cln = true) : D.clnL (xs.map g) = true := by
  rw [D.clnL_all, List.all_map]
  exact List.all_eq_true.mpr h
theorem pl_pc (p : List Nat) : Pl (pcD p) := by
  refine ⟨?_, rfl, ?_, ?_, fun j hj => ?_, ?_⟩
  · show D.n (.tup false) (D.erL (p.map nD)) = _
    rw [erL_map fun _ _ => rfl]; rfl
  · show (true && (decide (Kd.tup false ≠ .flst) && D.cl2L (p.map nD))) = true
    rw [cl2L_map fun _ _ => rfl]; rfl
  · show (true && D.clnL (p.map nD)) = true
    rw [clnL_map fun _ _ => rfl]; rfl
  · show (true && (decide (0 < j) && D.okL (p.map nD) (j - 1))) = true
    rw [okL_map fun _ _ => rfl, decide_eq_true (by omega)]; rfl
  · show D.n (.tup false) (D.fzL (p.map nD)) = _
    rw [fzL_map fun _ _ => rfl]; rfl
section
variable {α : Type} {g : α → D} {xs : List α}
theorem er_pl (h : ∀ x ∈ xs, Pl (g x)) : D.erL (xs.map g) = xs.map g := erL_map fun x m => (h x m).1
theorem ow_pl (h : ∀ x ∈ xs, Pl (g x)) : anyOw (xs.map g) = false := anyOw_map fun x m => (h x m).2.1
theorem c2_pl (h : ∀ x ∈ xs, Pl (g x)) : D.cl2L (xs.map g) = true := cl2L_map fun x m => (h x m).2.2.1
theorem cl_pl (h : ∀ x ∈ xs, Pl (g x)) : D.clnL (xs.map g) = true := clnL_map fun x m => (h x m).2.2.2.1
theorem fz_pl (h : ∀ x ∈ xs, Pl (g x)) : D.fzL (xs.map g) = xs.map g := fzL_map fun x m => (h x m).2.2.2.2.2
theorem ok_pl {j : Nat} (hj : 5 ≤ j) (h : ∀ x ∈ xs, Pl (g x)) : D.okL (xs.map g) j = true := okL_map fun x m => (h x m).2.2.2.2.1 j hj
end
/-- the facts for lists of numbers and of pieces -/
theorem er_nD (xs : List Nat) : D.erL (xs.map nD) = xs.map nD := er_pl fun x _ => pl_n x
theorem er_pcD (xs : List (List Nat)) : D.erL (xs.map pcD) = xs.map pcD := er_pl fun x _ => pl_pc x
theorem ow_nD (xs : List Nat) : anyOw (xs.map nD) = false := ow_pl fun x _ => pl_n x
theorem ow_dI (xs : List Int) : anyOw (xs.map dI) = false := ow_pl fun x _ => pl_i x
theorem ow_pcD (xs : List (List Nat)) : anyOw (xs.map pcD) = false := ow_pl fun x _ => pl_pc x
theorem c2_nD (xs : List Nat) : D.cl2L (xs.map nD) = true := c2_pl fun x _ => pl_n x
theorem c2_dI (xs : List Int) : D.cl2L (xs.map dI) = true := c2_pl fun x _ => pl_i x
theorem c2_pcD (xs : List (List Nat)) : D.cl2L (xs.map pcD) = true := c2_pl fun x _ => pl_pc x
theorem cl_nD (xs : List Nat) : D.clnL (xs.map nD) = true := cl_pl fun x _ => pl_n x
theorem cl_pcD (xs : List (List Nat)) : D.clnL (xs.map pcD) = true := cl_pl fun x _ => pl_pc x
theorem at_map {β : Type} {g : β → D} {xs : List β} {i : Int} {x : β} (h0 : 0 ≤ i) (h : xs[i.toNat]? = some x) : atI (xs.map g) i = some (g x) := by
  obtain ⟨n, rfl⟩ := Int.eq_ofNat_of_zero_le h0
  exact atI_nat (j := n) (by rw [List.getElem?_map]; rw [show xs[n]? = some x from h]; rfl)
theorem enum_split {xs dn rest : List D} {d : D} (h : enumD xs = dn ++ d :: rest) : ∃ x, xs[dn.length]? = some x ∧ d = .n (.tup false) [.v (.int (dn.length : Nat)), x] := by
  have hl : dn.length < (enumD xs).length := by rw [h]; simp
  have hn : (enumD xs).length = xs.length := by simp [enumD]
  rw [hn] at hl
  refine ⟨xs[dn.length], List.getElem?_eq_getElem hl, ?_⟩
  have e : (enumD xs)[dn.length]? = some d := by rw [h]; simp
  rw [enumD, List.getElem?_map, List.getElem?_range hl] at e
  have e2 := (Option.some.inj e).symm
  rw [e2]
  show D.n (Kd.tup false) [dI (dn.length : Nat), xs.getD dn.length (.v .non)] = _
  rw [List.getD_eq_getElem?_getD, List.getElem?_eq_getElem hl]
  rfl
theorem enum_len {xs : List D} : (enumD xs).length = xs.length := by simp [enumD]
/-- equal data -/
theorem str_beq_self (x : Str) : (x == x) = true := by simp
mutual
theorem eqv_self : ∀ (d : D) (j : Nat), d.okD j = true → PyData.eqv d.py d.py = true
  | .v x, j, h => by
    have h : flatOk x = true := h
    cases x with
    | non => simp [D.py, PyData.eqv]
    | bl b => simp [D.py, PyData.eqv]
    | int i => simp [D.py, PyData.eqv]
    | str y => rw [D.py, PyData.eqv]; exact str_beq_self y
    | byt _ => cases h
    | flt _ => cases h
    | ref _ => cases h
    | ty _ => cases h
  | .g, j, h => by cases h
  | .n k ds, j, h => by
    have h : (k.seq && (decide (0 < j) && D.okL ds (j - 1))) = true := h
    rw [Bool.and_eq_true, Bool.and_eq_true] at h
    have ih := eqvL_self ds (j - 1) h.2.2
    cases k with
    | tup o => rw [D.py, PyData.eqv]; exact ih
    | lst o => rw [D.py, PyData.eqv]; exact ih
    | scr => rw [D.py, PyData.eqv]; exact ih
    | flst => rw [D.py, PyData.eqv]; exact ih
    | dct o ks => cases h.1
    | ins o c fs => cases h.1
    | exc c fs => cases h.1
theorem eqvL_self : ∀ (ds : List D) (j : Nat), D.okL ds j = true → PyData.eqvAll (D.pyL ds) (D.pyL ds) = true
  | [], j, h => by rw [D.pyL, PyData.eqvAll]
  | d :: ds, j, h => by
    have h : (d.okD j && D.okL ds j) = true := h
    rw [Bool.and_eq_true] at h
    rw [D.pyL, PyData.eqvAll, eqv_self d j h.1, eqvL_self ds j h.2]
    rfl
end
theorem gEq_same {d e : D} (h1 : d.okD 60 = true) (h2 : e.okD 60 = true) (h : d.py = e.py) : gEq d e = some (.v (.bl true)) := by
  unfold gEq
  rw [h1, h2, ← h, eqv_self d 60 h1]
  rfl
theorem gNe_same {d e : D} (h1 : d.okD 60 = true) (h2 : e.okD 60 = true) (h : d.py = e.py) : gNe d e = some (.v (.bl false)) := by
  unfold gNe
  rw [h1, h2, ← h, eqv_self d 60 h1]
  rfl
/-- a list against the empty one -/
theorem gEq_nil {xs : List D} (h : D.okL xs 59 = true) : gEq (.n (.lst true) xs) (.n (.lst true) []) = some (.v (.bl (xs.isEmpty))) := by
  unfold gEq
  have h1 : D.okD (.n (.lst true) xs) 60 = true := by
    show (true && (decide (0 < 60) && D.okL xs (60 - 1))) = true
    rw [show (60 - 1 : Nat) = 59 from rfl, h]; rfl
  have h2 : D.okD (.n (.lst true) []) 60 = true := rfl
  rw [h1, h2]
  show (if (true && true) = true then some (D.v (.bl (PyData.eqv (.list (D.pyL xs)) (.list (D.pyL []))))) else none) = _
  rw [Bool.and_self, if_pos rfl]
  cases xs with
  | nil => simp [D.pyL, PyData.eqv, PyData.eqvAll]
  | cons x xs => simp [D.pyL, PyData.eqv, PyData.eqvAll]
theorem gEq_nD_nil (xs : List Nat) : gEq (.n (.lst true) (xs.map nD)) (.n (.lst true) []) = some (.v (.bl (xs.isEmpty))) := by
  rw [gEq_nil (ok_pl (by decide) fun x _ => pl_n x), List.isEmpty_map]
theorem gNe_pc_nil (p : List Nat) : gNe (.n (.tup false) (p.map nD)) (.n (.tup false) []) = some (.v (.bl (!p.isEmpty))) := by
  unfold gNe
  have h1 : D.okD (.n (.tup false) (p.map nD)) 60 = true := (pl_pc p).2.2.2.2.1 60 (by decide)
  have h2 : D.okD (.n (.tup false) []) 60 = true := rfl
  rw [h1, h2]
  show (if (true && true) = true then some (D.v (.bl (!PyData.eqv (.tuple (D.pyL (p.map nD))) (.tuple (D.pyL []))))) else none) = _
  rw [Bool.and_self, if_pos rfl]
  cases p with
  | nil => simp [D.pyL, PyData.eqv, PyData.eqvAll]
  | cons x xs => simp [D.pyL, PyData.eqv, PyData.eqvAll]
def prD (p : Nat × Nat) : D := .n (.tup false) [nD p.1, nD p.2]
theorem prD_eq (p : Nat × Nat) : prD p = .n (.tup false) [nD p.1, nD p.2] := rfl
theorem pl_pr (p : Nat × Nat) : Pl (prD p) := pl_pc [p.1, p.2]
theorem er_prD (xs : List (Nat × Nat)) : D.erL (xs.map prD) = xs.map prD := er_pl fun x _ => pl_pr x
theorem ow_prD (xs : List (Nat × Nat)) : anyOw (xs.map prD) = false := ow_pl fun x _ => pl_pr x
theorem c2_prD (xs : List (Nat × Nat)) : D.cl2L (xs.map prD) = true := c2_pl fun x _ => pl_pr x
theorem cl_prD (xs : List (Nat × Nat)) : D.clnL (xs.map prD) = true := cl_pl fun x _ => pl_pr x
section
variable {h : D → En → Option En} {b : En → Option Out} {ρ : En} {items : List D}
theorem turn_or {d : D} {ρ1 : En} {Q : En → Prop} {Rt : D → Prop} (e1 : h d ρ = some ρ1) (e2 : ∃ o, b ρ1 = some o ∧ ((∃ ρ2, o = .nx ρ2 ∧ Q ρ2) ∨ ∃ d2 ρ2, o = .rt d2 ρ2 ∧ Rt d2)) : ∃ ρ1 o, h d ρ = some ρ1 ∧ b ρ1 = some o ∧ ((∃ ρ2, o = .nx ρ2 ∧ Q ρ2) ∨ ∃ d2 ρ2, o = .rt d2 ρ2 ∧ Rt d2) := by
  obtain ⟨o, e, q⟩ := e2
  exact ⟨ρ1, o, e1, e, q⟩
/-- a loop that may end with a return -/
theorem for_or (Inv : List D → En → Prop) (Rt : D → Prop) (step : ∀ dn d rest ρ, items = dn ++ d :: rest → Inv dn ρ → ∃ ρ1 o, h d ρ = some ρ1 ∧ b ρ1 = some o ∧ ((∃ ρ2, o = .nx ρ2 ∧ Inv (dn ++ [d]) ρ2) ∨ ∃ d2 ρ2, o = .rt d2 ρ2 ∧ Rt d2)) (h0 : Inv [] ρ) :
    (∃ ρ', sForL h b items ρ = some (.nx ρ') ∧ Inv items ρ') ∨ ∃ d2 ρ2, sForL h b items ρ = some (.rt d2 ρ2) ∧ Rt d2 := by
  suffices H : ∀ (rest dn : List D) (ρ : En), items = dn ++ rest → Inv dn ρ → (∃ ρ', sForL h b rest ρ = some (.nx ρ') ∧ Inv items ρ') ∨ ∃ d2 ρ2, sForL h b rest ρ = some (.rt d2 ρ2) ∧ Rt d2 from H items [] ρ rfl h0
  intro rest
  induction rest with
  | nil =>
    intro dn ρ e i
    rw [List.append_nil] at e
    subst e
    exact .inl ⟨ρ, rfl, i⟩
  | cons d rest ih =>
    intro dn ρ e i
    obtain ⟨ρ1, o, e1, e2, c⟩ := step dn d rest ρ e i
    rcases c with ⟨ρ2, rfl, i2⟩ | ⟨d2, ρ2, rfl, hr⟩
    · rw [forL_cons e1 e2]
      exact ih (dn ++ [d]) ρ2 (by rw [e]; simp) i2
    · rw [forL_rt e1 e2]
      exact .inr ⟨d2, ρ2, rfl, hr⟩
end
end DL

set_option Elab.async false
set_option linter.all false
set_option maxRecDepth 100000
set_option maxHeartbeats 4000000
/-! DM3: dicts of numbers, sorted keys, closures -/
namespace DL
open PySem L2
open PyProof.Rows hiding St
def kI (n : Nat) : Key := Sum.inl (n : Int)
theorem kI_inj {a b : Nat} (h : kI a = kI b) : a = b := by
  have := Sum.inl.inj h
  omega
def addK (ks : List Nat) (x : Nat) : List Nat := if x ∈ ks then ks else ks ++ [x]
theorem any_kI (ks : List Nat) (x : Nat) : ((ks.map kI).any fun k => decide (k = kI x)) = decide (x ∈ ks) := by
  rw [List.any_map]
  apply Bool.eq_iff_iff.mpr
  rw [List.any_eq_true, decide_eq_true_iff]
  constructor
  · rintro ⟨y, m, h⟩
    have := kI_inj (of_decide_eq_true h)
    rw [← this]; exact m
  · intro m
    exact ⟨x, m, decide_eq_true rfl⟩
theorem putKs_kI (ks : List Nat) (x : Nat) : putKs (ks.map kI) (kI x) = (addK ks x).map kI := by
  unfold putKs addK
  rw [any_kI]
  by_cases h : x ∈ ks
  · rw [decide_eq_true h, if_pos rfl, if_pos h]
  · rw [decide_eq_false h, if_neg (by decide), if_neg h, List.map_append]; rfl
theorem putDs_all (ks : List Nat) (x : Nat) (t : D) : putDs (ks.map kI) (ks.map fun _ => t) (kI x) t = (addK ks x).map fun _ => t := by
  unfold putDs addK
  rw [any_kI]
  by_cases h : x ∈ ks
  · rw [decide_eq_true h, if_pos rfl, if_pos h, List.zip_map', List.map_map]
    apply List.map_congr_left
    intro y _
    show (if kI y = kI x then t else t) = t
    split <;> rfl
  · rw [decide_eq_false h, if_neg (by decide), if_neg h, List.map_append]; rfl
theorem putDs_new (ks : List Nat) (ds : List D) (x : Nat) (t : D) (h : x ∉ ks) : putDs (ks.map kI) ds (kI x) t = ds ++ [t] := by
  unfold putDs
  rw [any_kI, decide_eq_false h, if_neg (by decide)]
theorem addK_new {ks : List Nat} {x : Nat} (h : x ∉ ks) : addK ks x = ks ++ [x] := if_neg h
theorem mem_addK {ks : List Nat} {x y : Nat} : y ∈ addK ks x ↔ y ∈ ks ∨ y = x := by
  unfold addK
  split
  · rename_i h
    constructor
    · exact .inl
    · rintro (m | rfl)
      · exact m
      · exact h
  · simp
theorem addK_nodup {ks : List Nat} {x : Nat} (h : ks.Nodup) : (addK ks x).Nodup := by
  unfold addK
  split
  · exact h
  · rename_i hx
    rw [List.nodup_append]
    exact ⟨h, List.nodup_cons.mpr ⟨(fun m => nomatch m), List.nodup_nil⟩, fun a ha b hb e => by rw [List.mem_singleton.mp hb] at e; exact hx (e ▸ ha)⟩
theorem look_map (ks : List Nat) (g : Nat → D) (x : Nat) : dLook (ks.map kI) (ks.map g) (kI x) = if x ∈ ks then some (g x) else none := by
  induction ks with
  | nil => rfl
  | cons k ks ih =>
    rw [List.map_cons, List.map_cons]
    unfold dLook
    by_cases h : kI k = kI x
    · have := kI_inj h
      subst this
      rw [if_pos rfl, if_pos List.mem_cons_self]
    · have hk : k ≠ x := fun e => h (by rw [e])
      rw [if_neg h, ih]
      by_cases hx : x ∈ ks
      · rw [if_pos hx, if_pos (List.mem_cons_of_mem _ hx)]
      · rw [if_neg hx, if_neg]
        intro m
        rcases List.mem_cons.mp m with e | m
        · exact hk e.symm
        · exact hx m
theorem keyInts_kI (ks : List Nat) : keyInts (ks.map kI) = some (ks.map fun (n : Nat) => (n : Int)) := by
  induction ks with
  | nil => rfl
  | cons k ks ih =>
    rw [List.map_cons]
    show (keyInts (ks.map kI)).map (fun ns => (k : Int) :: ns) = _
    rw [ih]; rfl
/-- the keys sorted: all numbers below n that are keys -/
theorem sort_keys {ks : List Nat} {n : Nat} (hd : ks.Nodup) (hn : ∀ k ∈ ks, k < n) : sortI (ks.map fun (k : Nat) => (k : Int)) = ((List.range n).filter fun i => decide (i ∈ ks)).map fun (k : Nat) => (k : Int) := by
  refine sorted_uniq ?_ (sortI_pair _) ?_
  · refine (sortI_perm _).trans ?_
    refine List.Perm.map _ ?_
    rw [List.perm_ext_iff_of_nodup hd (List.nodup_range.filter _)]
    intro a
    rw [List.mem_filter, List.mem_range, decide_eq_true_iff]
    exact ⟨fun m => ⟨hn a m, m⟩, fun m => m.2⟩
  · rw [List.pairwise_map]
    refine List.Pairwise.imp (fun {a b} h => ?_) ((List.pairwise_lt_range (n := n)).filter _)
    omega
theorem nodup_len {ks : List Nat} {n : Nat} (hd : ks.Nodup) (hn : ∀ k ∈ ks, k < n) : ks.length ≤ n := by
  have p : ks.Perm ((List.range n).filter fun i => decide (i ∈ ks)) := by
    rw [List.perm_ext_iff_of_nodup hd (List.nodup_range.filter _)]
    intro a
    rw [List.mem_filter, List.mem_range, decide_eq_true_iff]
    exact ⟨fun m => ⟨hn a m, m⟩, fun m => m.2⟩
  rw [p.length_eq]
  have := List.length_filter_le (fun i => decide (i ∈ ks)) (List.range n)
  simpa using this
/-- sets that grow downwards -/
def growK (sh : List (List Nat)) (K : List Nat) (i : Nat) : List Nat := if i ∈ K then (sh.getD i []).foldl addK K else K
def growB (sh : List (List Nat)) (B : List Bool) (i : Nat) : List Bool := if B.getD i false = true then (sh.getD i []).foldl (fun B f => B.set f true) B else B
structure KB (n : Nat) (K : List Nat) (B : List Bool) : Prop where
  nd : K.Nodup
  lt : ∀ k ∈ K, k < n
  len : B.length = n
  iff : ∀ i, i < n → (i ∈ K ↔ B.getD i false = true)
theorem KB.add {n : Nat} {K : List Nat} {B : List Bool} {f : Nat} (h : KB n K B) (hf : f < n) : KB n (addK K f) (B.set f true) := by
  refine ⟨addK_nodup h.nd, fun k m => ?_, by rw [List.length_set, h.len], fun i hi => ?_⟩
  · rcases mem_addK.mp m with m | rfl
    · exact h.lt k m
    · exact hf
  · rw [mem_addK, h.iff i hi, List.getD_eq_getElem?_getD, List.getD_eq_getElem?_getD, List.getElem?_set]
    by_cases e : f = i
    · subst e
      simp [h.len, hi]
    · simp [e, Ne.symm e]
theorem KB.adds {n : Nat} (fs : List Nat) : ∀ {K : List Nat} {B : List Bool}, KB n K B → (∀ f ∈ fs, f < n) → KB n (fs.foldl addK K) (fs.foldl (fun B f => B.set f true) B) := by
  induction fs with
  | nil => intro K B h _; exact h
  | cons f fs ih =>
    intro K B h hf
    exact ih (h.add (hf f List.mem_cons_self)) fun g m => hf g (List.mem_cons_of_mem _ m)
theorem mem_adds {y : Nat} (fs : List Nat) : ∀ {K : List Nat}, y ∈ fs.foldl addK K ↔ y ∈ K ∨ y ∈ fs := by
  induction fs with
  | nil => intro K; simp
  | cons f fs ih =>
    intro K
    rw [List.foldl_cons, ih, mem_addK, List.mem_cons]
    constructor
    · rintro ((h | h) | h)
      · exact .inl h
      · exact .inr (.inl h)
      · exact .inr (.inr h)
    · rintro (h | h | h)
      · exact .inl (.inl h)
      · exact .inl (.inr h)
      · exact .inr h
theorem KB.step {n : Nat} {sh : List (List Nat)} {K : List Nat} {B : List Bool} {i : Nat} (h : KB n K B) (hi : i < n) (hf : ∀ f ∈ sh.getD i [], f < n) : KB n (growK sh K i) (growB sh B i) := by
  unfold growK growB
  by_cases m : i ∈ K
  · rw [if_pos m, if_pos ((h.iff i hi).mp m)]
    exact h.adds _ hf
  · rw [if_neg m, if_neg (fun e => m ((h.iff i hi).mpr e))]
    exact h
/-- what is taken stays closed from i on -/
def ClK (sh : List (List Nat)) (K : List Nat) (i : Nat) : Prop := ∀ j, i ≤ j → j ∈ K → ∀ f ∈ sh.getD j [], f ∈ K
theorem ClK.step {sh : List (List Nat)} {K : List Nat} {i : Nat} (h : ClK sh K (i + 1)) (lt : ∀ f ∈ sh.getD i [], f < i) : ClK sh (growK sh K i) i := by
  intro j hj m f hf
  unfold growK at m ⊢
  by_cases c : i ∈ K
  · rw [if_pos c] at m ⊢
    rw [mem_adds] at m ⊢
    rcases Nat.lt_or_ge i j with g | g
    · rcases m with m | m
      · exact .inl (h j g m f hf)
      · exact absurd (lt j m) (by omega)
    · have : j = i := by omega
      subst this
      exact .inr hf
  · rw [if_neg c] at m ⊢
    rcases Nat.lt_or_ge i j with g | g
    · exact h j g m f hf
    · have : j = i := by omega
      subst this
      exact absurd m c
theorem down_split {n : Nat} {dn rest : List D} {d : D} (h : downD ((n : Int) - 1) n = dn ++ d :: rest) : dn.length < n ∧ d = .v (.int ((n - 1 - dn.length : Nat) : Int)) := by
  have hl : dn.length < (downD ((n : Int) - 1) n).length := by rw [h]; simp
  have hn : (downD ((n : Int) - 1) n).length = n := by simp [downD]
  rw [hn] at hl
  refine ⟨hl, ?_⟩
  have e : (downD ((n : Int) - 1) n)[dn.length]? = some d := by rw [h]; simp
  rw [downD, List.getElem?_map, List.getElem?_range hl] at e
  rw [← Option.some.inj e]
  show dI _ = _
  rw [dI_eq]
  congr 2
  omega
theorem down_len {lo : Int} {n : Nat} : (downD lo n).length = n := by simp [downD]
/-- the place of a number in a list -/
theorem idx_nat (old : List Nat) (x : Nat) (h : x ∈ old) : idxV (.int x) (old.map fun (n : Nat) => V.int n) = some (old.idxOf x) := by
  induction old with
  | nil => cases h
  | cons y ys ih =>
    rw [List.map_cons]
    unfold idxV
    have e : eqV (.int (y : Int)) (.int (x : Int)) = decide (y = x) := by
      show ((y : Int) == (x : Int)) = _
      by_cases c : y = x
      · subst c; simp
      · rw [decide_eq_false c]
        simp
        omega
    rw [e]
    by_cases c : y = x
    · subst c
      simp
    · rw [decide_eq_false c, if_neg (by decide)]
      rcases List.mem_cons.mp h with m | m
      · exact absurd m.symm c
      · rw [ih m, List.idxOf_cons]
        have : (y == x) = false := by simpa using c
        rw [this]
        rfl
theorem flats_nD (xs : List Nat) : flatsOf (xs.map nD) = some (xs.map fun (n : Nat) => V.int n) := by
  induction xs with
  | nil => rfl
  | cons x xs ih =>
    rw [List.map_cons]
    show (if flatV (.int (x : Int)) then (flatsOf (xs.map nD)).map (fun ys => V.int x :: ys) else none) = _
    rw [ih]; rfl
theorem in_nat (xs : List Nat) (x : Nat) : inV (.int (x : Int)) (xs.map fun (n : Nat) => V.int n) = decide (x ∈ xs) := by
  unfold inV
  rw [List.any_map]
  apply Bool.eq_iff_iff.mpr
  rw [List.any_eq_true, decide_eq_true_iff]
  constructor
  · rintro ⟨y, m, h⟩
    have h : ((y : Int) == (x : Int)) = true := h
    have h2 : (y : Int) = x := by simpa using h
    have : y = x := by omega
    rw [← this]; exact m
  · intro m
    refine ⟨x, m, ?_⟩
    show ((x : Int) == (x : Int)) = true
    simp
section
variable {α β : Type} {h : D → En → Option En} {bd : En → Option Out}
/-- a loop as a fold -/
theorem for_fold {g : α → D} (mk : β → En → Prop) (f : β → α → β) : ∀ (xs : List α) (b0 : β) (ρ : En), (∀ b x ρ, x ∈ xs → mk b ρ → ∃ ρ1 ρ2, h (g x) ρ = some ρ1 ∧ bd ρ1 = some (.nx ρ2) ∧ mk (f b x) ρ2) → mk b0 ρ → ∃ ρ', sForL h bd (xs.map g) ρ = some (.nx ρ') ∧ mk (xs.foldl f b0) ρ' := by
  intro xs
  induction xs with
  | nil => intro b0 ρ _ m; exact ⟨ρ, rfl, m⟩
  | cons x xs ih =>
    intro b0 ρ st m
    obtain ⟨ρ1, ρ2, e1, e2, m2⟩ := st b0 x ρ List.mem_cons_self m
    obtain ⟨ρ', e3, m3⟩ := ih (f b0 x) ρ2 (fun b y ρ hy => st b y ρ (List.mem_cons_of_mem _ hy)) m2
    refine ⟨ρ', ?_, m3⟩
    rw [List.map_cons, forL_cons e1 e2]
    exact e3
theorem for_fold_app {g : α → D} (mk : β → En → Prop) (f : β → α → β) (rest : List D) : ∀ (xs : List α) (b0 : β) (ρ : En), (∀ b x ρ, x ∈ xs → mk b ρ → ∃ ρ1 ρ2, h (g x) ρ = some ρ1 ∧ bd ρ1 = some (.nx ρ2) ∧ mk (f b x) ρ2) → mk b0 ρ → ∃ ρ', sForL h bd (xs.map g ++ rest) ρ = sForL h bd rest ρ' ∧ mk (xs.foldl f b0) ρ' := by
  intro xs
  induction xs with
  | nil => intro b0 ρ _ m; exact ⟨ρ, rfl, m⟩
  | cons x xs ih =>
    intro b0 ρ st m
    obtain ⟨ρ1, ρ2, e1, e2, m2⟩ := st b0 x ρ List.mem_cons_self m
    obtain ⟨ρ', e3, m3⟩ := ih (f b0 x) ρ2 (fun b y ρ hy => st b y ρ (List.mem_cons_of_mem _ hy)) m2
    refine ⟨ρ', ?_, m3⟩
    rw [List.map_cons, List.cons_append, forL_cons e1 e2]
    exact e3
theorem turn1 {d : D} {ρ ρ1 : En} {Q : En → Prop} (e1 : h d ρ = some ρ1) (e2 : ∃ ρ2, bd ρ1 = some (.nx ρ2) ∧ Q ρ2) : ∃ ρ1 ρ2, h d ρ = some ρ1 ∧ bd ρ1 = some (.nx ρ2) ∧ Q ρ2 := by
  obtain ⟨ρ2, e, q⟩ := e2
  exact ⟨ρ1, ρ2, e1, e, q⟩
end
/-- n - 1, .., 0 -/
def dwn (n : Nat) : List Nat := (List.range n).map fun i => n - 1 - i
theorem downD_dwn (n : Nat) : downD ((n : Int) - 1) n = (dwn n).map nD := by
  unfold downD dwn
  rw [List.map_map]
  apply List.map_congr_left
  intro i hi
  rw [List.mem_range] at hi
  show D.v (.int ((n : Int) - 1 - i)) = D.v (.int ((n - 1 - i : Nat) : Int))
  congr 2
  omega
theorem rngD_nat (n : Nat) : rngD 0 n = (List.range n).map nD := by
  unfold rngD
  apply List.map_congr_left
  intro i _
  show D.v (.int (0 + (i : Int))) = D.v (.int (i : Int))
  congr 2
  omega
section
variable {h : D → En → Option En} {b : En → Option Out} {ρ : En} {items : List D} {i : Nat} {d0 : Option D}
theorem forS_inv (Inv : List D → En → Prop) (kp : ∀ dn ρ, Inv dn ρ → ρ.getD i none = d0) (step : ∀ dn d rest ρ, items = dn ++ d :: rest → Inv dn ρ → ∃ ρ1 ρ2, h d ρ = some ρ1 ∧ b ρ1 = some (.nx ρ2) ∧ Inv (dn ++ [d]) ρ2) (h0 : Inv [] ρ) :
    ∃ ρ', sForSL i d0 h b items ρ = some (.nx ρ') ∧ Inv items ρ' := by
  suffices H : ∀ (rest dn : List D) (ρ : En), items = dn ++ rest → Inv dn ρ → ∃ ρ', sForSL i d0 h b rest ρ = some (.nx ρ') ∧ Inv items ρ' from H items [] ρ rfl h0
  intro rest
  induction rest with
  | nil =>
    intro dn ρ e iv
    unfold sForSL
    rw [if_pos (kp dn ρ iv)]
    rw [List.append_nil] at e
    subst e
    exact ⟨ρ, rfl, iv⟩
  | cons d rest ih =>
    intro dn ρ e iv
    obtain ⟨ρ1, ρ2, e1, e2, i2⟩ := step dn d rest ρ e iv
    obtain ⟨ρ', e3, i3⟩ := ih (dn ++ [d]) ρ2 (by rw [e]; simp) i2
    refine ⟨ρ', ?_, i3⟩
    unfold sForSL
    rw [if_pos (kp dn ρ iv), e1]
    simp only [Option.bind_some, e2]
    exact e3
end
/-- the keys below n, sorted -/
def oldK (n : Nat) (K : List Nat) : List Nat := (List.range n).filter fun i => decide (i ∈ K)
theorem mem_oldK {n : Nat} {K : List Nat} {x : Nat} : x ∈ oldK n K ↔ x < n ∧ x ∈ K := by
  unfold oldK
  rw [List.mem_filter, List.mem_range, decide_eq_true_iff]
theorem oldK_nodup {n : Nat} {K : List Nat} : (oldK n K).Nodup := List.nodup_range.filter _
theorem oldK_len {n : Nat} {K : List Nat} : (oldK n K).length ≤ n := by
  have := List.length_filter_le (fun i => decide (i ∈ K)) (List.range n)
  simpa [oldK] using this
theorem sort_dct {n : Nat} {K : List Nat} {ds : List D} (hd : K.Nodup) (hn : ∀ k ∈ K, k < n) (h : n < 64) : gSortD [.n (.dct true (K.map kI)) ds] = some (.n (.lst true) ((oldK n K).map nD)) := by
  show (keyInts (K.map kI)).bind (fun ns => if ns.length < 64 then some (D.n (.lst true) ((sortI ns).map dI)) else none) = _
  rw [keyInts_kI]
  simp only [Option.bind_some]
  rw [if_pos (by rw [List.length_map]; have := nodup_len hd hn; omega), sort_keys hd hn, List.map_map]
  rfl
section
variable {α : Type} {h : D → En → Option En} {c : En → Option Bool} {fe : En → Option D} {ρ : En}
theorem lcL_mapN {g k : α → D} : ∀ (xs : List α), (∀ x ∈ xs, ∃ ρ1, h (g x) ρ = some ρ1 ∧ c ρ1 = some true ∧ fe ρ1 = some (k x)) → lcL h c fe ρ (xs.map g) = some (xs.map k)
  | [], _ => rfl
  | x :: xs, H => by
    obtain ⟨ρ1, e1, e2, e3⟩ := H x List.mem_cons_self
    rw [List.map_cons]
    unfold lcL
    rw [e1]
    simp only [Option.bind_some, e2, if_true, e3]
    rw [lcL_mapN xs fun y m => H y (List.mem_cons_of_mem _ m)]
    rfl
theorem lcL_filN {g k : α → D} {p : α → Bool} : ∀ (xs : List α), (∀ x ∈ xs, ∃ ρ1, h (g x) ρ = some ρ1 ∧ c ρ1 = some (p x) ∧ (p x = true → fe ρ1 = some (k x))) → lcL h c fe ρ (xs.map g) = some ((xs.filter p).map k)
  | [], _ => rfl
  | x :: xs, H => by
    obtain ⟨ρ1, e1, e2, e3⟩ := H x List.mem_cons_self
    have ih := lcL_filN xs fun y m => H y (List.mem_cons_of_mem _ m)
    rw [List.map_cons]
    unfold lcL
    rw [e1]
    simp only [Option.bind_some, e2]
    cases hp : p x with
    | true =>
      rw [if_pos rfl, e3 hp]
      simp only [Option.bind_some]
      rw [ih]
      simp [List.filter_cons, hp]
    | false =>
      rw [if_neg (by decide), ih]
      simp [List.filter_cons, hp]
end
theorem look_range : ∀ (old : List Nat) (s x : Nat), x ∈ old → dLook (old.map kI) ((List.range' s old.length).map nD) (kI x) = some (nD (s + old.idxOf x))
  | [], s, x, h => nomatch h
  | y :: ys, s, x, h => by
    rw [List.map_cons, List.length_cons, List.range'_succ, List.map_cons]
    unfold dLook
    by_cases e : y = x
    · subst e
      rw [if_pos rfl]
      simp
    · rw [if_neg (fun z => e (kI_inj z))]
      rcases List.mem_cons.mp h with m | m
      · exact absurd m.symm e
      · rw [look_range ys (s + 1) x m, List.idxOf_cons]
        have : (y == x) = false := by simpa using e
        rw [this]
        show some (nD (s + 1 + ys.idxOf x)) = some (nD (s + (ys.idxOf x + 1)))
        rw [show s + 1 + ys.idxOf x = s + (ys.idxOf x + 1) by omega]
/-- an index of the places of old -/
def ixD (b : Bool) (old : List Nat) : D := .n (.dct b (old.map kI)) ((List.range old.length).map nD)
theorem get_ix {b : Bool} {old : List Nat} {x : Nat} (h : x ∈ old) : gDGet (ixD b old) (.v (.int (x : Int))) = some (nD (old.idxOf x)) := by
  show (toKey (.v (.int (x : Int)))).bind (fun k => dLook (old.map kI) ((List.range old.length).map nD) k) = _
  show dLook (old.map kI) ((List.range old.length).map nD) (kI x) = _
  rw [List.range_eq_range', look_range old 0 x h, Nat.zero_add]
theorem ixD_fz (old : List Nat) : (ixD true old).fz = ixD false old := by
  show D.n (.dct false (old.map kI)) (D.fzL ((List.range old.length).map nD)) = _
  rw [fz_pl fun x _ => pl_n x]
  rfl
theorem put_ix (i : Nat) (ρ : En) (fe fx : En → Option D) (ks : List Nat) (n x : Nat) (h1 : ρ.getD i none = some (ixD true ks)) (h2 : fe ρ = some (.v (.int (n : Int)))) (h3 : fx ρ = some (.v (.int (x : Int)))) (hn : n = ks.length) (hx : x ∉ ks) (hz : ks.length < 16777216) :
    sDPutF fe i pNil fx ρ = some (.nx (ρ.set i (some (ixD true (ks ++ [x]))))) := by
  subst hn
  unfold sDPutF fFree pNil
  rw [h1, h2, ixD]
  have e : D.ow (.v (.int (ks.length : Int))) = false := rfl
  simp only [Option.bind_some, e, Bool.false_eq_true, if_false, D.get, h3]
  show (toKey (.v (.int (x : Int)))).bind _ = _
  rw [show toKey (.v (.int (x : Int))) = some (kI x) from rfl]
  simp only [Option.bind_some, List.length_map, sizeLine_eq, hz, if_true, D.put, Option.map_some]
  rw [putKs_kI, addK_new hx, putDs_new _ _ _ _ hx]
  unfold ixD
  rw [List.length_append, List.length_singleton, List.range_succ, List.map_append (l₁ := List.range ks.length)]
  rfl
/-- a while loop, the measure within the invariant -/
theorem while_m {b : En → Option Out} {c : En → Option Bool} (Inv : Nat → En → Prop) (step : ∀ m ρ, Inv m ρ → ∃ k, c ρ = some k ∧ (k = true → ∃ ρ2 m2, b ρ = some (.nx ρ2) ∧ Inv m2 ρ2 ∧ m2 < m)) : ∀ (n m : Nat) (ρ : En), Inv m ρ → m < n → ∃ ρ' m', sWhile n c b ρ = some (.nx ρ') ∧ Inv m' ρ' ∧ c ρ' = some false := by
  intro n
  induction n with
  | zero => intro m ρ _ h; omega
  | succ n ih =>
    intro m ρ i hm
    obtain ⟨k, e, hk⟩ := step m ρ i
    unfold sWhile
    rw [e]
    simp only [Option.bind_some]
    cases k with
    | false => exact ⟨ρ, m, by simp, i, e⟩
    | true =>
      obtain ⟨ρ2, m2, e2, i2, h2⟩ := hk rfl
      obtain ⟨ρ', m', e3, i3, c3⟩ := ih m2 ρ2 i2 (by omega)
      refine ⟨ρ', m', ?_, i3, c3⟩
      rw [if_pos rfl, e2]
      exact e3
theorem ow_lst (b : Bool) (ds : List D) : D.ow (.n (.lst b) ds) = b := rfl
theorem ow_tup (b : Bool) (ds : List D) : D.ow (.n (.tup b) ds) = b := rfl
theorem ow_int (x : V) : D.ow (.v x) = false := rfl
end DL

set_option linter.all false
/-! DM4: gluing: the least relation that holds of the pairs and goes over to faces -/
namespace Gl
/-- the closure -/
inductive Cl (sh : List (List Nat)) (P : List (Nat × Nat)) : Nat → Nat → Prop
  | base {p} : p ∈ P → Cl sh P p.1 p.2
  | refl (x) : Cl sh P x x
  | symm {x y} : Cl sh P x y → Cl sh P y x
  | trans {x y z} : Cl sh P x y → Cl sh P y z → Cl sh P x z
  | face {x y a b q} : Cl sh P x y → sh[x]? = some a → sh[y]? = some b → q ∈ a.zip b → Cl sh P q.1 q.2
/-- R and what waits, taken together -/
inductive Gn (R : Nat → Nat → Prop) (W : List (Nat × Nat)) : Nat → Nat → Prop
  | rel {x y} : R x y → Gn R W x y
  | mem {p} : p ∈ W → Gn R W p.1 p.2
  | symm {x y} : Gn R W x y → Gn R W y x
  | trans {x y z} : Gn R W x y → Gn R W y z → Gn R W x z
theorem Gn.mono {R R' : Nat → Nat → Prop} {W W' : List (Nat × Nat)} (h1 : ∀ x y, R x y → Gn R' W' x y) (h2 : ∀ p ∈ W, Gn R' W' p.1 p.2) {x y : Nat} (h : Gn R W x y) : Gn R' W' x y := by
  induction h with
  | rel h => exact h1 _ _ h
  | mem h => exact h2 _ h
  | symm _ ih => exact ih.symm
  | trans _ _ ih1 ih2 => exact ih1.trans ih2
structure Eqv (R : Nat → Nat → Prop) : Prop where
  refl : ∀ x, R x x
  symm : ∀ x y, R x y → R y x
  trans : ∀ x y z, R x y → R y z → R x z
/-- how far the gluing is -/
structure St (sh : List (List Nat)) (P : List (Nat × Nat)) (R : Nat → Nat → Prop) (W : List (Nat × Nat)) : Prop where
  eqv : Eqv R
  snd : ∀ x y, R x y → Cl sh P x y
  wsn : ∀ p ∈ W, Cl sh P p.1 p.2
  prs : ∀ p ∈ P, Gn R W p.1 p.2
  fcs : ∀ x y a b q, R x y → sh[x]? = some a → sh[y]? = some b → q ∈ a.zip b → Gn R W q.1 q.2
/-- pieces that are glued have one length -/
def Lns (sh : List (List Nat)) (P : List (Nat × Nat)) : Prop := ∀ x y a b, Cl sh P x y → sh[x]? = some a → sh[y]? = some b → a.length = b.length
/-- closed in the range -/
def Rng (sh : List (List Nat)) (P : List (Nat × Nat)) : Prop := ∀ x y, Cl sh P x y → x ≠ y → x < sh.length ∧ y < sh.length
theorem zip_mid {a b c : List Nat} {q : Nat × Nat} (h : q ∈ a.zip c) (l : a.length = b.length) : ∃ z, (q.1, z) ∈ a.zip b ∧ (z, q.2) ∈ b.zip c := by
  obtain ⟨i, hi, e⟩ := List.getElem_of_mem h
  rw [List.length_zip] at hi
  rw [List.getElem_zip] at e
  have hb : i < b.length := by omega
  refine ⟨b[i], ?_, ?_⟩
  · have : (a.zip b)[i]'(by rw [List.length_zip]; omega) = (a[i], b[i]) := List.getElem_zip
    rw [← e, ← this]
    exact List.getElem_mem _
  · have : (b.zip c)[i]'(by rw [List.length_zip]; omega) = (b[i], c[i]) := List.getElem_zip
    rw [← e]
    show (b[i], c[i]) ∈ b.zip c
    rw [← this]
    exact List.getElem_mem _
theorem zip_swap {a b : List Nat} {x y : Nat} (h : (x, y) ∈ a.zip b) : (y, x) ∈ b.zip a := by
  obtain ⟨i, hi, e⟩ := List.getElem_of_mem h
  rw [List.getElem_zip] at e
  rw [List.length_zip] at hi
  have e1 : a[i]'(by omega) = x := congrArg Prod.fst e
  have e2 : b[i]'(by omega) = y := congrArg Prod.snd e
  have : (b.zip a)[i]'(by rw [List.length_zip]; omega) = (b[i]'(by omega), a[i]'(by omega)) := List.getElem_zip
  rw [← e1, ← e2, ← this]
  exact List.getElem_mem _
section
variable {sh : List (List Nat)} {P : List (Nat × Nat)} {R R' : Nat → Nat → Prop} {W : List (Nat × Nat)}
theorem St.start (h : Eqv R) (hR : ∀ x y, R x y → x = y) : St sh P R P := by
  refine ⟨h, fun x y r => ?_, fun p m => .base m, fun p m => .mem m, fun x y a b q r ha hb m => ?_⟩
  · rw [hR x y r]; exact .refl y
  · have := hR x y r
    subst this
    rw [ha] at hb
    cases hb
    obtain ⟨i, hi, e⟩ := List.getElem_of_mem m
    rw [List.getElem_zip] at e
    rw [← e]
    exact .rel (h.refl _)
/-- one pair is taken whose things are one already -/
theorem St.skip {p q : Nat} (s : St sh P R (W ++ [(p, q)])) (h : R p q) : St sh P R W := by
  have up : ∀ {x y}, Gn R (W ++ [(p, q)]) x y → Gn R W x y := Gn.mono (fun x y r => .rel r) fun w m => by
    rcases List.mem_append.mp m with m | m
    · exact .mem m
    · rw [List.mem_singleton.mp m]; exact .rel h
  exact ⟨s.eqv, s.snd, fun w m => s.wsn w (List.mem_append_left _ m), fun w m => up (s.prs w m), fun x y a b w r ha hb m => up (s.fcs x y a b w r ha hb m)⟩
/-- one pair is taken, two classes become one; a, b stand for p, q -/
theorem St.merge {p q a b : Nat} {pa pb : List Nat} (s : St sh P R (W ++ [(p, q)])) (ln : Lns sh P) (hp : R a p) (hq : R b q) (ea : sh[a]? = some pa) (eb : sh[b]? = some pb) (e' : Eqv R') (h' : ∀ x y, R' x y ↔ R x y ∨ (R x a ∧ R b y) ∨ (R x b ∧ R a y)) (rng : ∀ x y, Cl sh P x y → x ≠ y → x < sh.length ∧ y < sh.length) :
    St sh P R' (W ++ pa.zip pb) := by
  have cl : Cl sh P a b := ((s.snd _ _ hp).trans (s.wsn (p, q) (by simp))).trans (s.snd _ _ hq).symm
  have up : ∀ {x y}, Gn R (W ++ [(p, q)]) x y → Gn R' (W ++ pa.zip pb) x y := Gn.mono (fun x y r => .rel ((h' x y).mpr (.inl r))) fun w m => by
    rcases List.mem_append.mp m with m | m
    · exact .mem (List.mem_append_left _ m)
    · rw [List.mem_singleton.mp m]
      exact .rel ((h' p q).mpr (.inr (.inl ⟨s.eqv.symm _ _ hp, hq⟩)))
  have get : ∀ x y, Cl sh P x y → (sh[y]?).isSome = true → ∃ c, sh[x]? = some c := fun x y c h => by
    by_cases e : x = y
    · subst e
      exact Option.isSome_iff_exists.mp h
    · have := (rng x y c e).1
      exact ⟨_, List.getElem?_eq_getElem this⟩
  have lab : pa.length = pb.length := ln a b pa pb cl ea eb
  refine ⟨e', fun x y r => ?_, fun w m => ?_, fun w m => up (s.prs w m), fun x y c d w r hc hd m => ?_⟩
  · rcases (h' x y).mp r with r | ⟨r1, r2⟩ | ⟨r1, r2⟩
    · exact s.snd x y r
    · exact ((s.snd _ _ r1).trans cl).trans (s.snd _ _ r2)
    · exact ((s.snd _ _ r1).trans cl.symm).trans (s.snd _ _ r2)
  · rcases List.mem_append.mp m with m | m
    · exact s.wsn w (List.mem_append_left _ m)
    · exact .face cl ea eb m
  · rcases (h' x y).mp r with r | ⟨r1, r2⟩ | ⟨r1, r2⟩
    · exact up (s.fcs x y c d w r hc hd m)
    · have l1 : c.length = pa.length := ln x a c pa (s.snd _ _ r1) hc ea
      obtain ⟨z1, m1, m2⟩ := zip_mid m l1
      obtain ⟨z2, m3, m4⟩ := zip_mid m2 lab
      exact ((up (s.fcs x a c pa _ r1 hc ea m1)).trans (.mem (p := (z1, z2)) (List.mem_append_right _ m3))).trans (up (s.fcs b y pb d _ r2 eb hd m4))
    · have l1 : c.length = pb.length := ln x b c pb (s.snd _ _ r1) hc eb
      obtain ⟨z1, m1, m2⟩ := zip_mid m l1
      obtain ⟨z2, m3, m4⟩ := zip_mid m2 lab.symm
      have m3' : (z2, z1) ∈ pa.zip pb := zip_swap m3
      exact ((up (s.fcs x b c pb _ r1 hc eb m1)).trans (.symm (.mem (p := (z2, z1)) (List.mem_append_right _ m3')))).trans (up (s.fcs a y pa d _ r2 ea hd m4))
/-- when nothing waits any more, R is the closure -/
theorem St.done (s : St sh P R []) (x y : Nat) : R x y ↔ Cl sh P x y := by
  have col : ∀ {x y}, Gn R [] x y → R x y := fun h => by
    induction h with
    | rel h => exact h
    | mem h => exact nomatch h
    | symm _ ih => exact s.eqv.symm _ _ ih
    | trans _ _ i1 i2 => exact s.eqv.trans _ _ _ i1 i2
  refine ⟨s.snd x y, fun c => ?_⟩
  induction c with
  | base m => exact col (s.prs _ m)
  | refl x => exact s.eqv.refl x
  | symm _ ih => exact s.eqv.symm _ _ ih
  | trans _ _ i1 i2 => exact s.eqv.trans _ _ _ i1 i2
  | face _ ha hb m ih => exact col (s.fcs _ _ _ _ _ ih ha hb m)
end
/-! two ways to tell the classes by their least members -/
/-- labels: the least of its class -/
theorem least_unique {R : Nat → Nat → Prop} {f g : Nat → Nat} {n : Nat} (hf : ∀ x, x < n → R x (f x) ∧ f x < n) (hg : ∀ x, x < n → R x (g x) ∧ g x < n) (lf : ∀ x y, x < n → y < n → R x y → f x ≤ y) (lg : ∀ x y, x < n → y < n → R x y → g x ≤ y) (x : Nat) (hx : x < n) : f x = g x :=
  Nat.le_antisymm (lf x _ hx (hg x hx).2 (hg x hx).1) (lg x _ hx (hf x hx).2 (hf x hx).1)
end Gl

set_option linter.all false
/-! DM5: the two ways to keep classes: roots of a list of firsts; labels -/
namespace Gl
/-- firsts: each stands at or ahead of its own place -/
def Fst (n : Nat) (L : List Nat) : Prop := L.length = n ∧ ∀ x, x < n → L.getD x x ≤ x
def root (L : List Nat) (x : Nat) : Nat := if h : L.getD x x < x then root L (L.getD x x) else x
termination_by x
theorem root_le (L : List Nat) (x : Nat) : root L x ≤ x := by
  induction x using Nat.strongRecOn with
  | _ x ih =>
    unfold root
    split
    · rename_i h
      have := ih _ h
      omega
    · exact Nat.le_refl _
theorem root_fix {n : Nat} {L : List Nat} (h : Fst n L) (x : Nat) : L.getD (root L x) (root L x) = root L x := by
  induction x using Nat.strongRecOn with
  | _ x ih =>
    unfold root
    split
    · rename_i g; exact ih _ g
    · rename_i g
      by_cases hx : x < n
      · have := h.2 x hx
        omega
      · rw [List.getD_eq_getElem?_getD, List.getElem?_eq_none (by rw [h.1]; omega)]
        rfl
theorem root_of_fix {L : List Nat} {x : Nat} (h : L.getD x x = x) : root L x = x := by
  unfold root
  rw [dif_neg (by omega)]
theorem root_root {n : Nat} {L : List Nat} (h : Fst n L) (x : Nat) : root L (root L x) = root L x := root_of_fix (root_fix h x)
theorem root_step {n : Nat} {L : List Nat} (h : Fst n L) (x : Nat) (hx : x < n) : root L (L.getD x x) = root L x := by
  by_cases g : L.getD x x < x
  · conv => rhs; unfold root
    rw [dif_pos g]
  · have := h.2 x hx
    have e : L.getD x x = x := by omega
    rw [e]
theorem getD_set {L : List Nat} {i v x d : Nat} (hi : i < L.length) : (L.set i v).getD x d = if x = i then v else L.getD x d := by
  rw [List.getD_eq_getElem?_getD, List.getElem?_set, List.getD_eq_getElem?_getD]
  by_cases e : i = x
  · subst e
    simp [hi]
  · simp [e, Ne.symm e]
theorem Fst.set {n : Nat} {L : List Nat} {hi lo : Nat} (h : Fst n L) (h1 : hi < n) (h2 : lo < hi) : Fst n (L.set hi lo) := by
  refine ⟨by rw [List.length_set, h.1], fun x hx => ?_⟩
  rw [getD_set (by rw [h.1]; exact h1)]
  split
  · omega
  · exact h.2 x hx
/-- a root goes below another -/
theorem root_set {n : Nat} {L : List Nat} {hi lo : Nat} (h : Fst n L) (h1 : hi < n) (h2 : lo < hi) (f1 : L.getD hi hi = hi) (f2 : L.getD lo lo = lo) (x : Nat) : root (L.set hi lo) x = if root L x = hi then lo else root L x := by
  induction x using Nat.strongRecOn with
  | _ x ih =>
    have gs : (L.set hi lo).getD x x = if x = hi then lo else L.getD x x := getD_set (by rw [h.1]; exact h1)
    by_cases e : x = hi
    · subst e
      rw [if_pos rfl] at gs
      have r1 : root L x = x := root_of_fix f1
      rw [r1, if_pos rfl]
      unfold root
      rw [gs, dif_pos h2]
      have g2 : (L.set x lo).getD lo lo = lo := by
        rw [getD_set (by rw [h.1]; exact h1), if_neg (by omega)]
        exact f2
      exact root_of_fix g2
    · rw [if_neg e] at gs
      by_cases g : L.getD x x < x
      · conv => lhs; unfold root
        rw [gs, dif_pos g, ih _ g]
        have : root L x = root L (L.getD x x) := by
          conv => lhs; unfold root
          rw [dif_pos g]
        rw [this]
      · have r1 : root L x = x := by unfold root; rw [dif_neg g]
        have r2 : root (L.set hi lo) x = x := by unfold root; rw [gs, dif_neg g]
        rw [r1, r2, if_neg e]
def REq (L : List Nat) (x y : Nat) : Prop := root L x = root L y
theorem REq.eqv (L : List Nat) : Eqv (REq L) := ⟨fun _ => rfl, fun _ _ h => Eq.symm h, fun _ _ _ h1 h2 => Eq.trans h1 h2⟩
theorem REq.set {n : Nat} {L : List Nat} {a b : Nat} (h : Fst n L) (ha : a < n) (hb : b < n) (fa : L.getD a a = a) (fb : L.getD b b = b) (hne : a ≠ b) (x y : Nat) :
    REq (L.set (max a b) (min a b)) x y ↔ REq L x y ∨ (REq L x a ∧ REq L b y) ∨ (REq L x b ∧ REq L a y) := by
  have ra := root_of_fix fa
  have rb := root_of_fix fb
  have key : ∀ z, root (L.set (max a b) (min a b)) z = if root L z = max a b then min a b else root L z := fun z => by
    refine root_set h (by omega) (by omega) ?_ ?_ z
    · rcases Nat.le_total a b with c | c
      · rw [Nat.max_eq_right c]; exact fb
      · rw [Nat.max_eq_left c]; exact fa
    · rcases Nat.le_total a b with c | c
      · rw [Nat.min_eq_left c]; exact fa
      · rw [Nat.min_eq_right c]; exact fb
  unfold REq
  rw [key, key, ra, rb]
  generalize root L x = u
  generalize root L y = v
  rcases Nat.lt_or_gt_of_ne hne with c | c
  · rw [Nat.max_eq_right (Nat.le_of_lt c), Nat.min_eq_left (Nat.le_of_lt c)]
    split <;> split <;> omega
  · rw [Nat.max_eq_left (Nat.le_of_lt c), Nat.min_eq_right (Nat.le_of_lt c)]
    split <;> split <;> omega
/-- labels: each is the least of its class -/
structure Lab (n : Nat) (M : List Nat) : Prop where
  len : M.length = n
  le : ∀ x, x < n → M.getD x x ≤ x
  id : ∀ x, x < n → M.getD (M.getD x x) (M.getD x x) = M.getD x x
def LEq (M : List Nat) (x y : Nat) : Prop := M.getD x x = M.getD y y
theorem LEq.eqv (M : List Nat) : Eqv (LEq M) := ⟨fun _ => rfl, fun _ _ h => Eq.symm h, fun _ _ _ h1 h2 => Eq.trans h1 h2⟩
def relab (M : List Nat) (lo hi : Nat) : List Nat := M.map fun l => if l = hi then lo else l
theorem relab_get {n : Nat} {M : List Nat} (h : M.length = n) {lo hi x : Nat} (hx : x < n) : (relab M lo hi).getD x x = if M.getD x x = hi then lo else M.getD x x := by
  unfold relab
  rw [List.getD_eq_getElem?_getD, List.getElem?_map, List.getD_eq_getElem?_getD, List.getElem?_eq_getElem (by rw [h]; exact hx)]
  rfl
theorem Lab.relab {n : Nat} {M : List Nat} {lo hi : Nat} (h : Lab n M) (h2 : lo < hi) (h3 : hi < n) (f1 : M.getD lo lo = lo) : Lab n (relab M lo hi) := by
  refine ⟨by unfold Gl.relab; rw [List.length_map, h.len], fun x hx => ?_, fun x hx => ?_⟩
  · rw [relab_get h.len hx]
    have := h.le x hx
    split <;> omega
  · have l1 := h.le x hx
    rw [relab_get h.len hx]
    by_cases c : M.getD x x = hi
    · rw [if_pos c, relab_get h.len (by omega), f1, if_neg (by omega)]
    · rw [if_neg c, relab_get h.len (by omega), h.id x hx, if_neg c]
theorem LEq.relab {n : Nat} {M : List Nat} {a b : Nat} (h : Lab n M) (ha : a < n) (hb : b < n) (hne : M.getD a a ≠ M.getD b b) (x y : Nat) (hx : x < n) (hy : y < n) :
    LEq (Gl.relab M (min (M.getD a a) (M.getD b b)) (max (M.getD a a) (M.getD b b))) x y ↔ LEq M x y ∨ (LEq M x a ∧ LEq M b y) ∨ (LEq M x b ∧ LEq M a y) := by
  unfold LEq
  rw [relab_get h.len hx, relab_get h.len hy]
  generalize M.getD x x = u
  generalize M.getD y y = v
  revert hne
  generalize M.getD a a = p
  generalize M.getD b b = q
  intro hne
  rcases Nat.lt_or_gt_of_ne hne with c | c
  · rw [Nat.max_eq_right (Nat.le_of_lt c), Nat.min_eq_left (Nat.le_of_lt c)]
    split <;> split <;> omega
  · rw [Nat.max_eq_left (Nat.le_of_lt c), Nat.min_eq_right (Nat.le_of_lt c)]
    split <;> split <;> omega
theorem relab_getA {n : Nat} {M : List Nat} (h : M.length = n) {lo hi : Nat} (h3 : hi < n) (x : Nat) : (relab M lo hi).getD x x = if M.getD x x = hi then lo else M.getD x x := by
  by_cases hx : x < n
  · exact relab_get h hx
  · unfold relab
    rw [List.getD_eq_getElem?_getD, List.getElem?_eq_none (by rw [List.length_map, h]; omega), List.getD_eq_getElem?_getD, List.getElem?_eq_none (by rw [h]; omega)]
    show x = if x = hi then lo else x
    rw [if_neg (by omega)]
theorem LEq.relabA {n : Nat} {M : List Nat} {a b : Nat} (h : Lab n M) (ha : a < n) (hb : b < n) (hne : M.getD a a ≠ M.getD b b) (x y : Nat) :
    LEq (Gl.relab M (min (M.getD a a) (M.getD b b)) (max (M.getD a a) (M.getD b b))) x y ↔ LEq M x y ∨ (LEq M x a ∧ LEq M b y) ∨ (LEq M x b ∧ LEq M a y) := by
  have la := h.le a ha
  have lb := h.le b hb
  unfold LEq
  rw [relab_getA h.len (by omega), relab_getA h.len (by omega)]
  generalize M.getD x x = u
  generalize M.getD y y = v
  revert hne
  generalize M.getD a a = p
  generalize M.getD b b = q
  intro hne
  rcases Nat.lt_or_gt_of_ne hne with c | c
  · rw [Nat.max_eq_right (Nat.le_of_lt c), Nat.min_eq_left (Nat.le_of_lt c)]
    split <;> split <;> omega
  · rw [Nat.max_eq_left (Nat.le_of_lt c), Nat.min_eq_right (Nat.le_of_lt c)]
    split <;> split <;> omega
/-- how many stand for themselves -/
def fixN (L : List Nat) (n : Nat) : Nat := ((List.range n).filter fun x => decide (L.getD x x = x)).length
theorem fix_less {L L' : List Nat} {n x0 : Nat} (h : ∀ x, x < n → L'.getD x x = x → L.getD x x = x) (h0 : x0 < n) (h1 : L.getD x0 x0 = x0) (h2 : L'.getD x0 x0 ≠ x0) : fixN L' n < fixN L n := by
  unfold fixN
  have gen : ∀ (l : List Nat), (∀ x ∈ l, x < n) → x0 ∈ l → (l.filter fun x => decide (L'.getD x x = x)).length < (l.filter fun x => decide (L.getD x x = x)).length := by
    have le : ∀ (l : List Nat), (∀ x ∈ l, x < n) → (l.filter fun x => decide (L'.getD x x = x)).length ≤ (l.filter fun x => decide (L.getD x x = x)).length := by
      intro l
      induction l with
      | nil => intro _; exact Nat.le_refl _
      | cons y l ih =>
        intro hl
        have i := ih fun x m => hl x (List.mem_cons_of_mem _ m)
        rw [List.filter_cons, List.filter_cons]
        by_cases c : L'.getD y y = y
        · have c2 := h y (hl y List.mem_cons_self) c
          rw [if_pos (decide_eq_true c), if_pos (decide_eq_true c2)]
          simp only [List.length_cons]
          omega
        · rw [if_neg (by simpa using c)]
          split
          · simp only [List.length_cons]; omega
          · exact i
    intro l
    induction l with
    | nil => intro _ m; exact nomatch m
    | cons y l ih =>
      intro hl m
      have hl2 := fun x m => hl x (List.mem_cons_of_mem y m)
      have i := le l hl2
      rw [List.filter_cons, List.filter_cons]
      by_cases e : y = x0
      · subst e
        rw [if_neg (by simpa using h2), if_pos (decide_eq_true h1)]
        simp only [List.length_cons]
        omega
      · have m : x0 ∈ l := by
          rcases List.mem_cons.mp m with z | z
          · exact absurd z.symm e
          · exact z
        have j := ih hl2 m
        by_cases c : L'.getD y y = y
        · have c2 := h y (hl y List.mem_cons_self) c
          rw [if_pos (decide_eq_true c), if_pos (decide_eq_true c2)]
          simp only [List.length_cons]
          omega
        · rw [if_neg (by simpa using c)]
          split
          · simp only [List.length_cons]; omega
          · exact j
  exact gen _ (fun x m => List.mem_range.mp m) (List.mem_range.mpr h0)
end Gl

set_option Elab.async false
set_option linter.all false
set_option maxRecDepth 100000
set_option maxHeartbeats 4000000
namespace A95
open DL PySem L2
open PyProof.Rows hiding St
theorem m_cell (ns : List Int) (k : Int) (h0 : 0 ≤ k) : p__law_cell [.n .scr (ns.map dI), .v (.int k)] = some (.ret (.v (.int (ns.getD k.toNat 0))) []) := by
  unfold p__law_cell fnG b__law_cell
  simp only [sSeq, sIf, sRet, sAsg, sDrop, sPass, sFor, sForS, sFz, sMut, sMut0, sDPutF, sRaise, fHold, fMove, fFree, fVar, fC, f1, f2, fL, fCons, fNil, oCons, oNil, oTup, oLst, fTup, fLst, fT, fAnd, fOr, fNot, fAndV, fOrV, fNotV, fIf, fChain, fIsN, fNotN, DL.isNon, DL.isG, gSet, gsCons, gsNil, gUn, gUnL, gStore, pNil, pIx, opApp, opClear, opIns, gLen, gLt_ii, gLe_ii, gGt_ii, gGe_ii, gSub_ii, gAdd_ii, gMul_sm, gMod_pos, gDiv_pos, gPow_sm, gEq_ii, gNe_ii, gNeg, sizeLine_eq, gMax2, gMin2, gList, gTuple, gIx, Kd.seq, D.ow, Kd.ow, D.get, D.put, Kd.at, itemsOf, fItems, fRng1, fRng3, fEnum, fCall, oCall, takeAll, pinIx, D.erL, D.er, Kd.er, D.clnL, D.cln, Kd.cln, cl2_v, cl2_lst, cl2_tup, D.cl2L, fD0, gTupD, anyOw_nil, anyOw_cons, Bool.or_false, Bool.false_or, dI_eq, nD_eq, pcD_eq, prD_eq, er_prD, ow_prD, c2_prD, cl_prD, erL_dI, er_nD, er_pcD, ow_nD, ow_dI, ow_pcD, c2_nD, c2_dI, c2_pcD, cl_nD, cl_pcD, clnL_dI, List.getD_cons_zero, List.getD_cons_succ, List.set_cons_zero, List.set_cons_succ, List.map_cons, List.map_nil, List.length_cons, List.length_nil, List.length_map, List.replicate, List.append_nil, List.cons_append, List.nil_append, Option.bind_some, Option.map_some, Option.bind_none, Option.map_none, if_true, if_false, Bool.and_true, Bool.true_and, Bool.false_eq_true, reduceIte, reduceCtorEq, decide_true, decide_false, Nat.reduceAdd, Nat.reduceLT, Nat.reduceSub, Nat.reduceLeDiff]
  by_cases h : k < (ns.length : Int)
  · rw [decide_eq_true h]
    simp only [sSeq, sIf, sRet, sAsg, sDrop, sPass, sFor, sForS, sFz, sMut, sMut0, sDPutF, sRaise, fHold, fMove, fFree, fVar, fC, f1, f2, fL, fCons, fNil, oCons, oNil, oTup, oLst, fTup, fLst, fT, fAnd, fOr, fNot, fAndV, fOrV, fNotV, fIf, fChain, fIsN, fNotN, DL.isNon, DL.isG, gSet, gsCons, gsNil, gUn, gUnL, gStore, pNil, pIx, opApp, opClear, opIns, gLen, gLt_ii, gLe_ii, gGt_ii, gGe_ii, gSub_ii, gAdd_ii, gMul_sm, gMod_pos, gDiv_pos, gPow_sm, gEq_ii, gNe_ii, gNeg, sizeLine_eq, gMax2, gMin2, gList, gTuple, gIx, Kd.seq, D.ow, Kd.ow, D.get, D.put, Kd.at, itemsOf, fItems, fRng1, fRng3, fEnum, fCall, oCall, takeAll, pinIx, D.erL, D.er, Kd.er, D.clnL, D.cln, Kd.cln, cl2_v, cl2_lst, cl2_tup, D.cl2L, fD0, gTupD, anyOw_nil, anyOw_cons, Bool.or_false, Bool.false_or, dI_eq, nD_eq, pcD_eq, prD_eq, er_prD, ow_prD, c2_prD, cl_prD, erL_dI, er_nD, er_pcD, ow_nD, ow_dI, ow_pcD, c2_nD, c2_dI, c2_pcD, cl_nD, cl_pcD, clnL_dI, List.getD_cons_zero, List.getD_cons_succ, List.set_cons_zero, List.set_cons_succ, List.map_cons, List.map_nil, List.length_cons, List.length_nil, List.length_map, List.replicate, List.append_nil, List.cons_append, List.nil_append, Option.bind_some, Option.map_some, Option.bind_none, Option.map_none, if_true, if_false, Bool.and_true, Bool.true_and, Bool.false_eq_true, reduceIte, reduceCtorEq, decide_true, decide_false, Nat.reduceAdd, Nat.reduceLT, Nat.reduceSub, Nat.reduceLeDiff]
    have h' : k.toNat < ns.length := by omega
    have e := atI_dI h0 h'
    rw [e]
    simp only [sSeq, sIf, sRet, sAsg, sDrop, sPass, sFor, sForS, sFz, sMut, sMut0, sDPutF, sRaise, fHold, fMove, fFree, fVar, fC, f1, f2, fL, fCons, fNil, oCons, oNil, oTup, oLst, fTup, fLst, fT, fAnd, fOr, fNot, fAndV, fOrV, fNotV, fIf, fChain, fIsN, fNotN, DL.isNon, DL.isG, gSet, gsCons, gsNil, gUn, gUnL, gStore, pNil, pIx, opApp, opClear, opIns, gLen, gLt_ii, gLe_ii, gGt_ii, gGe_ii, gSub_ii, gAdd_ii, gMul_sm, gMod_pos, gDiv_pos, gPow_sm, gEq_ii, gNe_ii, gNeg, sizeLine_eq, gMax2, gMin2, gList, gTuple, gIx, Kd.seq, D.ow, Kd.ow, D.get, D.put, Kd.at, itemsOf, fItems, fRng1, fRng3, fEnum, fCall, oCall, takeAll, pinIx, D.erL, D.er, Kd.er, D.clnL, D.cln, Kd.cln, cl2_v, cl2_lst, cl2_tup, D.cl2L, fD0, gTupD, anyOw_nil, anyOw_cons, Bool.or_false, Bool.false_or, dI_eq, nD_eq, pcD_eq, prD_eq, er_prD, ow_prD, c2_prD, cl_prD, erL_dI, er_nD, er_pcD, ow_nD, ow_dI, ow_pcD, c2_nD, c2_dI, c2_pcD, cl_nD, cl_pcD, clnL_dI, List.getD_cons_zero, List.getD_cons_succ, List.set_cons_zero, List.set_cons_succ, List.map_cons, List.map_nil, List.length_cons, List.length_nil, List.length_map, List.replicate, List.append_nil, List.cons_append, List.nil_append, Option.bind_some, Option.map_some, Option.bind_none, Option.map_none, if_true, if_false, Bool.and_true, Bool.true_and, Bool.false_eq_true, reduceIte, reduceCtorEq, decide_true, decide_false, Nat.reduceAdd, Nat.reduceLT, Nat.reduceSub, Nat.reduceLeDiff]
    rw [List.getD_eq_getElem?_getD, List.getElem?_eq_getElem h']
    rfl
  · rw [decide_eq_false h]
    simp only [sSeq, sIf, sRet, sAsg, sDrop, sPass, sFor, sForS, sFz, sMut, sMut0, sDPutF, sRaise, fHold, fMove, fFree, fVar, fC, f1, f2, fL, fCons, fNil, oCons, oNil, oTup, oLst, fTup, fLst, fT, fAnd, fOr, fNot, fAndV, fOrV, fNotV, fIf, fChain, fIsN, fNotN, DL.isNon, DL.isG, gSet, gsCons, gsNil, gUn, gUnL, gStore, pNil, pIx, opApp, opClear, opIns, gLen, gLt_ii, gLe_ii, gGt_ii, gGe_ii, gSub_ii, gAdd_ii, gMul_sm, gMod_pos, gDiv_pos, gPow_sm, gEq_ii, gNe_ii, gNeg, sizeLine_eq, gMax2, gMin2, gList, gTuple, gIx, Kd.seq, D.ow, Kd.ow, D.get, D.put, Kd.at, itemsOf, fItems, fRng1, fRng3, fEnum, fCall, oCall, takeAll, pinIx, D.erL, D.er, Kd.er, D.clnL, D.cln, Kd.cln, cl2_v, cl2_lst, cl2_tup, D.cl2L, fD0, gTupD, anyOw_nil, anyOw_cons, Bool.or_false, Bool.false_or, dI_eq, nD_eq, pcD_eq, prD_eq, er_prD, ow_prD, c2_prD, cl_prD, erL_dI, er_nD, er_pcD, ow_nD, ow_dI, ow_pcD, c2_nD, c2_dI, c2_pcD, cl_nD, cl_pcD, clnL_dI, List.getD_cons_zero, List.getD_cons_succ, List.set_cons_zero, List.set_cons_succ, List.map_cons, List.map_nil, List.length_cons, List.length_nil, List.length_map, List.replicate, List.append_nil, List.cons_append, List.nil_append, Option.bind_some, Option.map_some, Option.bind_none, Option.map_none, if_true, if_false, Bool.and_true, Bool.true_and, Bool.false_eq_true, reduceIte, reduceCtorEq, decide_true, decide_false, Nat.reduceAdd, Nat.reduceLT, Nat.reduceSub, Nat.reduceLeDiff]
    have h' : ns.length ≤ k.toNat := by omega
    rw [List.getD_eq_getElem?_getD, List.getElem?_eq_none h']
    rfl
theorem m_row_0 (S : D) (k many size cell : Int) (hk : 0 ≤ k) (hk2 : k ≤ 1000) (hm : 0 ≤ many) (hm2 : many ≤ 1000) (hs : 0 < size) (hs2 : size < 18446744073709551616) :
    ∃ ρ', l__law_row_0 [some S, some (.v (.int k)), some (.v (.int many)), some (.v (.int size)), some (.v (.int cell)), some (.v (.int cell)), some (.n (.lst true) []), none, none] = some (.nx ρ') ∧
      ∃ (xs : List Int) (r : Int) (x7 x8 : Option D), ρ' = [some S, some (.v (.int k)), some (.v (.int many)), some (.v (.int size)), some (.v (.int cell)), some (.v (.int r)), some (.n (.lst true) (xs.map dI)), x7, x8] ∧ xs.length = many.toNat ∧ ∀ x ∈ xs, 0 ≤ x ∧ x < size := by
  unfold l__law_row_0
  have hb : inBd many = true := decide_eq_true (by omega)
  simp (disch := omega) only [sSeq, sIf, sRet, sAsg, sDrop, sPass, sFor, sForS, sFz, sMut, sMut0, sDPutF, sRaise, fHold, fMove, fFree, fVar, fC, f1, f2, fL, fCons, fNil, oCons, oNil, oTup, oLst, fTup, fLst, fT, fAnd, fOr, fNot, fAndV, fOrV, fNotV, fIf, fChain, fIsN, fNotN, DL.isNon, DL.isG, gSet, gsCons, gsNil, gUn, gUnL, gStore, pNil, pIx, opApp, opClear, opIns, gLen, gLt_ii, gLe_ii, gGt_ii, gGe_ii, gSub_ii, gAdd_ii, gMul_sm, gMod_pos, gDiv_pos, gPow_sm, gEq_ii, gNe_ii, gNeg, sizeLine_eq, gMax2, gMin2, gList, gTuple, gIx, Kd.seq, D.ow, Kd.ow, D.get, D.put, Kd.at, itemsOf, fItems, fRng1, fRng3, fEnum, fCall, oCall, takeAll, pinIx, D.erL, D.er, Kd.er, D.clnL, D.cln, Kd.cln, cl2_v, cl2_lst, cl2_tup, D.cl2L, fD0, gTupD, anyOw_nil, anyOw_cons, Bool.or_false, Bool.false_or, dI_eq, nD_eq, pcD_eq, prD_eq, er_prD, ow_prD, c2_prD, cl_prD, erL_dI, er_nD, er_pcD, ow_nD, ow_dI, ow_pcD, c2_nD, c2_dI, c2_pcD, cl_nD, cl_pcD, clnL_dI, List.getD_cons_zero, List.getD_cons_succ, List.set_cons_zero, List.set_cons_succ, List.map_cons, List.map_nil, List.length_cons, List.length_nil, List.length_map, List.replicate, List.append_nil, List.cons_append, List.nil_append, Option.bind_some, Option.map_some, Option.bind_none, Option.map_none, if_true, if_false, Bool.and_true, Bool.true_and, Bool.false_eq_true, reduceIte, reduceCtorEq, decide_true, decide_false, Nat.reduceAdd, Nat.reduceLT, Nat.reduceSub, Nat.reduceLeDiff, hb]
  refine for_to (fun dn ρ' => ∃ (xs : List Int) (r : Int) (x7 x8 : Option D), ρ' = [some S, some (.v (.int k)), some (.v (.int many)), some (.v (.int size)), some (.v (.int cell)), some (.v (.int r)), some (.n (.lst true) (xs.map dI)), x7, x8] ∧ xs.length = dn.length ∧ ∀ x ∈ xs, 0 ≤ x ∧ x < size) ?_ ?_ ?_
  · rintro dn d rest ρ hsp ⟨xs, r, x7, x8, rfl, hx, hxs⟩
    obtain ⟨rfl, hd⟩ := rng_split hsp
    refine turn rfl ?_
    simp (disch := omega) only [sSeq, sIf, sRet, sAsg, sDrop, sPass, sFor, sForS, sFz, sMut, sMut0, sDPutF, sRaise, fHold, fMove, fFree, fVar, fC, f1, f2, fL, fCons, fNil, oCons, oNil, oTup, oLst, fTup, fLst, fT, fAnd, fOr, fNot, fAndV, fOrV, fNotV, fIf, fChain, fIsN, fNotN, DL.isNon, DL.isG, gSet, gsCons, gsNil, gUn, gUnL, gStore, pNil, pIx, opApp, opClear, opIns, gLen, gLt_ii, gLe_ii, gGt_ii, gGe_ii, gSub_ii, gAdd_ii, gMul_sm, gMod_pos, gDiv_pos, gPow_sm, gEq_ii, gNe_ii, gNeg, sizeLine_eq, gMax2, gMin2, gList, gTuple, gIx, Kd.seq, D.ow, Kd.ow, D.get, D.put, Kd.at, itemsOf, fItems, fRng1, fRng3, fEnum, fCall, oCall, takeAll, pinIx, D.erL, D.er, Kd.er, D.clnL, D.cln, Kd.cln, cl2_v, cl2_lst, cl2_tup, D.cl2L, fD0, gTupD, anyOw_nil, anyOw_cons, Bool.or_false, Bool.false_or, dI_eq, nD_eq, pcD_eq, prD_eq, er_prD, ow_prD, c2_prD, cl_prD, erL_dI, er_nD, er_pcD, ow_nD, ow_dI, ow_pcD, c2_nD, c2_dI, c2_pcD, cl_nD, cl_pcD, clnL_dI, List.getD_cons_zero, List.getD_cons_succ, List.set_cons_zero, List.set_cons_succ, List.map_cons, List.map_nil, List.length_cons, List.length_nil, List.length_map, List.replicate, List.append_nil, List.cons_append, List.nil_append, Option.bind_some, Option.map_some, Option.bind_none, Option.map_none, if_true, if_false, Bool.and_true, Bool.true_and, Bool.false_eq_true, reduceIte, reduceCtorEq, decide_true, decide_false, Nat.reduceAdd, Nat.reduceLT, Nat.reduceSub, Nat.reduceLeDiff]
    have hz : xs.length < 16777216 := by omega
    have fin : ∀ (n r2 : Int) (x8 : Option D), ∃ (xs' : List Int) (r' : Int) (x7 x8' : Option D), [some S, some (.v (.int k)), some (.v (.int many)), some (.v (.int size)), some (.v (.int cell)), some (.v (.int r2)), some (.n (.lst true) (xs.map dI ++ [.v (.int (n % size))])), some (.v (.int (0 + (dn.length : Nat)))), x8] =
        [some S, some (.v (.int k)), some (.v (.int many)), some (.v (.int size)), some (.v (.int cell)), some (.v (.int r')), some (.n (.lst true) (xs'.map dI)), x7, x8'] ∧ xs'.length = (dn ++ [D.v (.int (0 + (dn.length : Nat)))]).length ∧ ∀ x ∈ xs', 0 ≤ x ∧ x < size := fun n r2 x8 => by
      refine ⟨xs ++ [n % size], r2, some (.v (.int (0 + (dn.length : Nat)))), x8, by simp [dI], by simp [hx], fun x m => ?_⟩
      rcases List.mem_append.mp m with m | m
      · exact hxs x m
      · rw [List.mem_singleton.mp m]
        exact ⟨Int.emod_nonneg _ (by omega), Int.emod_lt_of_pos _ hs⟩
    by_cases h1 : (10 : Int) ^ Int.toNat 18 ≤ cell
    · by_cases h2 : 0 < r
      · simp (disch := omega) only [sSeq, sIf, sRet, sAsg, sDrop, sPass, sFor, sForS, sFz, sMut, sMut0, sDPutF, sRaise, fHold, fMove, fFree, fVar, fC, f1, f2, fL, fCons, fNil, oCons, oNil, oTup, oLst, fTup, fLst, fT, fAnd, fOr, fNot, fAndV, fOrV, fNotV, fIf, fChain, fIsN, fNotN, DL.isNon, DL.isG, gSet, gsCons, gsNil, gUn, gUnL, gStore, pNil, pIx, opApp, opClear, opIns, gLen, gLt_ii, gLe_ii, gGt_ii, gGe_ii, gSub_ii, gAdd_ii, gMul_sm, gMod_pos, gDiv_pos, gPow_sm, gEq_ii, gNe_ii, gNeg, sizeLine_eq, gMax2, gMin2, gList, gTuple, gIx, Kd.seq, D.ow, Kd.ow, D.get, D.put, Kd.at, itemsOf, fItems, fRng1, fRng3, fEnum, fCall, oCall, takeAll, pinIx, D.erL, D.er, Kd.er, D.clnL, D.cln, Kd.cln, cl2_v, cl2_lst, cl2_tup, D.cl2L, fD0, gTupD, anyOw_nil, anyOw_cons, Bool.or_false, Bool.false_or, dI_eq, nD_eq, pcD_eq, prD_eq, er_prD, ow_prD, c2_prD, cl_prD, erL_dI, er_nD, er_pcD, ow_nD, ow_dI, ow_pcD, c2_nD, c2_dI, c2_pcD, cl_nD, cl_pcD, clnL_dI, List.getD_cons_zero, List.getD_cons_succ, List.set_cons_zero, List.set_cons_succ, List.map_cons, List.map_nil, List.length_cons, List.length_nil, List.length_map, List.replicate, List.append_nil, List.cons_append, List.nil_append, Option.bind_some, Option.map_some, Option.bind_none, Option.map_none, if_true, if_false, Bool.and_true, Bool.true_and, Bool.false_eq_true, reduceIte, reduceCtorEq, decide_true, decide_false, Nat.reduceAdd, Nat.reduceLT, Nat.reduceSub, Nat.reduceLeDiff, h1, h2, List.length_map, hz]
        exact out_nx (fin _ _ _)
      · simp (disch := omega) only [sSeq, sIf, sRet, sAsg, sDrop, sPass, sFor, sForS, sFz, sMut, sMut0, sDPutF, sRaise, fHold, fMove, fFree, fVar, fC, f1, f2, fL, fCons, fNil, oCons, oNil, oTup, oLst, fTup, fLst, fT, fAnd, fOr, fNot, fAndV, fOrV, fNotV, fIf, fChain, fIsN, fNotN, DL.isNon, DL.isG, gSet, gsCons, gsNil, gUn, gUnL, gStore, pNil, pIx, opApp, opClear, opIns, gLen, gLt_ii, gLe_ii, gGt_ii, gGe_ii, gSub_ii, gAdd_ii, gMul_sm, gMod_pos, gDiv_pos, gPow_sm, gEq_ii, gNe_ii, gNeg, sizeLine_eq, gMax2, gMin2, gList, gTuple, gIx, Kd.seq, D.ow, Kd.ow, D.get, D.put, Kd.at, itemsOf, fItems, fRng1, fRng3, fEnum, fCall, oCall, takeAll, pinIx, D.erL, D.er, Kd.er, D.clnL, D.cln, Kd.cln, cl2_v, cl2_lst, cl2_tup, D.cl2L, fD0, gTupD, anyOw_nil, anyOw_cons, Bool.or_false, Bool.false_or, dI_eq, nD_eq, pcD_eq, prD_eq, er_prD, ow_prD, c2_prD, cl_prD, erL_dI, er_nD, er_pcD, ow_nD, ow_dI, ow_pcD, c2_nD, c2_dI, c2_pcD, cl_nD, cl_pcD, clnL_dI, List.getD_cons_zero, List.getD_cons_succ, List.set_cons_zero, List.set_cons_succ, List.map_cons, List.map_nil, List.length_cons, List.length_nil, List.length_map, List.replicate, List.append_nil, List.cons_append, List.nil_append, Option.bind_some, Option.map_some, Option.bind_none, Option.map_none, if_true, if_false, Bool.and_true, Bool.true_and, Bool.false_eq_true, reduceIte, reduceCtorEq, decide_true, decide_false, Nat.reduceAdd, Nat.reduceLT, Nat.reduceSub, Nat.reduceLeDiff, h1, h2, List.length_map, hz]
        exact out_nx (fin _ _ _)
    · simp (disch := omega) only [sSeq, sIf, sRet, sAsg, sDrop, sPass, sFor, sForS, sFz, sMut, sMut0, sDPutF, sRaise, fHold, fMove, fFree, fVar, fC, f1, f2, fL, fCons, fNil, oCons, oNil, oTup, oLst, fTup, fLst, fT, fAnd, fOr, fNot, fAndV, fOrV, fNotV, fIf, fChain, fIsN, fNotN, DL.isNon, DL.isG, gSet, gsCons, gsNil, gUn, gUnL, gStore, pNil, pIx, opApp, opClear, opIns, gLen, gLt_ii, gLe_ii, gGt_ii, gGe_ii, gSub_ii, gAdd_ii, gMul_sm, gMod_pos, gDiv_pos, gPow_sm, gEq_ii, gNe_ii, gNeg, sizeLine_eq, gMax2, gMin2, gList, gTuple, gIx, Kd.seq, D.ow, Kd.ow, D.get, D.put, Kd.at, itemsOf, fItems, fRng1, fRng3, fEnum, fCall, oCall, takeAll, pinIx, D.erL, D.er, Kd.er, D.clnL, D.cln, Kd.cln, cl2_v, cl2_lst, cl2_tup, D.cl2L, fD0, gTupD, anyOw_nil, anyOw_cons, Bool.or_false, Bool.false_or, dI_eq, nD_eq, pcD_eq, prD_eq, er_prD, ow_prD, c2_prD, cl_prD, erL_dI, er_nD, er_pcD, ow_nD, ow_dI, ow_pcD, c2_nD, c2_dI, c2_pcD, cl_nD, cl_pcD, clnL_dI, List.getD_cons_zero, List.getD_cons_succ, List.set_cons_zero, List.set_cons_succ, List.map_cons, List.map_nil, List.length_cons, List.length_nil, List.length_map, List.replicate, List.append_nil, List.cons_append, List.nil_append, Option.bind_some, Option.map_some, Option.bind_none, Option.map_none, if_true, if_false, Bool.and_true, Bool.true_and, Bool.false_eq_true, reduceIte, reduceCtorEq, decide_true, decide_false, Nat.reduceAdd, Nat.reduceLT, Nat.reduceSub, Nat.reduceLeDiff, h1, List.length_map, hz]
      exact out_nx (fin _ _ _)
  · exact ⟨[], cell, none, none, rfl, rfl, by simp⟩
  · rintro ρ' ⟨xs, r, x7, x8, e1, e2, e3⟩
    exact ⟨xs, r, x7, x8, e1, by rw [e2, rng_len], e3⟩
/-- a row of numbers below size -/
theorem m_row (ns : List Int) (k many size : Int) (hk : 0 ≤ k) (hk2 : k ≤ 1000) (hm : 0 ≤ many) (hm2 : many ≤ 1000) (hs : 0 < size) (hs2 : size < 18446744073709551616) :
    ∃ xs : List Int, p__law_row [.n .scr (ns.map dI), .v (.int k), .v (.int many), .v (.int size)] = some (.ret (.n (.lst true) (xs.map dI)) []) ∧ xs.length = many.toNat ∧ ∀ x ∈ xs, 0 ≤ x ∧ x < size := by
  unfold p__law_row fnG b__law_row
  simp (disch := omega) only [sSeq, sIf, sRet, sAsg, sDrop, sPass, sFor, sForS, sFz, sMut, sMut0, sDPutF, sRaise, fHold, fMove, fFree, fVar, fC, f1, f2, fL, fCons, fNil, oCons, oNil, oTup, oLst, fTup, fLst, fT, fAnd, fOr, fNot, fAndV, fOrV, fNotV, fIf, fChain, fIsN, fNotN, DL.isNon, DL.isG, gSet, gsCons, gsNil, gUn, gUnL, gStore, pNil, pIx, opApp, opClear, opIns, gLen, gLt_ii, gLe_ii, gGt_ii, gGe_ii, gSub_ii, gAdd_ii, gMul_sm, gMod_pos, gDiv_pos, gPow_sm, gEq_ii, gNe_ii, gNeg, sizeLine_eq, gMax2, gMin2, gList, gTuple, gIx, Kd.seq, D.ow, Kd.ow, D.get, D.put, Kd.at, itemsOf, fItems, fRng1, fRng3, fEnum, fCall, oCall, takeAll, pinIx, D.erL, D.er, Kd.er, D.clnL, D.cln, Kd.cln, cl2_v, cl2_lst, cl2_tup, D.cl2L, fD0, gTupD, anyOw_nil, anyOw_cons, Bool.or_false, Bool.false_or, dI_eq, nD_eq, pcD_eq, prD_eq, er_prD, ow_prD, c2_prD, cl_prD, erL_dI, er_nD, er_pcD, ow_nD, ow_dI, ow_pcD, c2_nD, c2_dI, c2_pcD, cl_nD, cl_pcD, clnL_dI, List.getD_cons_zero, List.getD_cons_succ, List.set_cons_zero, List.set_cons_succ, List.map_cons, List.map_nil, List.length_cons, List.length_nil, List.length_map, List.replicate, List.append_nil, List.cons_append, List.nil_append, Option.bind_some, Option.map_some, Option.bind_none, Option.map_none, if_true, if_false, Bool.and_true, Bool.true_and, Bool.false_eq_true, reduceIte, reduceCtorEq, decide_true, decide_false, Nat.reduceAdd, Nat.reduceLT, Nat.reduceSub, Nat.reduceLeDiff]
  rw [m_cell ns k hk]
  simp (disch := omega) only [sSeq, sIf, sRet, sAsg, sDrop, sPass, sFor, sForS, sFz, sMut, sMut0, sDPutF, sRaise, fHold, fMove, fFree, fVar, fC, f1, f2, fL, fCons, fNil, oCons, oNil, oTup, oLst, fTup, fLst, fT, fAnd, fOr, fNot, fAndV, fOrV, fNotV, fIf, fChain, fIsN, fNotN, DL.isNon, DL.isG, gSet, gsCons, gsNil, gUn, gUnL, gStore, pNil, pIx, opApp, opClear, opIns, gLen, gLt_ii, gLe_ii, gGt_ii, gGe_ii, gSub_ii, gAdd_ii, gMul_sm, gMod_pos, gDiv_pos, gPow_sm, gEq_ii, gNe_ii, gNeg, sizeLine_eq, gMax2, gMin2, gList, gTuple, gIx, Kd.seq, D.ow, Kd.ow, D.get, D.put, Kd.at, itemsOf, fItems, fRng1, fRng3, fEnum, fCall, oCall, takeAll, pinIx, D.erL, D.er, Kd.er, D.clnL, D.cln, Kd.cln, cl2_v, cl2_lst, cl2_tup, D.cl2L, fD0, gTupD, anyOw_nil, anyOw_cons, Bool.or_false, Bool.false_or, dI_eq, nD_eq, pcD_eq, prD_eq, er_prD, ow_prD, c2_prD, cl_prD, erL_dI, er_nD, er_pcD, ow_nD, ow_dI, ow_pcD, c2_nD, c2_dI, c2_pcD, cl_nD, cl_pcD, clnL_dI, List.getD_cons_zero, List.getD_cons_succ, List.set_cons_zero, List.set_cons_succ, List.map_cons, List.map_nil, List.length_cons, List.length_nil, List.length_map, List.replicate, List.append_nil, List.cons_append, List.nil_append, Option.bind_some, Option.map_some, Option.bind_none, Option.map_none, if_true, if_false, Bool.and_true, Bool.true_and, Bool.false_eq_true, reduceIte, reduceCtorEq, decide_true, decide_false, Nat.reduceAdd, Nat.reduceLT, Nat.reduceSub, Nat.reduceLeDiff]
  obtain ⟨ρ', e, xs, r, x7, x8, rfl, h1, h2⟩ := m_row_0 (.n .scr (ns.map dI)) k many size (ns.getD k.toNat 0) hk hk2 hm hm2 hs hs2
  rw [e]
  refine ⟨xs, ?_, h1, h2⟩
  simp only [sSeq, sIf, sRet, sAsg, sDrop, sPass, sFor, sForS, sFz, sMut, sMut0, sDPutF, sRaise, fHold, fMove, fFree, fVar, fC, f1, f2, fL, fCons, fNil, oCons, oNil, oTup, oLst, fTup, fLst, fT, fAnd, fOr, fNot, fAndV, fOrV, fNotV, fIf, fChain, fIsN, fNotN, DL.isNon, DL.isG, gSet, gsCons, gsNil, gUn, gUnL, gStore, pNil, pIx, opApp, opClear, opIns, gLen, gLt_ii, gLe_ii, gGt_ii, gGe_ii, gSub_ii, gAdd_ii, gMul_sm, gMod_pos, gDiv_pos, gPow_sm, gEq_ii, gNe_ii, gNeg, sizeLine_eq, gMax2, gMin2, gList, gTuple, gIx, Kd.seq, D.ow, Kd.ow, D.get, D.put, Kd.at, itemsOf, fItems, fRng1, fRng3, fEnum, fCall, oCall, takeAll, pinIx, D.erL, D.er, Kd.er, D.clnL, D.cln, Kd.cln, cl2_v, cl2_lst, cl2_tup, D.cl2L, fD0, gTupD, anyOw_nil, anyOw_cons, Bool.or_false, Bool.false_or, dI_eq, nD_eq, pcD_eq, prD_eq, er_prD, ow_prD, c2_prD, cl_prD, erL_dI, er_nD, er_pcD, ow_nD, ow_dI, ow_pcD, c2_nD, c2_dI, c2_pcD, cl_nD, cl_pcD, clnL_dI, List.getD_cons_zero, List.getD_cons_succ, List.set_cons_zero, List.set_cons_succ, List.map_cons, List.map_nil, List.length_cons, List.length_nil, List.length_map, List.replicate, List.append_nil, List.cons_append, List.nil_append, Option.bind_some, Option.map_some, Option.bind_none, Option.map_none, if_true, if_false, Bool.and_true, Bool.true_and, Bool.false_eq_true, reduceIte, reduceCtorEq, decide_true, decide_false, Nat.reduceAdd, Nat.reduceLT, Nat.reduceSub, Nat.reduceLeDiff, clnL_dI]
end A95

set_option Elab.async false
set_option linter.all false
set_option maxRecDepth 100000
set_option maxHeartbeats 4000000
namespace A95
open DL PySem L2
open PyProof.Rows hiding St
theorem m_meets_0 (sh : List (List Nat)) (ch p : List Nat) (lv : Nat) (h1 : 1 ≤ lv) (h2 : lv ≤ 3) (hl : ch.length ≤ lv) (hp : 1 < lv → p.length = lv) (hc : ∀ f ∈ ch, ∃ q, sh[f]? = some q ∧ (1 < lv → q.length = lv)) :
    (∃ ρ', l__law_meets_0 [some (.n (.lst false) (sh.map pcD)), some (.n (.lst false) (ch.map nD)), some (pcD p), some (.v (.int lv)), some (.v (.int ((ch.length : Int) - 1))), none, none] = some (.nx ρ')) ∨
    (∃ ρ', l__law_meets_0 [some (.n (.lst false) (sh.map pcD)), some (.n (.lst false) (ch.map nD)), some (pcD p), some (.v (.int lv)), some (.v (.int ((ch.length : Int) - 1))), none, none] = some (.rt (.v (.bl false)) ρ')) := by
  unfold l__law_meets_0
  simp (disch := omega) only [sSeq, sIf, sRet, sAsg, sDrop, sPass, sFor, sForS, sFz, sMut, sMut0, sDPutF, sRaise, fHold, fMove, fFree, fVar, fC, f1, f2, fL, fCons, fNil, oCons, oNil, oTup, oLst, fTup, fLst, fT, fAnd, fOr, fNot, fAndV, fOrV, fNotV, fIf, fChain, fIsN, fNotN, DL.isNon, DL.isG, gSet, gsCons, gsNil, gUn, gUnL, gStore, pNil, pIx, opApp, opClear, opIns, gLen, gLt_ii, gLe_ii, gGt_ii, gGe_ii, gSub_ii, gAdd_ii, gMul_sm, gMod_pos, gDiv_pos, gPow_sm, gEq_ii, gNe_ii, gNeg, sizeLine_eq, gMax2, gMin2, gList, gTuple, gIx, Kd.seq, D.ow, Kd.ow, D.get, D.put, Kd.at, itemsOf, fItems, fRng1, fRng3, fEnum, fCall, oCall, takeAll, pinIx, D.erL, D.er, Kd.er, D.clnL, D.cln, Kd.cln, cl2_v, cl2_lst, cl2_tup, D.cl2L, fD0, gTupD, anyOw_nil, anyOw_cons, Bool.or_false, Bool.false_or, dI_eq, nD_eq, pcD_eq, prD_eq, er_prD, ow_prD, c2_prD, cl_prD, erL_dI, er_nD, er_pcD, ow_nD, ow_dI, ow_pcD, c2_nD, c2_dI, c2_pcD, cl_nD, cl_pcD, clnL_dI, List.getD_cons_zero, List.getD_cons_succ, List.set_cons_zero, List.set_cons_succ, List.map_cons, List.map_nil, List.length_cons, List.length_nil, List.length_map, List.replicate, List.append_nil, List.cons_append, List.nil_append, Option.bind_some, Option.map_some, Option.bind_none, Option.map_none, if_true, if_false, Bool.and_true, Bool.true_and, Bool.false_eq_true, reduceIte, reduceCtorEq, decide_true, decide_false, Nat.reduceAdd, Nat.reduceLT, Nat.reduceSub, Nat.reduceLeDiff, lstItems]
  have := for_or (items := enumD (ch.map nD)) (h := gUn 2 (gsCons (gSet 5) (gsCons (gSet 6) gsNil))) (b := sIf (fAnd (fT (f2 gGt (fVar 3) (fC (V.int 1)))) (fT (f2 gNe (f2 gIx (fVar 2) (fVar 5)) (f2 gIx (f2 gIx (fVar 0) (fVar 6)) (fVar 4))))) (sRet (fHold (fC (V.bl false)))) sPass)
    (ρ := [some (.n (.lst false) (sh.map pcD)), some (.n (.lst false) (ch.map nD)), some (pcD p), some (.v (.int lv)), some (.v (.int ((ch.length : Int) - 1))), none, none])
    (fun dn ρ => ∃ x5 x6, ρ = [some (.n (.lst false) (sh.map pcD)), some (.n (.lst false) (ch.map nD)), some (pcD p), some (.v (.int lv)), some (.v (.int ((ch.length : Int) - 1))), x5, x6]) (fun d => d = .v (.bl false)) ?_ ⟨_, _, rfl⟩
  · rcases this with ⟨ρ', e, _⟩ | ⟨d2, ρ2, e, rfl⟩
    · exact .inl ⟨ρ', e⟩
    · exact .inr ⟨ρ2, e⟩
  · rintro dn d rest ρ hsp ⟨x5, x6, rfl⟩
    obtain ⟨x, hx, rfl⟩ := enum_split hsp
    rw [List.getElem?_map] at hx
    cases hf : ch[dn.length]? with
    | none => rw [hf] at hx; cases hx
    | some f =>
      rw [hf] at hx
      cases hx
      have hdn : dn.length < ch.length := (List.getElem?_eq_some_iff.mp hf).1
      refine turn_or rfl ?_
      simp (disch := omega) only [sSeq, sIf, sRet, sAsg, sDrop, sPass, sFor, sForS, sFz, sMut, sMut0, sDPutF, sRaise, fHold, fMove, fFree, fVar, fC, f1, f2, fL, fCons, fNil, oCons, oNil, oTup, oLst, fTup, fLst, fT, fAnd, fOr, fNot, fAndV, fOrV, fNotV, fIf, fChain, fIsN, fNotN, DL.isNon, DL.isG, gSet, gsCons, gsNil, gUn, gUnL, gStore, pNil, pIx, opApp, opClear, opIns, gLen, gLt_ii, gLe_ii, gGt_ii, gGe_ii, gSub_ii, gAdd_ii, gMul_sm, gMod_pos, gDiv_pos, gPow_sm, gEq_ii, gNe_ii, gNeg, sizeLine_eq, gMax2, gMin2, gList, gTuple, gIx, Kd.seq, D.ow, Kd.ow, D.get, D.put, Kd.at, itemsOf, fItems, fRng1, fRng3, fEnum, fCall, oCall, takeAll, pinIx, D.erL, D.er, Kd.er, D.clnL, D.cln, Kd.cln, cl2_v, cl2_lst, cl2_tup, D.cl2L, fD0, gTupD, anyOw_nil, anyOw_cons, Bool.or_false, Bool.false_or, dI_eq, nD_eq, pcD_eq, prD_eq, er_prD, ow_prD, c2_prD, cl_prD, erL_dI, er_nD, er_pcD, ow_nD, ow_dI, ow_pcD, c2_nD, c2_dI, c2_pcD, cl_nD, cl_pcD, clnL_dI, List.getD_cons_zero, List.getD_cons_succ, List.set_cons_zero, List.set_cons_succ, List.map_cons, List.map_nil, List.length_cons, List.length_nil, List.length_map, List.replicate, List.append_nil, List.cons_append, List.nil_append, Option.bind_some, Option.map_some, Option.bind_none, Option.map_none, if_true, if_false, Bool.and_true, Bool.true_and, Bool.false_eq_true, reduceIte, reduceCtorEq, decide_true, decide_false, Nat.reduceAdd, Nat.reduceLT, Nat.reduceSub, Nat.reduceLeDiff]
      by_cases hv : (1 : Int) < lv
      · have hv' : 1 < lv := by omega
        obtain ⟨q, hq, hql⟩ := hc f (List.mem_of_getElem? hf)
        have hql := hql hv'
        have hpl := hp hv'
        have e1 : atI (p.map nD) ((dn.length : Nat) : Int) = some (nD (p[dn.length]'(by omega))) := at_map (by omega) (by simp)
        have e2 : atI (sh.map pcD) ((f : Nat) : Int) = some (pcD q) := at_map (by omega) hq
        have e3 : atI (q.map nD) ((ch.length : Int) - 1) = some (nD (q[((ch.length : Int) - 1).toNat]'(by omega))) := at_map (by omega) (List.getElem?_eq_getElem _)
        simp (disch := omega) only [sSeq, sIf, sRet, sAsg, sDrop, sPass, sFor, sForS, sFz, sMut, sMut0, sDPutF, sRaise, fHold, fMove, fFree, fVar, fC, f1, f2, fL, fCons, fNil, oCons, oNil, oTup, oLst, fTup, fLst, fT, fAnd, fOr, fNot, fAndV, fOrV, fNotV, fIf, fChain, fIsN, fNotN, DL.isNon, DL.isG, gSet, gsCons, gsNil, gUn, gUnL, gStore, pNil, pIx, opApp, opClear, opIns, gLen, gLt_ii, gLe_ii, gGt_ii, gGe_ii, gSub_ii, gAdd_ii, gMul_sm, gMod_pos, gDiv_pos, gPow_sm, gEq_ii, gNe_ii, gNeg, sizeLine_eq, gMax2, gMin2, gList, gTuple, gIx, Kd.seq, D.ow, Kd.ow, D.get, D.put, Kd.at, itemsOf, fItems, fRng1, fRng3, fEnum, fCall, oCall, takeAll, pinIx, D.erL, D.er, Kd.er, D.clnL, D.cln, Kd.cln, cl2_v, cl2_lst, cl2_tup, D.cl2L, fD0, gTupD, anyOw_nil, anyOw_cons, Bool.or_false, Bool.false_or, dI_eq, nD_eq, pcD_eq, prD_eq, er_prD, ow_prD, c2_prD, cl_prD, erL_dI, er_nD, er_pcD, ow_nD, ow_dI, ow_pcD, c2_nD, c2_dI, c2_pcD, cl_nD, cl_pcD, clnL_dI, List.getD_cons_zero, List.getD_cons_succ, List.set_cons_zero, List.set_cons_succ, List.map_cons, List.map_nil, List.length_cons, List.length_nil, List.length_map, List.replicate, List.append_nil, List.cons_append, List.nil_append, Option.bind_some, Option.map_some, Option.bind_none, Option.map_none, if_true, if_false, Bool.and_true, Bool.true_and, Bool.false_eq_true, reduceIte, reduceCtorEq, decide_true, decide_false, Nat.reduceAdd, Nat.reduceLT, Nat.reduceSub, Nat.reduceLeDiff, hv] at e1 e2 e3 ⊢
        rw [e1, e2]
        simp (disch := omega) only [sSeq, sIf, sRet, sAsg, sDrop, sPass, sFor, sForS, sFz, sMut, sMut0, sDPutF, sRaise, fHold, fMove, fFree, fVar, fC, f1, f2, fL, fCons, fNil, oCons, oNil, oTup, oLst, fTup, fLst, fT, fAnd, fOr, fNot, fAndV, fOrV, fNotV, fIf, fChain, fIsN, fNotN, DL.isNon, DL.isG, gSet, gsCons, gsNil, gUn, gUnL, gStore, pNil, pIx, opApp, opClear, opIns, gLen, gLt_ii, gLe_ii, gGt_ii, gGe_ii, gSub_ii, gAdd_ii, gMul_sm, gMod_pos, gDiv_pos, gPow_sm, gEq_ii, gNe_ii, gNeg, sizeLine_eq, gMax2, gMin2, gList, gTuple, gIx, Kd.seq, D.ow, Kd.ow, D.get, D.put, Kd.at, itemsOf, fItems, fRng1, fRng3, fEnum, fCall, oCall, takeAll, pinIx, D.erL, D.er, Kd.er, D.clnL, D.cln, Kd.cln, cl2_v, cl2_lst, cl2_tup, D.cl2L, fD0, gTupD, anyOw_nil, anyOw_cons, Bool.or_false, Bool.false_or, dI_eq, nD_eq, pcD_eq, prD_eq, er_prD, ow_prD, c2_prD, cl_prD, erL_dI, er_nD, er_pcD, ow_nD, ow_dI, ow_pcD, c2_nD, c2_dI, c2_pcD, cl_nD, cl_pcD, clnL_dI, List.getD_cons_zero, List.getD_cons_succ, List.set_cons_zero, List.set_cons_succ, List.map_cons, List.map_nil, List.length_cons, List.length_nil, List.length_map, List.replicate, List.append_nil, List.cons_append, List.nil_append, Option.bind_some, Option.map_some, Option.bind_none, Option.map_none, if_true, if_false, Bool.and_true, Bool.true_and, Bool.false_eq_true, reduceIte, reduceCtorEq, decide_true, decide_false, Nat.reduceAdd, Nat.reduceLT, Nat.reduceSub, Nat.reduceLeDiff, hv]
        rw [e3]
        simp (disch := omega) only [sSeq, sIf, sRet, sAsg, sDrop, sPass, sFor, sForS, sFz, sMut, sMut0, sDPutF, sRaise, fHold, fMove, fFree, fVar, fC, f1, f2, fL, fCons, fNil, oCons, oNil, oTup, oLst, fTup, fLst, fT, fAnd, fOr, fNot, fAndV, fOrV, fNotV, fIf, fChain, fIsN, fNotN, DL.isNon, DL.isG, gSet, gsCons, gsNil, gUn, gUnL, gStore, pNil, pIx, opApp, opClear, opIns, gLen, gLt_ii, gLe_ii, gGt_ii, gGe_ii, gSub_ii, gAdd_ii, gMul_sm, gMod_pos, gDiv_pos, gPow_sm, gEq_ii, gNe_ii, gNeg, sizeLine_eq, gMax2, gMin2, gList, gTuple, gIx, Kd.seq, D.ow, Kd.ow, D.get, D.put, Kd.at, itemsOf, fItems, fRng1, fRng3, fEnum, fCall, oCall, takeAll, pinIx, D.erL, D.er, Kd.er, D.clnL, D.cln, Kd.cln, cl2_v, cl2_lst, cl2_tup, D.cl2L, fD0, gTupD, anyOw_nil, anyOw_cons, Bool.or_false, Bool.false_or, dI_eq, nD_eq, pcD_eq, prD_eq, er_prD, ow_prD, c2_prD, cl_prD, erL_dI, er_nD, er_pcD, ow_nD, ow_dI, ow_pcD, c2_nD, c2_dI, c2_pcD, cl_nD, cl_pcD, clnL_dI, List.getD_cons_zero, List.getD_cons_succ, List.set_cons_zero, List.set_cons_succ, List.map_cons, List.map_nil, List.length_cons, List.length_nil, List.length_map, List.replicate, List.append_nil, List.cons_append, List.nil_append, Option.bind_some, Option.map_some, Option.bind_none, Option.map_none, if_true, if_false, Bool.and_true, Bool.true_and, Bool.false_eq_true, reduceIte, reduceCtorEq, decide_true, decide_false, Nat.reduceAdd, Nat.reduceLT, Nat.reduceSub, Nat.reduceLeDiff, hv]
        generalize (!_) = bb
        cases bb with
        | false => exact ⟨_, rfl, .inl ⟨_, rfl, _, _, rfl⟩⟩
        | true => exact ⟨_, rfl, .inr ⟨_, _, rfl, rfl⟩⟩
      · simp (disch := omega) only [sSeq, sIf, sRet, sAsg, sDrop, sPass, sFor, sForS, sFz, sMut, sMut0, sDPutF, sRaise, fHold, fMove, fFree, fVar, fC, f1, f2, fL, fCons, fNil, oCons, oNil, oTup, oLst, fTup, fLst, fT, fAnd, fOr, fNot, fAndV, fOrV, fNotV, fIf, fChain, fIsN, fNotN, DL.isNon, DL.isG, gSet, gsCons, gsNil, gUn, gUnL, gStore, pNil, pIx, opApp, opClear, opIns, gLen, gLt_ii, gLe_ii, gGt_ii, gGe_ii, gSub_ii, gAdd_ii, gMul_sm, gMod_pos, gDiv_pos, gPow_sm, gEq_ii, gNe_ii, gNeg, sizeLine_eq, gMax2, gMin2, gList, gTuple, gIx, Kd.seq, D.ow, Kd.ow, D.get, D.put, Kd.at, itemsOf, fItems, fRng1, fRng3, fEnum, fCall, oCall, takeAll, pinIx, D.erL, D.er, Kd.er, D.clnL, D.cln, Kd.cln, cl2_v, cl2_lst, cl2_tup, D.cl2L, fD0, gTupD, anyOw_nil, anyOw_cons, Bool.or_false, Bool.false_or, dI_eq, nD_eq, pcD_eq, prD_eq, er_prD, ow_prD, c2_prD, cl_prD, erL_dI, er_nD, er_pcD, ow_nD, ow_dI, ow_pcD, c2_nD, c2_dI, c2_pcD, cl_nD, cl_pcD, clnL_dI, List.getD_cons_zero, List.getD_cons_succ, List.set_cons_zero, List.set_cons_succ, List.map_cons, List.map_nil, List.length_cons, List.length_nil, List.length_map, List.replicate, List.append_nil, List.cons_append, List.nil_append, Option.bind_some, Option.map_some, Option.bind_none, Option.map_none, if_true, if_false, Bool.and_true, Bool.true_and, Bool.false_eq_true, reduceIte, reduceCtorEq, decide_true, decide_false, Nat.reduceAdd, Nat.reduceLT, Nat.reduceSub, Nat.reduceLeDiff, hv]
        exact ⟨_, rfl, .inl ⟨_, rfl, _, _, rfl⟩⟩
/-- what _law_meets tells: True only of pieces of the right length -/
theorem m_meets (sh : List (List Nat)) (ch p : List Nat) (lv : Nat) (h1 : 1 ≤ lv) (h2 : lv ≤ 3) (hl : ch.length ≤ lv) (hc : ∀ f ∈ ch, ∃ q, sh[f]? = some q ∧ (1 < lv → q.length = lv)) :
    ∃ b, p__law_meets [.n (.lst false) (sh.map pcD), .n (.lst false) (ch.map nD), pcD p, .v (.int lv)] = some (.ret (.v (.bl b)) []) ∧ (b = true → p.length - 1 = lv - 1) := by
  unfold p__law_meets fnG b__law_meets
  simp (disch := omega) only [sSeq, sIf, sRet, sAsg, sDrop, sPass, sFor, sForS, sFz, sMut, sMut0, sDPutF, sRaise, fHold, fMove, fFree, fVar, fC, f1, f2, fL, fCons, fNil, oCons, oNil, oTup, oLst, fTup, fLst, fT, fAnd, fOr, fNot, fAndV, fOrV, fNotV, fIf, fChain, fIsN, fNotN, DL.isNon, DL.isG, gSet, gsCons, gsNil, gUn, gUnL, gStore, pNil, pIx, opApp, opClear, opIns, gLen, gLt_ii, gLe_ii, gGt_ii, gGe_ii, gSub_ii, gAdd_ii, gMul_sm, gMod_pos, gDiv_pos, gPow_sm, gEq_ii, gNe_ii, gNeg, sizeLine_eq, gMax2, gMin2, gList, gTuple, gIx, Kd.seq, D.ow, Kd.ow, D.get, D.put, Kd.at, itemsOf, fItems, fRng1, fRng3, fEnum, fCall, oCall, takeAll, pinIx, D.erL, D.er, Kd.er, D.clnL, D.cln, Kd.cln, cl2_v, cl2_lst, cl2_tup, D.cl2L, fD0, gTupD, anyOw_nil, anyOw_cons, Bool.or_false, Bool.false_or, dI_eq, nD_eq, pcD_eq, prD_eq, er_prD, ow_prD, c2_prD, cl_prD, erL_dI, er_nD, er_pcD, ow_nD, ow_dI, ow_pcD, c2_nD, c2_dI, c2_pcD, cl_nD, cl_pcD, clnL_dI, List.getD_cons_zero, List.getD_cons_succ, List.set_cons_zero, List.set_cons_succ, List.map_cons, List.map_nil, List.length_cons, List.length_nil, List.length_map, List.replicate, List.append_nil, List.cons_append, List.nil_append, Option.bind_some, Option.map_some, Option.bind_none, Option.map_none, if_true, if_false, Bool.and_true, Bool.true_and, Bool.false_eq_true, reduceIte, reduceCtorEq, decide_true, decide_false, Nat.reduceAdd, Nat.reduceLT, Nat.reduceSub, Nat.reduceLeDiff, List.length_map]
  by_cases hq : ((if ((p.length : Int) - 1) > 0 then ((p.length : Int) - 1) else 0) = (lv : Int) - 1)
  · have hp : 1 < lv → p.length = lv := fun h => by
      split at hq <;> omega
    rw [decide_eq_true hq]
    simp (disch := omega) only [sSeq, sIf, sRet, sAsg, sDrop, sPass, sFor, sForS, sFz, sMut, sMut0, sDPutF, sRaise, fHold, fMove, fFree, fVar, fC, f1, f2, fL, fCons, fNil, oCons, oNil, oTup, oLst, fTup, fLst, fT, fAnd, fOr, fNot, fAndV, fOrV, fNotV, fIf, fChain, fIsN, fNotN, DL.isNon, DL.isG, gSet, gsCons, gsNil, gUn, gUnL, gStore, pNil, pIx, opApp, opClear, opIns, gLen, gLt_ii, gLe_ii, gGt_ii, gGe_ii, gSub_ii, gAdd_ii, gMul_sm, gMod_pos, gDiv_pos, gPow_sm, gEq_ii, gNe_ii, gNeg, sizeLine_eq, gMax2, gMin2, gList, gTuple, gIx, Kd.seq, D.ow, Kd.ow, D.get, D.put, Kd.at, itemsOf, fItems, fRng1, fRng3, fEnum, fCall, oCall, takeAll, pinIx, D.erL, D.er, Kd.er, D.clnL, D.cln, Kd.cln, cl2_v, cl2_lst, cl2_tup, D.cl2L, fD0, gTupD, anyOw_nil, anyOw_cons, Bool.or_false, Bool.false_or, dI_eq, nD_eq, pcD_eq, prD_eq, er_prD, ow_prD, c2_prD, cl_prD, erL_dI, er_nD, er_pcD, ow_nD, ow_dI, ow_pcD, c2_nD, c2_dI, c2_pcD, cl_nD, cl_pcD, clnL_dI, List.getD_cons_zero, List.getD_cons_succ, List.set_cons_zero, List.set_cons_succ, List.map_cons, List.map_nil, List.length_cons, List.length_nil, List.length_map, List.replicate, List.append_nil, List.cons_append, List.nil_append, Option.bind_some, Option.map_some, Option.bind_none, Option.map_none, if_true, if_false, Bool.and_true, Bool.true_and, Bool.false_eq_true, reduceIte, reduceCtorEq, decide_true, decide_false, Nat.reduceAdd, Nat.reduceLT, Nat.reduceSub, Nat.reduceLeDiff, Bool.not_true]
    rcases m_meets_0 sh ch p lv h1 h2 hl hp hc with ⟨ρ', e⟩ | ⟨ρ', e⟩
    · simp only [sSeq, sIf, sRet, sAsg, sDrop, sPass, sFor, sForS, sFz, sMut, sMut0, sDPutF, sRaise, fHold, fMove, fFree, fVar, fC, f1, f2, fL, fCons, fNil, oCons, oNil, oTup, oLst, fTup, fLst, fT, fAnd, fOr, fNot, fAndV, fOrV, fNotV, fIf, fChain, fIsN, fNotN, DL.isNon, DL.isG, gSet, gsCons, gsNil, gUn, gUnL, gStore, pNil, pIx, opApp, opClear, opIns, gLen, gLt_ii, gLe_ii, gGt_ii, gGe_ii, gSub_ii, gAdd_ii, gMul_sm, gMod_pos, gDiv_pos, gPow_sm, gEq_ii, gNe_ii, gNeg, sizeLine_eq, gMax2, gMin2, gList, gTuple, gIx, Kd.seq, D.ow, Kd.ow, D.get, D.put, Kd.at, itemsOf, fItems, fRng1, fRng3, fEnum, fCall, oCall, takeAll, pinIx, D.erL, D.er, Kd.er, D.clnL, D.cln, Kd.cln, cl2_v, cl2_lst, cl2_tup, D.cl2L, fD0, gTupD, anyOw_nil, anyOw_cons, Bool.or_false, Bool.false_or, dI_eq, nD_eq, pcD_eq, prD_eq, er_prD, ow_prD, c2_prD, cl_prD, erL_dI, er_nD, er_pcD, ow_nD, ow_dI, ow_pcD, c2_nD, c2_dI, c2_pcD, cl_nD, cl_pcD, clnL_dI, List.getD_cons_zero, List.getD_cons_succ, List.set_cons_zero, List.set_cons_succ, List.map_cons, List.map_nil, List.length_cons, List.length_nil, List.length_map, List.replicate, List.append_nil, List.cons_append, List.nil_append, Option.bind_some, Option.map_some, Option.bind_none, Option.map_none, if_true, if_false, Bool.and_true, Bool.true_and, Bool.false_eq_true, reduceIte, reduceCtorEq, decide_true, decide_false, Nat.reduceAdd, Nat.reduceLT, Nat.reduceSub, Nat.reduceLeDiff] at e
      rw [e]
      exact ⟨true, rfl, fun _ => by split at hq <;> omega⟩
    · simp only [sSeq, sIf, sRet, sAsg, sDrop, sPass, sFor, sForS, sFz, sMut, sMut0, sDPutF, sRaise, fHold, fMove, fFree, fVar, fC, f1, f2, fL, fCons, fNil, oCons, oNil, oTup, oLst, fTup, fLst, fT, fAnd, fOr, fNot, fAndV, fOrV, fNotV, fIf, fChain, fIsN, fNotN, DL.isNon, DL.isG, gSet, gsCons, gsNil, gUn, gUnL, gStore, pNil, pIx, opApp, opClear, opIns, gLen, gLt_ii, gLe_ii, gGt_ii, gGe_ii, gSub_ii, gAdd_ii, gMul_sm, gMod_pos, gDiv_pos, gPow_sm, gEq_ii, gNe_ii, gNeg, sizeLine_eq, gMax2, gMin2, gList, gTuple, gIx, Kd.seq, D.ow, Kd.ow, D.get, D.put, Kd.at, itemsOf, fItems, fRng1, fRng3, fEnum, fCall, oCall, takeAll, pinIx, D.erL, D.er, Kd.er, D.clnL, D.cln, Kd.cln, cl2_v, cl2_lst, cl2_tup, D.cl2L, fD0, gTupD, anyOw_nil, anyOw_cons, Bool.or_false, Bool.false_or, dI_eq, nD_eq, pcD_eq, prD_eq, er_prD, ow_prD, c2_prD, cl_prD, erL_dI, er_nD, er_pcD, ow_nD, ow_dI, ow_pcD, c2_nD, c2_dI, c2_pcD, cl_nD, cl_pcD, clnL_dI, List.getD_cons_zero, List.getD_cons_succ, List.set_cons_zero, List.set_cons_succ, List.map_cons, List.map_nil, List.length_cons, List.length_nil, List.length_map, List.replicate, List.append_nil, List.cons_append, List.nil_append, Option.bind_some, Option.map_some, Option.bind_none, Option.map_none, if_true, if_false, Bool.and_true, Bool.true_and, Bool.false_eq_true, reduceIte, reduceCtorEq, decide_true, decide_false, Nat.reduceAdd, Nat.reduceLT, Nat.reduceSub, Nat.reduceLeDiff] at e
      rw [e]
      exact ⟨false, rfl, fun h => nomatch h⟩
  · rw [decide_eq_false hq]
    simp (disch := omega) only [sSeq, sIf, sRet, sAsg, sDrop, sPass, sFor, sForS, sFz, sMut, sMut0, sDPutF, sRaise, fHold, fMove, fFree, fVar, fC, f1, f2, fL, fCons, fNil, oCons, oNil, oTup, oLst, fTup, fLst, fT, fAnd, fOr, fNot, fAndV, fOrV, fNotV, fIf, fChain, fIsN, fNotN, DL.isNon, DL.isG, gSet, gsCons, gsNil, gUn, gUnL, gStore, pNil, pIx, opApp, opClear, opIns, gLen, gLt_ii, gLe_ii, gGt_ii, gGe_ii, gSub_ii, gAdd_ii, gMul_sm, gMod_pos, gDiv_pos, gPow_sm, gEq_ii, gNe_ii, gNeg, sizeLine_eq, gMax2, gMin2, gList, gTuple, gIx, Kd.seq, D.ow, Kd.ow, D.get, D.put, Kd.at, itemsOf, fItems, fRng1, fRng3, fEnum, fCall, oCall, takeAll, pinIx, D.erL, D.er, Kd.er, D.clnL, D.cln, Kd.cln, cl2_v, cl2_lst, cl2_tup, D.cl2L, fD0, gTupD, anyOw_nil, anyOw_cons, Bool.or_false, Bool.false_or, dI_eq, nD_eq, pcD_eq, prD_eq, er_prD, ow_prD, c2_prD, cl_prD, erL_dI, er_nD, er_pcD, ow_nD, ow_dI, ow_pcD, c2_nD, c2_dI, c2_pcD, cl_nD, cl_pcD, clnL_dI, List.getD_cons_zero, List.getD_cons_succ, List.set_cons_zero, List.set_cons_succ, List.map_cons, List.map_nil, List.length_cons, List.length_nil, List.length_map, List.replicate, List.append_nil, List.cons_append, List.nil_append, Option.bind_some, Option.map_some, Option.bind_none, Option.map_none, if_true, if_false, Bool.and_true, Bool.true_and, Bool.false_eq_true, reduceIte, reduceCtorEq, decide_true, decide_false, Nat.reduceAdd, Nat.reduceLT, Nat.reduceSub, Nat.reduceLeDiff, Bool.not_false]
    exact ⟨false, rfl, fun h => nomatch h⟩
end A95

set_option Elab.async false
set_option linter.all false
set_option maxRecDepth 100000
set_option maxHeartbeats 4000000
namespace A95
open DL PySem L2
open PyProof.Rows hiding St
/-- places whose pieces may be faces -/
def fl (lv : Nat) : Nat := if lv = 1 then 0 else lv
def Cand (sh : List (List Nat)) (lv : Nat) (ch : List Nat) : Prop := ∀ f ∈ ch, ∃ q, sh[f]? = some q ∧ q.length = fl lv
theorem Cand.wk {sh : List (List Nat)} {lv : Nat} {ch : List Nat} (h : Cand sh lv ch) : ∀ f ∈ ch, ∃ q, sh[f]? = some q ∧ (1 < lv → q.length = lv) := fun f m => by
  obtain ⟨q, h1, h2⟩ := h f m
  refine ⟨q, h1, fun h => ?_⟩
  rw [h2, fl, if_neg (by omega)]
/-- what a shape is: faces stand ahead, all of the same right length -/
structure Sh (sh : List (List Nat)) : Prop where
  lt : ∀ (i : Nat) (p : List Nat), sh[i]? = some p → ∀ f ∈ p, f < i
  ln : ∀ p ∈ sh, p.length = 0 ∨ (2 ≤ p.length ∧ p.length ≤ 4)
  fc : ∀ p ∈ sh, Cand sh (p.length - 1) p
theorem Sh.nil : Sh [] := ⟨(fun i p h => by simp at h), (fun p m => nomatch m), (fun p m => nomatch m)⟩
theorem Sh.snoc {sh : List (List Nat)} {p : List Nat} (h : Sh sh) (hl : p.length = 0 ∨ (2 ≤ p.length ∧ p.length ≤ 4)) (hc : Cand sh (p.length - 1) p) : Sh (sh ++ [p]) := by
  have up : ∀ {lv : Nat} {ch : List Nat}, Cand sh lv ch → Cand (sh ++ [p]) lv ch := fun hc f m => by
    obtain ⟨q, h1, h2⟩ := hc f m
    exact ⟨q, by rw [List.getElem?_append_left (List.getElem?_eq_some_iff.mp h1).1]; exact h1, h2⟩
  refine ⟨fun i q hq f m => ?_, fun q m => ?_, fun q m => ?_⟩
  · by_cases hi : i < sh.length
    · rw [List.getElem?_append_left hi] at hq
      exact h.lt i q hq f m
    · have hi2 : i < (sh ++ [p]).length := (List.getElem?_eq_some_iff.mp hq).1
      have hi3 : i = sh.length := by simp at hi2; omega
      subst hi3
      rw [List.getElem?_append_right (Nat.le_refl _)] at hq
      simp at hq
      subst hq
      obtain ⟨q, h1, _⟩ := hc f m
      exact (List.getElem?_eq_some_iff.mp h1).1
  · rcases List.mem_append.mp m with m | m
    · exact h.ln q m
    · rw [List.mem_singleton.mp m]; exact hl
  · rcases List.mem_append.mp m with m | m
    · exact up (h.fc q m)
    · rw [List.mem_singleton.mp m]; exact up hc
theorem m_faces_0 (sh : List (List Nat)) (ch : List Nat) (lv : Nat) (n j : D) (x6 x7 : Option D) (h1 : 1 ≤ lv) (h2 : lv ≤ 3) (hl : ch.length ≤ lv) (hs : sh.length ≤ 1000) (hv : Sh sh) (hc : Cand sh lv ch) :
    ∃ ρ', l__law_faces_0 [some (.n (.lst false) (sh.map pcD)), some (.v (.int lv)), some n, some (.n (.lst true) (ch.map nD)), some j, some (.n (.lst true) []), x6, x7] = some (.nx ρ') ∧
      ∃ so x6 x7, ρ' = [some (.n (.lst false) (sh.map pcD)), some (.v (.int lv)), some n, some (.n (.lst true) (ch.map nD)), some j, some (.n (.lst true) (so.map nD)), x6, x7] ∧ so.length ≤ sh.length ∧ Cand sh lv so := by
  unfold l__law_faces_0
  simp (disch := omega) only [sSeq, sIf, sRet, sAsg, sDrop, sPass, sFor, sForS, sFz, sMut, sMut0, sDPutF, sRaise, fHold, fMove, fFree, fVar, fC, f1, f2, fL, fCons, fNil, oCons, oNil, oTup, oLst, fTup, fLst, fT, fAnd, fOr, fNot, fAndV, fOrV, fNotV, fIf, fChain, fIsN, fNotN, DL.isNon, DL.isG, gSet, gsCons, gsNil, gUn, gUnL, gStore, pNil, pIx, opApp, opClear, opIns, gLen, gLt_ii, gLe_ii, gGt_ii, gGe_ii, gSub_ii, gAdd_ii, gMul_sm, gMod_pos, gDiv_pos, gPow_sm, gEq_ii, gNe_ii, gNeg, sizeLine_eq, gMax2, gMin2, gList, gTuple, gIx, Kd.seq, D.ow, Kd.ow, D.get, D.put, Kd.at, itemsOf, fItems, fRng1, fRng3, fEnum, fCall, oCall, takeAll, pinIx, D.erL, D.er, Kd.er, D.clnL, D.cln, Kd.cln, cl2_v, cl2_lst, cl2_tup, D.cl2L, fD0, gTupD, anyOw_nil, anyOw_cons, Bool.or_false, Bool.false_or, dI_eq, nD_eq, pcD_eq, prD_eq, er_prD, ow_prD, c2_prD, cl_prD, erL_dI, er_nD, er_pcD, ow_nD, ow_dI, ow_pcD, c2_nD, c2_dI, c2_pcD, cl_nD, cl_pcD, clnL_dI, List.getD_cons_zero, List.getD_cons_succ, List.set_cons_zero, List.set_cons_succ, List.map_cons, List.map_nil, List.length_cons, List.length_nil, List.length_map, List.replicate, List.append_nil, List.cons_append, List.nil_append, Option.bind_some, Option.map_some, Option.bind_none, Option.map_none, if_true, if_false, Bool.and_true, Bool.true_and, Bool.false_eq_true, reduceIte, reduceCtorEq, decide_true, decide_false, Nat.reduceAdd, Nat.reduceLT, Nat.reduceSub, Nat.reduceLeDiff, lstItems]
  refine for_to (fun dn ρ => ∃ (so : List Nat) (x6 x7 : Option D), ρ = [some (.n (.lst false) (sh.map pcD)), some (.v (.int lv)), some n, some (.n (.lst true) (ch.map nD)), some j, some (.n (.lst true) (so.map nD)), x6, x7] ∧ so.length ≤ dn.length ∧ Cand sh lv so) ?_ ?_ ?_
  · rintro dn d rest ρ hsp ⟨so, x6, x7, rfl, hso, hcs⟩
    obtain ⟨x, hx, rfl⟩ := enum_split hsp
    rw [List.getElem?_map] at hx
    cases hf : sh[dn.length]? with
    | none => rw [hf] at hx; cases hx
    | some p =>
      rw [hf] at hx
      cases hx
      have hdn : dn.length < sh.length := (List.getElem?_eq_some_iff.mp hf).1
      refine turn rfl ?_
      obtain ⟨b, eb, hb⟩ := m_meets sh ch p lv h1 h2 hl hc.wk
      simp (disch := omega) only [sSeq, sIf, sRet, sAsg, sDrop, sPass, sFor, sForS, sFz, sMut, sMut0, sDPutF, sRaise, fHold, fMove, fFree, fVar, fC, f1, f2, fL, fCons, fNil, oCons, oNil, oTup, oLst, fTup, fLst, fT, fAnd, fOr, fNot, fAndV, fOrV, fNotV, fIf, fChain, fIsN, fNotN, DL.isNon, DL.isG, gSet, gsCons, gsNil, gUn, gUnL, gStore, pNil, pIx, opApp, opClear, opIns, gLen, gLt_ii, gLe_ii, gGt_ii, gGe_ii, gSub_ii, gAdd_ii, gMul_sm, gMod_pos, gDiv_pos, gPow_sm, gEq_ii, gNe_ii, gNeg, sizeLine_eq, gMax2, gMin2, gList, gTuple, gIx, Kd.seq, D.ow, Kd.ow, D.get, D.put, Kd.at, itemsOf, fItems, fRng1, fRng3, fEnum, fCall, oCall, takeAll, pinIx, D.erL, D.er, Kd.er, D.clnL, D.cln, Kd.cln, cl2_v, cl2_lst, cl2_tup, D.cl2L, fD0, gTupD, anyOw_nil, anyOw_cons, Bool.or_false, Bool.false_or, dI_eq, nD_eq, pcD_eq, prD_eq, er_prD, ow_prD, c2_prD, cl_prD, erL_dI, er_nD, er_pcD, ow_nD, ow_dI, ow_pcD, c2_nD, c2_dI, c2_pcD, cl_nD, cl_pcD, clnL_dI, List.getD_cons_zero, List.getD_cons_succ, List.set_cons_zero, List.set_cons_succ, List.map_cons, List.map_nil, List.length_cons, List.length_nil, List.length_map, List.replicate, List.append_nil, List.cons_append, List.nil_append, Option.bind_some, Option.map_some, Option.bind_none, Option.map_none, if_true, if_false, Bool.and_true, Bool.true_and, Bool.false_eq_true, reduceIte, reduceCtorEq, decide_true, decide_false, Nat.reduceAdd, Nat.reduceLT, Nat.reduceSub, Nat.reduceLeDiff] at eb ⊢
      rw [eb]
      cases b with
      | false =>
        simp (disch := omega) only [sSeq, sIf, sRet, sAsg, sDrop, sPass, sFor, sForS, sFz, sMut, sMut0, sDPutF, sRaise, fHold, fMove, fFree, fVar, fC, f1, f2, fL, fCons, fNil, oCons, oNil, oTup, oLst, fTup, fLst, fT, fAnd, fOr, fNot, fAndV, fOrV, fNotV, fIf, fChain, fIsN, fNotN, DL.isNon, DL.isG, gSet, gsCons, gsNil, gUn, gUnL, gStore, pNil, pIx, opApp, opClear, opIns, gLen, gLt_ii, gLe_ii, gGt_ii, gGe_ii, gSub_ii, gAdd_ii, gMul_sm, gMod_pos, gDiv_pos, gPow_sm, gEq_ii, gNe_ii, gNeg, sizeLine_eq, gMax2, gMin2, gList, gTuple, gIx, Kd.seq, D.ow, Kd.ow, D.get, D.put, Kd.at, itemsOf, fItems, fRng1, fRng3, fEnum, fCall, oCall, takeAll, pinIx, D.erL, D.er, Kd.er, D.clnL, D.cln, Kd.cln, cl2_v, cl2_lst, cl2_tup, D.cl2L, fD0, gTupD, anyOw_nil, anyOw_cons, Bool.or_false, Bool.false_or, dI_eq, nD_eq, pcD_eq, prD_eq, er_prD, ow_prD, c2_prD, cl_prD, erL_dI, er_nD, er_pcD, ow_nD, ow_dI, ow_pcD, c2_nD, c2_dI, c2_pcD, cl_nD, cl_pcD, clnL_dI, List.getD_cons_zero, List.getD_cons_succ, List.set_cons_zero, List.set_cons_succ, List.map_cons, List.map_nil, List.length_cons, List.length_nil, List.length_map, List.replicate, List.append_nil, List.cons_append, List.nil_append, Option.bind_some, Option.map_some, Option.bind_none, Option.map_none, if_true, if_false, Bool.and_true, Bool.true_and, Bool.false_eq_true, reduceIte, reduceCtorEq, decide_true, decide_false, Nat.reduceAdd, Nat.reduceLT, Nat.reduceSub, Nat.reduceLeDiff]
        exact out_nx ⟨so, _, _, rfl, by simp; omega, hcs⟩
      | true =>
        have hz : so.length < 16777216 := by omega
        simp (disch := omega) only [sSeq, sIf, sRet, sAsg, sDrop, sPass, sFor, sForS, sFz, sMut, sMut0, sDPutF, sRaise, fHold, fMove, fFree, fVar, fC, f1, f2, fL, fCons, fNil, oCons, oNil, oTup, oLst, fTup, fLst, fT, fAnd, fOr, fNot, fAndV, fOrV, fNotV, fIf, fChain, fIsN, fNotN, DL.isNon, DL.isG, gSet, gsCons, gsNil, gUn, gUnL, gStore, pNil, pIx, opApp, opClear, opIns, gLen, gLt_ii, gLe_ii, gGt_ii, gGe_ii, gSub_ii, gAdd_ii, gMul_sm, gMod_pos, gDiv_pos, gPow_sm, gEq_ii, gNe_ii, gNeg, sizeLine_eq, gMax2, gMin2, gList, gTuple, gIx, Kd.seq, D.ow, Kd.ow, D.get, D.put, Kd.at, itemsOf, fItems, fRng1, fRng3, fEnum, fCall, oCall, takeAll, pinIx, D.erL, D.er, Kd.er, D.clnL, D.cln, Kd.cln, cl2_v, cl2_lst, cl2_tup, D.cl2L, fD0, gTupD, anyOw_nil, anyOw_cons, Bool.or_false, Bool.false_or, dI_eq, nD_eq, pcD_eq, prD_eq, er_prD, ow_prD, c2_prD, cl_prD, erL_dI, er_nD, er_pcD, ow_nD, ow_dI, ow_pcD, c2_nD, c2_dI, c2_pcD, cl_nD, cl_pcD, clnL_dI, List.getD_cons_zero, List.getD_cons_succ, List.set_cons_zero, List.set_cons_succ, List.map_cons, List.map_nil, List.length_cons, List.length_nil, List.length_map, List.replicate, List.append_nil, List.cons_append, List.nil_append, Option.bind_some, Option.map_some, Option.bind_none, Option.map_none, if_true, if_false, Bool.and_true, Bool.true_and, Bool.false_eq_true, reduceIte, reduceCtorEq, decide_true, decide_false, Nat.reduceAdd, Nat.reduceLT, Nat.reduceSub, Nat.reduceLeDiff, hz]
        refine out_nx ⟨so ++ [dn.length], some (.v (.int (dn.length : Nat))), some (.n (.tup false) (p.map nD)), by simp [nD], by simp; omega, fun f m => ?_⟩
        rcases List.mem_append.mp m with m | m
        · exact hcs f m
        · rw [List.mem_singleton.mp m]
          refine ⟨p, hf, ?_⟩
          have hb := hb rfl
          have := hv.ln p (List.mem_of_getElem? hf)
          unfold fl
          split <;> omega
  · exact ⟨[], x6, x7, rfl, Nat.le_refl _, fun f m => nomatch m⟩
  · rintro ρ' ⟨so, x6, x7, rfl, h, hc⟩
    rw [enum_len, List.length_map] at h
    exact ⟨so, x6, x7, rfl, h, hc⟩
theorem m_faces_1 (sh : List (List Nat)) (lv : Nat) (n : Int) (h1 : 1 ≤ lv) (h2 : lv ≤ 3) (hn : 0 ≤ n) (hs : sh.length ≤ 1000) (hv : Sh sh) :
    (∃ ρ', l__law_faces_1 [some (.n (.lst false) (sh.map pcD)), some (.v (.int lv)), some (.v (.int n)), some (.n (.lst true) []), none, none, none, none] = some (.nx ρ') ∧
      ∃ (ch : List Nat) (n2 : Int) (x4 x5 x6 x7 : Option D), ρ' = [some (.n (.lst false) (sh.map pcD)), some (.v (.int lv)), some (.v (.int n2)), some (.n (.lst true) (ch.map nD)), x4, x5, x6, x7] ∧ ch.length = lv + 1 ∧ Cand sh lv ch) ∨
    ∃ d ρ', l__law_faces_1 [some (.n (.lst false) (sh.map pcD)), some (.v (.int lv)), some (.v (.int n)), some (.n (.lst true) []), none, none, none, none] = some (.rt d ρ') ∧ d = .v .non := by
  unfold l__law_faces_1
  have hb : inBd ((lv : Int) + 1) = true := decide_eq_true (by omega)
  simp (disch := omega) only [sSeq, sIf, sRet, sAsg, sDrop, sPass, sFor, sForS, sFz, sMut, sMut0, sDPutF, sRaise, fHold, fMove, fFree, fVar, fC, f1, f2, fL, fCons, fNil, oCons, oNil, oTup, oLst, fTup, fLst, fT, fAnd, fOr, fNot, fAndV, fOrV, fNotV, fIf, fChain, fIsN, fNotN, DL.isNon, DL.isG, gSet, gsCons, gsNil, gUn, gUnL, gStore, pNil, pIx, opApp, opClear, opIns, gLen, gLt_ii, gLe_ii, gGt_ii, gGe_ii, gSub_ii, gAdd_ii, gMul_sm, gMod_pos, gDiv_pos, gPow_sm, gEq_ii, gNe_ii, gNeg, sizeLine_eq, gMax2, gMin2, gList, gTuple, gIx, Kd.seq, D.ow, Kd.ow, D.get, D.put, Kd.at, itemsOf, fItems, fRng1, fRng3, fEnum, fCall, oCall, takeAll, pinIx, D.erL, D.er, Kd.er, D.clnL, D.cln, Kd.cln, cl2_v, cl2_lst, cl2_tup, D.cl2L, fD0, gTupD, anyOw_nil, anyOw_cons, Bool.or_false, Bool.false_or, dI_eq, nD_eq, pcD_eq, prD_eq, er_prD, ow_prD, c2_prD, cl_prD, erL_dI, er_nD, er_pcD, ow_nD, ow_dI, ow_pcD, c2_nD, c2_dI, c2_pcD, cl_nD, cl_pcD, clnL_dI, List.getD_cons_zero, List.getD_cons_succ, List.set_cons_zero, List.set_cons_succ, List.map_cons, List.map_nil, List.length_cons, List.length_nil, List.length_map, List.replicate, List.append_nil, List.cons_append, List.nil_append, Option.bind_some, Option.map_some, Option.bind_none, Option.map_none, if_true, if_false, Bool.and_true, Bool.true_and, Bool.false_eq_true, reduceIte, reduceCtorEq, decide_true, decide_false, Nat.reduceAdd, Nat.reduceLT, Nat.reduceSub, Nat.reduceLeDiff, hb]
  have htn : ((lv : Int) + 1).toNat = lv + 1 := by omega
  rw [htn]
  have := for_or (items := rngD 0 (lv + 1)) (h := gSet 4) (b := (sSeq (sAsg (fHold (fLst fNil)) (gSet 5))
  (sSeq l__law_faces_0
  (sSeq (sIf (fT (f2 gEq (fVar 5) (fLst fNil))) (sRet (fHold (fC .non))) sPass)
  (sSeq (sDrop (sMut 3 pNil (oCons (fHold (fFree (f2 gIx (fVar 5) (f2 gMod (fVar 2) (fL gLen (fCons (fVar 5) fNil)))))) oNil) opApp))
  (sAsg (fHold (f2 gDiv (fVar 2) (fL gLen (fCons (fVar 5) fNil)))) (gSet 2)))))))
    (ρ := [some (.n (.lst false) (sh.map pcD)), some (.v (.int lv)), some (.v (.int n)), some (.n (.lst true) []), none, none, none, none])
    (fun dn ρ => ∃ (ch : List Nat) (n2 : Int) (x4 x5 x6 x7 : Option D), ρ = [some (.n (.lst false) (sh.map pcD)), some (.v (.int lv)), some (.v (.int n2)), some (.n (.lst true) (ch.map nD)), x4, x5, x6, x7] ∧ ch.length = dn.length ∧ 0 ≤ n2 ∧ Cand sh lv ch) (fun d => d = .v .non) ?_
    ⟨[], n, none, none, none, none, rfl, rfl, hn, fun f m => nomatch m⟩
  · rcases this with ⟨ρ', e, ch, n2, x4, x5, x6, x7, rfl, hl, _, hc⟩ | ⟨d2, ρ2, e, rfl⟩
    · exact .inl ⟨_, e, ch, n2, x4, x5, x6, x7, rfl, by rw [hl, rng_len], hc⟩
    · exact .inr ⟨_, ρ2, e, rfl⟩
  · rintro dn d rest ρ hsp ⟨ch, n2, x4, x5, x6, x7, rfl, hl, hn2, hc⟩
    obtain ⟨rfl, hd⟩ := rng_split hsp
    refine turn_or rfl ?_
    simp (disch := omega) only [sSeq, sIf, sRet, sAsg, sDrop, sPass, sFor, sForS, sFz, sMut, sMut0, sDPutF, sRaise, fHold, fMove, fFree, fVar, fC, f1, f2, fL, fCons, fNil, oCons, oNil, oTup, oLst, fTup, fLst, fT, fAnd, fOr, fNot, fAndV, fOrV, fNotV, fIf, fChain, fIsN, fNotN, DL.isNon, DL.isG, gSet, gsCons, gsNil, gUn, gUnL, gStore, pNil, pIx, opApp, opClear, opIns, gLen, gLt_ii, gLe_ii, gGt_ii, gGe_ii, gSub_ii, gAdd_ii, gMul_sm, gMod_pos, gDiv_pos, gPow_sm, gEq_ii, gNe_ii, gNeg, sizeLine_eq, gMax2, gMin2, gList, gTuple, gIx, Kd.seq, D.ow, Kd.ow, D.get, D.put, Kd.at, itemsOf, fItems, fRng1, fRng3, fEnum, fCall, oCall, takeAll, pinIx, D.erL, D.er, Kd.er, D.clnL, D.cln, Kd.cln, cl2_v, cl2_lst, cl2_tup, D.cl2L, fD0, gTupD, anyOw_nil, anyOw_cons, Bool.or_false, Bool.false_or, dI_eq, nD_eq, pcD_eq, prD_eq, er_prD, ow_prD, c2_prD, cl_prD, erL_dI, er_nD, er_pcD, ow_nD, ow_dI, ow_pcD, c2_nD, c2_dI, c2_pcD, cl_nD, cl_pcD, clnL_dI, List.getD_cons_zero, List.getD_cons_succ, List.set_cons_zero, List.set_cons_succ, List.map_cons, List.map_nil, List.length_cons, List.length_nil, List.length_map, List.replicate, List.append_nil, List.cons_append, List.nil_append, Option.bind_some, Option.map_some, Option.bind_none, Option.map_none, if_true, if_false, Bool.and_true, Bool.true_and, Bool.false_eq_true, reduceIte, reduceCtorEq, decide_true, decide_false, Nat.reduceAdd, Nat.reduceLT, Nat.reduceSub, Nat.reduceLeDiff]
    obtain ⟨ρ', e, so, y6, y7, rfl, hso, hcs⟩ := m_faces_0 sh ch lv (.v (.int n2)) (.v (.int (0 + (dn.length : Nat)))) x6 x7 h1 h2 (by omega) hs hv hc
    rw [e]
    simp (disch := omega) only [sSeq, sIf, sRet, sAsg, sDrop, sPass, sFor, sForS, sFz, sMut, sMut0, sDPutF, sRaise, fHold, fMove, fFree, fVar, fC, f1, f2, fL, fCons, fNil, oCons, oNil, oTup, oLst, fTup, fLst, fT, fAnd, fOr, fNot, fAndV, fOrV, fNotV, fIf, fChain, fIsN, fNotN, DL.isNon, DL.isG, gSet, gsCons, gsNil, gUn, gUnL, gStore, pNil, pIx, opApp, opClear, opIns, gLen, gLt_ii, gLe_ii, gGt_ii, gGe_ii, gSub_ii, gAdd_ii, gMul_sm, gMod_pos, gDiv_pos, gPow_sm, gEq_ii, gNe_ii, gNeg, sizeLine_eq, gMax2, gMin2, gList, gTuple, gIx, Kd.seq, D.ow, Kd.ow, D.get, D.put, Kd.at, itemsOf, fItems, fRng1, fRng3, fEnum, fCall, oCall, takeAll, pinIx, D.erL, D.er, Kd.er, D.clnL, D.cln, Kd.cln, cl2_v, cl2_lst, cl2_tup, D.cl2L, fD0, gTupD, anyOw_nil, anyOw_cons, Bool.or_false, Bool.false_or, dI_eq, nD_eq, pcD_eq, prD_eq, er_prD, ow_prD, c2_prD, cl_prD, erL_dI, er_nD, er_pcD, ow_nD, ow_dI, ow_pcD, c2_nD, c2_dI, c2_pcD, cl_nD, cl_pcD, clnL_dI, List.getD_cons_zero, List.getD_cons_succ, List.set_cons_zero, List.set_cons_succ, List.map_cons, List.map_nil, List.length_cons, List.length_nil, List.length_map, List.replicate, List.append_nil, List.cons_append, List.nil_append, Option.bind_some, Option.map_some, Option.bind_none, Option.map_none, if_true, if_false, Bool.and_true, Bool.true_and, Bool.false_eq_true, reduceIte, reduceCtorEq, decide_true, decide_false, Nat.reduceAdd, Nat.reduceLT, Nat.reduceSub, Nat.reduceLeDiff, gEq_nD_nil]
    cases hso2 : so with
    | nil =>
      simp (disch := omega) only [sSeq, sIf, sRet, sAsg, sDrop, sPass, sFor, sForS, sFz, sMut, sMut0, sDPutF, sRaise, fHold, fMove, fFree, fVar, fC, f1, f2, fL, fCons, fNil, oCons, oNil, oTup, oLst, fTup, fLst, fT, fAnd, fOr, fNot, fAndV, fOrV, fNotV, fIf, fChain, fIsN, fNotN, DL.isNon, DL.isG, gSet, gsCons, gsNil, gUn, gUnL, gStore, pNil, pIx, opApp, opClear, opIns, gLen, gLt_ii, gLe_ii, gGt_ii, gGe_ii, gSub_ii, gAdd_ii, gMul_sm, gMod_pos, gDiv_pos, gPow_sm, gEq_ii, gNe_ii, gNeg, sizeLine_eq, gMax2, gMin2, gList, gTuple, gIx, Kd.seq, D.ow, Kd.ow, D.get, D.put, Kd.at, itemsOf, fItems, fRng1, fRng3, fEnum, fCall, oCall, takeAll, pinIx, D.erL, D.er, Kd.er, D.clnL, D.cln, Kd.cln, cl2_v, cl2_lst, cl2_tup, D.cl2L, fD0, gTupD, anyOw_nil, anyOw_cons, Bool.or_false, Bool.false_or, dI_eq, nD_eq, pcD_eq, prD_eq, er_prD, ow_prD, c2_prD, cl_prD, erL_dI, er_nD, er_pcD, ow_nD, ow_dI, ow_pcD, c2_nD, c2_dI, c2_pcD, cl_nD, cl_pcD, clnL_dI, List.getD_cons_zero, List.getD_cons_succ, List.set_cons_zero, List.set_cons_succ, List.map_cons, List.map_nil, List.length_cons, List.length_nil, List.length_map, List.replicate, List.append_nil, List.cons_append, List.nil_append, Option.bind_some, Option.map_some, Option.bind_none, Option.map_none, if_true, if_false, Bool.and_true, Bool.true_and, Bool.false_eq_true, reduceIte, reduceCtorEq, decide_true, decide_false, Nat.reduceAdd, Nat.reduceLT, Nat.reduceSub, Nat.reduceLeDiff, List.isEmpty_nil]
      exact ⟨_, rfl, .inr ⟨_, _, rfl, rfl⟩⟩
    | cons s0 sr =>
      rw [← hso2]
      have hpos : 0 < so.length := by rw [hso2]; simp
      have hne : so.isEmpty = false := by rw [hso2]; rfl
      have hk : (n2 % (so.length : Int)).toNat < so.length := by
        have a := Int.emod_nonneg n2 (show (so.length : Int) ≠ 0 by omega)
        have b := Int.emod_lt_of_pos n2 (show (0 : Int) < so.length by omega)
        omega
      have ea : atI (so.map nD) (n2 % (so.length : Int)) = some (nD so[(n2 % (so.length : Int)).toNat]) := at_map (Int.emod_nonneg _ (by omega)) (List.getElem?_eq_getElem hk)
      have hz : ch.length < 16777216 := by omega
      simp (disch := omega) only [sSeq, sIf, sRet, sAsg, sDrop, sPass, sFor, sForS, sFz, sMut, sMut0, sDPutF, sRaise, fHold, fMove, fFree, fVar, fC, f1, f2, fL, fCons, fNil, oCons, oNil, oTup, oLst, fTup, fLst, fT, fAnd, fOr, fNot, fAndV, fOrV, fNotV, fIf, fChain, fIsN, fNotN, DL.isNon, DL.isG, gSet, gsCons, gsNil, gUn, gUnL, gStore, pNil, pIx, opApp, opClear, opIns, gLen, gLt_ii, gLe_ii, gGt_ii, gGe_ii, gSub_ii, gAdd_ii, gMul_sm, gMod_pos, gDiv_pos, gPow_sm, gEq_ii, gNe_ii, gNeg, sizeLine_eq, gMax2, gMin2, gList, gTuple, gIx, Kd.seq, D.ow, Kd.ow, D.get, D.put, Kd.at, itemsOf, fItems, fRng1, fRng3, fEnum, fCall, oCall, takeAll, pinIx, D.erL, D.er, Kd.er, D.clnL, D.cln, Kd.cln, cl2_v, cl2_lst, cl2_tup, D.cl2L, fD0, gTupD, anyOw_nil, anyOw_cons, Bool.or_false, Bool.false_or, dI_eq, nD_eq, pcD_eq, prD_eq, er_prD, ow_prD, c2_prD, cl_prD, erL_dI, er_nD, er_pcD, ow_nD, ow_dI, ow_pcD, c2_nD, c2_dI, c2_pcD, cl_nD, cl_pcD, clnL_dI, List.getD_cons_zero, List.getD_cons_succ, List.set_cons_zero, List.set_cons_succ, List.map_cons, List.map_nil, List.length_cons, List.length_nil, List.length_map, List.replicate, List.append_nil, List.cons_append, List.nil_append, Option.bind_some, Option.map_some, Option.bind_none, Option.map_none, if_true, if_false, Bool.and_true, Bool.true_and, Bool.false_eq_true, reduceIte, reduceCtorEq, decide_true, decide_false, Nat.reduceAdd, Nat.reduceLT, Nat.reduceSub, Nat.reduceLeDiff, hne, ea, hz]
      refine ⟨_, rfl, .inl ⟨_, rfl, ch ++ [so[(n2 % (so.length : Int)).toNat]], n2 / so.length, _, _, _, _, by rw [List.map_append]; rfl, by simp [hl], Int.ediv_nonneg hn2 (by omega), fun f m => ?_⟩⟩
      rcases List.mem_append.mp m with m | m
      · exact hc f m
      · rw [List.mem_singleton.mp m]
        exact hcs _ (List.getElem_mem hk)
/-- faces for a new piece, or None -/
theorem m_faces (sh : List (List Nat)) (lv : Nat) (n : Int) (h1 : 1 ≤ lv) (h2 : lv ≤ 3) (hn : 0 ≤ n) (hs : sh.length ≤ 1000) (hv : Sh sh) :
    ∃ r, p__law_faces [.n (.lst false) (sh.map pcD), .v (.int lv), .v (.int n)] = some (.ret r []) ∧ (r = .v .non ∨ ∃ fs, r = pcD fs ∧ fs.length = lv + 1 ∧ Cand sh lv fs) := by
  unfold p__law_faces fnG b__law_faces
  simp (disch := omega) only [sSeq, sIf, sRet, sAsg, sDrop, sPass, sFor, sForS, sFz, sMut, sMut0, sDPutF, sRaise, fHold, fMove, fFree, fVar, fC, f1, f2, fL, fCons, fNil, oCons, oNil, oTup, oLst, fTup, fLst, fT, fAnd, fOr, fNot, fAndV, fOrV, fNotV, fIf, fChain, fIsN, fNotN, DL.isNon, DL.isG, gSet, gsCons, gsNil, gUn, gUnL, gStore, pNil, pIx, opApp, opClear, opIns, gLen, gLt_ii, gLe_ii, gGt_ii, gGe_ii, gSub_ii, gAdd_ii, gMul_sm, gMod_pos, gDiv_pos, gPow_sm, gEq_ii, gNe_ii, gNeg, sizeLine_eq, gMax2, gMin2, gList, gTuple, gIx, Kd.seq, D.ow, Kd.ow, D.get, D.put, Kd.at, itemsOf, fItems, fRng1, fRng3, fEnum, fCall, oCall, takeAll, pinIx, D.erL, D.er, Kd.er, D.clnL, D.cln, Kd.cln, cl2_v, cl2_lst, cl2_tup, D.cl2L, fD0, gTupD, anyOw_nil, anyOw_cons, Bool.or_false, Bool.false_or, dI_eq, nD_eq, pcD_eq, prD_eq, er_prD, ow_prD, c2_prD, cl_prD, erL_dI, er_nD, er_pcD, ow_nD, ow_dI, ow_pcD, c2_nD, c2_dI, c2_pcD, cl_nD, cl_pcD, clnL_dI, List.getD_cons_zero, List.getD_cons_succ, List.set_cons_zero, List.set_cons_succ, List.map_cons, List.map_nil, List.length_cons, List.length_nil, List.length_map, List.replicate, List.append_nil, List.cons_append, List.nil_append, Option.bind_some, Option.map_some, Option.bind_none, Option.map_none, if_true, if_false, Bool.and_true, Bool.true_and, Bool.false_eq_true, reduceIte, reduceCtorEq, decide_true, decide_false, Nat.reduceAdd, Nat.reduceLT, Nat.reduceSub, Nat.reduceLeDiff]
  rcases m_faces_1 sh lv n h1 h2 hn hs hv with ⟨ρ', e, ch, n2, x4, x5, x6, x7, rfl, hl, hc⟩ | ⟨d, ρ', e, rfl⟩
  · rw [e]
    refine ⟨pcD ch, ?_, .inr ⟨ch, rfl, hl, hc⟩⟩
    simp only [sSeq, sIf, sRet, sAsg, sDrop, sPass, sFor, sForS, sFz, sMut, sMut0, sDPutF, sRaise, fHold, fMove, fFree, fVar, fC, f1, f2, fL, fCons, fNil, oCons, oNil, oTup, oLst, fTup, fLst, fT, fAnd, fOr, fNot, fAndV, fOrV, fNotV, fIf, fChain, fIsN, fNotN, DL.isNon, DL.isG, gSet, gsCons, gsNil, gUn, gUnL, gStore, pNil, pIx, opApp, opClear, opIns, gLen, gLt_ii, gLe_ii, gGt_ii, gGe_ii, gSub_ii, gAdd_ii, gMul_sm, gMod_pos, gDiv_pos, gPow_sm, gEq_ii, gNe_ii, gNeg, sizeLine_eq, gMax2, gMin2, gList, gTuple, gIx, Kd.seq, D.ow, Kd.ow, D.get, D.put, Kd.at, itemsOf, fItems, fRng1, fRng3, fEnum, fCall, oCall, takeAll, pinIx, D.erL, D.er, Kd.er, D.clnL, D.cln, Kd.cln, cl2_v, cl2_lst, cl2_tup, D.cl2L, fD0, gTupD, anyOw_nil, anyOw_cons, Bool.or_false, Bool.false_or, dI_eq, nD_eq, pcD_eq, prD_eq, er_prD, ow_prD, c2_prD, cl_prD, erL_dI, er_nD, er_pcD, ow_nD, ow_dI, ow_pcD, c2_nD, c2_dI, c2_pcD, cl_nD, cl_pcD, clnL_dI, List.getD_cons_zero, List.getD_cons_succ, List.set_cons_zero, List.set_cons_succ, List.map_cons, List.map_nil, List.length_cons, List.length_nil, List.length_map, List.replicate, List.append_nil, List.cons_append, List.nil_append, Option.bind_some, Option.map_some, Option.bind_none, Option.map_none, if_true, if_false, Bool.and_true, Bool.true_and, Bool.false_eq_true, reduceIte, reduceCtorEq, decide_true, decide_false, Nat.reduceAdd, Nat.reduceLT, Nat.reduceSub, Nat.reduceLeDiff]
  · rw [e]
    exact ⟨_, rfl, .inl rfl⟩
end A95

set_option Elab.async false
set_option linter.all false
set_option maxRecDepth 100000
set_option maxHeartbeats 4000000
namespace A95
open DL PySem L2
open PyProof.Rows hiding St
theorem lev (n : Int) : ∃ lv : Nat, lv ≤ 3 ∧ atI [D.v (.int 0), .v (.int 1), .v (.int 1), .v (.int 2), .v (.int 2), .v (.int 2), .v (.int 3), .v (.int 3)] (n % 8) = some (.v (.int lv)) := by
  have h : n % 8 = 0 ∨ n % 8 = 1 ∨ n % 8 = 2 ∨ n % 8 = 3 ∨ n % 8 = 4 ∨ n % 8 = 5 ∨ n % 8 = 6 ∨ n % 8 = 7 := by omega
  rcases h with h | h | h | h | h | h | h | h <;> rw [h]
  · exact ⟨0, by omega, rfl⟩
  · exact ⟨1, by omega, rfl⟩
  · exact ⟨1, by omega, rfl⟩
  · exact ⟨2, by omega, rfl⟩
  · exact ⟨2, by omega, rfl⟩
  · exact ⟨2, by omega, rfl⟩
  · exact ⟨3, by omega, rfl⟩
  · exact ⟨3, by omega, rfl⟩
theorem min3 (lv : Nat) (h : lv ≤ 3) : (if ((lv : Int) < 3) then (lv : Int) else 3) = lv := by split <;> omega
/-- a shape: each piece of faces that stand ahead -/
theorem m_shape_0 (ns : List Int) (k many : Int) (hk : 0 ≤ k) (hk2 : k ≤ 1000) (hm : 0 ≤ many) (hm2 : many ≤ 1000) :
    ∃ ρ', l__law_shape_0 [some (.n .scr (ns.map dI)), some (.v (.int k)), some (.v (.int many)), some (.v (.int 3)), some (.n (.lst true) []), none, none, none] = some (.nx ρ') ∧
      ∃ (sh : List (List Nat)) (x5 x6 x7 : Option D), ρ' = [some (.n .scr (ns.map dI)), some (.v (.int k)), some (.v (.int many)), some (.v (.int 3)), some (.n (.lst true) (sh.map pcD)), x5, x6, x7] ∧ sh.length = many.toNat ∧ Sh sh := by
  unfold l__law_shape_0
  obtain ⟨xs, e, hxl, hx⟩ := m_row ns k many 999983 hk hk2 hm hm2 (by omega) (by omega)
  simp (disch := omega) only [sSeq, sIf, sRet, sAsg, sDrop, sPass, sFor, sForS, sFz, sMut, sMut0, sDPutF, sRaise, fHold, fMove, fFree, fVar, fC, f1, f2, fL, fCons, fNil, oCons, oNil, oTup, oLst, fTup, fLst, fT, fAnd, fOr, fNot, fAndV, fOrV, fNotV, fIf, fChain, fIsN, fNotN, DL.isNon, DL.isG, gSet, gsCons, gsNil, gUn, gUnL, gStore, pNil, pIx, opApp, opClear, opIns, gLen, gLt_ii, gLe_ii, gGt_ii, gGe_ii, gSub_ii, gAdd_ii, gMul_sm, gMod_pos, gDiv_pos, gPow_sm, gEq_ii, gNe_ii, gNeg, sizeLine_eq, gMax2, gMin2, gList, gTuple, gIx, Kd.seq, D.ow, Kd.ow, D.get, D.put, Kd.at, itemsOf, fItems, fRng1, fRng3, fEnum, fCall, oCall, takeAll, pinIx, D.erL, D.er, Kd.er, D.clnL, D.cln, Kd.cln, cl2_v, cl2_lst, cl2_tup, D.cl2L, fD0, gTupD, anyOw_nil, anyOw_cons, Bool.or_false, Bool.false_or, dI_eq, nD_eq, pcD_eq, prD_eq, er_prD, ow_prD, c2_prD, cl_prD, erL_dI, er_nD, er_pcD, ow_nD, ow_dI, ow_pcD, c2_nD, c2_dI, c2_pcD, cl_nD, cl_pcD, clnL_dI, List.getD_cons_zero, List.getD_cons_succ, List.set_cons_zero, List.set_cons_succ, List.map_cons, List.map_nil, List.length_cons, List.length_nil, List.length_map, List.replicate, List.append_nil, List.cons_append, List.nil_append, Option.bind_some, Option.map_some, Option.bind_none, Option.map_none, if_true, if_false, Bool.and_true, Bool.true_and, Bool.false_eq_true, reduceIte, reduceCtorEq, decide_true, decide_false, Nat.reduceAdd, Nat.reduceLT, Nat.reduceSub, Nat.reduceLeDiff, e]
  refine for_to (fun dn ρ => ∃ (sh : List (List Nat)) (x5 x6 x7 : Option D), ρ = [some (.n .scr (ns.map dI)), some (.v (.int k)), some (.v (.int many)), some (.v (.int 3)), some (.n (.lst true) (sh.map pcD)), x5, x6, x7] ∧ sh.length = dn.length ∧ Sh sh) ?_ ⟨[], none, none, none, rfl, rfl, Sh.nil⟩ ?_
  · rintro dn d rest ρ hsp ⟨sh, x5, x6, x7, rfl, hl, hs⟩
    obtain ⟨x, hx2, hdn, rfl⟩ : ∃ x, x ∈ xs ∧ dn.length < xs.length ∧ d = .v (.int x) := by
      have hd : d ∈ xs.map dI := by rw [hsp]; simp
      obtain ⟨x, hx, rfl⟩ := List.mem_map.mp hd
      have := congrArg List.length hsp
      simp at this
      exact ⟨x, hx, by omega, rfl⟩
    obtain ⟨h0, _⟩ := hx x hx2
    refine turn rfl ?_
    obtain ⟨lv, hlv, elv⟩ := lev x
    have hz : sh.length < 16777216 := by omega
    have fin : ∀ (p : List Nat) (x6 x7 : Option D), (p.length = 0 ∨ (2 ≤ p.length ∧ p.length ≤ 4)) → Cand sh (p.length - 1) p → ∃ (sh' : List (List Nat)) (y5 y6 y7 : Option D), [some (.n .scr (ns.map dI)), some (.v (.int k)), some (.v (.int many)), some (.v (.int 3)), some (.n (.lst true) (sh.map pcD ++ [.n (.tup false) (p.map nD)])), some (.v (.int x)), x6, x7] =
        [some (.n .scr (ns.map dI)), some (.v (.int k)), some (.v (.int many)), some (.v (.int 3)), some (.n (.lst true) (sh'.map pcD)), y5, y6, y7] ∧ sh'.length = (dn ++ [D.v (.int x)]).length ∧ Sh sh' := fun p x6 x7 h1 h2 =>
      ⟨sh ++ [p], some (.v (.int x)), x6, x7, by simp [pcD], by simp [hl], hs.snoc h1 h2⟩
    have finE : ∀ (x6 x7 : Option D), ∃ (sh' : List (List Nat)) (y5 y6 y7 : Option D), [some (.n .scr (ns.map dI)), some (.v (.int k)), some (.v (.int many)), some (.v (.int 3)), some (.n (.lst true) (sh.map pcD ++ [.n (.tup false) []])), some (.v (.int x)), x6, x7] =
        [some (.n .scr (ns.map dI)), some (.v (.int k)), some (.v (.int many)), some (.v (.int 3)), some (.n (.lst true) (sh'.map pcD)), y5, y6, y7] ∧ sh'.length = (dn ++ [D.v (.int x)]).length ∧ Sh sh' := fun x6 x7 => fin [] x6 x7 (.inl rfl) fun f m => nomatch m
    simp (disch := omega) only [sSeq, sIf, sRet, sAsg, sDrop, sPass, sFor, sForS, sFz, sMut, sMut0, sDPutF, sRaise, fHold, fMove, fFree, fVar, fC, f1, f2, fL, fCons, fNil, oCons, oNil, oTup, oLst, fTup, fLst, fT, fAnd, fOr, fNot, fAndV, fOrV, fNotV, fIf, fChain, fIsN, fNotN, DL.isNon, DL.isG, gSet, gsCons, gsNil, gUn, gUnL, gStore, pNil, pIx, opApp, opClear, opIns, gLen, gLt_ii, gLe_ii, gGt_ii, gGe_ii, gSub_ii, gAdd_ii, gMul_sm, gMod_pos, gDiv_pos, gPow_sm, gEq_ii, gNe_ii, gNeg, sizeLine_eq, gMax2, gMin2, gList, gTuple, gIx, Kd.seq, D.ow, Kd.ow, D.get, D.put, Kd.at, itemsOf, fItems, fRng1, fRng3, fEnum, fCall, oCall, takeAll, pinIx, D.erL, D.er, Kd.er, D.clnL, D.cln, Kd.cln, cl2_v, cl2_lst, cl2_tup, D.cl2L, fD0, gTupD, anyOw_nil, anyOw_cons, Bool.or_false, Bool.false_or, dI_eq, nD_eq, pcD_eq, prD_eq, er_prD, ow_prD, c2_prD, cl_prD, erL_dI, er_nD, er_pcD, ow_nD, ow_dI, ow_pcD, c2_nD, c2_dI, c2_pcD, cl_nD, cl_pcD, clnL_dI, List.getD_cons_zero, List.getD_cons_succ, List.set_cons_zero, List.set_cons_succ, List.map_cons, List.map_nil, List.length_cons, List.length_nil, List.length_map, List.replicate, List.append_nil, List.cons_append, List.nil_append, Option.bind_some, Option.map_some, Option.bind_none, Option.map_none, if_true, if_false, Bool.and_true, Bool.true_and, Bool.false_eq_true, reduceIte, reduceCtorEq, decide_true, decide_false, Nat.reduceAdd, Nat.reduceLT, Nat.reduceSub, Nat.reduceLeDiff, elv, min3 lv hlv]
    rcases Nat.eq_zero_or_pos lv with h | h
    · subst h
      simp (disch := omega) only [sSeq, sIf, sRet, sAsg, sDrop, sPass, sFor, sForS, sFz, sMut, sMut0, sDPutF, sRaise, fHold, fMove, fFree, fVar, fC, f1, f2, fL, fCons, fNil, oCons, oNil, oTup, oLst, fTup, fLst, fT, fAnd, fOr, fNot, fAndV, fOrV, fNotV, fIf, fChain, fIsN, fNotN, DL.isNon, DL.isG, gSet, gsCons, gsNil, gUn, gUnL, gStore, pNil, pIx, opApp, opClear, opIns, gLen, gLt_ii, gLe_ii, gGt_ii, gGe_ii, gSub_ii, gAdd_ii, gMul_sm, gMod_pos, gDiv_pos, gPow_sm, gEq_ii, gNe_ii, gNeg, sizeLine_eq, gMax2, gMin2, gList, gTuple, gIx, Kd.seq, D.ow, Kd.ow, D.get, D.put, Kd.at, itemsOf, fItems, fRng1, fRng3, fEnum, fCall, oCall, takeAll, pinIx, D.erL, D.er, Kd.er, D.clnL, D.cln, Kd.cln, cl2_v, cl2_lst, cl2_tup, D.cl2L, fD0, gTupD, anyOw_nil, anyOw_cons, Bool.or_false, Bool.false_or, dI_eq, nD_eq, pcD_eq, prD_eq, er_prD, ow_prD, c2_prD, cl_prD, erL_dI, er_nD, er_pcD, ow_nD, ow_dI, ow_pcD, c2_nD, c2_dI, c2_pcD, cl_nD, cl_pcD, clnL_dI, List.getD_cons_zero, List.getD_cons_succ, List.set_cons_zero, List.set_cons_succ, List.map_cons, List.map_nil, List.length_cons, List.length_nil, List.length_map, List.replicate, List.append_nil, List.cons_append, List.nil_append, Option.bind_some, Option.map_some, Option.bind_none, Option.map_none, if_true, if_false, Bool.and_true, Bool.true_and, Bool.false_eq_true, reduceIte, reduceCtorEq, decide_true, decide_false, Nat.reduceAdd, Nat.reduceLT, Nat.reduceSub, Nat.reduceLeDiff, show ¬ ((0 : Int) < ((0 : Nat) : Int)) from by omega]
      by_cases ha : 0 < x / 8 % 4
      · by_cases hb : (0 : Int) < (sh.length : Int)
        · obtain ⟨r, er, hr⟩ := m_faces sh 1 (x / 32) (by omega) (by omega) (by omega) (by omega) hs
          rw [show ((1 : Nat) : Int) = 1 from rfl] at er
          rcases hr with rfl | ⟨fs, rfl, hfl, hfc⟩
          · simp (disch := omega) only [sSeq, sIf, sRet, sAsg, sDrop, sPass, sFor, sForS, sFz, sMut, sMut0, sDPutF, sRaise, fHold, fMove, fFree, fVar, fC, f1, f2, fL, fCons, fNil, oCons, oNil, oTup, oLst, fTup, fLst, fT, fAnd, fOr, fNot, fAndV, fOrV, fNotV, fIf, fChain, fIsN, fNotN, DL.isNon, DL.isG, gSet, gsCons, gsNil, gUn, gUnL, gStore, pNil, pIx, opApp, opClear, opIns, gLen, gLt_ii, gLe_ii, gGt_ii, gGe_ii, gSub_ii, gAdd_ii, gMul_sm, gMod_pos, gDiv_pos, gPow_sm, gEq_ii, gNe_ii, gNeg, sizeLine_eq, gMax2, gMin2, gList, gTuple, gIx, Kd.seq, D.ow, Kd.ow, D.get, D.put, Kd.at, itemsOf, fItems, fRng1, fRng3, fEnum, fCall, oCall, takeAll, pinIx, D.erL, D.er, Kd.er, D.clnL, D.cln, Kd.cln, cl2_v, cl2_lst, cl2_tup, D.cl2L, fD0, gTupD, anyOw_nil, anyOw_cons, Bool.or_false, Bool.false_or, dI_eq, nD_eq, pcD_eq, prD_eq, er_prD, ow_prD, c2_prD, cl_prD, erL_dI, er_nD, er_pcD, ow_nD, ow_dI, ow_pcD, c2_nD, c2_dI, c2_pcD, cl_nD, cl_pcD, clnL_dI, List.getD_cons_zero, List.getD_cons_succ, List.set_cons_zero, List.set_cons_succ, List.map_cons, List.map_nil, List.length_cons, List.length_nil, List.length_map, List.replicate, List.append_nil, List.cons_append, List.nil_append, Option.bind_some, Option.map_some, Option.bind_none, Option.map_none, if_true, if_false, Bool.and_true, Bool.true_and, Bool.false_eq_true, reduceIte, reduceCtorEq, decide_true, decide_false, Nat.reduceAdd, Nat.reduceLT, Nat.reduceSub, Nat.reduceLeDiff, ha, hb, er, hz]
            exact ⟨_, rfl, finE _ _⟩
          · simp (disch := omega) only [sSeq, sIf, sRet, sAsg, sDrop, sPass, sFor, sForS, sFz, sMut, sMut0, sDPutF, sRaise, fHold, fMove, fFree, fVar, fC, f1, f2, fL, fCons, fNil, oCons, oNil, oTup, oLst, fTup, fLst, fT, fAnd, fOr, fNot, fAndV, fOrV, fNotV, fIf, fChain, fIsN, fNotN, DL.isNon, DL.isG, gSet, gsCons, gsNil, gUn, gUnL, gStore, pNil, pIx, opApp, opClear, opIns, gLen, gLt_ii, gLe_ii, gGt_ii, gGe_ii, gSub_ii, gAdd_ii, gMul_sm, gMod_pos, gDiv_pos, gPow_sm, gEq_ii, gNe_ii, gNeg, sizeLine_eq, gMax2, gMin2, gList, gTuple, gIx, Kd.seq, D.ow, Kd.ow, D.get, D.put, Kd.at, itemsOf, fItems, fRng1, fRng3, fEnum, fCall, oCall, takeAll, pinIx, D.erL, D.er, Kd.er, D.clnL, D.cln, Kd.cln, cl2_v, cl2_lst, cl2_tup, D.cl2L, fD0, gTupD, anyOw_nil, anyOw_cons, Bool.or_false, Bool.false_or, dI_eq, nD_eq, pcD_eq, prD_eq, er_prD, ow_prD, c2_prD, cl_prD, erL_dI, er_nD, er_pcD, ow_nD, ow_dI, ow_pcD, c2_nD, c2_dI, c2_pcD, cl_nD, cl_pcD, clnL_dI, List.getD_cons_zero, List.getD_cons_succ, List.set_cons_zero, List.set_cons_succ, List.map_cons, List.map_nil, List.length_cons, List.length_nil, List.length_map, List.replicate, List.append_nil, List.cons_append, List.nil_append, Option.bind_some, Option.map_some, Option.bind_none, Option.map_none, if_true, if_false, Bool.and_true, Bool.true_and, Bool.false_eq_true, reduceIte, reduceCtorEq, decide_true, decide_false, Nat.reduceAdd, Nat.reduceLT, Nat.reduceSub, Nat.reduceLeDiff] at er
            simp (disch := omega) only [sSeq, sIf, sRet, sAsg, sDrop, sPass, sFor, sForS, sFz, sMut, sMut0, sDPutF, sRaise, fHold, fMove, fFree, fVar, fC, f1, f2, fL, fCons, fNil, oCons, oNil, oTup, oLst, fTup, fLst, fT, fAnd, fOr, fNot, fAndV, fOrV, fNotV, fIf, fChain, fIsN, fNotN, DL.isNon, DL.isG, gSet, gsCons, gsNil, gUn, gUnL, gStore, pNil, pIx, opApp, opClear, opIns, gLen, gLt_ii, gLe_ii, gGt_ii, gGe_ii, gSub_ii, gAdd_ii, gMul_sm, gMod_pos, gDiv_pos, gPow_sm, gEq_ii, gNe_ii, gNeg, sizeLine_eq, gMax2, gMin2, gList, gTuple, gIx, Kd.seq, D.ow, Kd.ow, D.get, D.put, Kd.at, itemsOf, fItems, fRng1, fRng3, fEnum, fCall, oCall, takeAll, pinIx, D.erL, D.er, Kd.er, D.clnL, D.cln, Kd.cln, cl2_v, cl2_lst, cl2_tup, D.cl2L, fD0, gTupD, anyOw_nil, anyOw_cons, Bool.or_false, Bool.false_or, dI_eq, nD_eq, pcD_eq, prD_eq, er_prD, ow_prD, c2_prD, cl_prD, erL_dI, er_nD, er_pcD, ow_nD, ow_dI, ow_pcD, c2_nD, c2_dI, c2_pcD, cl_nD, cl_pcD, clnL_dI, List.getD_cons_zero, List.getD_cons_succ, List.set_cons_zero, List.set_cons_succ, List.map_cons, List.map_nil, List.length_cons, List.length_nil, List.length_map, List.replicate, List.append_nil, List.cons_append, List.nil_append, Option.bind_some, Option.map_some, Option.bind_none, Option.map_none, if_true, if_false, Bool.and_true, Bool.true_and, Bool.false_eq_true, reduceIte, reduceCtorEq, decide_true, decide_false, Nat.reduceAdd, Nat.reduceLT, Nat.reduceSub, Nat.reduceLeDiff, ha, hb, er, hz]
            exact ⟨_, rfl, fin fs _ _ (by omega) (by rw [hfl]; exact hfc)⟩
        · simp (disch := omega) only [sSeq, sIf, sRet, sAsg, sDrop, sPass, sFor, sForS, sFz, sMut, sMut0, sDPutF, sRaise, fHold, fMove, fFree, fVar, fC, f1, f2, fL, fCons, fNil, oCons, oNil, oTup, oLst, fTup, fLst, fT, fAnd, fOr, fNot, fAndV, fOrV, fNotV, fIf, fChain, fIsN, fNotN, DL.isNon, DL.isG, gSet, gsCons, gsNil, gUn, gUnL, gStore, pNil, pIx, opApp, opClear, opIns, gLen, gLt_ii, gLe_ii, gGt_ii, gGe_ii, gSub_ii, gAdd_ii, gMul_sm, gMod_pos, gDiv_pos, gPow_sm, gEq_ii, gNe_ii, gNeg, sizeLine_eq, gMax2, gMin2, gList, gTuple, gIx, Kd.seq, D.ow, Kd.ow, D.get, D.put, Kd.at, itemsOf, fItems, fRng1, fRng3, fEnum, fCall, oCall, takeAll, pinIx, D.erL, D.er, Kd.er, D.clnL, D.cln, Kd.cln, cl2_v, cl2_lst, cl2_tup, D.cl2L, fD0, gTupD, anyOw_nil, anyOw_cons, Bool.or_false, Bool.false_or, dI_eq, nD_eq, pcD_eq, prD_eq, er_prD, ow_prD, c2_prD, cl_prD, erL_dI, er_nD, er_pcD, ow_nD, ow_dI, ow_pcD, c2_nD, c2_dI, c2_pcD, cl_nD, cl_pcD, clnL_dI, List.getD_cons_zero, List.getD_cons_succ, List.set_cons_zero, List.set_cons_succ, List.map_cons, List.map_nil, List.length_cons, List.length_nil, List.length_map, List.replicate, List.append_nil, List.cons_append, List.nil_append, Option.bind_some, Option.map_some, Option.bind_none, Option.map_none, if_true, if_false, Bool.and_true, Bool.true_and, Bool.false_eq_true, reduceIte, reduceCtorEq, decide_true, decide_false, Nat.reduceAdd, Nat.reduceLT, Nat.reduceSub, Nat.reduceLeDiff, ha, hb, hz]
          exact ⟨_, rfl, finE _ _⟩
      · simp (disch := omega) only [sSeq, sIf, sRet, sAsg, sDrop, sPass, sFor, sForS, sFz, sMut, sMut0, sDPutF, sRaise, fHold, fMove, fFree, fVar, fC, f1, f2, fL, fCons, fNil, oCons, oNil, oTup, oLst, fTup, fLst, fT, fAnd, fOr, fNot, fAndV, fOrV, fNotV, fIf, fChain, fIsN, fNotN, DL.isNon, DL.isG, gSet, gsCons, gsNil, gUn, gUnL, gStore, pNil, pIx, opApp, opClear, opIns, gLen, gLt_ii, gLe_ii, gGt_ii, gGe_ii, gSub_ii, gAdd_ii, gMul_sm, gMod_pos, gDiv_pos, gPow_sm, gEq_ii, gNe_ii, gNeg, sizeLine_eq, gMax2, gMin2, gList, gTuple, gIx, Kd.seq, D.ow, Kd.ow, D.get, D.put, Kd.at, itemsOf, fItems, fRng1, fRng3, fEnum, fCall, oCall, takeAll, pinIx, D.erL, D.er, Kd.er, D.clnL, D.cln, Kd.cln, cl2_v, cl2_lst, cl2_tup, D.cl2L, fD0, gTupD, anyOw_nil, anyOw_cons, Bool.or_false, Bool.false_or, dI_eq, nD_eq, pcD_eq, prD_eq, er_prD, ow_prD, c2_prD, cl_prD, erL_dI, er_nD, er_pcD, ow_nD, ow_dI, ow_pcD, c2_nD, c2_dI, c2_pcD, cl_nD, cl_pcD, clnL_dI, List.getD_cons_zero, List.getD_cons_succ, List.set_cons_zero, List.set_cons_succ, List.map_cons, List.map_nil, List.length_cons, List.length_nil, List.length_map, List.replicate, List.append_nil, List.cons_append, List.nil_append, Option.bind_some, Option.map_some, Option.bind_none, Option.map_none, if_true, if_false, Bool.and_true, Bool.true_and, Bool.false_eq_true, reduceIte, reduceCtorEq, decide_true, decide_false, Nat.reduceAdd, Nat.reduceLT, Nat.reduceSub, Nat.reduceLeDiff, ha, hz]
        exact ⟨_, rfl, finE _ _⟩
    · obtain ⟨r, er, hr⟩ := m_faces sh lv (x / 8) h hlv (by omega) (by omega) hs
      have hpos : (0 : Int) < (lv : Int) := by omega
      rcases hr with rfl | ⟨fs, rfl, hfl, hfc⟩
      · simp (disch := omega) only [sSeq, sIf, sRet, sAsg, sDrop, sPass, sFor, sForS, sFz, sMut, sMut0, sDPutF, sRaise, fHold, fMove, fFree, fVar, fC, f1, f2, fL, fCons, fNil, oCons, oNil, oTup, oLst, fTup, fLst, fT, fAnd, fOr, fNot, fAndV, fOrV, fNotV, fIf, fChain, fIsN, fNotN, DL.isNon, DL.isG, gSet, gsCons, gsNil, gUn, gUnL, gStore, pNil, pIx, opApp, opClear, opIns, gLen, gLt_ii, gLe_ii, gGt_ii, gGe_ii, gSub_ii, gAdd_ii, gMul_sm, gMod_pos, gDiv_pos, gPow_sm, gEq_ii, gNe_ii, gNeg, sizeLine_eq, gMax2, gMin2, gList, gTuple, gIx, Kd.seq, D.ow, Kd.ow, D.get, D.put, Kd.at, itemsOf, fItems, fRng1, fRng3, fEnum, fCall, oCall, takeAll, pinIx, D.erL, D.er, Kd.er, D.clnL, D.cln, Kd.cln, cl2_v, cl2_lst, cl2_tup, D.cl2L, fD0, gTupD, anyOw_nil, anyOw_cons, Bool.or_false, Bool.false_or, dI_eq, nD_eq, pcD_eq, prD_eq, er_prD, ow_prD, c2_prD, cl_prD, erL_dI, er_nD, er_pcD, ow_nD, ow_dI, ow_pcD, c2_nD, c2_dI, c2_pcD, cl_nD, cl_pcD, clnL_dI, List.getD_cons_zero, List.getD_cons_succ, List.set_cons_zero, List.set_cons_succ, List.map_cons, List.map_nil, List.length_cons, List.length_nil, List.length_map, List.replicate, List.append_nil, List.cons_append, List.nil_append, Option.bind_some, Option.map_some, Option.bind_none, Option.map_none, if_true, if_false, Bool.and_true, Bool.true_and, Bool.false_eq_true, reduceIte, reduceCtorEq, decide_true, decide_false, Nat.reduceAdd, Nat.reduceLT, Nat.reduceSub, Nat.reduceLeDiff, hpos, er]
        by_cases ha : 0 < x / 8 % 4
        · by_cases hb : (0 : Int) < (sh.length : Int)
          · obtain ⟨r, er, hr⟩ := m_faces sh 1 (x / 32) (by omega) (by omega) (by omega) (by omega) hs
            rw [show ((1 : Nat) : Int) = 1 from rfl] at er
            rcases hr with rfl | ⟨fs, rfl, hfl, hfc⟩
            · simp (disch := omega) only [sSeq, sIf, sRet, sAsg, sDrop, sPass, sFor, sForS, sFz, sMut, sMut0, sDPutF, sRaise, fHold, fMove, fFree, fVar, fC, f1, f2, fL, fCons, fNil, oCons, oNil, oTup, oLst, fTup, fLst, fT, fAnd, fOr, fNot, fAndV, fOrV, fNotV, fIf, fChain, fIsN, fNotN, DL.isNon, DL.isG, gSet, gsCons, gsNil, gUn, gUnL, gStore, pNil, pIx, opApp, opClear, opIns, gLen, gLt_ii, gLe_ii, gGt_ii, gGe_ii, gSub_ii, gAdd_ii, gMul_sm, gMod_pos, gDiv_pos, gPow_sm, gEq_ii, gNe_ii, gNeg, sizeLine_eq, gMax2, gMin2, gList, gTuple, gIx, Kd.seq, D.ow, Kd.ow, D.get, D.put, Kd.at, itemsOf, fItems, fRng1, fRng3, fEnum, fCall, oCall, takeAll, pinIx, D.erL, D.er, Kd.er, D.clnL, D.cln, Kd.cln, cl2_v, cl2_lst, cl2_tup, D.cl2L, fD0, gTupD, anyOw_nil, anyOw_cons, Bool.or_false, Bool.false_or, dI_eq, nD_eq, pcD_eq, prD_eq, er_prD, ow_prD, c2_prD, cl_prD, erL_dI, er_nD, er_pcD, ow_nD, ow_dI, ow_pcD, c2_nD, c2_dI, c2_pcD, cl_nD, cl_pcD, clnL_dI, List.getD_cons_zero, List.getD_cons_succ, List.set_cons_zero, List.set_cons_succ, List.map_cons, List.map_nil, List.length_cons, List.length_nil, List.length_map, List.replicate, List.append_nil, List.cons_append, List.nil_append, Option.bind_some, Option.map_some, Option.bind_none, Option.map_none, if_true, if_false, Bool.and_true, Bool.true_and, Bool.false_eq_true, reduceIte, reduceCtorEq, decide_true, decide_false, Nat.reduceAdd, Nat.reduceLT, Nat.reduceSub, Nat.reduceLeDiff, ha, hb, er, hz]
              exact ⟨_, rfl, finE _ _⟩
            · simp (disch := omega) only [sSeq, sIf, sRet, sAsg, sDrop, sPass, sFor, sForS, sFz, sMut, sMut0, sDPutF, sRaise, fHold, fMove, fFree, fVar, fC, f1, f2, fL, fCons, fNil, oCons, oNil, oTup, oLst, fTup, fLst, fT, fAnd, fOr, fNot, fAndV, fOrV, fNotV, fIf, fChain, fIsN, fNotN, DL.isNon, DL.isG, gSet, gsCons, gsNil, gUn, gUnL, gStore, pNil, pIx, opApp, opClear, opIns, gLen, gLt_ii, gLe_ii, gGt_ii, gGe_ii, gSub_ii, gAdd_ii, gMul_sm, gMod_pos, gDiv_pos, gPow_sm, gEq_ii, gNe_ii, gNeg, sizeLine_eq, gMax2, gMin2, gList, gTuple, gIx, Kd.seq, D.ow, Kd.ow, D.get, D.put, Kd.at, itemsOf, fItems, fRng1, fRng3, fEnum, fCall, oCall, takeAll, pinIx, D.erL, D.er, Kd.er, D.clnL, D.cln, Kd.cln, cl2_v, cl2_lst, cl2_tup, D.cl2L, fD0, gTupD, anyOw_nil, anyOw_cons, Bool.or_false, Bool.false_or, dI_eq, nD_eq, pcD_eq, prD_eq, er_prD, ow_prD, c2_prD, cl_prD, erL_dI, er_nD, er_pcD, ow_nD, ow_dI, ow_pcD, c2_nD, c2_dI, c2_pcD, cl_nD, cl_pcD, clnL_dI, List.getD_cons_zero, List.getD_cons_succ, List.set_cons_zero, List.set_cons_succ, List.map_cons, List.map_nil, List.length_cons, List.length_nil, List.length_map, List.replicate, List.append_nil, List.cons_append, List.nil_append, Option.bind_some, Option.map_some, Option.bind_none, Option.map_none, if_true, if_false, Bool.and_true, Bool.true_and, Bool.false_eq_true, reduceIte, reduceCtorEq, decide_true, decide_false, Nat.reduceAdd, Nat.reduceLT, Nat.reduceSub, Nat.reduceLeDiff] at er
              simp (disch := omega) only [sSeq, sIf, sRet, sAsg, sDrop, sPass, sFor, sForS, sFz, sMut, sMut0, sDPutF, sRaise, fHold, fMove, fFree, fVar, fC, f1, f2, fL, fCons, fNil, oCons, oNil, oTup, oLst, fTup, fLst, fT, fAnd, fOr, fNot, fAndV, fOrV, fNotV, fIf, fChain, fIsN, fNotN, DL.isNon, DL.isG, gSet, gsCons, gsNil, gUn, gUnL, gStore, pNil, pIx, opApp, opClear, opIns, gLen, gLt_ii, gLe_ii, gGt_ii, gGe_ii, gSub_ii, gAdd_ii, gMul_sm, gMod_pos, gDiv_pos, gPow_sm, gEq_ii, gNe_ii, gNeg, sizeLine_eq, gMax2, gMin2, gList, gTuple, gIx, Kd.seq, D.ow, Kd.ow, D.get, D.put, Kd.at, itemsOf, fItems, fRng1, fRng3, fEnum, fCall, oCall, takeAll, pinIx, D.erL, D.er, Kd.er, D.clnL, D.cln, Kd.cln, cl2_v, cl2_lst, cl2_tup, D.cl2L, fD0, gTupD, anyOw_nil, anyOw_cons, Bool.or_false, Bool.false_or, dI_eq, nD_eq, pcD_eq, prD_eq, er_prD, ow_prD, c2_prD, cl_prD, erL_dI, er_nD, er_pcD, ow_nD, ow_dI, ow_pcD, c2_nD, c2_dI, c2_pcD, cl_nD, cl_pcD, clnL_dI, List.getD_cons_zero, List.getD_cons_succ, List.set_cons_zero, List.set_cons_succ, List.map_cons, List.map_nil, List.length_cons, List.length_nil, List.length_map, List.replicate, List.append_nil, List.cons_append, List.nil_append, Option.bind_some, Option.map_some, Option.bind_none, Option.map_none, if_true, if_false, Bool.and_true, Bool.true_and, Bool.false_eq_true, reduceIte, reduceCtorEq, decide_true, decide_false, Nat.reduceAdd, Nat.reduceLT, Nat.reduceSub, Nat.reduceLeDiff, ha, hb, er, hz]
              exact ⟨_, rfl, fin fs _ _ (by omega) (by rw [hfl]; exact hfc)⟩
          · simp (disch := omega) only [sSeq, sIf, sRet, sAsg, sDrop, sPass, sFor, sForS, sFz, sMut, sMut0, sDPutF, sRaise, fHold, fMove, fFree, fVar, fC, f1, f2, fL, fCons, fNil, oCons, oNil, oTup, oLst, fTup, fLst, fT, fAnd, fOr, fNot, fAndV, fOrV, fNotV, fIf, fChain, fIsN, fNotN, DL.isNon, DL.isG, gSet, gsCons, gsNil, gUn, gUnL, gStore, pNil, pIx, opApp, opClear, opIns, gLen, gLt_ii, gLe_ii, gGt_ii, gGe_ii, gSub_ii, gAdd_ii, gMul_sm, gMod_pos, gDiv_pos, gPow_sm, gEq_ii, gNe_ii, gNeg, sizeLine_eq, gMax2, gMin2, gList, gTuple, gIx, Kd.seq, D.ow, Kd.ow, D.get, D.put, Kd.at, itemsOf, fItems, fRng1, fRng3, fEnum, fCall, oCall, takeAll, pinIx, D.erL, D.er, Kd.er, D.clnL, D.cln, Kd.cln, cl2_v, cl2_lst, cl2_tup, D.cl2L, fD0, gTupD, anyOw_nil, anyOw_cons, Bool.or_false, Bool.false_or, dI_eq, nD_eq, pcD_eq, prD_eq, er_prD, ow_prD, c2_prD, cl_prD, erL_dI, er_nD, er_pcD, ow_nD, ow_dI, ow_pcD, c2_nD, c2_dI, c2_pcD, cl_nD, cl_pcD, clnL_dI, List.getD_cons_zero, List.getD_cons_succ, List.set_cons_zero, List.set_cons_succ, List.map_cons, List.map_nil, List.length_cons, List.length_nil, List.length_map, List.replicate, List.append_nil, List.cons_append, List.nil_append, Option.bind_some, Option.map_some, Option.bind_none, Option.map_none, if_true, if_false, Bool.and_true, Bool.true_and, Bool.false_eq_true, reduceIte, reduceCtorEq, decide_true, decide_false, Nat.reduceAdd, Nat.reduceLT, Nat.reduceSub, Nat.reduceLeDiff, ha, hb, hz]
            exact ⟨_, rfl, finE _ _⟩
        · simp (disch := omega) only [sSeq, sIf, sRet, sAsg, sDrop, sPass, sFor, sForS, sFz, sMut, sMut0, sDPutF, sRaise, fHold, fMove, fFree, fVar, fC, f1, f2, fL, fCons, fNil, oCons, oNil, oTup, oLst, fTup, fLst, fT, fAnd, fOr, fNot, fAndV, fOrV, fNotV, fIf, fChain, fIsN, fNotN, DL.isNon, DL.isG, gSet, gsCons, gsNil, gUn, gUnL, gStore, pNil, pIx, opApp, opClear, opIns, gLen, gLt_ii, gLe_ii, gGt_ii, gGe_ii, gSub_ii, gAdd_ii, gMul_sm, gMod_pos, gDiv_pos, gPow_sm, gEq_ii, gNe_ii, gNeg, sizeLine_eq, gMax2, gMin2, gList, gTuple, gIx, Kd.seq, D.ow, Kd.ow, D.get, D.put, Kd.at, itemsOf, fItems, fRng1, fRng3, fEnum, fCall, oCall, takeAll, pinIx, D.erL, D.er, Kd.er, D.clnL, D.cln, Kd.cln, cl2_v, cl2_lst, cl2_tup, D.cl2L, fD0, gTupD, anyOw_nil, anyOw_cons, Bool.or_false, Bool.false_or, dI_eq, nD_eq, pcD_eq, prD_eq, er_prD, ow_prD, c2_prD, cl_prD, erL_dI, er_nD, er_pcD, ow_nD, ow_dI, ow_pcD, c2_nD, c2_dI, c2_pcD, cl_nD, cl_pcD, clnL_dI, List.getD_cons_zero, List.getD_cons_succ, List.set_cons_zero, List.set_cons_succ, List.map_cons, List.map_nil, List.length_cons, List.length_nil, List.length_map, List.replicate, List.append_nil, List.cons_append, List.nil_append, Option.bind_some, Option.map_some, Option.bind_none, Option.map_none, if_true, if_false, Bool.and_true, Bool.true_and, Bool.false_eq_true, reduceIte, reduceCtorEq, decide_true, decide_false, Nat.reduceAdd, Nat.reduceLT, Nat.reduceSub, Nat.reduceLeDiff, ha, hz]
          exact ⟨_, rfl, finE _ _⟩
      · simp (disch := omega) only [sSeq, sIf, sRet, sAsg, sDrop, sPass, sFor, sForS, sFz, sMut, sMut0, sDPutF, sRaise, fHold, fMove, fFree, fVar, fC, f1, f2, fL, fCons, fNil, oCons, oNil, oTup, oLst, fTup, fLst, fT, fAnd, fOr, fNot, fAndV, fOrV, fNotV, fIf, fChain, fIsN, fNotN, DL.isNon, DL.isG, gSet, gsCons, gsNil, gUn, gUnL, gStore, pNil, pIx, opApp, opClear, opIns, gLen, gLt_ii, gLe_ii, gGt_ii, gGe_ii, gSub_ii, gAdd_ii, gMul_sm, gMod_pos, gDiv_pos, gPow_sm, gEq_ii, gNe_ii, gNeg, sizeLine_eq, gMax2, gMin2, gList, gTuple, gIx, Kd.seq, D.ow, Kd.ow, D.get, D.put, Kd.at, itemsOf, fItems, fRng1, fRng3, fEnum, fCall, oCall, takeAll, pinIx, D.erL, D.er, Kd.er, D.clnL, D.cln, Kd.cln, cl2_v, cl2_lst, cl2_tup, D.cl2L, fD0, gTupD, anyOw_nil, anyOw_cons, Bool.or_false, Bool.false_or, dI_eq, nD_eq, pcD_eq, prD_eq, er_prD, ow_prD, c2_prD, cl_prD, erL_dI, er_nD, er_pcD, ow_nD, ow_dI, ow_pcD, c2_nD, c2_dI, c2_pcD, cl_nD, cl_pcD, clnL_dI, List.getD_cons_zero, List.getD_cons_succ, List.set_cons_zero, List.set_cons_succ, List.map_cons, List.map_nil, List.length_cons, List.length_nil, List.length_map, List.replicate, List.append_nil, List.cons_append, List.nil_append, Option.bind_some, Option.map_some, Option.bind_none, Option.map_none, if_true, if_false, Bool.and_true, Bool.true_and, Bool.false_eq_true, reduceIte, reduceCtorEq, decide_true, decide_false, Nat.reduceAdd, Nat.reduceLT, Nat.reduceSub, Nat.reduceLeDiff] at er
        simp (disch := omega) only [sSeq, sIf, sRet, sAsg, sDrop, sPass, sFor, sForS, sFz, sMut, sMut0, sDPutF, sRaise, fHold, fMove, fFree, fVar, fC, f1, f2, fL, fCons, fNil, oCons, oNil, oTup, oLst, fTup, fLst, fT, fAnd, fOr, fNot, fAndV, fOrV, fNotV, fIf, fChain, fIsN, fNotN, DL.isNon, DL.isG, gSet, gsCons, gsNil, gUn, gUnL, gStore, pNil, pIx, opApp, opClear, opIns, gLen, gLt_ii, gLe_ii, gGt_ii, gGe_ii, gSub_ii, gAdd_ii, gMul_sm, gMod_pos, gDiv_pos, gPow_sm, gEq_ii, gNe_ii, gNeg, sizeLine_eq, gMax2, gMin2, gList, gTuple, gIx, Kd.seq, D.ow, Kd.ow, D.get, D.put, Kd.at, itemsOf, fItems, fRng1, fRng3, fEnum, fCall, oCall, takeAll, pinIx, D.erL, D.er, Kd.er, D.clnL, D.cln, Kd.cln, cl2_v, cl2_lst, cl2_tup, D.cl2L, fD0, gTupD, anyOw_nil, anyOw_cons, Bool.or_false, Bool.false_or, dI_eq, nD_eq, pcD_eq, prD_eq, er_prD, ow_prD, c2_prD, cl_prD, erL_dI, er_nD, er_pcD, ow_nD, ow_dI, ow_pcD, c2_nD, c2_dI, c2_pcD, cl_nD, cl_pcD, clnL_dI, List.getD_cons_zero, List.getD_cons_succ, List.set_cons_zero, List.set_cons_succ, List.map_cons, List.map_nil, List.length_cons, List.length_nil, List.length_map, List.replicate, List.append_nil, List.cons_append, List.nil_append, Option.bind_some, Option.map_some, Option.bind_none, Option.map_none, if_true, if_false, Bool.and_true, Bool.true_and, Bool.false_eq_true, reduceIte, reduceCtorEq, decide_true, decide_false, Nat.reduceAdd, Nat.reduceLT, Nat.reduceSub, Nat.reduceLeDiff, hpos, er, hz]
        exact ⟨_, rfl, fin fs _ _ (by omega) (by rw [hfl]; exact hfc)⟩
  · rintro ρ' ⟨sh, x5, x6, x7, rfl, hl, hs⟩
    exact ⟨sh, x5, x6, x7, rfl, by rw [hl, List.length_map, hxl], hs⟩
theorem m_shape (ns : List Int) (k many : Int) (hk : 0 ≤ k) (hk2 : k ≤ 1000) (hm : 0 ≤ many) (hm2 : many ≤ 1000) :
    ∃ sh : List (List Nat), p__law_shape [.n .scr (ns.map dI), .v (.int k), .v (.int many), .v (.int 3)] = some (.ret (.n (.lst true) (sh.map pcD)) []) ∧ sh.length = many.toNat ∧ Sh sh := by
  unfold p__law_shape fnG b__law_shape
  simp (disch := omega) only [sSeq, sIf, sRet, sAsg, sDrop, sPass, sFor, sForS, sFz, sMut, sMut0, sDPutF, sRaise, fHold, fMove, fFree, fVar, fC, f1, f2, fL, fCons, fNil, oCons, oNil, oTup, oLst, fTup, fLst, fT, fAnd, fOr, fNot, fAndV, fOrV, fNotV, fIf, fChain, fIsN, fNotN, DL.isNon, DL.isG, gSet, gsCons, gsNil, gUn, gUnL, gStore, pNil, pIx, opApp, opClear, opIns, gLen, gLt_ii, gLe_ii, gGt_ii, gGe_ii, gSub_ii, gAdd_ii, gMul_sm, gMod_pos, gDiv_pos, gPow_sm, gEq_ii, gNe_ii, gNeg, sizeLine_eq, gMax2, gMin2, gList, gTuple, gIx, Kd.seq, D.ow, Kd.ow, D.get, D.put, Kd.at, itemsOf, fItems, fRng1, fRng3, fEnum, fCall, oCall, takeAll, pinIx, D.erL, D.er, Kd.er, D.clnL, D.cln, Kd.cln, cl2_v, cl2_lst, cl2_tup, D.cl2L, fD0, gTupD, anyOw_nil, anyOw_cons, Bool.or_false, Bool.false_or, dI_eq, nD_eq, pcD_eq, prD_eq, er_prD, ow_prD, c2_prD, cl_prD, erL_dI, er_nD, er_pcD, ow_nD, ow_dI, ow_pcD, c2_nD, c2_dI, c2_pcD, cl_nD, cl_pcD, clnL_dI, List.getD_cons_zero, List.getD_cons_succ, List.set_cons_zero, List.set_cons_succ, List.map_cons, List.map_nil, List.length_cons, List.length_nil, List.length_map, List.replicate, List.append_nil, List.cons_append, List.nil_append, Option.bind_some, Option.map_some, Option.bind_none, Option.map_none, if_true, if_false, Bool.and_true, Bool.true_and, Bool.false_eq_true, reduceIte, reduceCtorEq, decide_true, decide_false, Nat.reduceAdd, Nat.reduceLT, Nat.reduceSub, Nat.reduceLeDiff]
  obtain ⟨ρ', e, sh, x5, x6, x7, rfl, hl, hs⟩ := m_shape_0 ns k many hk hk2 hm hm2
  rw [e]
  refine ⟨sh, ?_, hl, hs⟩
  simp only [sSeq, sIf, sRet, sAsg, sDrop, sPass, sFor, sForS, sFz, sMut, sMut0, sDPutF, sRaise, fHold, fMove, fFree, fVar, fC, f1, f2, fL, fCons, fNil, oCons, oNil, oTup, oLst, fTup, fLst, fT, fAnd, fOr, fNot, fAndV, fOrV, fNotV, fIf, fChain, fIsN, fNotN, DL.isNon, DL.isG, gSet, gsCons, gsNil, gUn, gUnL, gStore, pNil, pIx, opApp, opClear, opIns, gLen, gLt_ii, gLe_ii, gGt_ii, gGe_ii, gSub_ii, gAdd_ii, gMul_sm, gMod_pos, gDiv_pos, gPow_sm, gEq_ii, gNe_ii, gNeg, sizeLine_eq, gMax2, gMin2, gList, gTuple, gIx, Kd.seq, D.ow, Kd.ow, D.get, D.put, Kd.at, itemsOf, fItems, fRng1, fRng3, fEnum, fCall, oCall, takeAll, pinIx, D.erL, D.er, Kd.er, D.clnL, D.cln, Kd.cln, cl2_v, cl2_lst, cl2_tup, D.cl2L, fD0, gTupD, anyOw_nil, anyOw_cons, Bool.or_false, Bool.false_or, dI_eq, nD_eq, pcD_eq, prD_eq, er_prD, ow_prD, c2_prD, cl_prD, erL_dI, er_nD, er_pcD, ow_nD, ow_dI, ow_pcD, c2_nD, c2_dI, c2_pcD, cl_nD, cl_pcD, clnL_dI, List.getD_cons_zero, List.getD_cons_succ, List.set_cons_zero, List.set_cons_succ, List.map_cons, List.map_nil, List.length_cons, List.length_nil, List.length_map, List.replicate, List.append_nil, List.cons_append, List.nil_append, Option.bind_some, Option.map_some, Option.bind_none, Option.map_none, if_true, if_false, Bool.and_true, Bool.true_and, Bool.false_eq_true, reduceIte, reduceCtorEq, decide_true, decide_false, Nat.reduceAdd, Nat.reduceLT, Nat.reduceSub, Nat.reduceLeDiff]
end A95

set_option Elab.async false
set_option linter.all false
set_option maxRecDepth 100000
set_option maxHeartbeats 4000000
namespace A95
open DL PySem L2
open PyProof.Rows hiding St
theorem m_pairs_0 (S : D) (sh : List (List Nat)) (x2 x3 x4 x5 x8 x9 : Option D) (one : Nat) (p1 : List Nat) (h1 : sh[one]? = some p1) (hs : sh.length ≤ 1000) :
    ∃ ρ', l__law_pairs_0 [some S, some (.n (.lst false) (sh.map pcD)), x2, x3, x4, x5, some (.v (.int one)), some (.n (.lst true) []), x8, x9] = some (.nx ρ') ∧
      ∃ (al : List Nat) (x8 x9 : Option D), ρ' = [some S, some (.n (.lst false) (sh.map pcD)), x2, x3, x4, x5, some (.v (.int one)), some (.n (.lst true) (al.map nD)), x8, x9] ∧ 0 < al.length ∧ al.length ≤ sh.length ∧ ∀ b ∈ al, ∃ p, sh[b]? = some p ∧ p.length = p1.length := by
  unfold l__law_pairs_0
  simp (disch := omega) only [sSeq, sIf, sRet, sAsg, sDrop, sPass, sFor, sForS, sFz, sMut, sMut0, sDPutF, sRaise, fHold, fMove, fFree, fVar, fC, f1, f2, fL, fCons, fNil, oCons, oNil, oTup, oLst, fTup, fLst, fT, fAnd, fOr, fNot, fAndV, fOrV, fNotV, fIf, fChain, fIsN, fNotN, DL.isNon, DL.isG, gSet, gsCons, gsNil, gUn, gUnL, gStore, pNil, pIx, opApp, opClear, opIns, gLen, gLt_ii, gLe_ii, gGt_ii, gGe_ii, gSub_ii, gAdd_ii, gMul_sm, gMod_pos, gDiv_pos, gPow_sm, gEq_ii, gNe_ii, gNeg, sizeLine_eq, gMax2, gMin2, gList, gTuple, gIx, Kd.seq, D.ow, Kd.ow, D.get, D.put, Kd.at, itemsOf, fItems, fRng1, fRng3, fEnum, fCall, oCall, takeAll, pinIx, D.erL, D.er, Kd.er, D.clnL, D.cln, Kd.cln, cl2_v, cl2_lst, cl2_tup, D.cl2L, fD0, gTupD, anyOw_nil, anyOw_cons, Bool.or_false, Bool.false_or, dI_eq, nD_eq, pcD_eq, prD_eq, er_prD, ow_prD, c2_prD, cl_prD, erL_dI, er_nD, er_pcD, ow_nD, ow_dI, ow_pcD, c2_nD, c2_dI, c2_pcD, cl_nD, cl_pcD, clnL_dI, List.getD_cons_zero, List.getD_cons_succ, List.set_cons_zero, List.set_cons_succ, List.map_cons, List.map_nil, List.length_cons, List.length_nil, List.length_map, List.replicate, List.append_nil, List.cons_append, List.nil_append, Option.bind_some, Option.map_some, Option.bind_none, Option.map_none, if_true, if_false, Bool.and_true, Bool.true_and, Bool.false_eq_true, reduceIte, reduceCtorEq, decide_true, decide_false, Nat.reduceAdd, Nat.reduceLT, Nat.reduceSub, Nat.reduceLeDiff, lstItems]
  refine for_to (fun dn ρ => ∃ (al : List Nat) (x8 x9 : Option D), ρ = [some S, some (.n (.lst false) (sh.map pcD)), x2, x3, x4, x5, some (.v (.int one)), some (.n (.lst true) (al.map nD)), x8, x9] ∧ (one < dn.length → 0 < al.length) ∧ al.length ≤ dn.length ∧ ∀ b ∈ al, ∃ p, sh[b]? = some p ∧ p.length = p1.length) ?_
    ⟨[], x8, x9, rfl, (fun h => by simp at h), Nat.le_refl _, (fun b m => nomatch m)⟩ ?_
  · rintro dn d rest ρ hsp ⟨al, x8, x9, rfl, ha, hl, hc⟩
    obtain ⟨x, hx, rfl⟩ := enum_split hsp
    rw [List.getElem?_map] at hx
    cases hf : sh[dn.length]? with
    | none => rw [hf] at hx; cases hx
    | some p =>
      rw [hf] at hx
      cases hx
      have hdn : dn.length < sh.length := (List.getElem?_eq_some_iff.mp hf).1
      have hz : al.length < 16777216 := by omega
      have e1 : atI (sh.map pcD) (one : Int) = some (pcD p1) := at_map (by omega) h1
      refine turn rfl ?_
      by_cases hq : (p.length : Int) = (p1.length : Int)
      · simp (disch := omega) only [sSeq, sIf, sRet, sAsg, sDrop, sPass, sFor, sForS, sFz, sMut, sMut0, sDPutF, sRaise, fHold, fMove, fFree, fVar, fC, f1, f2, fL, fCons, fNil, oCons, oNil, oTup, oLst, fTup, fLst, fT, fAnd, fOr, fNot, fAndV, fOrV, fNotV, fIf, fChain, fIsN, fNotN, DL.isNon, DL.isG, gSet, gsCons, gsNil, gUn, gUnL, gStore, pNil, pIx, opApp, opClear, opIns, gLen, gLt_ii, gLe_ii, gGt_ii, gGe_ii, gSub_ii, gAdd_ii, gMul_sm, gMod_pos, gDiv_pos, gPow_sm, gEq_ii, gNe_ii, gNeg, sizeLine_eq, gMax2, gMin2, gList, gTuple, gIx, Kd.seq, D.ow, Kd.ow, D.get, D.put, Kd.at, itemsOf, fItems, fRng1, fRng3, fEnum, fCall, oCall, takeAll, pinIx, D.erL, D.er, Kd.er, D.clnL, D.cln, Kd.cln, cl2_v, cl2_lst, cl2_tup, D.cl2L, fD0, gTupD, anyOw_nil, anyOw_cons, Bool.or_false, Bool.false_or, dI_eq, nD_eq, pcD_eq, prD_eq, er_prD, ow_prD, c2_prD, cl_prD, erL_dI, er_nD, er_pcD, ow_nD, ow_dI, ow_pcD, c2_nD, c2_dI, c2_pcD, cl_nD, cl_pcD, clnL_dI, List.getD_cons_zero, List.getD_cons_succ, List.set_cons_zero, List.set_cons_succ, List.map_cons, List.map_nil, List.length_cons, List.length_nil, List.length_map, List.replicate, List.append_nil, List.cons_append, List.nil_append, Option.bind_some, Option.map_some, Option.bind_none, Option.map_none, if_true, if_false, Bool.and_true, Bool.true_and, Bool.false_eq_true, reduceIte, reduceCtorEq, decide_true, decide_false, Nat.reduceAdd, Nat.reduceLT, Nat.reduceSub, Nat.reduceLeDiff, e1, hq, hz]
        refine ⟨_, rfl, al ++ [dn.length], some (.v (.int (dn.length : Nat))), some (.n (.tup false) (p.map nD)), by simp [nD], fun _ => by simp, by simp; omega, fun b m => ?_⟩
        rcases List.mem_append.mp m with m | m
        · exact hc b m
        · rw [List.mem_singleton.mp m]
          exact ⟨p, hf, by omega⟩
      · simp (disch := omega) only [sSeq, sIf, sRet, sAsg, sDrop, sPass, sFor, sForS, sFz, sMut, sMut0, sDPutF, sRaise, fHold, fMove, fFree, fVar, fC, f1, f2, fL, fCons, fNil, oCons, oNil, oTup, oLst, fTup, fLst, fT, fAnd, fOr, fNot, fAndV, fOrV, fNotV, fIf, fChain, fIsN, fNotN, DL.isNon, DL.isG, gSet, gsCons, gsNil, gUn, gUnL, gStore, pNil, pIx, opApp, opClear, opIns, gLen, gLt_ii, gLe_ii, gGt_ii, gGe_ii, gSub_ii, gAdd_ii, gMul_sm, gMod_pos, gDiv_pos, gPow_sm, gEq_ii, gNe_ii, gNeg, sizeLine_eq, gMax2, gMin2, gList, gTuple, gIx, Kd.seq, D.ow, Kd.ow, D.get, D.put, Kd.at, itemsOf, fItems, fRng1, fRng3, fEnum, fCall, oCall, takeAll, pinIx, D.erL, D.er, Kd.er, D.clnL, D.cln, Kd.cln, cl2_v, cl2_lst, cl2_tup, D.cl2L, fD0, gTupD, anyOw_nil, anyOw_cons, Bool.or_false, Bool.false_or, dI_eq, nD_eq, pcD_eq, prD_eq, er_prD, ow_prD, c2_prD, cl_prD, erL_dI, er_nD, er_pcD, ow_nD, ow_dI, ow_pcD, c2_nD, c2_dI, c2_pcD, cl_nD, cl_pcD, clnL_dI, List.getD_cons_zero, List.getD_cons_succ, List.set_cons_zero, List.set_cons_succ, List.map_cons, List.map_nil, List.length_cons, List.length_nil, List.length_map, List.replicate, List.append_nil, List.cons_append, List.nil_append, Option.bind_some, Option.map_some, Option.bind_none, Option.map_none, if_true, if_false, Bool.and_true, Bool.true_and, Bool.false_eq_true, reduceIte, reduceCtorEq, decide_true, decide_false, Nat.reduceAdd, Nat.reduceLT, Nat.reduceSub, Nat.reduceLeDiff, e1, hq, hz]
        refine ⟨_, rfl, al, _, _, rfl, fun h => ?_, by simp; omega, hc⟩
        refine ha ?_
        have : one ≠ dn.length := fun e => by
          rw [e, hf] at h1
          cases h1
          exact hq rfl
        simp at h
        omega
  · rintro ρ' ⟨al, x8, x9, rfl, ha, hl, hc⟩
    rw [enum_len, List.length_map] at ha hl
    exact ⟨al, x8, x9, rfl, ha (List.getElem?_eq_some_iff.mp h1).1, hl, hc⟩
/-- pairs of pieces of the same length -/
def Prs (sh : List (List Nat)) (ps : List (Nat × Nat)) : Prop := ∀ p ∈ ps, ∃ a b, sh[p.1]? = some a ∧ sh[p.2]? = some b ∧ b.length = a.length
theorem m_pairs_1 (ns : List Int) (sh : List (List Nat)) (many : Int) (pts : Bool) (hm : 0 ≤ many) (hm2 : many ≤ 1000) (hs : sh.length ≤ 1000) (hs0 : 0 < sh.length) :
    ∃ ρ', l__law_pairs_1 [some (.n .scr (ns.map dI)), some (.n (.lst false) (sh.map pcD)), some (.v (.int many)), some (.v (.bl pts)), some (.n (.lst true) []), none, none, none, none, none] = some (.nx ρ') ∧
      ∃ (ps : List (Nat × Nat)) (x5 x6 x7 x8 x9 : Option D), ρ' = [some (.n .scr (ns.map dI)), some (.n (.lst false) (sh.map pcD)), some (.v (.int many)), some (.v (.bl pts)), some (.n (.lst true) (ps.map prD)), x5, x6, x7, x8, x9] ∧ ps.length = many.toNat ∧ Prs sh ps := by
  unfold l__law_pairs_1
  obtain ⟨xs, e, hxl, hx⟩ := m_row ns 3 many 999983 (by omega) (by omega) hm hm2 (by omega) (by omega)
  simp (disch := omega) only [sSeq, sIf, sRet, sAsg, sDrop, sPass, sFor, sForS, sFz, sMut, sMut0, sDPutF, sRaise, fHold, fMove, fFree, fVar, fC, f1, f2, fL, fCons, fNil, oCons, oNil, oTup, oLst, fTup, fLst, fT, fAnd, fOr, fNot, fAndV, fOrV, fNotV, fIf, fChain, fIsN, fNotN, DL.isNon, DL.isG, gSet, gsCons, gsNil, gUn, gUnL, gStore, pNil, pIx, opApp, opClear, opIns, gLen, gLt_ii, gLe_ii, gGt_ii, gGe_ii, gSub_ii, gAdd_ii, gMul_sm, gMod_pos, gDiv_pos, gPow_sm, gEq_ii, gNe_ii, gNeg, sizeLine_eq, gMax2, gMin2, gList, gTuple, gIx, Kd.seq, D.ow, Kd.ow, D.get, D.put, Kd.at, itemsOf, fItems, fRng1, fRng3, fEnum, fCall, oCall, takeAll, pinIx, D.erL, D.er, Kd.er, D.clnL, D.cln, Kd.cln, cl2_v, cl2_lst, cl2_tup, D.cl2L, fD0, gTupD, anyOw_nil, anyOw_cons, Bool.or_false, Bool.false_or, dI_eq, nD_eq, pcD_eq, prD_eq, er_prD, ow_prD, c2_prD, cl_prD, erL_dI, er_nD, er_pcD, ow_nD, ow_dI, ow_pcD, c2_nD, c2_dI, c2_pcD, cl_nD, cl_pcD, clnL_dI, List.getD_cons_zero, List.getD_cons_succ, List.set_cons_zero, List.set_cons_succ, List.map_cons, List.map_nil, List.length_cons, List.length_nil, List.length_map, List.replicate, List.append_nil, List.cons_append, List.nil_append, Option.bind_some, Option.map_some, Option.bind_none, Option.map_none, if_true, if_false, Bool.and_true, Bool.true_and, Bool.false_eq_true, reduceIte, reduceCtorEq, decide_true, decide_false, Nat.reduceAdd, Nat.reduceLT, Nat.reduceSub, Nat.reduceLeDiff, e]
  refine for_to (fun dn ρ => ∃ (ps : List (Nat × Nat)) (x5 x6 x7 x8 x9 : Option D), ρ = [some (.n .scr (ns.map dI)), some (.n (.lst false) (sh.map pcD)), some (.v (.int many)), some (.v (.bl pts)), some (.n (.lst true) (ps.map prD)), x5, x6, x7, x8, x9] ∧ ps.length = dn.length ∧ Prs sh ps) ?_
    ⟨[], none, none, none, none, none, rfl, rfl, (fun p m => nomatch m)⟩ ?_
  · rintro dn d rest ρ hsp ⟨ps, x5, x6, x7, x8, x9, rfl, hl, hp⟩
    obtain ⟨x, hx2, hdn, rfl⟩ : ∃ x, x ∈ xs ∧ dn.length < xs.length ∧ d = .v (.int x) := by
      have hd : d ∈ xs.map dI := by rw [hsp]; simp
      obtain ⟨x, hx, rfl⟩ := List.mem_map.mp hd
      have := congrArg List.length hsp
      simp at this
      exact ⟨x, hx, by omega, rfl⟩
    obtain ⟨h0, _⟩ := hx x hx2
    have hz : ps.length < 16777216 := by omega
    refine turn rfl ?_
    obtain ⟨one, hone, e1⟩ : ∃ one : Nat, one < sh.length ∧ x % (sh.length : Int) = one := ⟨(x % (sh.length : Int)).toNat, by
      have a := Int.emod_nonneg x (show (sh.length : Int) ≠ 0 by omega)
      have b := Int.emod_lt_of_pos x (show (0 : Int) < sh.length by omega)
      omega, by
      have a := Int.emod_nonneg x (show (sh.length : Int) ≠ 0 by omega)
      omega⟩
    have ea : atI (sh.map pcD) (one : Int) = some (pcD sh[one]) := at_map (by omega) (List.getElem?_eq_getElem hone)
    cases hpe : (sh[one]).isEmpty with
    | true =>
      cases pts with
      | false =>
        obtain ⟨ρ3, e3, al, z8, z9, rfl, hal, hal2, hc⟩ := m_pairs_0 (.n .scr (ns.map dI)) sh (some (.v (.int many))) (some (.v (.bl false))) (some (.n (.lst true) (ps.map prD))) (some (.v (.int x))) x8 x9 one _ (List.getElem?_eq_getElem hone) hs
        have hk : (x / 64 % (al.length : Int)).toNat < al.length := by
          have a := Int.emod_nonneg (x / 64) (show (al.length : Int) ≠ 0 by omega)
          have b := Int.emod_lt_of_pos (x / 64) (show (0 : Int) < al.length by omega)
          omega
        have eb : atI (al.map nD) (x / 64 % (al.length : Int)) = some (nD al[(x / 64 % (al.length : Int)).toNat]) := at_map (Int.emod_nonneg _ (by omega)) (List.getElem?_eq_getElem hk)
        skip
        simp (disch := omega) only [sSeq, sIf, sRet, sAsg, sDrop, sPass, sFor, sForS, sFz, sMut, sMut0, sDPutF, sRaise, fHold, fMove, fFree, fVar, fC, f1, f2, fL, fCons, fNil, oCons, oNil, oTup, oLst, fTup, fLst, fT, fAnd, fOr, fNot, fAndV, fOrV, fNotV, fIf, fChain, fIsN, fNotN, DL.isNon, DL.isG, gSet, gsCons, gsNil, gUn, gUnL, gStore, pNil, pIx, opApp, opClear, opIns, gLen, gLt_ii, gLe_ii, gGt_ii, gGe_ii, gSub_ii, gAdd_ii, gMul_sm, gMod_pos, gDiv_pos, gPow_sm, gEq_ii, gNe_ii, gNeg, sizeLine_eq, gMax2, gMin2, gList, gTuple, gIx, Kd.seq, D.ow, Kd.ow, D.get, D.put, Kd.at, itemsOf, fItems, fRng1, fRng3, fEnum, fCall, oCall, takeAll, pinIx, D.erL, D.er, Kd.er, D.clnL, D.cln, Kd.cln, cl2_v, cl2_lst, cl2_tup, D.cl2L, fD0, gTupD, anyOw_nil, anyOw_cons, Bool.or_false, Bool.false_or, dI_eq, nD_eq, pcD_eq, prD_eq, er_prD, ow_prD, c2_prD, cl_prD, erL_dI, er_nD, er_pcD, ow_nD, ow_dI, ow_pcD, c2_nD, c2_dI, c2_pcD, cl_nD, cl_pcD, clnL_dI, List.getD_cons_zero, List.getD_cons_succ, List.set_cons_zero, List.set_cons_succ, List.map_cons, List.map_nil, List.length_cons, List.length_nil, List.length_map, List.replicate, List.append_nil, List.cons_append, List.nil_append, Option.bind_some, Option.map_some, Option.bind_none, Option.map_none, if_true, if_false, Bool.and_true, Bool.true_and, Bool.false_eq_true, reduceIte, reduceCtorEq, decide_true, decide_false, Nat.reduceAdd, Nat.reduceLT, Nat.reduceSub, Nat.reduceLeDiff, e1, ea, gNe_pc_nil, hpe, Bool.not_true, Bool.not_false, e3, eb, hz]
        refine ⟨_, rfl, ps ++ [(one, al[(x / 64 % (al.length : Int)).toNat])], _, _, _, _, _, (by rw [List.map_append] <;> rfl), by simp [hl], fun p m => ?_⟩
        rcases List.mem_append.mp m with m | m
        · exact hp p m
        · rw [List.mem_singleton.mp m]
          obtain ⟨q, h1, h2⟩ := hc _ (List.getElem_mem hk)
          exact ⟨_, q, List.getElem?_eq_getElem hone, h1, h2⟩
      | true =>
        obtain ⟨ρ3, e3, al, z8, z9, rfl, hal, hal2, hc⟩ := m_pairs_0 (.n .scr (ns.map dI)) sh (some (.v (.int many))) (some (.v (.bl true))) (some (.n (.lst true) (ps.map prD))) (some (.v (.int x))) x8 x9 one _ (List.getElem?_eq_getElem hone) hs
        have hk : (x / 64 % (al.length : Int)).toNat < al.length := by
          have a := Int.emod_nonneg (x / 64) (show (al.length : Int) ≠ 0 by omega)
          have b := Int.emod_lt_of_pos (x / 64) (show (0 : Int) < al.length by omega)
          omega
        have eb : atI (al.map nD) (x / 64 % (al.length : Int)) = some (nD al[(x / 64 % (al.length : Int)).toNat]) := at_map (Int.emod_nonneg _ (by omega)) (List.getElem?_eq_getElem hk)
        skip
        simp (disch := omega) only [sSeq, sIf, sRet, sAsg, sDrop, sPass, sFor, sForS, sFz, sMut, sMut0, sDPutF, sRaise, fHold, fMove, fFree, fVar, fC, f1, f2, fL, fCons, fNil, oCons, oNil, oTup, oLst, fTup, fLst, fT, fAnd, fOr, fNot, fAndV, fOrV, fNotV, fIf, fChain, fIsN, fNotN, DL.isNon, DL.isG, gSet, gsCons, gsNil, gUn, gUnL, gStore, pNil, pIx, opApp, opClear, opIns, gLen, gLt_ii, gLe_ii, gGt_ii, gGe_ii, gSub_ii, gAdd_ii, gMul_sm, gMod_pos, gDiv_pos, gPow_sm, gEq_ii, gNe_ii, gNeg, sizeLine_eq, gMax2, gMin2, gList, gTuple, gIx, Kd.seq, D.ow, Kd.ow, D.get, D.put, Kd.at, itemsOf, fItems, fRng1, fRng3, fEnum, fCall, oCall, takeAll, pinIx, D.erL, D.er, Kd.er, D.clnL, D.cln, Kd.cln, cl2_v, cl2_lst, cl2_tup, D.cl2L, fD0, gTupD, anyOw_nil, anyOw_cons, Bool.or_false, Bool.false_or, dI_eq, nD_eq, pcD_eq, prD_eq, er_prD, ow_prD, c2_prD, cl_prD, erL_dI, er_nD, er_pcD, ow_nD, ow_dI, ow_pcD, c2_nD, c2_dI, c2_pcD, cl_nD, cl_pcD, clnL_dI, List.getD_cons_zero, List.getD_cons_succ, List.set_cons_zero, List.set_cons_succ, List.map_cons, List.map_nil, List.length_cons, List.length_nil, List.length_map, List.replicate, List.append_nil, List.cons_append, List.nil_append, Option.bind_some, Option.map_some, Option.bind_none, Option.map_none, if_true, if_false, Bool.and_true, Bool.true_and, Bool.false_eq_true, reduceIte, reduceCtorEq, decide_true, decide_false, Nat.reduceAdd, Nat.reduceLT, Nat.reduceSub, Nat.reduceLeDiff, e1, ea, gNe_pc_nil, hpe, Bool.not_true, Bool.not_false, e3, eb, hz]
        refine ⟨_, rfl, ps ++ [(one, al[(x / 64 % (al.length : Int)).toNat])], _, _, _, _, _, (by rw [List.map_append] <;> rfl), by simp [hl], fun p m => ?_⟩
        rcases List.mem_append.mp m with m | m
        · exact hp p m
        · rw [List.mem_singleton.mp m]
          obtain ⟨q, h1, h2⟩ := hc _ (List.getElem_mem hk)
          exact ⟨_, q, List.getElem?_eq_getElem hone, h1, h2⟩
    | false =>
      cases pts with
      | false =>
        obtain ⟨ρ3, e3, al, z8, z9, rfl, hal, hal2, hc⟩ := m_pairs_0 (.n .scr (ns.map dI)) sh (some (.v (.int many))) (some (.v (.bl false))) (some (.n (.lst true) (ps.map prD))) (some (.v (.int x))) x8 x9 one _ (List.getElem?_eq_getElem hone) hs
        have hk : (x / 64 % (al.length : Int)).toNat < al.length := by
          have a := Int.emod_nonneg (x / 64) (show (al.length : Int) ≠ 0 by omega)
          have b := Int.emod_lt_of_pos (x / 64) (show (0 : Int) < al.length by omega)
          omega
        have eb : atI (al.map nD) (x / 64 % (al.length : Int)) = some (nD al[(x / 64 % (al.length : Int)).toNat]) := at_map (Int.emod_nonneg _ (by omega)) (List.getElem?_eq_getElem hk)
        skip
        simp (disch := omega) only [sSeq, sIf, sRet, sAsg, sDrop, sPass, sFor, sForS, sFz, sMut, sMut0, sDPutF, sRaise, fHold, fMove, fFree, fVar, fC, f1, f2, fL, fCons, fNil, oCons, oNil, oTup, oLst, fTup, fLst, fT, fAnd, fOr, fNot, fAndV, fOrV, fNotV, fIf, fChain, fIsN, fNotN, DL.isNon, DL.isG, gSet, gsCons, gsNil, gUn, gUnL, gStore, pNil, pIx, opApp, opClear, opIns, gLen, gLt_ii, gLe_ii, gGt_ii, gGe_ii, gSub_ii, gAdd_ii, gMul_sm, gMod_pos, gDiv_pos, gPow_sm, gEq_ii, gNe_ii, gNeg, sizeLine_eq, gMax2, gMin2, gList, gTuple, gIx, Kd.seq, D.ow, Kd.ow, D.get, D.put, Kd.at, itemsOf, fItems, fRng1, fRng3, fEnum, fCall, oCall, takeAll, pinIx, D.erL, D.er, Kd.er, D.clnL, D.cln, Kd.cln, cl2_v, cl2_lst, cl2_tup, D.cl2L, fD0, gTupD, anyOw_nil, anyOw_cons, Bool.or_false, Bool.false_or, dI_eq, nD_eq, pcD_eq, prD_eq, er_prD, ow_prD, c2_prD, cl_prD, erL_dI, er_nD, er_pcD, ow_nD, ow_dI, ow_pcD, c2_nD, c2_dI, c2_pcD, cl_nD, cl_pcD, clnL_dI, List.getD_cons_zero, List.getD_cons_succ, List.set_cons_zero, List.set_cons_succ, List.map_cons, List.map_nil, List.length_cons, List.length_nil, List.length_map, List.replicate, List.append_nil, List.cons_append, List.nil_append, Option.bind_some, Option.map_some, Option.bind_none, Option.map_none, if_true, if_false, Bool.and_true, Bool.true_and, Bool.false_eq_true, reduceIte, reduceCtorEq, decide_true, decide_false, Nat.reduceAdd, Nat.reduceLT, Nat.reduceSub, Nat.reduceLeDiff, e1, ea, gNe_pc_nil, hpe, Bool.not_true, Bool.not_false, e3, eb, hz]
        refine ⟨_, rfl, ps ++ [(one, al[(x / 64 % (al.length : Int)).toNat])], _, _, _, _, _, (by rw [List.map_append] <;> rfl), by simp [hl], fun p m => ?_⟩
        rcases List.mem_append.mp m with m | m
        · exact hp p m
        · rw [List.mem_singleton.mp m]
          obtain ⟨q, h1, h2⟩ := hc _ (List.getElem_mem hk)
          exact ⟨_, q, List.getElem?_eq_getElem hone, h1, h2⟩
      | true =>
        obtain ⟨ρ3, e3, al, z8, z9, rfl, hal, hal2, hc⟩ := m_pairs_0 (.n .scr (ns.map dI)) sh (some (.v (.int many))) (some (.v (.bl true))) (some (.n (.lst true) (ps.map prD))) (some (.v (.int x))) x8 x9 0 _ (List.getElem?_eq_getElem hs0) hs
        have hk : (x / 64 % (al.length : Int)).toNat < al.length := by
          have a := Int.emod_nonneg (x / 64) (show (al.length : Int) ≠ 0 by omega)
          have b := Int.emod_lt_of_pos (x / 64) (show (0 : Int) < al.length by omega)
          omega
        have eb : atI (al.map nD) (x / 64 % (al.length : Int)) = some (nD al[(x / 64 % (al.length : Int)).toNat]) := at_map (Int.emod_nonneg _ (by omega)) (List.getElem?_eq_getElem hk)
        rw [show ((0 : Nat) : Int) = 0 from rfl] at e3
        simp (disch := omega) only [sSeq, sIf, sRet, sAsg, sDrop, sPass, sFor, sForS, sFz, sMut, sMut0, sDPutF, sRaise, fHold, fMove, fFree, fVar, fC, f1, f2, fL, fCons, fNil, oCons, oNil, oTup, oLst, fTup, fLst, fT, fAnd, fOr, fNot, fAndV, fOrV, fNotV, fIf, fChain, fIsN, fNotN, DL.isNon, DL.isG, gSet, gsCons, gsNil, gUn, gUnL, gStore, pNil, pIx, opApp, opClear, opIns, gLen, gLt_ii, gLe_ii, gGt_ii, gGe_ii, gSub_ii, gAdd_ii, gMul_sm, gMod_pos, gDiv_pos, gPow_sm, gEq_ii, gNe_ii, gNeg, sizeLine_eq, gMax2, gMin2, gList, gTuple, gIx, Kd.seq, D.ow, Kd.ow, D.get, D.put, Kd.at, itemsOf, fItems, fRng1, fRng3, fEnum, fCall, oCall, takeAll, pinIx, D.erL, D.er, Kd.er, D.clnL, D.cln, Kd.cln, cl2_v, cl2_lst, cl2_tup, D.cl2L, fD0, gTupD, anyOw_nil, anyOw_cons, Bool.or_false, Bool.false_or, dI_eq, nD_eq, pcD_eq, prD_eq, er_prD, ow_prD, c2_prD, cl_prD, erL_dI, er_nD, er_pcD, ow_nD, ow_dI, ow_pcD, c2_nD, c2_dI, c2_pcD, cl_nD, cl_pcD, clnL_dI, List.getD_cons_zero, List.getD_cons_succ, List.set_cons_zero, List.set_cons_succ, List.map_cons, List.map_nil, List.length_cons, List.length_nil, List.length_map, List.replicate, List.append_nil, List.cons_append, List.nil_append, Option.bind_some, Option.map_some, Option.bind_none, Option.map_none, if_true, if_false, Bool.and_true, Bool.true_and, Bool.false_eq_true, reduceIte, reduceCtorEq, decide_true, decide_false, Nat.reduceAdd, Nat.reduceLT, Nat.reduceSub, Nat.reduceLeDiff, e1, ea, gNe_pc_nil, hpe, Bool.not_true, Bool.not_false, e3, eb, hz]
        refine ⟨_, rfl, ps ++ [(0, al[(x / 64 % (al.length : Int)).toNat])], _, _, _, _, _, (by rw [List.map_append] <;> rfl), by simp [hl], fun p m => ?_⟩
        rcases List.mem_append.mp m with m | m
        · exact hp p m
        · rw [List.mem_singleton.mp m]
          obtain ⟨q, h1, h2⟩ := hc _ (List.getElem_mem hk)
          exact ⟨_, q, List.getElem?_eq_getElem hs0, h1, h2⟩
  · rintro ρ' ⟨ps, x5, x6, x7, x8, x9, rfl, hl, hp⟩
    exact ⟨ps, x5, x6, x7, x8, x9, rfl, by rw [hl, List.length_map, hxl], hp⟩
theorem m_pairs (ns : List Int) (sh : List (List Nat)) (many : Int) (pts : Bool) (hm : 0 ≤ many) (hm2 : many ≤ 1000) (hs : sh.length ≤ 1000) (hs0 : 0 < sh.length) :
    ∃ ps : List (Nat × Nat), p__law_pairs [.n .scr (ns.map dI), .n (.lst false) (sh.map pcD), .v (.int many), .v (.bl pts)] = some (.ret (.n (.lst true) (ps.map prD)) []) ∧ ps.length = many.toNat ∧ Prs sh ps := by
  unfold p__law_pairs fnG b__law_pairs
  simp (disch := omega) only [sSeq, sIf, sRet, sAsg, sDrop, sPass, sFor, sForS, sFz, sMut, sMut0, sDPutF, sRaise, fHold, fMove, fFree, fVar, fC, f1, f2, fL, fCons, fNil, oCons, oNil, oTup, oLst, fTup, fLst, fT, fAnd, fOr, fNot, fAndV, fOrV, fNotV, fIf, fChain, fIsN, fNotN, DL.isNon, DL.isG, gSet, gsCons, gsNil, gUn, gUnL, gStore, pNil, pIx, opApp, opClear, opIns, gLen, gLt_ii, gLe_ii, gGt_ii, gGe_ii, gSub_ii, gAdd_ii, gMul_sm, gMod_pos, gDiv_pos, gPow_sm, gEq_ii, gNe_ii, gNeg, sizeLine_eq, gMax2, gMin2, gList, gTuple, gIx, Kd.seq, D.ow, Kd.ow, D.get, D.put, Kd.at, itemsOf, fItems, fRng1, fRng3, fEnum, fCall, oCall, takeAll, pinIx, D.erL, D.er, Kd.er, D.clnL, D.cln, Kd.cln, cl2_v, cl2_lst, cl2_tup, D.cl2L, fD0, gTupD, anyOw_nil, anyOw_cons, Bool.or_false, Bool.false_or, dI_eq, nD_eq, pcD_eq, prD_eq, er_prD, ow_prD, c2_prD, cl_prD, erL_dI, er_nD, er_pcD, ow_nD, ow_dI, ow_pcD, c2_nD, c2_dI, c2_pcD, cl_nD, cl_pcD, clnL_dI, List.getD_cons_zero, List.getD_cons_succ, List.set_cons_zero, List.set_cons_succ, List.map_cons, List.map_nil, List.length_cons, List.length_nil, List.length_map, List.replicate, List.append_nil, List.cons_append, List.nil_append, Option.bind_some, Option.map_some, Option.bind_none, Option.map_none, if_true, if_false, Bool.and_true, Bool.true_and, Bool.false_eq_true, reduceIte, reduceCtorEq, decide_true, decide_false, Nat.reduceAdd, Nat.reduceLT, Nat.reduceSub, Nat.reduceLeDiff]
  obtain ⟨ρ', e, ps, x5, x6, x7, x8, x9, rfl, hl, hp⟩ := m_pairs_1 ns sh many pts hm hm2 hs hs0
  rw [e]
  refine ⟨ps, ?_, hl, hp⟩
  simp only [sSeq, sIf, sRet, sAsg, sDrop, sPass, sFor, sForS, sFz, sMut, sMut0, sDPutF, sRaise, fHold, fMove, fFree, fVar, fC, f1, f2, fL, fCons, fNil, oCons, oNil, oTup, oLst, fTup, fLst, fT, fAnd, fOr, fNot, fAndV, fOrV, fNotV, fIf, fChain, fIsN, fNotN, DL.isNon, DL.isG, gSet, gsCons, gsNil, gUn, gUnL, gStore, pNil, pIx, opApp, opClear, opIns, gLen, gLt_ii, gLe_ii, gGt_ii, gGe_ii, gSub_ii, gAdd_ii, gMul_sm, gMod_pos, gDiv_pos, gPow_sm, gEq_ii, gNe_ii, gNeg, sizeLine_eq, gMax2, gMin2, gList, gTuple, gIx, Kd.seq, D.ow, Kd.ow, D.get, D.put, Kd.at, itemsOf, fItems, fRng1, fRng3, fEnum, fCall, oCall, takeAll, pinIx, D.erL, D.er, Kd.er, D.clnL, D.cln, Kd.cln, cl2_v, cl2_lst, cl2_tup, D.cl2L, fD0, gTupD, anyOw_nil, anyOw_cons, Bool.or_false, Bool.false_or, dI_eq, nD_eq, pcD_eq, prD_eq, er_prD, ow_prD, c2_prD, cl_prD, erL_dI, er_nD, er_pcD, ow_nD, ow_dI, ow_pcD, c2_nD, c2_dI, c2_pcD, cl_nD, cl_pcD, clnL_dI, List.getD_cons_zero, List.getD_cons_succ, List.set_cons_zero, List.set_cons_succ, List.map_cons, List.map_nil, List.length_cons, List.length_nil, List.length_map, List.replicate, List.append_nil, List.cons_append, List.nil_append, Option.bind_some, Option.map_some, Option.bind_none, Option.map_none, if_true, if_false, Bool.and_true, Bool.true_and, Bool.false_eq_true, reduceIte, reduceCtorEq, decide_true, decide_false, Nat.reduceAdd, Nat.reduceLT, Nat.reduceSub, Nat.reduceLeDiff]
end A95

set_option Elab.async false
set_option linter.all false
set_option maxRecDepth 100000
set_option maxHeartbeats 4000000
namespace A95
open DL PySem L2
open PyProof.Rows hiding St
theorem toKey_nat (n : Nat) : toKey (.v (.int (n : Int))) = some (kI n) := rfl
theorem m_whole (i : Int) : p_is_whole [.v (.int i)] = some (.ret (.v (.bl true)) []) := by
  unfold p_is_whole fnG b_is_whole
  simp (disch := omega) only [sSeq, sIf, sRet, sAsg, sDrop, sPass, sFor, sForS, sFz, sMut, sMut0, sDPutF, sRaise, fHold, fMove, fFree, fVar, fC, f1, f2, fL, fCons, fNil, oCons, oNil, oTup, oLst, fTup, fLst, fT, fAnd, fOr, fNot, fAndV, fOrV, fNotV, fIf, fChain, fIsN, fNotN, DL.isNon, DL.isG, gSet, gsCons, gsNil, gUn, gUnL, gStore, pNil, pIx, opApp, opClear, opIns, gLen, gLt_ii, gLe_ii, gGt_ii, gGe_ii, gSub_ii, gAdd_ii, gMul_sm, gMod_pos, gDiv_pos, gPow_sm, gEq_ii, gNe_ii, gNeg, sizeLine_eq, gMax2, gMin2, gList, gTuple, gIx, Kd.seq, D.ow, Kd.ow, D.get, D.put, Kd.at, itemsOf, fItems, fRng1, fRng3, fEnum, fCall, oCall, takeAll, pinIx, D.erL, D.er, Kd.er, D.clnL, D.cln, Kd.cln, cl2_v, cl2_lst, cl2_tup, D.cl2L, fD0, gTupD, anyOw_nil, anyOw_cons, Bool.or_false, Bool.false_or, dI_eq, nD_eq, pcD_eq, prD_eq, er_prD, ow_prD, c2_prD, cl_prD, erL_dI, er_nD, er_pcD, ow_nD, ow_dI, ow_pcD, c2_nD, c2_dI, c2_pcD, cl_nD, cl_pcD, clnL_dI, List.getD_cons_zero, List.getD_cons_succ, List.set_cons_zero, List.set_cons_succ, List.map_cons, List.map_nil, List.length_cons, List.length_nil, List.length_map, List.replicate, List.append_nil, List.cons_append, List.nil_append, Option.bind_some, Option.map_some, Option.bind_none, Option.map_none, if_true, if_false, Bool.and_true, Bool.true_and, Bool.false_eq_true, reduceIte, reduceCtorEq, decide_true, decide_false, Nat.reduceAdd, Nat.reduceLT, Nat.reduceSub, Nat.reduceLeDiff, fIs, gIs, tyN, kb_int_int, kb_int_bool, Bool.not_false]
theorem m_spot (sh : List (List Nat)) (i : Int) : p_is_spot [.n (.lst false) (sh.map pcD), .v (.int i)] = some (.ret (.v (.bl (decide (0 ≤ i) && decide (i < sh.length)))) []) := by
  unfold p_is_spot fnG b_is_spot
  simp (disch := omega) only [sSeq, sIf, sRet, sAsg, sDrop, sPass, sFor, sForS, sFz, sMut, sMut0, sDPutF, sRaise, fHold, fMove, fFree, fVar, fC, f1, f2, fL, fCons, fNil, oCons, oNil, oTup, oLst, fTup, fLst, fT, fAnd, fOr, fNot, fAndV, fOrV, fNotV, fIf, fChain, fIsN, fNotN, DL.isNon, DL.isG, gSet, gsCons, gsNil, gUn, gUnL, gStore, pNil, pIx, opApp, opClear, opIns, gLen, gLt_ii, gLe_ii, gGt_ii, gGe_ii, gSub_ii, gAdd_ii, gMul_sm, gMod_pos, gDiv_pos, gPow_sm, gEq_ii, gNe_ii, gNeg, sizeLine_eq, gMax2, gMin2, gList, gTuple, gIx, Kd.seq, D.ow, Kd.ow, D.get, D.put, Kd.at, itemsOf, fItems, fRng1, fRng3, fEnum, fCall, oCall, takeAll, pinIx, D.erL, D.er, Kd.er, D.clnL, D.cln, Kd.cln, cl2_v, cl2_lst, cl2_tup, D.cl2L, fD0, gTupD, anyOw_nil, anyOw_cons, Bool.or_false, Bool.false_or, dI_eq, nD_eq, pcD_eq, prD_eq, er_prD, ow_prD, c2_prD, cl_prD, erL_dI, er_nD, er_pcD, ow_nD, ow_dI, ow_pcD, c2_nD, c2_dI, c2_pcD, cl_nD, cl_pcD, clnL_dI, List.getD_cons_zero, List.getD_cons_succ, List.set_cons_zero, List.set_cons_succ, List.map_cons, List.map_nil, List.length_cons, List.length_nil, List.length_map, List.replicate, List.append_nil, List.cons_append, List.nil_append, Option.bind_some, Option.map_some, Option.bind_none, Option.map_none, if_true, if_false, Bool.and_true, Bool.true_and, Bool.false_eq_true, reduceIte, reduceCtorEq, decide_true, decide_false, Nat.reduceAdd, Nat.reduceLT, Nat.reduceSub, Nat.reduceLeDiff, m_whole]
  by_cases h : 0 ≤ i
  · simp (disch := omega) only [sSeq, sIf, sRet, sAsg, sDrop, sPass, sFor, sForS, sFz, sMut, sMut0, sDPutF, sRaise, fHold, fMove, fFree, fVar, fC, f1, f2, fL, fCons, fNil, oCons, oNil, oTup, oLst, fTup, fLst, fT, fAnd, fOr, fNot, fAndV, fOrV, fNotV, fIf, fChain, fIsN, fNotN, DL.isNon, DL.isG, gSet, gsCons, gsNil, gUn, gUnL, gStore, pNil, pIx, opApp, opClear, opIns, gLen, gLt_ii, gLe_ii, gGt_ii, gGe_ii, gSub_ii, gAdd_ii, gMul_sm, gMod_pos, gDiv_pos, gPow_sm, gEq_ii, gNe_ii, gNeg, sizeLine_eq, gMax2, gMin2, gList, gTuple, gIx, Kd.seq, D.ow, Kd.ow, D.get, D.put, Kd.at, itemsOf, fItems, fRng1, fRng3, fEnum, fCall, oCall, takeAll, pinIx, D.erL, D.er, Kd.er, D.clnL, D.cln, Kd.cln, cl2_v, cl2_lst, cl2_tup, D.cl2L, fD0, gTupD, anyOw_nil, anyOw_cons, Bool.or_false, Bool.false_or, dI_eq, nD_eq, pcD_eq, prD_eq, er_prD, ow_prD, c2_prD, cl_prD, erL_dI, er_nD, er_pcD, ow_nD, ow_dI, ow_pcD, c2_nD, c2_dI, c2_pcD, cl_nD, cl_pcD, clnL_dI, List.getD_cons_zero, List.getD_cons_succ, List.set_cons_zero, List.set_cons_succ, List.map_cons, List.map_nil, List.length_cons, List.length_nil, List.length_map, List.replicate, List.append_nil, List.cons_append, List.nil_append, Option.bind_some, Option.map_some, Option.bind_none, Option.map_none, if_true, if_false, Bool.and_true, Bool.true_and, Bool.false_eq_true, reduceIte, reduceCtorEq, decide_true, decide_false, Nat.reduceAdd, Nat.reduceLT, Nat.reduceSub, Nat.reduceLeDiff, h]
  · simp (disch := omega) only [sSeq, sIf, sRet, sAsg, sDrop, sPass, sFor, sForS, sFz, sMut, sMut0, sDPutF, sRaise, fHold, fMove, fFree, fVar, fC, f1, f2, fL, fCons, fNil, oCons, oNil, oTup, oLst, fTup, fLst, fT, fAnd, fOr, fNot, fAndV, fOrV, fNotV, fIf, fChain, fIsN, fNotN, DL.isNon, DL.isG, gSet, gsCons, gsNil, gUn, gUnL, gStore, pNil, pIx, opApp, opClear, opIns, gLen, gLt_ii, gLe_ii, gGt_ii, gGe_ii, gSub_ii, gAdd_ii, gMul_sm, gMod_pos, gDiv_pos, gPow_sm, gEq_ii, gNe_ii, gNeg, sizeLine_eq, gMax2, gMin2, gList, gTuple, gIx, Kd.seq, D.ow, Kd.ow, D.get, D.put, Kd.at, itemsOf, fItems, fRng1, fRng3, fEnum, fCall, oCall, takeAll, pinIx, D.erL, D.er, Kd.er, D.clnL, D.cln, Kd.cln, cl2_v, cl2_lst, cl2_tup, D.cl2L, fD0, gTupD, anyOw_nil, anyOw_cons, Bool.or_false, Bool.false_or, dI_eq, nD_eq, pcD_eq, prD_eq, er_prD, ow_prD, c2_prD, cl_prD, erL_dI, er_nD, er_pcD, ow_nD, ow_dI, ow_pcD, c2_nD, c2_dI, c2_pcD, cl_nD, cl_pcD, clnL_dI, List.getD_cons_zero, List.getD_cons_succ, List.set_cons_zero, List.set_cons_succ, List.map_cons, List.map_nil, List.length_cons, List.length_nil, List.length_map, List.replicate, List.append_nil, List.cons_append, List.nil_append, Option.bind_some, Option.map_some, Option.bind_none, Option.map_none, if_true, if_false, Bool.and_true, Bool.true_and, Bool.false_eq_true, reduceIte, reduceCtorEq, decide_true, decide_false, Nat.reduceAdd, Nat.reduceLT, Nat.reduceSub, Nat.reduceLeDiff, h, Bool.false_and]
theorem m_spot_ok (sh : List (List Nat)) (f : Nat) (h : f < sh.length) : p_is_spot [.n (.lst false) (sh.map pcD), .v (.int (f : Int))] = some (.ret (.v (.bl true)) []) := by
  rw [m_spot, decide_eq_true (by omega), decide_eq_true (by omega)]; rfl
def dctK (K : List Nat) : D := .n (.dct true (K.map kI)) (K.map fun _ => .v (.bl true))
theorem dctK_eq (K : List Nat) : dctK K = .n (.dct true (K.map kI)) (K.map fun _ => .v (.bl true)) := rfl
theorem dctK_nil : D.n (.dct true []) [] = dctK [] := rfl
/-- kept[f] = True -/
theorem put_true (i : Nat) (ρ : En) (fx : En → Option D) (K : List Nat) (f : Nat) (h1 : ρ.getD i none = some (dctK K)) (h2 : fx ρ = some (.v (.int (f : Int)))) (hz : K.length < 16777216) : sDPutF (fC (.bl true)) i pNil fx ρ = some (.nx (ρ.set i (some (dctK (addK K f))))) := by
  unfold sDPutF fFree fC pNil
  rw [h1, h2, dctK]
  simp (disch := omega) only [sSeq, sIf, sRet, sAsg, sDrop, sPass, sFor, sForS, sFz, sMut, sMut0, sDPutF, sRaise, fHold, fMove, fFree, fVar, fC, f1, f2, fL, fCons, fNil, oCons, oNil, oTup, oLst, fTup, fLst, fT, fAnd, fOr, fNot, fAndV, fOrV, fNotV, fIf, fChain, fIsN, fNotN, DL.isNon, DL.isG, gSet, gsCons, gsNil, gUn, gUnL, gStore, pNil, pIx, opApp, opClear, opIns, gLen, gLt_ii, gLe_ii, gGt_ii, gGe_ii, gSub_ii, gAdd_ii, gMul_sm, gMod_pos, gDiv_pos, gPow_sm, gEq_ii, gNe_ii, gNeg, sizeLine_eq, gMax2, gMin2, gList, gTuple, gIx, Kd.seq, D.ow, Kd.ow, D.get, D.put, Kd.at, itemsOf, fItems, fRng1, fRng3, fEnum, fCall, oCall, takeAll, pinIx, D.erL, D.er, Kd.er, D.clnL, D.cln, Kd.cln, cl2_v, cl2_lst, cl2_tup, D.cl2L, fD0, gTupD, anyOw_nil, anyOw_cons, Bool.or_false, Bool.false_or, dI_eq, nD_eq, pcD_eq, prD_eq, er_prD, ow_prD, c2_prD, cl_prD, erL_dI, er_nD, er_pcD, ow_nD, ow_dI, ow_pcD, c2_nD, c2_dI, c2_pcD, cl_nD, cl_pcD, clnL_dI, List.getD_cons_zero, List.getD_cons_succ, List.set_cons_zero, List.set_cons_succ, List.map_cons, List.map_nil, List.length_cons, List.length_nil, List.length_map, List.replicate, List.append_nil, List.cons_append, List.nil_append, Option.bind_some, Option.map_some, Option.bind_none, Option.map_none, if_true, if_false, Bool.and_true, Bool.true_and, Bool.false_eq_true, reduceIte, reduceCtorEq, decide_true, decide_false, Nat.reduceAdd, Nat.reduceLT, Nat.reduceSub, Nat.reduceLeDiff, toKey_nat, putKs_kI, putDs_all, hz]
  rfl
noncomputable abbrev pb0 : En → Option Out := sSeq (sIf (fNot (fT (fCall [false, false] p_is_spot (fCons (fVar 0) (fCons (fVar 3) fNil))))) (sRaise "NoGlue") sPass) (sDPutF (fC (.bl true)) 2 pNil (fVar 3))
abbrev envP (sh : List (List Nat)) (S : D) (K : List Nat) (x3 x4 x5 x6 x7 x8 : Option D) : En := [some (.n (.lst false) (sh.map pcD)), some S, some (dctK K), x3, x4, x5, x6, x7, x8]
theorem m_part_0 (sh : List (List Nat)) (S : D) (sp : List Nat) (hsp : ∀ f ∈ sp, f < sh.length) (hs : sh.length ≤ 1000) (x3 : Option D) :
    ∃ ρ', sForL (gSet 3) pb0 (sp.map nD) (envP sh S [] x3 none none none none none) = some (.nx ρ') ∧ ∃ x3, ρ' = envP sh S (sp.foldl addK []) x3 none none none none none := by
  refine for_to (fun dn ρ => ∃ (x3 : Option D), dn.length ≤ sp.length ∧ ρ = envP sh S ((sp.take dn.length).foldl addK []) x3 none none none none none ∧ ((sp.take dn.length).foldl addK []).Nodup) ?_ ⟨x3, Nat.zero_le _, rfl, List.nodup_nil⟩ ?_
  · rintro dn d rest ρ hq ⟨x3, hl, rfl, hnd⟩
    have hlt : dn.length < sp.length := by
      have := congrArg List.length hq
      simp at this
      omega
    have hd : d = nD sp[dn.length] := by
      have e : (sp.map nD)[dn.length]? = some d := by rw [hq]; simp
      rw [List.getElem?_map, List.getElem?_eq_getElem hlt] at e
      exact (Option.some.inj e).symm
    subst hd
    have hf := hsp _ (List.getElem_mem hlt)
    have hb : ((sp.take dn.length).foldl addK []).length ≤ sh.length := by
      have : ∀ k ∈ (sp.take dn.length).foldl addK [], k < sh.length := fun k m => by
        rw [mem_adds] at m
        rcases m with m | m
        · exact nomatch m
        · exact hsp k (List.mem_of_mem_take m)
      exact nodup_len hnd this
    refine turn rfl ?_
    have hp := put_true 2 [some (.n (.lst false) (sh.map pcD)), some S, some (dctK ((sp.take dn.length).foldl addK [])), some (.v (.int (sp[dn.length] : Int))), none, none, none, none, none] (fVar 3) ((sp.take dn.length).foldl addK []) sp[dn.length] rfl rfl (by omega)
    unfold pb0
    simp (disch := omega) only [show sSeq = fun (f g : En → Option Out) (ρ : En) => (f ρ).bind fun o => match o with | .nx ρ' => g ρ' | o => some o from rfl, sIf, sPass, fNot, fT, fCall, fCons, fNil, fVar, D.erL, D.er, Kd.er, er_pcD, nD_eq, List.getD_cons_zero, List.getD_cons_succ, List.set_cons_succ, List.set_cons_zero, Option.bind_some, Option.map_some, m_spot_ok _ _ hf, List.length_cons, List.length_nil, reduceIte, Nat.reduceAdd, cl2_v, Bool.not_true, Bool.false_eq_true, hp]
    refine ⟨_, rfl, some (.v (.int (sp[dn.length] : Int))), by simp; omega, ?_, ?_⟩
    · have : (sp.take (dn ++ [D.v (V.int ↑sp[dn.length])]).length) = sp.take dn.length ++ [sp[dn.length]] := by
        rw [List.length_append, List.length_singleton, List.take_succ_eq_append_getElem hlt]
      rw [this, List.foldl_append]
      rfl
    · have : (sp.take (dn ++ [D.v (V.int ↑sp[dn.length])]).length) = sp.take dn.length ++ [sp[dn.length]] := by
        rw [List.length_append, List.length_singleton, List.take_succ_eq_append_getElem hlt]
      rw [this, List.foldl_append]
      exact addK_nodup hnd
  · rintro ρ' ⟨x3, hl, rfl, _⟩
    refine ⟨x3, ?_⟩
    rw [List.length_map, List.take_length]
end A95

set_option Elab.async false
set_option linter.all false
set_option maxRecDepth 100000
set_option maxHeartbeats 4000000
namespace A95
open DL PySem L2
open PyProof.Rows hiding St
/-- a set of places -/
structure Pk (n : Nat) (K : List Nat) : Prop where
  nd : K.Nodup
  lt : ∀ k ∈ K, k < n
theorem Pk.add {n : Nat} {K : List Nat} {f : Nat} (h : Pk n K) (hf : f < n) : Pk n (addK K f) := ⟨addK_nodup h.nd, fun k m => by
  rcases mem_addK.mp m with m | rfl
  · exact h.lt k m
  · exact hf⟩
theorem Pk.len {n : Nat} {K : List Nat} (h : Pk n K) : K.length ≤ n := nodup_len h.nd h.lt
theorem m_part_1 (sh : List (List Nat)) (S : D) (K : List Nat) (p : List Nat) (i : Nat) (x3 x5 x6 x7 x8 : Option D) (hs : sh.length ≤ 1000) (hi : sh[i]? = some p) (hp : ∀ f ∈ p, f < sh.length) (hK : Pk sh.length K) :
    ∃ ρ', l_part_1 (envP sh S K x3 (some (.v (.int (i : Int)))) x5 x6 x7 x8) = some (.nx ρ') ∧ (∃ x5, ρ' = envP sh S (p.foldl addK K) x3 (some (.v (.int (i : Int)))) x5 x6 x7 x8) ∧ Pk sh.length (p.foldl addK K) := by
  unfold l_part_1 envP
  have e1 : atI (sh.map pcD) (i : Int) = some (pcD p) := at_map (by omega) hi
  simp (disch := omega) only [sSeq, sIf, sRet, sAsg, sDrop, sPass, sFor, sForS, sFz, sMut, sMut0, sDPutF, sRaise, fHold, fMove, fFree, fVar, fC, f1, f2, fL, fCons, fNil, oCons, oNil, oTup, oLst, fTup, fLst, fT, fAnd, fOr, fNot, fAndV, fOrV, fNotV, fIf, fChain, fIsN, fNotN, DL.isNon, DL.isG, gSet, gsCons, gsNil, gUn, gUnL, gStore, pNil, pIx, opApp, opClear, opIns, gLen, gLt_ii, gLe_ii, gGt_ii, gGe_ii, gSub_ii, gAdd_ii, gMul_sm, gMod_pos, gDiv_pos, gPow_sm, gEq_ii, gNe_ii, gNeg, sizeLine_eq, gMax2, gMin2, gList, gTuple, gIx, Kd.seq, D.ow, Kd.ow, D.get, D.put, Kd.at, itemsOf, fItems, fRng1, fRng3, fEnum, fCall, oCall, takeAll, pinIx, D.erL, D.er, Kd.er, D.clnL, D.cln, Kd.cln, cl2_v, cl2_lst, cl2_tup, D.cl2L, fD0, gTupD, anyOw_nil, anyOw_cons, Bool.or_false, Bool.false_or, dI_eq, nD_eq, pcD_eq, prD_eq, er_prD, ow_prD, c2_prD, cl_prD, erL_dI, er_nD, er_pcD, ow_nD, ow_dI, ow_pcD, c2_nD, c2_dI, c2_pcD, cl_nD, cl_pcD, clnL_dI, List.getD_cons_zero, List.getD_cons_succ, List.set_cons_zero, List.set_cons_succ, List.map_cons, List.map_nil, List.length_cons, List.length_nil, List.length_map, List.replicate, List.append_nil, List.cons_append, List.nil_append, Option.bind_some, Option.map_some, Option.bind_none, Option.map_none, if_true, if_false, Bool.and_true, Bool.true_and, Bool.false_eq_true, reduceIte, reduceCtorEq, decide_true, decide_false, Nat.reduceAdd, Nat.reduceLT, Nat.reduceSub, Nat.reduceLeDiff, e1]
  have := for_fold (h := gSet 5) (bd := sDPutF (fC (.bl true)) 2 pNil (fVar 5)) (g := nD) (fun K ρ => (∃ x5, ρ = envP sh S K x3 (some (.v (.int (i : Int)))) x5 x6 x7 x8) ∧ Pk sh.length K) addK p K (envP sh S K x3 (some (.v (.int (i : Int)))) x5 x6 x7 x8) ?_ ⟨⟨x5, rfl⟩, hK⟩
  · exact this
  · rintro K f ρ hf ⟨⟨x5, rfl⟩, hK⟩
    refine turn1 rfl ⟨_, put_true 2 _ (fVar 5) K f rfl rfl (by have := hK.len; omega), ⟨_, rfl⟩, hK.add (hp f hf)⟩
theorem din_true (K : List Nat) (i : Nat) : gDIn false (.v (.int (i : Int))) (dctK K) = some (.v (.bl (decide (i ∈ K)))) := by
  show ((toKey (.v (.int (i : Int)))).map fun x => D.v (.bl (if false = true then !(dLook (K.map kI) (K.map fun _ => D.v (.bl true)) x).isSome else (dLook (K.map kI) (K.map fun _ => D.v (.bl true)) x).isSome))) = _
  rw [toKey_nat]
  show some (D.v (.bl (dLook (K.map kI) (K.map fun _ => D.v (.bl true)) (kI i)).isSome)) = _
  rw [look_map K (fun _ => D.v (.bl true)) i]
  by_cases h : i ∈ K
  · rw [if_pos h, decide_eq_true h]; rfl
  · rw [if_neg h, decide_eq_false h]; rfl
theorem m_part_2 (sh : List (List Nat)) (S : D) (K : List Nat) (x3 : Option D) (hv : Sh sh) (hs : sh.length ≤ 1000) (hK : Pk sh.length K) :
    ∃ ρ', l_part_2 (envP sh S K x3 none none none none none) = some (.nx ρ') ∧ (∃ x4 x5, ρ' = envP sh S ((dwn sh.length).foldl (growK sh) K) x3 x4 x5 none none none) ∧ Pk sh.length ((dwn sh.length).foldl (growK sh) K) := by
  unfold l_part_2 envP
  have hb : inBd ((sh.length : Int) - 1) = true := decide_eq_true (by omega)
  have hb2 : inBd (-1) = true := by decide
  have hn : ((sh.length : Int) - 1 - -1).toNat = sh.length := by omega
  simp (disch := omega) only [sSeq, sIf, sRet, sAsg, sDrop, sPass, sFor, sForS, sFz, sMut, sMut0, sDPutF, sRaise, fHold, fMove, fFree, fVar, fC, f1, f2, fL, fCons, fNil, oCons, oNil, oTup, oLst, fTup, fLst, fT, fAnd, fOr, fNot, fAndV, fOrV, fNotV, fIf, fChain, fIsN, fNotN, DL.isNon, DL.isG, gSet, gsCons, gsNil, gUn, gUnL, gStore, pNil, pIx, opApp, opClear, opIns, gLen, gLt_ii, gLe_ii, gGt_ii, gGe_ii, gSub_ii, gAdd_ii, gMul_sm, gMod_pos, gDiv_pos, gPow_sm, gEq_ii, gNe_ii, gNeg, sizeLine_eq, gMax2, gMin2, gList, gTuple, gIx, Kd.seq, D.ow, Kd.ow, D.get, D.put, Kd.at, itemsOf, fItems, fRng1, fRng3, fEnum, fCall, oCall, takeAll, pinIx, D.erL, D.er, Kd.er, D.clnL, D.cln, Kd.cln, cl2_v, cl2_lst, cl2_tup, D.cl2L, fD0, gTupD, anyOw_nil, anyOw_cons, Bool.or_false, Bool.false_or, dI_eq, nD_eq, pcD_eq, prD_eq, er_prD, ow_prD, c2_prD, cl_prD, erL_dI, er_nD, er_pcD, ow_nD, ow_dI, ow_pcD, c2_nD, c2_dI, c2_pcD, cl_nD, cl_pcD, clnL_dI, List.getD_cons_zero, List.getD_cons_succ, List.set_cons_zero, List.set_cons_succ, List.map_cons, List.map_nil, List.length_cons, List.length_nil, List.length_map, List.replicate, List.append_nil, List.cons_append, List.nil_append, Option.bind_some, Option.map_some, Option.bind_none, Option.map_none, if_true, if_false, Bool.and_true, Bool.true_and, Bool.false_eq_true, reduceIte, reduceCtorEq, decide_true, decide_false, Nat.reduceAdd, Nat.reduceLT, Nat.reduceSub, Nat.reduceLeDiff, hb, hb2, hn, downD_dwn]
  have := for_fold (h := gSet 4) (bd := sIf (fT (f2 (gDIn false) (fVar 4) (fVar 2))) l_part_1 sPass) (g := nD) (fun K ρ => (∃ x4 x5, ρ = envP sh S K x3 x4 x5 none none none) ∧ Pk sh.length K) (growK sh) (dwn sh.length) K (envP sh S K x3 none none none none none) ?_ ⟨⟨none, none, rfl⟩, hK⟩
  · exact this
  · rintro K i ρ hi ⟨⟨x4, x5, rfl⟩, hK⟩
    have hi : i < sh.length := by
      unfold dwn at hi
      obtain ⟨j, hj, rfl⟩ := List.mem_map.mp hi
      rw [List.mem_range] at hj
      omega
    have hg : sh[i]? = some sh[i] := List.getElem?_eq_getElem hi
    refine turn1 rfl ?_
    have ht : fT (f2 (gDIn false) (fVar 4) (fVar 2)) (envP sh S K x3 (some (.v (.int (i : Int)))) x5 none none none) = some (decide (i ∈ K)) := by
      unfold fT f2 fVar envP
      simp (disch := omega) only [sSeq, sIf, sRet, sAsg, sDrop, sPass, sFor, sForS, sFz, sMut, sMut0, sDPutF, sRaise, fHold, fMove, fFree, fVar, fC, f1, f2, fL, fCons, fNil, oCons, oNil, oTup, oLst, fTup, fLst, fT, fAnd, fOr, fNot, fAndV, fOrV, fNotV, fIf, fChain, fIsN, fNotN, DL.isNon, DL.isG, gSet, gsCons, gsNil, gUn, gUnL, gStore, pNil, pIx, opApp, opClear, opIns, gLen, gLt_ii, gLe_ii, gGt_ii, gGe_ii, gSub_ii, gAdd_ii, gMul_sm, gMod_pos, gDiv_pos, gPow_sm, gEq_ii, gNe_ii, gNeg, sizeLine_eq, gMax2, gMin2, gList, gTuple, gIx, Kd.seq, D.ow, Kd.ow, D.get, D.put, Kd.at, itemsOf, fItems, fRng1, fRng3, fEnum, fCall, oCall, takeAll, pinIx, D.erL, D.er, Kd.er, D.clnL, D.cln, Kd.cln, cl2_v, cl2_lst, cl2_tup, D.cl2L, fD0, gTupD, anyOw_nil, anyOw_cons, Bool.or_false, Bool.false_or, dI_eq, nD_eq, pcD_eq, prD_eq, er_prD, ow_prD, c2_prD, cl_prD, erL_dI, er_nD, er_pcD, ow_nD, ow_dI, ow_pcD, c2_nD, c2_dI, c2_pcD, cl_nD, cl_pcD, clnL_dI, List.getD_cons_zero, List.getD_cons_succ, List.set_cons_zero, List.set_cons_succ, List.map_cons, List.map_nil, List.length_cons, List.length_nil, List.length_map, List.replicate, List.append_nil, List.cons_append, List.nil_append, Option.bind_some, Option.map_some, Option.bind_none, Option.map_none, if_true, if_false, Bool.and_true, Bool.true_and, Bool.false_eq_true, reduceIte, reduceCtorEq, decide_true, decide_false, Nat.reduceAdd, Nat.reduceLT, Nat.reduceSub, Nat.reduceLeDiff, din_true]
    show ∃ ρ2, (fT (f2 (gDIn false) (fVar 4) (fVar 2)) (envP sh S K x3 (some (.v (.int (i : Int)))) x5 none none none)).bind (fun k => if k = true then l_part_1 (envP sh S K x3 (some (.v (.int (i : Int)))) x5 none none none) else sPass (envP sh S K x3 (some (.v (.int (i : Int)))) x5 none none none)) = some (.nx ρ2) ∧ _
    rw [ht]
    unfold growK
    rw [show sh.getD i [] = sh[i] from by rw [List.getD_eq_getElem?_getD, hg]; rfl]
    by_cases h : i ∈ K
    · rw [if_pos h]
      simp only [Option.bind_some, decide_eq_true h, if_true]
      obtain ⟨ρ', e, ⟨y5, rfl⟩, hk⟩ := m_part_1 sh S K sh[i] i x3 x5 none none none hs hg (fun f m => by have := hv.lt i _ hg f m; omega) hK
      exact ⟨_, e, ⟨_, _, rfl⟩, hk⟩
    · rw [if_neg h]
      simp only [Option.bind_some, decide_eq_false h]
      exact ⟨_, rfl, ⟨_, _, rfl⟩, hK⟩
end A95

set_option Elab.async false
set_option linter.all false
set_option maxRecDepth 100000
set_option maxHeartbeats 4000000
namespace A95
open DL PySem L2
open PyProof.Rows hiding St
theorem ixD_nil : D.n (.dct true []) [] = ixD true [] := rfl
theorem m_part_3 (x0 x1 x2 x3 x4 x5 x8 : Option D) (old : List Nat) (hd : old.Nodup) (hs : old.length ≤ 1000) :
    ∃ ρ', l_part_3 [x0, x1, x2, x3, x4, x5, some (.n (.lst true) (old.map nD)), some (ixD true []), x8] = some (.nx ρ') ∧ ∃ x4 x8, ρ' = [x0, x1, x2, x3, x4, x5, some (.n (.lst true) (old.map nD)), some (ixD true old), x8] := by
  unfold l_part_3 sForS
  simp (disch := omega) only [sSeq, sIf, sRet, sAsg, sDrop, sPass, sFor, sForS, sFz, sMut, sMut0, sDPutF, sRaise, fHold, fMove, fFree, fVar, fC, f1, f2, fL, fCons, fNil, oCons, oNil, oTup, oLst, fTup, fLst, fT, fAnd, fOr, fNot, fAndV, fOrV, fNotV, fIf, fChain, fIsN, fNotN, DL.isNon, DL.isG, gSet, gsCons, gsNil, gUn, gUnL, gStore, pNil, pIx, opApp, opClear, opIns, gLen, gLt_ii, gLe_ii, gGt_ii, gGe_ii, gSub_ii, gAdd_ii, gMul_sm, gMod_pos, gDiv_pos, gPow_sm, gEq_ii, gNe_ii, gNeg, sizeLine_eq, gMax2, gMin2, gList, gTuple, gIx, Kd.seq, D.ow, Kd.ow, D.get, D.put, Kd.at, itemsOf, fItems, fRng1, fRng3, fEnum, fCall, oCall, takeAll, pinIx, D.erL, D.er, Kd.er, D.clnL, D.cln, Kd.cln, cl2_v, cl2_lst, cl2_tup, D.cl2L, fD0, gTupD, anyOw_nil, anyOw_cons, Bool.or_false, Bool.false_or, dI_eq, nD_eq, pcD_eq, prD_eq, er_prD, ow_prD, c2_prD, cl_prD, erL_dI, er_nD, er_pcD, ow_nD, ow_dI, ow_pcD, c2_nD, c2_dI, c2_pcD, cl_nD, cl_pcD, clnL_dI, List.getD_cons_zero, List.getD_cons_succ, List.set_cons_zero, List.set_cons_succ, List.map_cons, List.map_nil, List.length_cons, List.length_nil, List.length_map, List.replicate, List.append_nil, List.cons_append, List.nil_append, Option.bind_some, Option.map_some, Option.bind_none, Option.map_none, if_true, if_false, Bool.and_true, Bool.true_and, Bool.false_eq_true, reduceIte, reduceCtorEq, decide_true, decide_false, Nat.reduceAdd, Nat.reduceLT, Nat.reduceSub, Nat.reduceLeDiff, lstItems]
  have key := forS_inv (items := enumD (old.map nD)) (i := 6) (d0 := some (.n (.lst true) (old.map nD))) (h := gUn 2 (gsCons (gSet 8) (gsCons (gSet 4) gsNil))) (b := sDPutF (fVar 8) 7 pNil (fVar 4)) (ρ := [x0, x1, x2, x3, x4, x5, some (.n (.lst true) (old.map nD)), some (ixD true []), x8])
    (fun dn ρ => ∃ x4 x8, ρ = [x0, x1, x2, x3, x4, x5, some (.n (.lst true) (old.map nD)), some (ixD true (old.take dn.length)), x8]) (fun dn ρ ⟨x4, x8, e⟩ => by rw [e]; rfl) ?_ ⟨x4, x8, rfl⟩
  · obtain ⟨ρ', e, x4', x8', e2⟩ := key
    refine ⟨ρ', e, x4', x8', ?_⟩
    rw [e2, enum_len, List.length_map, List.take_length]
  · rintro dn d rest ρ hsp ⟨x4, x8, rfl⟩
    obtain ⟨x, hx, rfl⟩ := enum_split hsp
    rw [List.getElem?_map] at hx
    cases hf : old[dn.length]? with
    | none => rw [hf] at hx; cases hx
    | some p =>
      rw [hf] at hx
      cases hx
      have hdn : dn.length < old.length := (List.getElem?_eq_some_iff.mp hf).1
      have hp : old[dn.length] = p := (List.getElem?_eq_some_iff.mp hf).2
      refine turn1 rfl ⟨_, put_ix 7 _ (fVar 8) (fVar 4) (old.take dn.length) dn.length p rfl rfl rfl (by rw [List.length_take]; omega) ?_ (by rw [List.length_take]; omega), some (nD p), some (.v (.int (dn.length : Nat))), ?_⟩
      · intro m
        obtain ⟨j, hj, e⟩ := List.getElem_of_mem m
        rw [List.getElem_take] at e
        rw [List.length_take] at hj
        have := (List.getElem_inj hd).mp (e.trans hp.symm)
        omega
      · rw [List.length_append, List.length_singleton, List.take_succ_eq_append_getElem hdn, hp]
        rfl
/-- what part tells -/
def piecesD (sh : List (List Nat)) (old : List Nat) : List D := old.map fun i => pcD ((sh.getD i []).map old.idxOf)
def partD (sh : List (List Nat)) (old : List Nat) : D := .n (.tup true) [.n (.lst true) (piecesD sh old), .n (.lst true) (old.map nD)]
theorem ow_pieces (sh : List (List Nat)) (old : List Nat) : anyOw (piecesD sh old) = false := anyOw_map fun _ _ => rfl
theorem cl_pieces (sh : List (List Nat)) (old : List Nat) : D.clnL (piecesD sh old) = true := cl_pl fun _ _ => pl_pc _
theorem c2_pieces (sh : List (List Nat)) (old : List Nat) : D.cl2L (piecesD sh old) = true := c2_pl fun _ _ => pl_pc _
theorem m_part_c0 (sh : List (List Nat)) (old p : List Nat) (i : Nat) (x1 x2 x3 x5 x6 x8 : Option D) (hi : sh[i]? = some p) (hp : ∀ f ∈ p, f ∈ old) (hl : p.length ≤ 4) :
    c_part_0 [some (.n (.lst false) (sh.map pcD)), x1, x2, x3, some (.v (.int (i : Int))), x5, x6, some (ixD false old), x8] = some (.n (.lst true) ((p.map old.idxOf).map nD)) := by
  unfold c_part_0 fLc
  have e1 : atI (sh.map pcD) (i : Int) = some (pcD p) := at_map (by omega) hi
  simp (disch := omega) only [sSeq, sIf, sRet, sAsg, sDrop, sPass, sFor, sForS, sFz, sMut, sMut0, sDPutF, sRaise, fHold, fMove, fFree, fVar, fC, f1, f2, fL, fCons, fNil, oCons, oNil, oTup, oLst, fTup, fLst, fT, fAnd, fOr, fNot, fAndV, fOrV, fNotV, fIf, fChain, fIsN, fNotN, DL.isNon, DL.isG, gSet, gsCons, gsNil, gUn, gUnL, gStore, pNil, pIx, opApp, opClear, opIns, gLen, gLt_ii, gLe_ii, gGt_ii, gGe_ii, gSub_ii, gAdd_ii, gMul_sm, gMod_pos, gDiv_pos, gPow_sm, gEq_ii, gNe_ii, gNeg, sizeLine_eq, gMax2, gMin2, gList, gTuple, gIx, Kd.seq, D.ow, Kd.ow, D.get, D.put, Kd.at, itemsOf, fItems, fRng1, fRng3, fEnum, fCall, oCall, takeAll, pinIx, D.erL, D.er, Kd.er, D.clnL, D.cln, Kd.cln, cl2_v, cl2_lst, cl2_tup, D.cl2L, fD0, gTupD, anyOw_nil, anyOw_cons, Bool.or_false, Bool.false_or, dI_eq, nD_eq, pcD_eq, prD_eq, er_prD, ow_prD, c2_prD, cl_prD, erL_dI, er_nD, er_pcD, ow_nD, ow_dI, ow_pcD, c2_nD, c2_dI, c2_pcD, cl_nD, cl_pcD, clnL_dI, List.getD_cons_zero, List.getD_cons_succ, List.set_cons_zero, List.set_cons_succ, List.map_cons, List.map_nil, List.length_cons, List.length_nil, List.length_map, List.replicate, List.append_nil, List.cons_append, List.nil_append, Option.bind_some, Option.map_some, Option.bind_none, Option.map_none, if_true, if_false, Bool.and_true, Bool.true_and, Bool.false_eq_true, reduceIte, reduceCtorEq, decide_true, decide_false, Nat.reduceAdd, Nat.reduceLT, Nat.reduceSub, Nat.reduceLeDiff, e1, fWipe]
  rw [lcL_mapN (g := nD) (k := fun x => nD (old.idxOf x)) p fun x m => ⟨_, rfl, rfl, ?_⟩]
  · simp only [Option.bind_some, List.length_map]
    rw [if_pos (by omega), List.map_map]
    rfl
  · simp (disch := omega) only [sSeq, sIf, sRet, sAsg, sDrop, sPass, sFor, sForS, sFz, sMut, sMut0, sDPutF, sRaise, fHold, fMove, fFree, fVar, fC, f1, f2, fL, fCons, fNil, oCons, oNil, oTup, oLst, fTup, fLst, fT, fAnd, fOr, fNot, fAndV, fOrV, fNotV, fIf, fChain, fIsN, fNotN, DL.isNon, DL.isG, gSet, gsCons, gsNil, gUn, gUnL, gStore, pNil, pIx, opApp, opClear, opIns, gLen, gLt_ii, gLe_ii, gGt_ii, gGe_ii, gSub_ii, gAdd_ii, gMul_sm, gMod_pos, gDiv_pos, gPow_sm, gEq_ii, gNe_ii, gNeg, sizeLine_eq, gMax2, gMin2, gList, gTuple, gIx, Kd.seq, D.ow, Kd.ow, D.get, D.put, Kd.at, itemsOf, fItems, fRng1, fRng3, fEnum, fCall, oCall, takeAll, pinIx, D.erL, D.er, Kd.er, D.clnL, D.cln, Kd.cln, cl2_v, cl2_lst, cl2_tup, D.cl2L, fD0, gTupD, anyOw_nil, anyOw_cons, Bool.or_false, Bool.false_or, dI_eq, nD_eq, pcD_eq, prD_eq, er_prD, ow_prD, c2_prD, cl_prD, erL_dI, er_nD, er_pcD, ow_nD, ow_dI, ow_pcD, c2_nD, c2_dI, c2_pcD, cl_nD, cl_pcD, clnL_dI, List.getD_cons_zero, List.getD_cons_succ, List.set_cons_zero, List.set_cons_succ, List.map_cons, List.map_nil, List.length_cons, List.length_nil, List.length_map, List.replicate, List.append_nil, List.cons_append, List.nil_append, Option.bind_some, Option.map_some, Option.bind_none, Option.map_none, if_true, if_false, Bool.and_true, Bool.true_and, Bool.false_eq_true, reduceIte, reduceCtorEq, decide_true, decide_false, Nat.reduceAdd, Nat.reduceLT, Nat.reduceSub, Nat.reduceLeDiff, get_ix (hp x m)]
theorem m_part_c1 (sh : List (List Nat)) (old : List Nat) (x1 x2 x3 x4 x5 x8 : Option D) (hv : Sh sh) (ho : ∀ i ∈ old, i < sh.length) (hc : ∀ i ∈ old, ∀ f ∈ sh.getD i [], f ∈ old) (hs : old.length ≤ 1000) :
    c_part_1 [some (.n (.lst false) (sh.map pcD)), x1, x2, x3, x4, x5, some (.n (.lst true) (old.map nD)), some (ixD false old), x8] = some (.n (.lst true) (piecesD sh old)) := by
  unfold c_part_1 fLc
  simp (disch := omega) only [sSeq, sIf, sRet, sAsg, sDrop, sPass, sFor, sForS, sFz, sMut, sMut0, sDPutF, sRaise, fHold, fMove, fFree, fVar, fC, f1, f2, fL, fCons, fNil, oCons, oNil, oTup, oLst, fTup, fLst, fT, fAnd, fOr, fNot, fAndV, fOrV, fNotV, fIf, fChain, fIsN, fNotN, DL.isNon, DL.isG, gSet, gsCons, gsNil, gUn, gUnL, gStore, pNil, pIx, opApp, opClear, opIns, gLen, gLt_ii, gLe_ii, gGt_ii, gGe_ii, gSub_ii, gAdd_ii, gMul_sm, gMod_pos, gDiv_pos, gPow_sm, gEq_ii, gNe_ii, gNeg, sizeLine_eq, gMax2, gMin2, gList, gTuple, gIx, Kd.seq, D.ow, Kd.ow, D.get, D.put, Kd.at, itemsOf, fItems, fRng1, fRng3, fEnum, fCall, oCall, takeAll, pinIx, D.erL, D.er, Kd.er, D.clnL, D.cln, Kd.cln, cl2_v, cl2_lst, cl2_tup, D.cl2L, fD0, gTupD, anyOw_nil, anyOw_cons, Bool.or_false, Bool.false_or, dI_eq, nD_eq, pcD_eq, prD_eq, er_prD, ow_prD, c2_prD, cl_prD, erL_dI, er_nD, er_pcD, ow_nD, ow_dI, ow_pcD, c2_nD, c2_dI, c2_pcD, cl_nD, cl_pcD, clnL_dI, List.getD_cons_zero, List.getD_cons_succ, List.set_cons_zero, List.set_cons_succ, List.map_cons, List.map_nil, List.length_cons, List.length_nil, List.length_map, List.replicate, List.append_nil, List.cons_append, List.nil_append, Option.bind_some, Option.map_some, Option.bind_none, Option.map_none, if_true, if_false, Bool.and_true, Bool.true_and, Bool.false_eq_true, reduceIte, reduceCtorEq, decide_true, decide_false, Nat.reduceAdd, Nat.reduceLT, Nat.reduceSub, Nat.reduceLeDiff, fWipe]
  rw [lcL_mapN (g := nD) (k := fun i => pcD ((sh.getD i []).map old.idxOf)) old fun i m => ⟨_, rfl, rfl, ?_⟩]
  · simp only [Option.bind_some, List.length_map]
    rw [if_pos (by omega)]
    rfl
  · have hi := ho i m
    have hg : sh[i]? = some sh[i] := List.getElem?_eq_getElem hi
    have hgd : sh.getD i [] = sh[i] := by rw [List.getD_eq_getElem?_getD, hg]; rfl
    have e := m_part_c0 sh old sh[i] i x1 x2 x3 x5 (some (.n (.lst true) (old.map nD))) x8 hg (by rw [← hgd]; exact hc i m) (by have := hv.ln _ (List.getElem_mem hi); omega)
    rw [hgd]
    simp (disch := omega) only [sSeq, sIf, sRet, sAsg, sDrop, sPass, sFor, sForS, sFz, sMut, sMut0, sDPutF, sRaise, fHold, fMove, fFree, fVar, fC, f1, f2, fL, fCons, fNil, oCons, oNil, oTup, oLst, fTup, fLst, fT, fAnd, fOr, fNot, fAndV, fOrV, fNotV, fIf, fChain, fIsN, fNotN, DL.isNon, DL.isG, gSet, gsCons, gsNil, gUn, gUnL, gStore, pNil, pIx, opApp, opClear, opIns, gLen, gLt_ii, gLe_ii, gGt_ii, gGe_ii, gSub_ii, gAdd_ii, gMul_sm, gMod_pos, gDiv_pos, gPow_sm, gEq_ii, gNe_ii, gNeg, sizeLine_eq, gMax2, gMin2, gList, gTuple, gIx, Kd.seq, D.ow, Kd.ow, D.get, D.put, Kd.at, itemsOf, fItems, fRng1, fRng3, fEnum, fCall, oCall, takeAll, pinIx, D.erL, D.er, Kd.er, D.clnL, D.cln, Kd.cln, cl2_v, cl2_lst, cl2_tup, D.cl2L, fD0, gTupD, anyOw_nil, anyOw_cons, Bool.or_false, Bool.false_or, dI_eq, nD_eq, pcD_eq, prD_eq, er_prD, ow_prD, c2_prD, cl_prD, erL_dI, er_nD, er_pcD, ow_nD, ow_dI, ow_pcD, c2_nD, c2_dI, c2_pcD, cl_nD, cl_pcD, clnL_dI, List.getD_cons_zero, List.getD_cons_succ, List.set_cons_zero, List.set_cons_succ, List.map_cons, List.map_nil, List.length_cons, List.length_nil, List.length_map, List.replicate, List.append_nil, List.cons_append, List.nil_append, Option.bind_some, Option.map_some, Option.bind_none, Option.map_none, if_true, if_false, Bool.and_true, Bool.true_and, Bool.false_eq_true, reduceIte, reduceCtorEq, decide_true, decide_false, Nat.reduceAdd, Nat.reduceLT, Nat.reduceSub, Nat.reduceLeDiff, e]
theorem part_closed (sh : List (List Nat)) (K : List Nat) (hv : Sh sh) (i : Nat) (hi : i ≤ sh.length) : ClK sh (((List.range i).map fun j => sh.length - 1 - j).foldl (growK sh) K) (sh.length - i) := by
  induction i with
  | zero =>
    intro j hj m f hf
    have : sh.getD j [] = [] := by rw [List.getD_eq_getElem?_getD, List.getElem?_eq_none (by omega)]; rfl
    rw [this] at hf
    exact nomatch hf
  | succ i ih =>
    rw [List.range_succ, List.map_append, List.foldl_append]
    have h1 := ih (by omega)
    have e : sh.length - i = (sh.length - 1 - i) + 1 := by omega
    rw [e] at h1
    have := h1.step (i := sh.length - 1 - i) fun f m => by
      have hlt : sh.length - 1 - i < sh.length := by omega
      rw [List.getD_eq_getElem?_getD, List.getElem?_eq_getElem hlt] at m
      exact hv.lt _ _ (List.getElem?_eq_getElem hlt) f m
    rw [show sh.length - (i + 1) = sh.length - 1 - i by omega]
    exact this
/-- the places that part keeps -/
def keptK (sh : List (List Nat)) (sp : List Nat) : List Nat := (dwn sh.length).foldl (growK sh) (sp.foldl addK [])
def partOld (sh : List (List Nat)) (sp : List Nat) : List Nat := oldK sh.length (keptK sh sp)
theorem m_part (sh : List (List Nat)) (sp : List Nat) (hv : Sh sh) (hs : sh.length < 64) (hsp : ∀ f ∈ sp, f < sh.length) :
    p_part [.n (.lst false) (sh.map pcD), .n (.lst false) (sp.map nD)] = some (.ret (partD sh (partOld sh sp)) []) := by
  unfold p_part fnG b_part
  simp (disch := omega) only [sSeq, sIf, sRet, sAsg, sDrop, sPass, sFor, sForS, sFz, sMut, sMut0, sDPutF, sRaise, fHold, fMove, fFree, fVar, fC, f1, f2, fL, fCons, fNil, oCons, oNil, oTup, oLst, fTup, fLst, fT, fAnd, fOr, fNot, fAndV, fOrV, fNotV, fIf, fChain, fIsN, fNotN, DL.isNon, DL.isG, gSet, gsCons, gsNil, gUn, gUnL, gStore, pNil, pIx, opApp, opClear, opIns, gLen, gLt_ii, gLe_ii, gGt_ii, gGe_ii, gSub_ii, gAdd_ii, gMul_sm, gMod_pos, gDiv_pos, gPow_sm, gEq_ii, gNe_ii, gNeg, sizeLine_eq, gMax2, gMin2, gList, gTuple, gIx, Kd.seq, D.ow, Kd.ow, D.get, D.put, Kd.at, itemsOf, fItems, fRng1, fRng3, fEnum, fCall, oCall, takeAll, pinIx, D.erL, D.er, Kd.er, D.clnL, D.cln, Kd.cln, cl2_v, cl2_lst, cl2_tup, D.cl2L, fD0, gTupD, anyOw_nil, anyOw_cons, Bool.or_false, Bool.false_or, dI_eq, nD_eq, pcD_eq, prD_eq, er_prD, ow_prD, c2_prD, cl_prD, erL_dI, er_nD, er_pcD, ow_nD, ow_dI, ow_pcD, c2_nD, c2_dI, c2_pcD, cl_nD, cl_pcD, clnL_dI, List.getD_cons_zero, List.getD_cons_succ, List.set_cons_zero, List.set_cons_succ, List.map_cons, List.map_nil, List.length_cons, List.length_nil, List.length_map, List.replicate, List.append_nil, List.cons_append, List.nil_append, Option.bind_some, Option.map_some, Option.bind_none, Option.map_none, if_true, if_false, Bool.and_true, Bool.true_and, Bool.false_eq_true, reduceIte, reduceCtorEq, decide_true, decide_false, Nat.reduceAdd, Nat.reduceLT, Nat.reduceSub, Nat.reduceLeDiff]
  have hK0 : Pk sh.length (sp.foldl addK []) := by
    have : ∀ (xs K : List Nat), (∀ f ∈ xs, f < sh.length) → Pk sh.length K → Pk sh.length (xs.foldl addK K) := fun xs => by
      induction xs with
      | nil => intro K _ h; exact h
      | cons x xs ih => intro K hx h; exact ih _ (fun f m => hx f (List.mem_cons_of_mem _ m)) (h.add (hx x List.mem_cons_self))
    exact this sp [] hsp ⟨List.nodup_nil, fun k m => nomatch m⟩
  have e0 : l_part_0 [some (.n (.lst false) (sh.map pcD)), some (.n (.lst false) (sp.map nD)), some (.n (.dct true []) []), none, none, none, none, none, none] = sForL (gSet 3) pb0 (sp.map nD) (envP sh (.n (.lst false) (sp.map nD)) [] none none none none none none) := by
    unfold l_part_0
    simp only [sSeq, sIf, sRet, sAsg, sDrop, sPass, sFor, sForS, sFz, sMut, sMut0, sDPutF, sRaise, fHold, fMove, fFree, fVar, fC, f1, f2, fL, fCons, fNil, oCons, oNil, oTup, oLst, fTup, fLst, fT, fAnd, fOr, fNot, fAndV, fOrV, fNotV, fIf, fChain, fIsN, fNotN, DL.isNon, DL.isG, gSet, gsCons, gsNil, gUn, gUnL, gStore, pNil, pIx, opApp, opClear, opIns, gLen, gLt_ii, gLe_ii, gGt_ii, gGe_ii, gSub_ii, gAdd_ii, gMul_sm, gMod_pos, gDiv_pos, gPow_sm, gEq_ii, gNe_ii, gNeg, sizeLine_eq, gMax2, gMin2, gList, gTuple, gIx, Kd.seq, D.ow, Kd.ow, D.get, D.put, Kd.at, itemsOf, fItems, fRng1, fRng3, fEnum, fCall, oCall, takeAll, pinIx, D.erL, D.er, Kd.er, D.clnL, D.cln, Kd.cln, cl2_v, cl2_lst, cl2_tup, D.cl2L, fD0, gTupD, anyOw_nil, anyOw_cons, Bool.or_false, Bool.false_or, dI_eq, nD_eq, pcD_eq, prD_eq, er_prD, ow_prD, c2_prD, cl_prD, erL_dI, er_nD, er_pcD, ow_nD, ow_dI, ow_pcD, c2_nD, c2_dI, c2_pcD, cl_nD, cl_pcD, clnL_dI, List.getD_cons_zero, List.getD_cons_succ, List.set_cons_zero, List.set_cons_succ, List.map_cons, List.map_nil, List.length_cons, List.length_nil, List.length_map, List.replicate, List.append_nil, List.cons_append, List.nil_append, Option.bind_some, Option.map_some, Option.bind_none, Option.map_none, if_true, if_false, Bool.and_true, Bool.true_and, Bool.false_eq_true, reduceIte, reduceCtorEq, decide_true, decide_false, Nat.reduceAdd, Nat.reduceLT, Nat.reduceSub, Nat.reduceLeDiff]
    rfl
  rw [e0]
  obtain ⟨ρ1, e1, x3, rfl⟩ := m_part_0 sh (.n (.lst false) (sp.map nD)) sp hsp (by omega) none
  rw [e1]
  simp only [Option.bind_some]
  obtain ⟨ρ2, e2, ⟨x4, x5, rfl⟩, hK⟩ := m_part_2 sh (.n (.lst false) (sp.map nD)) (sp.foldl addK []) x3 hv (by omega) hK0
  rw [e2]
  simp only [Option.bind_some]
  have es := sort_dct (ds := (keptK sh sp).map fun _ => .v (.bl true)) hK.nd hK.lt hs
  unfold envP
  rw [dctK_eq]
  have es : gSortD [.n (.dct true (((dwn sh.length).foldl (growK sh) (sp.foldl addK [])).map kI)) (((dwn sh.length).foldl (growK sh) (sp.foldl addK [])).map fun _ => .v (.bl true))] = some (.n (.lst true) ((partOld sh sp).map nD)) := es
  simp (disch := omega) only [sSeq, sIf, sRet, sAsg, sDrop, sPass, sFor, sForS, sFz, sMut, sMut0, sDPutF, sRaise, fHold, fMove, fFree, fVar, fC, f1, f2, fL, fCons, fNil, oCons, oNil, oTup, oLst, fTup, fLst, fT, fAnd, fOr, fNot, fAndV, fOrV, fNotV, fIf, fChain, fIsN, fNotN, DL.isNon, DL.isG, gSet, gsCons, gsNil, gUn, gUnL, gStore, pNil, pIx, opApp, opClear, opIns, gLen, gLt_ii, gLe_ii, gGt_ii, gGe_ii, gSub_ii, gAdd_ii, gMul_sm, gMod_pos, gDiv_pos, gPow_sm, gEq_ii, gNe_ii, gNeg, sizeLine_eq, gMax2, gMin2, gList, gTuple, gIx, Kd.seq, D.ow, Kd.ow, D.get, D.put, Kd.at, itemsOf, fItems, fRng1, fRng3, fEnum, fCall, oCall, takeAll, pinIx, D.erL, D.er, Kd.er, D.clnL, D.cln, Kd.cln, cl2_v, cl2_lst, cl2_tup, D.cl2L, fD0, gTupD, anyOw_nil, anyOw_cons, Bool.or_false, Bool.false_or, dI_eq, nD_eq, pcD_eq, prD_eq, er_prD, ow_prD, c2_prD, cl_prD, erL_dI, er_nD, er_pcD, ow_nD, ow_dI, ow_pcD, c2_nD, c2_dI, c2_pcD, cl_nD, cl_pcD, clnL_dI, List.getD_cons_zero, List.getD_cons_succ, List.set_cons_zero, List.set_cons_succ, List.map_cons, List.map_nil, List.length_cons, List.length_nil, List.length_map, List.replicate, List.append_nil, List.cons_append, List.nil_append, Option.bind_some, Option.map_some, Option.bind_none, Option.map_none, if_true, if_false, Bool.and_true, Bool.true_and, Bool.false_eq_true, reduceIte, reduceCtorEq, decide_true, decide_false, Nat.reduceAdd, Nat.reduceLT, Nat.reduceSub, Nat.reduceLeDiff, es, ixD_nil]
  have hlen : (partOld sh sp).length ≤ 1000 := by
    have := oldK_len (n := sh.length) (K := keptK sh sp)
    show (oldK sh.length (keptK sh sp)).length ≤ 1000
    omega
  obtain ⟨ρ3, e3, y4, y8, rfl⟩ := m_part_3 (some (.n (.lst false) (sh.map pcD))) (some (.n (.lst false) (sp.map nD))) (some (.n (.dct true (((dwn sh.length).foldl (growK sh) (sp.foldl addK [])).map kI)) (((dwn sh.length).foldl (growK sh) (sp.foldl addK [])).map fun _ => .v (.bl true)))) x3 x4 x5 none (partOld sh sp) oldK_nodup hlen
  rw [e3]
  simp (disch := omega) only [sSeq, sIf, sRet, sAsg, sDrop, sPass, sFor, sForS, sFz, sMut, sMut0, sDPutF, sRaise, fHold, fMove, fFree, fVar, fC, f1, f2, fL, fCons, fNil, oCons, oNil, oTup, oLst, fTup, fLst, fT, fAnd, fOr, fNot, fAndV, fOrV, fNotV, fIf, fChain, fIsN, fNotN, DL.isNon, DL.isG, gSet, gsCons, gsNil, gUn, gUnL, gStore, pNil, pIx, opApp, opClear, opIns, gLen, gLt_ii, gLe_ii, gGt_ii, gGe_ii, gSub_ii, gAdd_ii, gMul_sm, gMod_pos, gDiv_pos, gPow_sm, gEq_ii, gNe_ii, gNeg, sizeLine_eq, gMax2, gMin2, gList, gTuple, gIx, Kd.seq, D.ow, Kd.ow, D.get, D.put, Kd.at, itemsOf, fItems, fRng1, fRng3, fEnum, fCall, oCall, takeAll, pinIx, D.erL, D.er, Kd.er, D.clnL, D.cln, Kd.cln, cl2_v, cl2_lst, cl2_tup, D.cl2L, fD0, gTupD, anyOw_nil, anyOw_cons, Bool.or_false, Bool.false_or, dI_eq, nD_eq, pcD_eq, prD_eq, er_prD, ow_prD, c2_prD, cl_prD, erL_dI, er_nD, er_pcD, ow_nD, ow_dI, ow_pcD, c2_nD, c2_dI, c2_pcD, cl_nD, cl_pcD, clnL_dI, List.getD_cons_zero, List.getD_cons_succ, List.set_cons_zero, List.set_cons_succ, List.map_cons, List.map_nil, List.length_cons, List.length_nil, List.length_map, List.replicate, List.append_nil, List.cons_append, List.nil_append, Option.bind_some, Option.map_some, Option.bind_none, Option.map_none, if_true, if_false, Bool.and_true, Bool.true_and, Bool.false_eq_true, reduceIte, reduceCtorEq, decide_true, decide_false, Nat.reduceAdd, Nat.reduceLT, Nat.reduceSub, Nat.reduceLeDiff, ixD_fz]
  have hcl : ClK sh (keptK sh sp) 0 := by
    have := part_closed sh (sp.foldl addK []) hv sh.length (Nat.le_refl _)
    rw [Nat.sub_self] at this
    exact this
  have ec := m_part_c1 sh (partOld sh sp) (some (.n (.lst false) (sp.map nD))) (some (.n (.dct true (((dwn sh.length).foldl (growK sh) (sp.foldl addK [])).map kI)) (((dwn sh.length).foldl (growK sh) (sp.foldl addK [])).map fun _ => .v (.bl true)))) x3 y4 x5 y8 hv (fun i m => (mem_oldK.mp m).1) (fun i m f hf => by
    obtain ⟨h1, h2⟩ := mem_oldK.mp m
    refine mem_oldK.mpr ⟨?_, hcl i (Nat.zero_le _) h2 f hf⟩
    rw [List.getD_eq_getElem?_getD, List.getElem?_eq_getElem h1] at hf
    have := hv.lt i _ (List.getElem?_eq_getElem h1) f hf
    omega) hlen
  rw [ec]
  simp (disch := omega) only [sSeq, sIf, sRet, sAsg, sDrop, sPass, sFor, sForS, sFz, sMut, sMut0, sDPutF, sRaise, fHold, fMove, fFree, fVar, fC, f1, f2, fL, fCons, fNil, oCons, oNil, oTup, oLst, fTup, fLst, fT, fAnd, fOr, fNot, fAndV, fOrV, fNotV, fIf, fChain, fIsN, fNotN, DL.isNon, DL.isG, gSet, gsCons, gsNil, gUn, gUnL, gStore, pNil, pIx, opApp, opClear, opIns, gLen, gLt_ii, gLe_ii, gGt_ii, gGe_ii, gSub_ii, gAdd_ii, gMul_sm, gMod_pos, gDiv_pos, gPow_sm, gEq_ii, gNe_ii, gNeg, sizeLine_eq, gMax2, gMin2, gList, gTuple, gIx, Kd.seq, D.ow, Kd.ow, D.get, D.put, Kd.at, itemsOf, fItems, fRng1, fRng3, fEnum, fCall, oCall, takeAll, pinIx, D.erL, D.er, Kd.er, D.clnL, D.cln, Kd.cln, cl2_v, cl2_lst, cl2_tup, D.cl2L, fD0, gTupD, anyOw_nil, anyOw_cons, Bool.or_false, Bool.false_or, dI_eq, nD_eq, pcD_eq, prD_eq, er_prD, ow_prD, c2_prD, cl_prD, erL_dI, er_nD, er_pcD, ow_nD, ow_dI, ow_pcD, c2_nD, c2_dI, c2_pcD, cl_nD, cl_pcD, clnL_dI, List.getD_cons_zero, List.getD_cons_succ, List.set_cons_zero, List.set_cons_succ, List.map_cons, List.map_nil, List.length_cons, List.length_nil, List.length_map, List.replicate, List.append_nil, List.cons_append, List.nil_append, Option.bind_some, Option.map_some, Option.bind_none, Option.map_none, if_true, if_false, Bool.and_true, Bool.true_and, Bool.false_eq_true, reduceIte, reduceCtorEq, decide_true, decide_false, Nat.reduceAdd, Nat.reduceLT, Nat.reduceSub, Nat.reduceLeDiff, cl_pieces, ow_pieces]
  rfl
end A95

set_option Elab.async false
set_option linter.all false
set_option maxRecDepth 100000
set_option maxHeartbeats 4000000
namespace A95
open DL PySem L2
open PyProof.Rows hiding St
def bD (b : Bool) : D := .v (.bl b)
theorem bD_eq (b : Bool) : bD b = .v (.bl b) := rfl
theorem ixN_nat {n f : Nat} (h : f < n) : ixN n (f : Int) = some f := by
  have e := atI_nat (xs := List.range n) (j := f) (v := f) (by rw [List.getElem?_range h])
  unfold atI at e
  rw [List.length_range] at e
  cases z : ixN n (f : Int) with
  | none => rw [z] at e; cases e
  | some j =>
    rw [z] at e
    have e : (List.range n)[j]? = some f := e
    have hj : j < n := by
      have := (List.getElem?_eq_some_iff.mp e).1
      simpa using this
    rw [List.getElem?_range hj] at e
    exact e
theorem m_lp_c0 (sh : List (List Nat)) (sp : List Nat) (x2 x3 x4 x5 x6 : Option D) (hs : sh.length ≤ 1000) :
    c__law_part_0 [some (.n (.lst false) (sh.map pcD)), some (.n (.lst false) (sp.map nD)), x2, x3, x4, x5, x6] = some (.n (.lst true) (((List.range sh.length).map fun i => decide (i ∈ sp)).map bD)) := by
  unfold c__law_part_0 fLc
  have hb : inBd (sh.length : Int) = true := decide_eq_true (by omega)
  simp (disch := omega) only [sSeq, sIf, sRet, sAsg, sDrop, sPass, sFor, sForS, sFz, sMut, sMut0, sDPutF, sRaise, fHold, fMove, fFree, fVar, fC, f1, f2, fL, fCons, fNil, oCons, oNil, oTup, oLst, fTup, fLst, fT, fAnd, fOr, fNot, fAndV, fOrV, fNotV, fIf, fChain, fIsN, fNotN, DL.isNon, DL.isG, gSet, gsCons, gsNil, gUn, gUnL, gStore, pNil, pIx, opApp, opClear, opIns, gLen, gLt_ii, gLe_ii, gGt_ii, gGe_ii, gSub_ii, gAdd_ii, gMul_sm, gMod_pos, gDiv_pos, gPow_sm, gEq_ii, gNe_ii, gNeg, sizeLine_eq, gMax2, gMin2, gList, gTuple, gIx, Kd.seq, D.ow, Kd.ow, D.get, D.put, Kd.at, itemsOf, fItems, fRng1, fRng3, fEnum, fCall, oCall, takeAll, pinIx, D.erL, D.er, Kd.er, D.clnL, D.cln, Kd.cln, cl2_v, cl2_lst, cl2_tup, D.cl2L, fD0, gTupD, anyOw_nil, anyOw_cons, Bool.or_false, Bool.false_or, dI_eq, nD_eq, pcD_eq, prD_eq, er_prD, ow_prD, c2_prD, cl_prD, erL_dI, er_nD, er_pcD, ow_nD, ow_dI, ow_pcD, c2_nD, c2_dI, c2_pcD, cl_nD, cl_pcD, clnL_dI, List.getD_cons_zero, List.getD_cons_succ, List.set_cons_zero, List.set_cons_succ, List.map_cons, List.map_nil, List.length_cons, List.length_nil, List.length_map, List.replicate, List.append_nil, List.cons_append, List.nil_append, Option.bind_some, Option.map_some, Option.bind_none, Option.map_none, if_true, if_false, Bool.and_true, Bool.true_and, Bool.false_eq_true, reduceIte, reduceCtorEq, decide_true, decide_false, Nat.reduceAdd, Nat.reduceLT, Nat.reduceSub, Nat.reduceLeDiff, hb, Int.toNat_natCast, rngD_nat, fWipe]
  rw [lcL_mapN (g := nD) (k := fun i => bD (decide (i ∈ sp))) _ fun i m => ⟨_, rfl, rfl, ?_⟩]
  · simp only [Option.bind_some, List.length_map, List.length_range]
    rw [if_pos (by omega), List.map_map]
    rfl
  · simp (disch := omega) only [sSeq, sIf, sRet, sAsg, sDrop, sPass, sFor, sForS, sFz, sMut, sMut0, sDPutF, sRaise, fHold, fMove, fFree, fVar, fC, f1, f2, fL, fCons, fNil, oCons, oNil, oTup, oLst, fTup, fLst, fT, fAnd, fOr, fNot, fAndV, fOrV, fNotV, fIf, fChain, fIsN, fNotN, DL.isNon, DL.isG, gSet, gsCons, gsNil, gUn, gUnL, gStore, pNil, pIx, opApp, opClear, opIns, gLen, gLt_ii, gLe_ii, gGt_ii, gGe_ii, gSub_ii, gAdd_ii, gMul_sm, gMod_pos, gDiv_pos, gPow_sm, gEq_ii, gNe_ii, gNeg, sizeLine_eq, gMax2, gMin2, gList, gTuple, gIx, Kd.seq, D.ow, Kd.ow, D.get, D.put, Kd.at, itemsOf, fItems, fRng1, fRng3, fEnum, fCall, oCall, takeAll, pinIx, D.erL, D.er, Kd.er, D.clnL, D.cln, Kd.cln, cl2_v, cl2_lst, cl2_tup, D.cl2L, fD0, gTupD, anyOw_nil, anyOw_cons, Bool.or_false, Bool.false_or, dI_eq, nD_eq, pcD_eq, prD_eq, er_prD, ow_prD, c2_prD, cl_prD, erL_dI, er_nD, er_pcD, ow_nD, ow_dI, ow_pcD, c2_nD, c2_dI, c2_pcD, cl_nD, cl_pcD, clnL_dI, List.getD_cons_zero, List.getD_cons_succ, List.set_cons_zero, List.set_cons_succ, List.map_cons, List.map_nil, List.length_cons, List.length_nil, List.length_map, List.replicate, List.append_nil, List.cons_append, List.nil_append, Option.bind_some, Option.map_some, Option.bind_none, Option.map_none, if_true, if_false, Bool.and_true, Bool.true_and, Bool.false_eq_true, reduceIte, reduceCtorEq, decide_true, decide_false, Nat.reduceAdd, Nat.reduceLT, Nat.reduceSub, Nat.reduceLeDiff, gIn, flatV, flats_nD, in_nat, bD_eq]
abbrev envL (sh : List (List Nat)) (S : D) (B : List Bool) (x3 x4 x5 x6 : Option D) : En := [some (.n (.lst false) (sh.map pcD)), some S, some (.n (.lst true) (B.map bD)), x3, x4, x5, x6]
theorem m_lp_0 (sh : List (List Nat)) (S : D) (B : List Bool) (p : List Nat) (i : Nat) (x4 x5 x6 : Option D) (hs : sh.length ≤ 1000) (hi : sh[i]? = some p) (hp : ∀ f ∈ p, f < sh.length) (hB : B.length = sh.length) :
    ∃ ρ', l__law_part_0 (envL sh S B (some (.v (.int (i : Int)))) x4 x5 x6) = some (.nx ρ') ∧ (∃ x4, ρ' = envL sh S (p.foldl (fun B f => B.set f true) B) (some (.v (.int (i : Int)))) x4 x5 x6) ∧ (p.foldl (fun B f => B.set f true) B).length = sh.length := by
  unfold l__law_part_0 envL
  have e1 : atI (sh.map pcD) (i : Int) = some (pcD p) := at_map (by omega) hi
  simp (disch := omega) only [sSeq, sIf, sRet, sAsg, sDrop, sPass, sFor, sForS, sFz, sMut, sMut0, sDPutF, sRaise, fHold, fMove, fFree, fVar, fC, f1, f2, fL, fCons, fNil, oCons, oNil, oTup, oLst, fTup, fLst, fT, fAnd, fOr, fNot, fAndV, fOrV, fNotV, fIf, fChain, fIsN, fNotN, DL.isNon, DL.isG, gSet, gsCons, gsNil, gUn, gUnL, gStore, pNil, pIx, opApp, opClear, opIns, gLen, gLt_ii, gLe_ii, gGt_ii, gGe_ii, gSub_ii, gAdd_ii, gMul_sm, gMod_pos, gDiv_pos, gPow_sm, gEq_ii, gNe_ii, gNeg, sizeLine_eq, gMax2, gMin2, gList, gTuple, gIx, Kd.seq, D.ow, Kd.ow, D.get, D.put, Kd.at, itemsOf, fItems, fRng1, fRng3, fEnum, fCall, oCall, takeAll, pinIx, D.erL, D.er, Kd.er, D.clnL, D.cln, Kd.cln, cl2_v, cl2_lst, cl2_tup, D.cl2L, fD0, gTupD, anyOw_nil, anyOw_cons, Bool.or_false, Bool.false_or, dI_eq, nD_eq, pcD_eq, prD_eq, er_prD, ow_prD, c2_prD, cl_prD, erL_dI, er_nD, er_pcD, ow_nD, ow_dI, ow_pcD, c2_nD, c2_dI, c2_pcD, cl_nD, cl_pcD, clnL_dI, List.getD_cons_zero, List.getD_cons_succ, List.set_cons_zero, List.set_cons_succ, List.map_cons, List.map_nil, List.length_cons, List.length_nil, List.length_map, List.replicate, List.append_nil, List.cons_append, List.nil_append, Option.bind_some, Option.map_some, Option.bind_none, Option.map_none, if_true, if_false, Bool.and_true, Bool.true_and, Bool.false_eq_true, reduceIte, reduceCtorEq, decide_true, decide_false, Nat.reduceAdd, Nat.reduceLT, Nat.reduceSub, Nat.reduceLeDiff, e1]
  have := for_fold (h := gSet 4) (bd := sAsg (fHold (fC (V.bl true))) (gStore 2 pNil (fVar 4))) (g := nD) (fun B ρ => (∃ x4, ρ = envL sh S B (some (.v (.int (i : Int)))) x4 x5 x6) ∧ B.length = sh.length) (fun B f => B.set f true) p B (envL sh S B (some (.v (.int (i : Int)))) x4 x5 x6) ?_ ⟨⟨x4, rfl⟩, hB⟩
  · exact this
  · rintro B f ρ hf ⟨⟨x4, rfl⟩, hB⟩
    have hf := hp f hf
    have ei : ixN sh.length (f : Int) = some f := ixN_nat hf
    refine turn1 rfl ?_
    simp (disch := omega) only [sSeq, sIf, sRet, sAsg, sDrop, sPass, sFor, sForS, sFz, sMut, sMut0, sDPutF, sRaise, fHold, fMove, fFree, fVar, fC, f1, f2, fL, fCons, fNil, oCons, oNil, oTup, oLst, fTup, fLst, fT, fAnd, fOr, fNot, fAndV, fOrV, fNotV, fIf, fChain, fIsN, fNotN, DL.isNon, DL.isG, gSet, gsCons, gsNil, gUn, gUnL, gStore, pNil, pIx, opApp, opClear, opIns, gLen, gLt_ii, gLe_ii, gGt_ii, gGe_ii, gSub_ii, gAdd_ii, gMul_sm, gMod_pos, gDiv_pos, gPow_sm, gEq_ii, gNe_ii, gNeg, sizeLine_eq, gMax2, gMin2, gList, gTuple, gIx, Kd.seq, D.ow, Kd.ow, D.get, D.put, Kd.at, itemsOf, fItems, fRng1, fRng3, fEnum, fCall, oCall, takeAll, pinIx, D.erL, D.er, Kd.er, D.clnL, D.cln, Kd.cln, cl2_v, cl2_lst, cl2_tup, D.cl2L, fD0, gTupD, anyOw_nil, anyOw_cons, Bool.or_false, Bool.false_or, dI_eq, nD_eq, pcD_eq, prD_eq, er_prD, ow_prD, c2_prD, cl_prD, erL_dI, er_nD, er_pcD, ow_nD, ow_dI, ow_pcD, c2_nD, c2_dI, c2_pcD, cl_nD, cl_pcD, clnL_dI, List.getD_cons_zero, List.getD_cons_succ, List.set_cons_zero, List.set_cons_succ, List.map_cons, List.map_nil, List.length_cons, List.length_nil, List.length_map, List.replicate, List.append_nil, List.cons_append, List.nil_append, Option.bind_some, Option.map_some, Option.bind_none, Option.map_none, if_true, if_false, Bool.and_true, Bool.true_and, Bool.false_eq_true, reduceIte, reduceCtorEq, decide_true, decide_false, Nat.reduceAdd, Nat.reduceLT, Nat.reduceSub, Nat.reduceLeDiff, hB, ei]
    exact ⟨_, rfl, ⟨some (nD f), by simp [envL, List.map_set, bD, nD]⟩, by simp [hB]⟩
theorem m_lp_1 (sh : List (List Nat)) (S : D) (B : List Bool) (x3 x4 x5 x6 : Option D) (hv : Sh sh) (hs : sh.length ≤ 1000) (hB : B.length = sh.length) :
    ∃ ρ', l__law_part_1 (envL sh S B x3 x4 x5 x6) = some (.nx ρ') ∧ (∃ x3 x4, ρ' = envL sh S ((dwn sh.length).foldl (growB sh) B) x3 x4 x5 x6) ∧ ((dwn sh.length).foldl (growB sh) B).length = sh.length := by
  unfold l__law_part_1 envL
  have hb : inBd (sh.length : Int) = true := decide_eq_true (by omega)
  have hb0 : inBd 0 = true := by decide
  have h1 : (((sh.length : Int) - 0).toNat) = sh.length := by omega
  have h2 : (0 + (sh.length : Int) - 1) = (sh.length : Int) - 1 := by omega
  simp (disch := omega) only [sSeq, sIf, sRet, sAsg, sDrop, sPass, sFor, sForS, sFz, sMut, sMut0, sDPutF, sRaise, fHold, fMove, fFree, fVar, fC, f1, f2, fL, fCons, fNil, oCons, oNil, oTup, oLst, fTup, fLst, fT, fAnd, fOr, fNot, fAndV, fOrV, fNotV, fIf, fChain, fIsN, fNotN, DL.isNon, DL.isG, gSet, gsCons, gsNil, gUn, gUnL, gStore, pNil, pIx, opApp, opClear, opIns, gLen, gLt_ii, gLe_ii, gGt_ii, gGe_ii, gSub_ii, gAdd_ii, gMul_sm, gMod_pos, gDiv_pos, gPow_sm, gEq_ii, gNe_ii, gNeg, sizeLine_eq, gMax2, gMin2, gList, gTuple, gIx, Kd.seq, D.ow, Kd.ow, D.get, D.put, Kd.at, itemsOf, fItems, fRng1, fRng3, fEnum, fCall, oCall, takeAll, pinIx, D.erL, D.er, Kd.er, D.clnL, D.cln, Kd.cln, cl2_v, cl2_lst, cl2_tup, D.cl2L, fD0, gTupD, anyOw_nil, anyOw_cons, Bool.or_false, Bool.false_or, dI_eq, nD_eq, pcD_eq, prD_eq, er_prD, ow_prD, c2_prD, cl_prD, erL_dI, er_nD, er_pcD, ow_nD, ow_dI, ow_pcD, c2_nD, c2_dI, c2_pcD, cl_nD, cl_pcD, clnL_dI, List.getD_cons_zero, List.getD_cons_succ, List.set_cons_zero, List.set_cons_succ, List.map_cons, List.map_nil, List.length_cons, List.length_nil, List.length_map, List.replicate, List.append_nil, List.cons_append, List.nil_append, Option.bind_some, Option.map_some, Option.bind_none, Option.map_none, if_true, if_false, Bool.and_true, Bool.true_and, Bool.false_eq_true, reduceIte, reduceCtorEq, decide_true, decide_false, Nat.reduceAdd, Nat.reduceLT, Nat.reduceSub, Nat.reduceLeDiff, fRevR, r1F, hb, hb0, h1, h2, downD_dwn]
  have := for_fold (h := gSet 3) (bd := sIf (fT (f2 gIx (fVar 2) (fVar 3))) l__law_part_0 sPass) (g := nD) (fun B ρ => (∃ x3 x4, ρ = envL sh S B x3 x4 x5 x6) ∧ B.length = sh.length) (growB sh) (dwn sh.length) B (envL sh S B x3 x4 x5 x6) ?_ ⟨⟨x3, x4, rfl⟩, hB⟩
  · exact this
  · rintro B i ρ hi ⟨⟨x3, x4, rfl⟩, hB⟩
    have hi : i < sh.length := by
      unfold dwn at hi
      obtain ⟨j, hj, rfl⟩ := List.mem_map.mp hi
      rw [List.mem_range] at hj
      omega
    have hg : sh[i]? = some sh[i] := List.getElem?_eq_getElem hi
    have hBi : B[i]? = some (B.getD i false) := by
      rw [List.getD_eq_getElem?_getD, List.getElem?_eq_getElem (by omega)]; rfl
    have ea : atI (B.map bD) (i : Int) = some (bD (B.getD i false)) := at_map (by omega) hBi
    refine turn1 rfl ?_
    have ht : fT (f2 gIx (fVar 2) (fVar 3)) (envL sh S B (some (.v (.int (i : Int)))) x4 x5 x6) = some (B.getD i false) := by
      unfold fT f2 fVar envL
      simp (disch := omega) only [sSeq, sIf, sRet, sAsg, sDrop, sPass, sFor, sForS, sFz, sMut, sMut0, sDPutF, sRaise, fHold, fMove, fFree, fVar, fC, f1, f2, fL, fCons, fNil, oCons, oNil, oTup, oLst, fTup, fLst, fT, fAnd, fOr, fNot, fAndV, fOrV, fNotV, fIf, fChain, fIsN, fNotN, DL.isNon, DL.isG, gSet, gsCons, gsNil, gUn, gUnL, gStore, pNil, pIx, opApp, opClear, opIns, gLen, gLt_ii, gLe_ii, gGt_ii, gGe_ii, gSub_ii, gAdd_ii, gMul_sm, gMod_pos, gDiv_pos, gPow_sm, gEq_ii, gNe_ii, gNeg, sizeLine_eq, gMax2, gMin2, gList, gTuple, gIx, Kd.seq, D.ow, Kd.ow, D.get, D.put, Kd.at, itemsOf, fItems, fRng1, fRng3, fEnum, fCall, oCall, takeAll, pinIx, D.erL, D.er, Kd.er, D.clnL, D.cln, Kd.cln, cl2_v, cl2_lst, cl2_tup, D.cl2L, fD0, gTupD, anyOw_nil, anyOw_cons, Bool.or_false, Bool.false_or, dI_eq, nD_eq, pcD_eq, prD_eq, er_prD, ow_prD, c2_prD, cl_prD, erL_dI, er_nD, er_pcD, ow_nD, ow_dI, ow_pcD, c2_nD, c2_dI, c2_pcD, cl_nD, cl_pcD, clnL_dI, List.getD_cons_zero, List.getD_cons_succ, List.set_cons_zero, List.set_cons_succ, List.map_cons, List.map_nil, List.length_cons, List.length_nil, List.length_map, List.replicate, List.append_nil, List.cons_append, List.nil_append, Option.bind_some, Option.map_some, Option.bind_none, Option.map_none, if_true, if_false, Bool.and_true, Bool.true_and, Bool.false_eq_true, reduceIte, reduceCtorEq, decide_true, decide_false, Nat.reduceAdd, Nat.reduceLT, Nat.reduceSub, Nat.reduceLeDiff, ea, bD_eq]
    show ∃ ρ2, (fT (f2 gIx (fVar 2) (fVar 3)) (envL sh S B (some (.v (.int (i : Int)))) x4 x5 x6)).bind (fun k => if k = true then l__law_part_0 (envL sh S B (some (.v (.int (i : Int)))) x4 x5 x6) else sPass (envL sh S B (some (.v (.int (i : Int)))) x4 x5 x6)) = some (.nx ρ2) ∧ _
    rw [ht]
    unfold growB
    rw [show sh.getD i [] = sh[i] from by rw [List.getD_eq_getElem?_getD, hg]; rfl]
    cases h : B.getD i false with
    | true =>
      simp only [Option.bind_some, if_true]
      obtain ⟨ρ', e, ⟨y4, rfl⟩, hk⟩ := m_lp_0 sh S B sh[i] i x4 x5 x6 hs hg (fun f m => by have := hv.lt i _ hg f m; omega) hB
      exact ⟨_, e, ⟨_, _, rfl⟩, hk⟩
    | false =>
      simp only [Option.bind_some, Bool.false_eq_true, if_false]
      exact ⟨_, rfl, ⟨_, _, rfl⟩, hB⟩
theorem m_lp_c1 (sh : List (List Nat)) (S : D) (B : List Bool) (x3 x4 x5 x6 : Option D) (hs : sh.length ≤ 1000) (hB : B.length = sh.length) :
    c__law_part_1 (envL sh S B x3 x4 x5 x6) = some (.n (.lst true) (((List.range sh.length).filter fun i => B.getD i false).map nD)) := by
  unfold c__law_part_1 fLc envL
  have hb : inBd (sh.length : Int) = true := decide_eq_true (by omega)
  simp (disch := omega) only [sSeq, sIf, sRet, sAsg, sDrop, sPass, sFor, sForS, sFz, sMut, sMut0, sDPutF, sRaise, fHold, fMove, fFree, fVar, fC, f1, f2, fL, fCons, fNil, oCons, oNil, oTup, oLst, fTup, fLst, fT, fAnd, fOr, fNot, fAndV, fOrV, fNotV, fIf, fChain, fIsN, fNotN, DL.isNon, DL.isG, gSet, gsCons, gsNil, gUn, gUnL, gStore, pNil, pIx, opApp, opClear, opIns, gLen, gLt_ii, gLe_ii, gGt_ii, gGe_ii, gSub_ii, gAdd_ii, gMul_sm, gMod_pos, gDiv_pos, gPow_sm, gEq_ii, gNe_ii, gNeg, sizeLine_eq, gMax2, gMin2, gList, gTuple, gIx, Kd.seq, D.ow, Kd.ow, D.get, D.put, Kd.at, itemsOf, fItems, fRng1, fRng3, fEnum, fCall, oCall, takeAll, pinIx, D.erL, D.er, Kd.er, D.clnL, D.cln, Kd.cln, cl2_v, cl2_lst, cl2_tup, D.cl2L, fD0, gTupD, anyOw_nil, anyOw_cons, Bool.or_false, Bool.false_or, dI_eq, nD_eq, pcD_eq, prD_eq, er_prD, ow_prD, c2_prD, cl_prD, erL_dI, er_nD, er_pcD, ow_nD, ow_dI, ow_pcD, c2_nD, c2_dI, c2_pcD, cl_nD, cl_pcD, clnL_dI, List.getD_cons_zero, List.getD_cons_succ, List.set_cons_zero, List.set_cons_succ, List.map_cons, List.map_nil, List.length_cons, List.length_nil, List.length_map, List.replicate, List.append_nil, List.cons_append, List.nil_append, Option.bind_some, Option.map_some, Option.bind_none, Option.map_none, if_true, if_false, Bool.and_true, Bool.true_and, Bool.false_eq_true, reduceIte, reduceCtorEq, decide_true, decide_false, Nat.reduceAdd, Nat.reduceLT, Nat.reduceSub, Nat.reduceLeDiff, hb, Int.toNat_natCast, rngD_nat, fWipe]
  rw [lcL_filN (g := nD) (k := nD) (p := fun i => B.getD i false) _ fun i m => ⟨_, rfl, ?_, fun _ => rfl⟩]
  · simp only [Option.bind_some, List.length_map]
    have := List.length_filter_le (fun i => B.getD i false) (List.range sh.length)
    rw [List.length_range] at this
    rw [if_pos (by omega)]
  · rw [List.mem_range] at m
    have hBi : B[i]? = some (B.getD i false) := by
      rw [List.getD_eq_getElem?_getD, List.getElem?_eq_getElem (by omega)]; rfl
    have ea : atI (B.map bD) (i : Int) = some (bD (B.getD i false)) := at_map (by omega) hBi
    simp (disch := omega) only [sSeq, sIf, sRet, sAsg, sDrop, sPass, sFor, sForS, sFz, sMut, sMut0, sDPutF, sRaise, fHold, fMove, fFree, fVar, fC, f1, f2, fL, fCons, fNil, oCons, oNil, oTup, oLst, fTup, fLst, fT, fAnd, fOr, fNot, fAndV, fOrV, fNotV, fIf, fChain, fIsN, fNotN, DL.isNon, DL.isG, gSet, gsCons, gsNil, gUn, gUnL, gStore, pNil, pIx, opApp, opClear, opIns, gLen, gLt_ii, gLe_ii, gGt_ii, gGe_ii, gSub_ii, gAdd_ii, gMul_sm, gMod_pos, gDiv_pos, gPow_sm, gEq_ii, gNe_ii, gNeg, sizeLine_eq, gMax2, gMin2, gList, gTuple, gIx, Kd.seq, D.ow, Kd.ow, D.get, D.put, Kd.at, itemsOf, fItems, fRng1, fRng3, fEnum, fCall, oCall, takeAll, pinIx, D.erL, D.er, Kd.er, D.clnL, D.cln, Kd.cln, cl2_v, cl2_lst, cl2_tup, D.cl2L, fD0, gTupD, anyOw_nil, anyOw_cons, Bool.or_false, Bool.false_or, dI_eq, nD_eq, pcD_eq, prD_eq, er_prD, ow_prD, c2_prD, cl_prD, erL_dI, er_nD, er_pcD, ow_nD, ow_dI, ow_pcD, c2_nD, c2_dI, c2_pcD, cl_nD, cl_pcD, clnL_dI, List.getD_cons_zero, List.getD_cons_succ, List.set_cons_zero, List.set_cons_succ, List.map_cons, List.map_nil, List.length_cons, List.length_nil, List.length_map, List.replicate, List.append_nil, List.cons_append, List.nil_append, Option.bind_some, Option.map_some, Option.bind_none, Option.map_none, if_true, if_false, Bool.and_true, Bool.true_and, Bool.false_eq_true, reduceIte, reduceCtorEq, decide_true, decide_false, Nat.reduceAdd, Nat.reduceLT, Nat.reduceSub, Nat.reduceLeDiff, ea, bD_eq]
theorem m_lp_c2 (sh : List (List Nat)) (old p : List Nat) (i : Nat) (x1 x2 x4 x6 : Option D) (hi : sh[i]? = some p) (hp : ∀ f ∈ p, f ∈ old) (hl : p.length ≤ 4) :
    c__law_part_2 [some (.n (.lst false) (sh.map pcD)), x1, x2, some (.v (.int (i : Int))), x4, some (.n (.lst true) (old.map nD)), x6] = some (.n (.lst true) ((p.map old.idxOf).map nD)) := by
  unfold c__law_part_2 fLc
  have e1 : atI (sh.map pcD) (i : Int) = some (pcD p) := at_map (by omega) hi
  simp (disch := omega) only [sSeq, sIf, sRet, sAsg, sDrop, sPass, sFor, sForS, sFz, sMut, sMut0, sDPutF, sRaise, fHold, fMove, fFree, fVar, fC, f1, f2, fL, fCons, fNil, oCons, oNil, oTup, oLst, fTup, fLst, fT, fAnd, fOr, fNot, fAndV, fOrV, fNotV, fIf, fChain, fIsN, fNotN, DL.isNon, DL.isG, gSet, gsCons, gsNil, gUn, gUnL, gStore, pNil, pIx, opApp, opClear, opIns, gLen, gLt_ii, gLe_ii, gGt_ii, gGe_ii, gSub_ii, gAdd_ii, gMul_sm, gMod_pos, gDiv_pos, gPow_sm, gEq_ii, gNe_ii, gNeg, sizeLine_eq, gMax2, gMin2, gList, gTuple, gIx, Kd.seq, D.ow, Kd.ow, D.get, D.put, Kd.at, itemsOf, fItems, fRng1, fRng3, fEnum, fCall, oCall, takeAll, pinIx, D.erL, D.er, Kd.er, D.clnL, D.cln, Kd.cln, cl2_v, cl2_lst, cl2_tup, D.cl2L, fD0, gTupD, anyOw_nil, anyOw_cons, Bool.or_false, Bool.false_or, dI_eq, nD_eq, pcD_eq, prD_eq, er_prD, ow_prD, c2_prD, cl_prD, erL_dI, er_nD, er_pcD, ow_nD, ow_dI, ow_pcD, c2_nD, c2_dI, c2_pcD, cl_nD, cl_pcD, clnL_dI, List.getD_cons_zero, List.getD_cons_succ, List.set_cons_zero, List.set_cons_succ, List.map_cons, List.map_nil, List.length_cons, List.length_nil, List.length_map, List.replicate, List.append_nil, List.cons_append, List.nil_append, Option.bind_some, Option.map_some, Option.bind_none, Option.map_none, if_true, if_false, Bool.and_true, Bool.true_and, Bool.false_eq_true, reduceIte, reduceCtorEq, decide_true, decide_false, Nat.reduceAdd, Nat.reduceLT, Nat.reduceSub, Nat.reduceLeDiff, e1, fWipe]
  rw [lcL_mapN (g := nD) (k := fun x => nD (old.idxOf x)) p fun x m => ⟨_, rfl, rfl, ?_⟩]
  · simp only [Option.bind_some, List.length_map]
    rw [if_pos (by omega), List.map_map]
    rfl
  · simp (disch := omega) only [sSeq, sIf, sRet, sAsg, sDrop, sPass, sFor, sForS, sFz, sMut, sMut0, sDPutF, sRaise, fHold, fMove, fFree, fVar, fC, f1, f2, fL, fCons, fNil, oCons, oNil, oTup, oLst, fTup, fLst, fT, fAnd, fOr, fNot, fAndV, fOrV, fNotV, fIf, fChain, fIsN, fNotN, DL.isNon, DL.isG, gSet, gsCons, gsNil, gUn, gUnL, gStore, pNil, pIx, opApp, opClear, opIns, gLen, gLt_ii, gLe_ii, gGt_ii, gGe_ii, gSub_ii, gAdd_ii, gMul_sm, gMod_pos, gDiv_pos, gPow_sm, gEq_ii, gNe_ii, gNeg, sizeLine_eq, gMax2, gMin2, gList, gTuple, gIx, Kd.seq, D.ow, Kd.ow, D.get, D.put, Kd.at, itemsOf, fItems, fRng1, fRng3, fEnum, fCall, oCall, takeAll, pinIx, D.erL, D.er, Kd.er, D.clnL, D.cln, Kd.cln, cl2_v, cl2_lst, cl2_tup, D.cl2L, fD0, gTupD, anyOw_nil, anyOw_cons, Bool.or_false, Bool.false_or, dI_eq, nD_eq, pcD_eq, prD_eq, er_prD, ow_prD, c2_prD, cl_prD, erL_dI, er_nD, er_pcD, ow_nD, ow_dI, ow_pcD, c2_nD, c2_dI, c2_pcD, cl_nD, cl_pcD, clnL_dI, List.getD_cons_zero, List.getD_cons_succ, List.set_cons_zero, List.set_cons_succ, List.map_cons, List.map_nil, List.length_cons, List.length_nil, List.length_map, List.replicate, List.append_nil, List.cons_append, List.nil_append, Option.bind_some, Option.map_some, Option.bind_none, Option.map_none, if_true, if_false, Bool.and_true, Bool.true_and, Bool.false_eq_true, reduceIte, reduceCtorEq, decide_true, decide_false, Nat.reduceAdd, Nat.reduceLT, Nat.reduceSub, Nat.reduceLeDiff, fIndex, kList, flatV, flats_nD, idx_nat old x (hp x m)]
def pcs (sh : List (List Nat)) (old xs : List Nat) : List D := xs.map fun i => pcD ((sh.getD i []).map old.idxOf)
theorem pcs_len (sh : List (List Nat)) (old xs : List Nat) : (pcs sh old xs).length = xs.length := List.length_map _
theorem m_lp_2 (sh : List (List Nat)) (x1 x2 x3 x4 : Option D) (old : List Nat) (hv : Sh sh) (ho : ∀ i ∈ old, i < sh.length) (hc : ∀ i ∈ old, ∀ f ∈ sh.getD i [], f ∈ old) (hs : old.length ≤ 1000) :
    ∃ ρ', l__law_part_2 [some (.n (.lst false) (sh.map pcD)), x1, x2, x3, x4, some (.n (.lst true) (old.map nD)), some (.n (.lst true) [])] = some (.nx ρ') ∧ ∃ x3, ρ' = [some (.n (.lst false) (sh.map pcD)), x1, x2, x3, x4, some (.n (.lst true) (old.map nD)), some (.n (.lst true) (piecesD sh old))] := by
  unfold l__law_part_2 sForS
  simp (disch := omega) only [sSeq, sIf, sRet, sAsg, sDrop, sPass, sFor, sForS, sFz, sMut, sMut0, sDPutF, sRaise, fHold, fMove, fFree, fVar, fC, f1, f2, fL, fCons, fNil, oCons, oNil, oTup, oLst, fTup, fLst, fT, fAnd, fOr, fNot, fAndV, fOrV, fNotV, fIf, fChain, fIsN, fNotN, DL.isNon, DL.isG, gSet, gsCons, gsNil, gUn, gUnL, gStore, pNil, pIx, opApp, opClear, opIns, gLen, gLt_ii, gLe_ii, gGt_ii, gGe_ii, gSub_ii, gAdd_ii, gMul_sm, gMod_pos, gDiv_pos, gPow_sm, gEq_ii, gNe_ii, gNeg, sizeLine_eq, gMax2, gMin2, gList, gTuple, gIx, Kd.seq, D.ow, Kd.ow, D.get, D.put, Kd.at, itemsOf, fItems, fRng1, fRng3, fEnum, fCall, oCall, takeAll, pinIx, D.erL, D.er, Kd.er, D.clnL, D.cln, Kd.cln, cl2_v, cl2_lst, cl2_tup, D.cl2L, fD0, gTupD, anyOw_nil, anyOw_cons, Bool.or_false, Bool.false_or, dI_eq, nD_eq, pcD_eq, prD_eq, er_prD, ow_prD, c2_prD, cl_prD, erL_dI, er_nD, er_pcD, ow_nD, ow_dI, ow_pcD, c2_nD, c2_dI, c2_pcD, cl_nD, cl_pcD, clnL_dI, List.getD_cons_zero, List.getD_cons_succ, List.set_cons_zero, List.set_cons_succ, List.map_cons, List.map_nil, List.length_cons, List.length_nil, List.length_map, List.replicate, List.append_nil, List.cons_append, List.nil_append, Option.bind_some, Option.map_some, Option.bind_none, Option.map_none, if_true, if_false, Bool.and_true, Bool.true_and, Bool.false_eq_true, reduceIte, reduceCtorEq, decide_true, decide_false, Nat.reduceAdd, Nat.reduceLT, Nat.reduceSub, Nat.reduceLeDiff]
  have key := forS_inv (items := old.map nD) (i := 5) (d0 := some (.n (.lst true) (old.map nD))) (h := gSet 3) (b := sDrop (sMut 6 pNil (oCons (fHold (fL gTuple (fCons c__law_part_2 fNil))) oNil) opApp)) (ρ := [some (.n (.lst false) (sh.map pcD)), x1, x2, x3, x4, some (.n (.lst true) (old.map nD)), some (.n (.lst true) [])])
    (fun dn ρ => ∃ x3, ρ = [some (.n (.lst false) (sh.map pcD)), x1, x2, x3, x4, some (.n (.lst true) (old.map nD)), some (.n (.lst true) (pcs sh old (old.take dn.length)))]) (fun dn ρ ⟨x3, e⟩ => by rw [e]; rfl) ?_ ⟨x3, rfl⟩
  · obtain ⟨ρ', e, x3', e2⟩ := key
    refine ⟨ρ', e, x3', ?_⟩
    rw [e2, List.length_map, List.take_length]
    rfl
  · rintro dn d rest ρ hsp ⟨x3, rfl⟩
    have hdn : dn.length < old.length := by
      have := congrArg List.length hsp
      simp at this
      omega
    have hd : d = nD old[dn.length] := by
      have e : (old.map nD)[dn.length]? = some d := by rw [hsp]; simp
      rw [List.getElem?_map, List.getElem?_eq_getElem hdn] at e
      exact (Option.some.inj e).symm
    subst hd
    have m := List.getElem_mem hdn
    have hi := ho _ m
    have hg : sh[old[dn.length]]? = some sh[old[dn.length]] := List.getElem?_eq_getElem hi
    have hgd : sh.getD old[dn.length] [] = sh[old[dn.length]] := by rw [List.getD_eq_getElem?_getD, hg]; rfl
    have e := m_lp_c2 sh old sh[old[dn.length]] old[dn.length] x1 x2 x4 (some (.n (.lst true) (pcs sh old (old.take dn.length)))) hg (by rw [← hgd]; exact hc _ m) (by have := hv.ln _ (List.getElem_mem hi); omega)
    have hz : dn.length < 16777216 := by omega
    have hmin : min dn.length old.length = dn.length := by omega
    refine turn1 rfl ?_
    simp (disch := omega) only [sSeq, sIf, sRet, sAsg, sDrop, sPass, sFor, sForS, sFz, sMut, sMut0, sDPutF, sRaise, fHold, fMove, fFree, fVar, fC, f1, f2, fL, fCons, fNil, oCons, oNil, oTup, oLst, fTup, fLst, fT, fAnd, fOr, fNot, fAndV, fOrV, fNotV, fIf, fChain, fIsN, fNotN, DL.isNon, DL.isG, gSet, gsCons, gsNil, gUn, gUnL, gStore, pNil, pIx, opApp, opClear, opIns, gLen, gLt_ii, gLe_ii, gGt_ii, gGe_ii, gSub_ii, gAdd_ii, gMul_sm, gMod_pos, gDiv_pos, gPow_sm, gEq_ii, gNe_ii, gNeg, sizeLine_eq, gMax2, gMin2, gList, gTuple, gIx, Kd.seq, D.ow, Kd.ow, D.get, D.put, Kd.at, itemsOf, fItems, fRng1, fRng3, fEnum, fCall, oCall, takeAll, pinIx, D.erL, D.er, Kd.er, D.clnL, D.cln, Kd.cln, cl2_v, cl2_lst, cl2_tup, D.cl2L, fD0, gTupD, anyOw_nil, anyOw_cons, Bool.or_false, Bool.false_or, dI_eq, nD_eq, pcD_eq, prD_eq, er_prD, ow_prD, c2_prD, cl_prD, erL_dI, er_nD, er_pcD, ow_nD, ow_dI, ow_pcD, c2_nD, c2_dI, c2_pcD, cl_nD, cl_pcD, clnL_dI, List.getD_cons_zero, List.getD_cons_succ, List.set_cons_zero, List.set_cons_succ, List.map_cons, List.map_nil, List.length_cons, List.length_nil, List.length_map, List.replicate, List.append_nil, List.cons_append, List.nil_append, Option.bind_some, Option.map_some, Option.bind_none, Option.map_none, if_true, if_false, Bool.and_true, Bool.true_and, Bool.false_eq_true, reduceIte, reduceCtorEq, decide_true, decide_false, Nat.reduceAdd, Nat.reduceLT, Nat.reduceSub, Nat.reduceLeDiff, e, pcs_len, List.length_take, hmin, hz]
    refine ⟨_, rfl, some (nD old[dn.length]), ?_⟩
    rw [List.length_append, List.length_singleton, List.take_succ_eq_append_getElem hdn]
    unfold pcs
    rw [List.map_append, List.map_singleton, hgd]
    rfl
theorem m_lpart (sh : List (List Nat)) (sp : List Nat) (hv : Sh sh) (hs : sh.length < 64) (hsp : ∀ f ∈ sp, f < sh.length) :
    p__law_part [.n (.lst false) (sh.map pcD), .n (.lst false) (sp.map nD)] = some (.ret (partD sh (partOld sh sp)) []) := by
  unfold p__law_part fnG b__law_part
  simp (disch := omega) only [sSeq, sIf, sRet, sAsg, sDrop, sPass, sFor, sForS, sFz, sMut, sMut0, sDPutF, sRaise, fHold, fMove, fFree, fVar, fC, f1, f2, fL, fCons, fNil, oCons, oNil, oTup, oLst, fTup, fLst, fT, fAnd, fOr, fNot, fAndV, fOrV, fNotV, fIf, fChain, fIsN, fNotN, DL.isNon, DL.isG, gSet, gsCons, gsNil, gUn, gUnL, gStore, pNil, pIx, opApp, opClear, opIns, gLen, gLt_ii, gLe_ii, gGt_ii, gGe_ii, gSub_ii, gAdd_ii, gMul_sm, gMod_pos, gDiv_pos, gPow_sm, gEq_ii, gNe_ii, gNeg, sizeLine_eq, gMax2, gMin2, gList, gTuple, gIx, Kd.seq, D.ow, Kd.ow, D.get, D.put, Kd.at, itemsOf, fItems, fRng1, fRng3, fEnum, fCall, oCall, takeAll, pinIx, D.erL, D.er, Kd.er, D.clnL, D.cln, Kd.cln, cl2_v, cl2_lst, cl2_tup, D.cl2L, fD0, gTupD, anyOw_nil, anyOw_cons, Bool.or_false, Bool.false_or, dI_eq, nD_eq, pcD_eq, prD_eq, er_prD, ow_prD, c2_prD, cl_prD, erL_dI, er_nD, er_pcD, ow_nD, ow_dI, ow_pcD, c2_nD, c2_dI, c2_pcD, cl_nD, cl_pcD, clnL_dI, List.getD_cons_zero, List.getD_cons_succ, List.set_cons_zero, List.set_cons_succ, List.map_cons, List.map_nil, List.length_cons, List.length_nil, List.length_map, List.replicate, List.append_nil, List.cons_append, List.nil_append, Option.bind_some, Option.map_some, Option.bind_none, Option.map_none, if_true, if_false, Bool.and_true, Bool.true_and, Bool.false_eq_true, reduceIte, reduceCtorEq, decide_true, decide_false, Nat.reduceAdd, Nat.reduceLT, Nat.reduceSub, Nat.reduceLeDiff]
  rw [m_lp_c0 sh sp _ _ _ _ _ (by omega)]
  simp (disch := omega) only [sSeq, sIf, sRet, sAsg, sDrop, sPass, sFor, sForS, sFz, sMut, sMut0, sDPutF, sRaise, fHold, fMove, fFree, fVar, fC, f1, f2, fL, fCons, fNil, oCons, oNil, oTup, oLst, fTup, fLst, fT, fAnd, fOr, fNot, fAndV, fOrV, fNotV, fIf, fChain, fIsN, fNotN, DL.isNon, DL.isG, gSet, gsCons, gsNil, gUn, gUnL, gStore, pNil, pIx, opApp, opClear, opIns, gLen, gLt_ii, gLe_ii, gGt_ii, gGe_ii, gSub_ii, gAdd_ii, gMul_sm, gMod_pos, gDiv_pos, gPow_sm, gEq_ii, gNe_ii, gNeg, sizeLine_eq, gMax2, gMin2, gList, gTuple, gIx, Kd.seq, D.ow, Kd.ow, D.get, D.put, Kd.at, itemsOf, fItems, fRng1, fRng3, fEnum, fCall, oCall, takeAll, pinIx, D.erL, D.er, Kd.er, D.clnL, D.cln, Kd.cln, cl2_v, cl2_lst, cl2_tup, D.cl2L, fD0, gTupD, anyOw_nil, anyOw_cons, Bool.or_false, Bool.false_or, dI_eq, nD_eq, pcD_eq, prD_eq, er_prD, ow_prD, c2_prD, cl_prD, erL_dI, er_nD, er_pcD, ow_nD, ow_dI, ow_pcD, c2_nD, c2_dI, c2_pcD, cl_nD, cl_pcD, clnL_dI, List.getD_cons_zero, List.getD_cons_succ, List.set_cons_zero, List.set_cons_succ, List.map_cons, List.map_nil, List.length_cons, List.length_nil, List.length_map, List.replicate, List.append_nil, List.cons_append, List.nil_append, Option.bind_some, Option.map_some, Option.bind_none, Option.map_none, if_true, if_false, Bool.and_true, Bool.true_and, Bool.false_eq_true, reduceIte, reduceCtorEq, decide_true, decide_false, Nat.reduceAdd, Nat.reduceLT, Nat.reduceSub, Nat.reduceLeDiff]
  have hB0 : ((List.range sh.length).map fun i => decide (i ∈ sp)).length = sh.length := by simp
  obtain ⟨ρ1, e1, ⟨x3, x4, rfl⟩, hB⟩ := m_lp_1 sh (.n (.lst false) (sp.map nD)) ((List.range sh.length).map fun i => decide (i ∈ sp)) none none none none hv (by omega) hB0
  unfold envL at e1
  rw [e1]
  simp only [Option.bind_some]
  -- the same places
  have hK0 : KB sh.length (sp.foldl addK []) ((List.range sh.length).map fun i => decide (i ∈ sp)) := by
    refine ⟨?_, fun k m => ?_, hB0, fun i hi => ?_⟩
    · have : ∀ (xs K : List Nat), K.Nodup → (xs.foldl addK K).Nodup := fun xs => by
        induction xs with
        | nil => intro K h; exact h
        | cons x xs ih => intro K h; exact ih _ (addK_nodup h)
      exact this sp [] List.nodup_nil
    · rw [mem_adds] at m
      rcases m with m | m
      · exact nomatch m
      · exact hsp k m
    · rw [mem_adds, List.getD_eq_getElem?_getD, List.getElem?_map, List.getElem?_range hi]
      simp
  have hKB : ∀ (is K : List Nat) (B : List Bool), (∀ i ∈ is, i < sh.length) → KB sh.length K B → KB sh.length (is.foldl (growK sh) K) (is.foldl (growB sh) B) := fun is => by
    induction is with
    | nil => intro K B _ h; exact h
    | cons i is ih =>
      intro K B hi h
      refine ih _ _ (fun j m => hi j (List.mem_cons_of_mem _ m)) (h.step (hi i List.mem_cons_self) fun f m => ?_)
      have hlt := hi i List.mem_cons_self
      rw [List.getD_eq_getElem?_getD, List.getElem?_eq_getElem hlt] at m
      have := hv.lt i _ (List.getElem?_eq_getElem hlt) f m
      omega
  have hd : ∀ i ∈ dwn sh.length, i < sh.length := fun i m => by
    unfold dwn at m
    obtain ⟨j, hj, rfl⟩ := List.mem_map.mp m
    rw [List.mem_range] at hj
    omega
  have hfin := hKB (dwn sh.length) _ _ hd hK0
  have hold : ((List.range sh.length).filter fun i => ((dwn sh.length).foldl (growB sh) ((List.range sh.length).map fun i => decide (i ∈ sp))).getD i false) = partOld sh sp := by
    unfold partOld oldK
    apply List.filter_congr
    intro i m
    rw [List.mem_range] at m
    apply Bool.eq_iff_iff.mpr
    rw [decide_eq_true_iff]
    exact (hfin.iff i m).symm
  have ec := m_lp_c1 sh (.n (.lst false) (sp.map nD)) ((dwn sh.length).foldl (growB sh) ((List.range sh.length).map fun i => decide (i ∈ sp))) x3 x4 none none (by omega) hB
  rw [hold] at ec
  simp (disch := omega) only [sSeq, sIf, sRet, sAsg, sDrop, sPass, sFor, sForS, sFz, sMut, sMut0, sDPutF, sRaise, fHold, fMove, fFree, fVar, fC, f1, f2, fL, fCons, fNil, oCons, oNil, oTup, oLst, fTup, fLst, fT, fAnd, fOr, fNot, fAndV, fOrV, fNotV, fIf, fChain, fIsN, fNotN, DL.isNon, DL.isG, gSet, gsCons, gsNil, gUn, gUnL, gStore, pNil, pIx, opApp, opClear, opIns, gLen, gLt_ii, gLe_ii, gGt_ii, gGe_ii, gSub_ii, gAdd_ii, gMul_sm, gMod_pos, gDiv_pos, gPow_sm, gEq_ii, gNe_ii, gNeg, sizeLine_eq, gMax2, gMin2, gList, gTuple, gIx, Kd.seq, D.ow, Kd.ow, D.get, D.put, Kd.at, itemsOf, fItems, fRng1, fRng3, fEnum, fCall, oCall, takeAll, pinIx, D.erL, D.er, Kd.er, D.clnL, D.cln, Kd.cln, cl2_v, cl2_lst, cl2_tup, D.cl2L, fD0, gTupD, anyOw_nil, anyOw_cons, Bool.or_false, Bool.false_or, dI_eq, nD_eq, pcD_eq, prD_eq, er_prD, ow_prD, c2_prD, cl_prD, erL_dI, er_nD, er_pcD, ow_nD, ow_dI, ow_pcD, c2_nD, c2_dI, c2_pcD, cl_nD, cl_pcD, clnL_dI, List.getD_cons_zero, List.getD_cons_succ, List.set_cons_zero, List.set_cons_succ, List.map_cons, List.map_nil, List.length_cons, List.length_nil, List.length_map, List.replicate, List.append_nil, List.cons_append, List.nil_append, Option.bind_some, Option.map_some, Option.bind_none, Option.map_none, if_true, if_false, Bool.and_true, Bool.true_and, Bool.false_eq_true, reduceIte, reduceCtorEq, decide_true, decide_false, Nat.reduceAdd, Nat.reduceLT, Nat.reduceSub, Nat.reduceLeDiff, ec]
  have hlen : (partOld sh sp).length ≤ 1000 := by
    have := oldK_len (n := sh.length) (K := keptK sh sp)
    show (oldK sh.length (keptK sh sp)).length ≤ 1000
    omega
  have hcl : ClK sh (keptK sh sp) 0 := by
    have := part_closed sh (sp.foldl addK []) hv sh.length (Nat.le_refl _)
    rw [Nat.sub_self] at this
    exact this
  obtain ⟨ρ3, e3, y3, rfl⟩ := m_lp_2 sh (some (.n (.lst false) (sp.map nD))) (some (.n (.lst true) (((dwn sh.length).foldl (growB sh) ((List.range sh.length).map fun i => decide (i ∈ sp))).map bD))) x3 x4 (partOld sh sp) hv (fun i m => (mem_oldK.mp m).1) (fun i m f hf => by
    obtain ⟨h1, h2⟩ := mem_oldK.mp m
    refine mem_oldK.mpr ⟨?_, hcl i (Nat.zero_le _) h2 f hf⟩
    rw [List.getD_eq_getElem?_getD, List.getElem?_eq_getElem h1] at hf
    have := hv.lt i _ (List.getElem?_eq_getElem h1) f hf
    omega) hlen
  rw [e3]
  simp (disch := omega) only [sSeq, sIf, sRet, sAsg, sDrop, sPass, sFor, sForS, sFz, sMut, sMut0, sDPutF, sRaise, fHold, fMove, fFree, fVar, fC, f1, f2, fL, fCons, fNil, oCons, oNil, oTup, oLst, fTup, fLst, fT, fAnd, fOr, fNot, fAndV, fOrV, fNotV, fIf, fChain, fIsN, fNotN, DL.isNon, DL.isG, gSet, gsCons, gsNil, gUn, gUnL, gStore, pNil, pIx, opApp, opClear, opIns, gLen, gLt_ii, gLe_ii, gGt_ii, gGe_ii, gSub_ii, gAdd_ii, gMul_sm, gMod_pos, gDiv_pos, gPow_sm, gEq_ii, gNe_ii, gNeg, sizeLine_eq, gMax2, gMin2, gList, gTuple, gIx, Kd.seq, D.ow, Kd.ow, D.get, D.put, Kd.at, itemsOf, fItems, fRng1, fRng3, fEnum, fCall, oCall, takeAll, pinIx, D.erL, D.er, Kd.er, D.clnL, D.cln, Kd.cln, cl2_v, cl2_lst, cl2_tup, D.cl2L, fD0, gTupD, anyOw_nil, anyOw_cons, Bool.or_false, Bool.false_or, dI_eq, nD_eq, pcD_eq, prD_eq, er_prD, ow_prD, c2_prD, cl_prD, erL_dI, er_nD, er_pcD, ow_nD, ow_dI, ow_pcD, c2_nD, c2_dI, c2_pcD, cl_nD, cl_pcD, clnL_dI, List.getD_cons_zero, List.getD_cons_succ, List.set_cons_zero, List.set_cons_succ, List.map_cons, List.map_nil, List.length_cons, List.length_nil, List.length_map, List.replicate, List.append_nil, List.cons_append, List.nil_append, Option.bind_some, Option.map_some, Option.bind_none, Option.map_none, if_true, if_false, Bool.and_true, Bool.true_and, Bool.false_eq_true, reduceIte, reduceCtorEq, decide_true, decide_false, Nat.reduceAdd, Nat.reduceLT, Nat.reduceSub, Nat.reduceLeDiff, cl_pieces, ow_pieces]
  rfl
end A95

set_option Elab.async false
set_option linter.all false
set_option maxRecDepth 100000
set_option maxHeartbeats 4000000
namespace A95
open DL PySem L2 Gl
open PyProof.Rows hiding St
theorem at_nat (L : List Nat) (x : Nat) (h : x < L.length) : atI (L.map nD) (x : Int) = some (nD (L.getD x x)) := by
  refine at_map (by omega) ?_
  rw [List.getD_eq_getElem?_getD, show ((x : Int)).toNat = x from by omega, List.getElem?_eq_getElem h]
  rfl
theorem m_first (n : Nat) (L : List Nat) (x : Nat) (h : Fst n L) (hx : x < n) (hn : n ≤ 1000) : p_first_of [.n (.lst false) (L.map nD), .v (.int (x : Int))] = some (.ret (.v (.int (root L x : Nat))) []) := by
  unfold p_first_of fnG b_first_of
  simp (disch := omega) only [sSeq, sIf, sRet, sAsg, sDrop, sPass, sFor, sForS, sFz, sMut, sMut0, sDPutF, sRaise, fHold, fMove, fFree, fVar, fC, f1, f2, fL, fCons, fNil, oCons, oNil, oTup, oLst, fTup, fLst, fT, fAnd, fOr, fNot, fAndV, fOrV, fNotV, fIf, fChain, fIsN, fNotN, DL.isNon, DL.isG, gSet, gsCons, gsNil, gUn, gUnL, gStore, pNil, pIx, opApp, opClear, opIns, gLen, gLt_ii, gLe_ii, gGt_ii, gGe_ii, gSub_ii, gAdd_ii, gMul_sm, gMod_pos, gDiv_pos, gPow_sm, gEq_ii, gNe_ii, gNeg, sizeLine_eq, gMax2, gMin2, gList, gTuple, gIx, Kd.seq, D.ow, Kd.ow, D.get, D.put, Kd.at, itemsOf, fItems, fRng1, fRng3, fEnum, fCall, oCall, takeAll, pinIx, D.erL, D.er, Kd.er, D.clnL, D.cln, Kd.cln, cl2_v, cl2_lst, cl2_tup, D.cl2L, fD0, gTupD, anyOw_nil, anyOw_cons, Bool.or_false, Bool.false_or, dI_eq, nD_eq, pcD_eq, prD_eq, er_prD, ow_prD, c2_prD, cl_prD, erL_dI, er_nD, er_pcD, ow_nD, ow_dI, ow_pcD, c2_nD, c2_dI, c2_pcD, cl_nD, cl_pcD, clnL_dI, List.getD_cons_zero, List.getD_cons_succ, List.set_cons_zero, List.set_cons_succ, List.map_cons, List.map_nil, List.length_cons, List.length_nil, List.length_map, List.replicate, List.append_nil, List.cons_append, List.nil_append, Option.bind_some, Option.map_some, Option.bind_none, Option.map_none, if_true, if_false, Bool.and_true, Bool.true_and, Bool.false_eq_true, reduceIte, reduceCtorEq, decide_true, decide_false, Nat.reduceAdd, Nat.reduceLT, Nat.reduceSub, Nat.reduceLeDiff]
  have key := while_inv (c := fT (f2 gNe (f2 gIx (fVar 0) (fVar 1)) (fVar 1))) (b := sAsg (fHold (fFree (f2 gIx (fVar 0) (fVar 1)))) (gSet 1)) (fun ρ => ∃ y : Nat, ρ = [some (.n (.lst false) (L.map nD)), some (.v (.int (y : Int)))] ∧ y < n ∧ root L y = root L x)
    (fun ρ => match ρ with | [_, some (.v (.int i))] => i.toNat | _ => 0) ?_ 100000 [some (.n (.lst false) (L.map nD)), some (.v (.int (x : Int)))] ⟨x, rfl, hx, rfl⟩ (by show ((x : Int)).toNat < 100000; omega)
  · obtain ⟨ρ', e, ⟨y, rfl, hy, hr⟩, hc⟩ := key
    unfold l_first_of_0
    rw [e]
    have e1 := at_nat L y (by rw [h.1]; exact hy)
    simp (disch := omega) only [sSeq, sIf, sRet, sAsg, sDrop, sPass, sFor, sForS, sFz, sMut, sMut0, sDPutF, sRaise, fHold, fMove, fFree, fVar, fC, f1, f2, fL, fCons, fNil, oCons, oNil, oTup, oLst, fTup, fLst, fT, fAnd, fOr, fNot, fAndV, fOrV, fNotV, fIf, fChain, fIsN, fNotN, DL.isNon, DL.isG, gSet, gsCons, gsNil, gUn, gUnL, gStore, pNil, pIx, opApp, opClear, opIns, gLen, gLt_ii, gLe_ii, gGt_ii, gGe_ii, gSub_ii, gAdd_ii, gMul_sm, gMod_pos, gDiv_pos, gPow_sm, gEq_ii, gNe_ii, gNeg, sizeLine_eq, gMax2, gMin2, gList, gTuple, gIx, Kd.seq, D.ow, Kd.ow, D.get, D.put, Kd.at, itemsOf, fItems, fRng1, fRng3, fEnum, fCall, oCall, takeAll, pinIx, D.erL, D.er, Kd.er, D.clnL, D.cln, Kd.cln, cl2_v, cl2_lst, cl2_tup, D.cl2L, fD0, gTupD, anyOw_nil, anyOw_cons, Bool.or_false, Bool.false_or, dI_eq, nD_eq, pcD_eq, prD_eq, er_prD, ow_prD, c2_prD, cl_prD, erL_dI, er_nD, er_pcD, ow_nD, ow_dI, ow_pcD, c2_nD, c2_dI, c2_pcD, cl_nD, cl_pcD, clnL_dI, List.getD_cons_zero, List.getD_cons_succ, List.set_cons_zero, List.set_cons_succ, List.map_cons, List.map_nil, List.length_cons, List.length_nil, List.length_map, List.replicate, List.append_nil, List.cons_append, List.nil_append, Option.bind_some, Option.map_some, Option.bind_none, Option.map_none, if_true, if_false, Bool.and_true, Bool.true_and, Bool.false_eq_true, reduceIte, reduceCtorEq, decide_true, decide_false, Nat.reduceAdd, Nat.reduceLT, Nat.reduceSub, Nat.reduceLeDiff, e1] at hc ⊢
    have hc2 : L.getD y y = y := by
      have h3 := congrArg (!·) (Option.some.inj hc)
      simp only [Bool.not_not, Bool.not_false] at h3
      have := of_decide_eq_true h3
      omega
    rw [← hr, root_of_fix hc2]
  · rintro ρ ⟨y, rfl, hy, hr⟩
    have e1 := at_nat L y (by rw [h.1]; exact hy)
    refine ⟨!decide (L.getD y y = y), ?_, fun hk => ⟨[some (.n (.lst false) (L.map nD)), some (nD (L.getD y y))], ?_, ⟨L.getD y y, rfl, ?_, ?_⟩, ?_⟩⟩
    · simp (disch := omega) only [sSeq, sIf, sRet, sAsg, sDrop, sPass, sFor, sForS, sFz, sMut, sMut0, sDPutF, sRaise, fHold, fMove, fFree, fVar, fC, f1, f2, fL, fCons, fNil, oCons, oNil, oTup, oLst, fTup, fLst, fT, fAnd, fOr, fNot, fAndV, fOrV, fNotV, fIf, fChain, fIsN, fNotN, DL.isNon, DL.isG, gSet, gsCons, gsNil, gUn, gUnL, gStore, pNil, pIx, opApp, opClear, opIns, gLen, gLt_ii, gLe_ii, gGt_ii, gGe_ii, gSub_ii, gAdd_ii, gMul_sm, gMod_pos, gDiv_pos, gPow_sm, gEq_ii, gNe_ii, gNeg, sizeLine_eq, gMax2, gMin2, gList, gTuple, gIx, Kd.seq, D.ow, Kd.ow, D.get, D.put, Kd.at, itemsOf, fItems, fRng1, fRng3, fEnum, fCall, oCall, takeAll, pinIx, D.erL, D.er, Kd.er, D.clnL, D.cln, Kd.cln, cl2_v, cl2_lst, cl2_tup, D.cl2L, fD0, gTupD, anyOw_nil, anyOw_cons, Bool.or_false, Bool.false_or, dI_eq, nD_eq, pcD_eq, prD_eq, er_prD, ow_prD, c2_prD, cl_prD, erL_dI, er_nD, er_pcD, ow_nD, ow_dI, ow_pcD, c2_nD, c2_dI, c2_pcD, cl_nD, cl_pcD, clnL_dI, List.getD_cons_zero, List.getD_cons_succ, List.set_cons_zero, List.set_cons_succ, List.map_cons, List.map_nil, List.length_cons, List.length_nil, List.length_map, List.replicate, List.append_nil, List.cons_append, List.nil_append, Option.bind_some, Option.map_some, Option.bind_none, Option.map_none, if_true, if_false, Bool.and_true, Bool.true_and, Bool.false_eq_true, reduceIte, reduceCtorEq, decide_true, decide_false, Nat.reduceAdd, Nat.reduceLT, Nat.reduceSub, Nat.reduceLeDiff, e1]
      congr 2
      apply Bool.eq_iff_iff.mpr
      rw [decide_eq_true_iff, decide_eq_true_iff]
      omega
    · simp (disch := omega) only [sSeq, sIf, sRet, sAsg, sDrop, sPass, sFor, sForS, sFz, sMut, sMut0, sDPutF, sRaise, fHold, fMove, fFree, fVar, fC, f1, f2, fL, fCons, fNil, oCons, oNil, oTup, oLst, fTup, fLst, fT, fAnd, fOr, fNot, fAndV, fOrV, fNotV, fIf, fChain, fIsN, fNotN, DL.isNon, DL.isG, gSet, gsCons, gsNil, gUn, gUnL, gStore, pNil, pIx, opApp, opClear, opIns, gLen, gLt_ii, gLe_ii, gGt_ii, gGe_ii, gSub_ii, gAdd_ii, gMul_sm, gMod_pos, gDiv_pos, gPow_sm, gEq_ii, gNe_ii, gNeg, sizeLine_eq, gMax2, gMin2, gList, gTuple, gIx, Kd.seq, D.ow, Kd.ow, D.get, D.put, Kd.at, itemsOf, fItems, fRng1, fRng3, fEnum, fCall, oCall, takeAll, pinIx, D.erL, D.er, Kd.er, D.clnL, D.cln, Kd.cln, cl2_v, cl2_lst, cl2_tup, D.cl2L, fD0, gTupD, anyOw_nil, anyOw_cons, Bool.or_false, Bool.false_or, dI_eq, nD_eq, pcD_eq, prD_eq, er_prD, ow_prD, c2_prD, cl_prD, erL_dI, er_nD, er_pcD, ow_nD, ow_dI, ow_pcD, c2_nD, c2_dI, c2_pcD, cl_nD, cl_pcD, clnL_dI, List.getD_cons_zero, List.getD_cons_succ, List.set_cons_zero, List.set_cons_succ, List.map_cons, List.map_nil, List.length_cons, List.length_nil, List.length_map, List.replicate, List.append_nil, List.cons_append, List.nil_append, Option.bind_some, Option.map_some, Option.bind_none, Option.map_none, if_true, if_false, Bool.and_true, Bool.true_and, Bool.false_eq_true, reduceIte, reduceCtorEq, decide_true, decide_false, Nat.reduceAdd, Nat.reduceLT, Nat.reduceSub, Nat.reduceLeDiff, e1]
    · have := h.2 y hy; omega
    · rw [← hr]; exact root_step h y hy
    · have h1 := h.2 y hy
      have h2 : L.getD y y ≠ y := by simpa using hk
      show ((L.getD y y : Nat) : Int).toNat < ((y : Nat) : Int).toNat
      omega
theorem zip_pr (pa pb : List Nat) : zipD (pa.map nD) (pb.map nD) = (pa.zip pb).map DL.prD := by
  unfold zipD
  rw [List.zip_map, List.map_map]
  rfl
theorem m_lots_0 (sh : List (List Nat)) (x1 x2 x4 x7 x8 x9 : Option D) (W : List (Nat × Nat)) (a b : Nat) (pa pb : List Nat) (ea : sh[a]? = some pa) (eb : sh[b]? = some pb) (hW : W.length ≤ 100000) (hl : pa.length ≤ 4) :
    ∃ ρ', l_lots_of_0 [some (.n (.lst false) (sh.map pcD)), x1, x2, some (.n (.lst true) (W.map DL.prD)), x4, some (.v (.int (a : Int))), some (.v (.int (b : Int))), x7, x8, x9] = some (.nx ρ') ∧ ∃ x7 x8, ρ' = [some (.n (.lst false) (sh.map pcD)), x1, x2, some (.n (.lst true) ((W ++ pa.zip pb).map DL.prD)), x4, some (.v (.int (a : Int))), some (.v (.int (b : Int))), x7, x8, x9] := by
  unfold l_lots_of_0
  have e1 : atI (sh.map pcD) (a : Int) = some (pcD pa) := at_map (by omega) ea
  have e2 : atI (sh.map pcD) (b : Int) = some (pcD pb) := at_map (by omega) eb
  simp (disch := omega) only [sSeq, sIf, sRet, sAsg, sDrop, sPass, sFor, sForS, sFz, sMut, sMut0, sDPutF, sRaise, fHold, fMove, fFree, fVar, fC, f1, f2, fL, fCons, fNil, oCons, oNil, oTup, oLst, fTup, fLst, fT, fAnd, fOr, fNot, fAndV, fOrV, fNotV, fIf, fChain, fIsN, fNotN, DL.isNon, DL.isG, gSet, gsCons, gsNil, gUn, gUnL, gStore, pNil, pIx, opApp, opClear, opIns, gLen, gLt_ii, gLe_ii, gGt_ii, gGe_ii, gSub_ii, gAdd_ii, gMul_sm, gMod_pos, gDiv_pos, gPow_sm, gEq_ii, gNe_ii, gNeg, sizeLine_eq, gMax2, gMin2, gList, gTuple, gIx, Kd.seq, D.ow, Kd.ow, D.get, D.put, Kd.at, itemsOf, fItems, fRng1, fRng3, fEnum, fCall, oCall, takeAll, pinIx, D.erL, D.er, Kd.er, D.clnL, D.cln, Kd.cln, cl2_v, cl2_lst, cl2_tup, D.cl2L, fD0, gTupD, anyOw_nil, anyOw_cons, Bool.or_false, Bool.false_or, dI_eq, nD_eq, pcD_eq, prD_eq, er_prD, ow_prD, c2_prD, cl_prD, erL_dI, er_nD, er_pcD, ow_nD, ow_dI, ow_pcD, c2_nD, c2_dI, c2_pcD, cl_nD, cl_pcD, clnL_dI, List.getD_cons_zero, List.getD_cons_succ, List.set_cons_zero, List.set_cons_succ, List.map_cons, List.map_nil, List.length_cons, List.length_nil, List.length_map, List.replicate, List.append_nil, List.cons_append, List.nil_append, Option.bind_some, Option.map_some, Option.bind_none, Option.map_none, if_true, if_false, Bool.and_true, Bool.true_and, Bool.false_eq_true, reduceIte, reduceCtorEq, decide_true, decide_false, Nat.reduceAdd, Nat.reduceLT, Nat.reduceSub, Nat.reduceLeDiff, e1, e2, fZip, lstItems, tupItems, zip_pr]
  refine for_to (fun dn ρ => ∃ x7 x8, ρ = [some (.n (.lst false) (sh.map pcD)), x1, x2, some (.n (.lst true) ((W ++ (pa.zip pb).take dn.length).map DL.prD)), x4, some (.v (.int (a : Int))), some (.v (.int (b : Int))), x7, x8, x9] ∧ dn.length ≤ (pa.zip pb).length) ?_ ⟨x7, x8, by rw [List.length_nil, List.take_zero, List.append_nil], Nat.zero_le _⟩ ?_
  · rintro dn d rest ρ hsp ⟨x7, x8, rfl, hl0⟩
    have hdn : dn.length < (pa.zip pb).length := by
      have := congrArg List.length hsp
      rw [List.length_map, List.length_append, List.length_cons] at this
      omega
    have hd : d = DL.prD (pa.zip pb)[dn.length] := by
      have e : ((pa.zip pb).map DL.prD)[dn.length]? = some d := by rw [hsp]; simp
      rw [List.getElem?_map, List.getElem?_eq_getElem hdn] at e
      exact (Option.some.inj e).symm
    subst hd
    have h4 : (pa.zip pb).length ≤ 4 := by rw [List.length_zip]; omega
    have hz : (W ++ (pa.zip pb).take dn.length).length < 16777216 := by rw [List.length_append, List.length_take]; omega
    refine turn rfl ?_
    simp (disch := omega) only [sSeq, sIf, sRet, sAsg, sDrop, sPass, sFor, sForS, sFz, sMut, sMut0, sDPutF, sRaise, fHold, fMove, fFree, fVar, fC, f1, f2, fL, fCons, fNil, oCons, oNil, oTup, oLst, fTup, fLst, fT, fAnd, fOr, fNot, fAndV, fOrV, fNotV, fIf, fChain, fIsN, fNotN, DL.isNon, DL.isG, gSet, gsCons, gsNil, gUn, gUnL, gStore, pNil, pIx, opApp, opClear, opIns, gLen, gLt_ii, gLe_ii, gGt_ii, gGe_ii, gSub_ii, gAdd_ii, gMul_sm, gMod_pos, gDiv_pos, gPow_sm, gEq_ii, gNe_ii, gNeg, sizeLine_eq, gMax2, gMin2, gList, gTuple, gIx, Kd.seq, D.ow, Kd.ow, D.get, D.put, Kd.at, itemsOf, fItems, fRng1, fRng3, fEnum, fCall, oCall, takeAll, pinIx, D.erL, D.er, Kd.er, D.clnL, D.cln, Kd.cln, cl2_v, cl2_lst, cl2_tup, D.cl2L, fD0, gTupD, anyOw_nil, anyOw_cons, Bool.or_false, Bool.false_or, dI_eq, nD_eq, pcD_eq, prD_eq, er_prD, ow_prD, c2_prD, cl_prD, erL_dI, er_nD, er_pcD, ow_nD, ow_dI, ow_pcD, c2_nD, c2_dI, c2_pcD, cl_nD, cl_pcD, clnL_dI, List.getD_cons_zero, List.getD_cons_succ, List.set_cons_zero, List.set_cons_succ, List.map_cons, List.map_nil, List.length_cons, List.length_nil, List.length_map, List.replicate, List.append_nil, List.cons_append, List.nil_append, Option.bind_some, Option.map_some, Option.bind_none, Option.map_none, if_true, if_false, Bool.and_true, Bool.true_and, Bool.false_eq_true, reduceIte, reduceCtorEq, decide_true, decide_false, Nat.reduceAdd, Nat.reduceLT, Nat.reduceSub, Nat.reduceLeDiff, hz]
    refine ⟨_, rfl, some (nD (pa.zip pb)[dn.length].1), some (nD (pa.zip pb)[dn.length].2), ?_, ?_⟩
    · rw [List.length_append, List.length_singleton, List.take_succ_eq_append_getElem hdn, ← List.append_assoc, List.map_append (l₁ := W ++ _)]
      rfl
    · rw [List.length_append, List.length_singleton]; omega
  · rintro ρ' ⟨x7, x8, rfl, _⟩
    refine ⟨x7, x8, ?_⟩
    rw [List.length_map, List.take_length]
end A95

set_option Elab.async false
set_option linter.all false
set_option maxRecDepth 100000
set_option maxHeartbeats 4000000
namespace A95
open DL PySem L2 Gl
open PyProof.Rows hiding St
/-- what is asked of shape and pairs -/
structure Gok (sh : List (List Nat)) (P : List (Nat × Nat)) : Prop where
  vs : Sh sh
  ln : Lns sh P
  rg : Rng sh P
  pr : ∀ p ∈ P, p.1 < sh.length ∧ p.2 < sh.length
theorem pop_pr (W : List (Nat × Nat)) (w : Nat × Nat) : opPop (.n (.lst true) ((W ++ [w]).map DL.prD)) = some (.n (.lst true) (W.map DL.prD), DL.prD w) := by
  rw [List.map_append]
  unfold opPop
  simp
theorem fc_rng {sh : List (List Nat)} (hv : Sh sh) {a b : Nat} {pa pb : List Nat} (ea : sh[a]? = some pa) (eb : sh[b]? = some pb) : ∀ w ∈ pa.zip pb, w.1 < sh.length ∧ w.2 < sh.length := fun w m => by
  have m1 := (List.of_mem_zip m).1
  have m2 := (List.of_mem_zip m).2
  have h1 := hv.lt a pa ea w.1 m1
  have h2 := hv.lt b pb eb w.2 m2
  have := (List.getElem?_eq_some_iff.mp ea).1
  have := (List.getElem?_eq_some_iff.mp eb).1
  omega
theorem m_lots_1 (sh : List (List Nat)) (P : List (Nat × Nat)) (hG : Gok sh P) (hn : sh.length ≤ 1000) (hP : P.length ≤ 1000) (L0 : List Nat) (x1 : Option D) (h0 : Fst sh.length L0) (hs0 : Gl.St sh P (REq L0) P) :
    ∃ ρ', l_lots_of_1 [some (.n (.lst false) (sh.map pcD)), x1, some (.n (.lst true) (L0.map nD)), some (.n (.lst true) (P.map DL.prD)), none, none, none, none, none, none] = some (.nx ρ') ∧
      ∃ L x4 x5 x6 x7 x8 x9, ρ' = [some (.n (.lst false) (sh.map pcD)), x1, some (.n (.lst true) (L.map nD)), some (.n (.lst true) []), x4, x5, x6, x7, x8, x9] ∧ Fst sh.length L ∧ Gl.St sh P (REq L) [] := by
  unfold l_lots_of_1
  have key := while_m (c := fT (f2 gGt (fL gLen (fCons (fVar 3) fNil)) (fC (V.int 0)))) (b := sSeq (sAsg (sMut0 3 pNil opPop) (gSet 4)) (sSeq (sAsg (oCall [false, false] p_first_of (fCons (fVar 2) (fCons (f2 gIx (fVar 4) (fC (V.int 0))) fNil))) (gSet 5)) (sSeq (sAsg (oCall [false, false] p_first_of (fCons (fVar 2) (fCons (f2 gIx (fVar 4) (fC (V.int 1))) fNil))) (gSet 6)) (sIf (fT (f2 gNe (fVar 5) (fVar 6))) (sSeq (sAsg (fHold (fL gMin2 (fCons (fVar 5) (fCons (fVar 6) fNil)))) (gStore 2 pNil (fL gMax2 (fCons (fVar 5) (fCons (fVar 6) fNil))))) l_lots_of_0) sPass))))
    (fun m ρ => ∃ L W x4 x5 x6 x7 x8 x9, ρ = [some (.n (.lst false) (sh.map pcD)), x1, some (.n (.lst true) (L.map nD)), some (.n (.lst true) (W.map DL.prD)), x4, x5, x6, x7, x8, x9] ∧ Fst sh.length L ∧ Gl.St sh P (REq L) W ∧ (∀ w ∈ W, w.1 < sh.length ∧ w.2 < sh.length) ∧ m = W.length + 5 * fixN L sh.length ∧ m ≤ 10000)
    ?_ 100000 (P.length + 5 * fixN L0 sh.length) [some (.n (.lst false) (sh.map pcD)), x1, some (.n (.lst true) (L0.map nD)), some (.n (.lst true) (P.map DL.prD)), none, none, none, none, none, none] ⟨L0, P, none, none, none, none, none, none, rfl, h0, hs0, hG.pr, rfl, ?_⟩ ?_
  · obtain ⟨ρ', m', e, ⟨L, W, x4, x5, x6, x7, x8, x9, rfl, hL, hS, hW, hm⟩, hc⟩ := key
    refine ⟨_, e, L, x4, x5, x6, x7, x8, x9, ?_, hL, ?_⟩
    all_goals
      have hw : W = [] := by
        simp (disch := omega) only [sSeq, sIf, sRet, sAsg, sDrop, sPass, sFor, sForS, sFz, sMut, sMut0, sDPutF, sRaise, fHold, fMove, fFree, fVar, fC, f1, f2, fL, fCons, fNil, oCons, oNil, oTup, oLst, fTup, fLst, fT, fAnd, fOr, fNot, fAndV, fOrV, fNotV, fIf, fChain, fIsN, fNotN, DL.isNon, DL.isG, gSet, gsCons, gsNil, gUn, gUnL, gStore, pNil, pIx, opApp, opClear, opIns, gLen, gLt_ii, gLe_ii, gGt_ii, gGe_ii, gSub_ii, gAdd_ii, gMul_sm, gMod_pos, gDiv_pos, gPow_sm, gEq_ii, gNe_ii, gNeg, sizeLine_eq, gMax2, gMin2, gList, gTuple, gIx, Kd.seq, D.ow, Kd.ow, D.get, D.put, Kd.at, itemsOf, fItems, fRng1, fRng3, fEnum, fCall, oCall, takeAll, pinIx, D.erL, D.er, Kd.er, D.clnL, D.cln, Kd.cln, cl2_v, cl2_lst, cl2_tup, D.cl2L, fD0, gTupD, anyOw_nil, anyOw_cons, Bool.or_false, Bool.false_or, dI_eq, nD_eq, pcD_eq, prD_eq, er_prD, ow_prD, c2_prD, cl_prD, erL_dI, er_nD, er_pcD, ow_nD, ow_dI, ow_pcD, c2_nD, c2_dI, c2_pcD, cl_nD, cl_pcD, clnL_dI, List.getD_cons_zero, List.getD_cons_succ, List.set_cons_zero, List.set_cons_succ, List.map_cons, List.map_nil, List.length_cons, List.length_nil, List.length_map, List.replicate, List.append_nil, List.cons_append, List.nil_append, Option.bind_some, Option.map_some, Option.bind_none, Option.map_none, if_true, if_false, Bool.and_true, Bool.true_and, Bool.false_eq_true, reduceIte, reduceCtorEq, decide_true, decide_false, Nat.reduceAdd, Nat.reduceLT, Nat.reduceSub, Nat.reduceLeDiff] at hc
        have h3 := Option.some.inj hc
        have h4 := of_decide_eq_false h3
        have : W.length = 0 := by omega
        exact List.eq_nil_of_length_eq_zero this
      subst hw
    · rfl
    · exact hS
  · rintro m ρ ⟨L, W, x4, x5, x6, x7, x8, x9, rfl, hL, hS, hW, hm, hm2⟩
    refine ⟨decide (0 < W.length), ?_, fun hk => ?_⟩
    · simp (disch := omega) only [sSeq, sIf, sRet, sAsg, sDrop, sPass, sFor, sForS, sFz, sMut, sMut0, sDPutF, sRaise, fHold, fMove, fFree, fVar, fC, f1, f2, fL, fCons, fNil, oCons, oNil, oTup, oLst, fTup, fLst, fT, fAnd, fOr, fNot, fAndV, fOrV, fNotV, fIf, fChain, fIsN, fNotN, DL.isNon, DL.isG, gSet, gsCons, gsNil, gUn, gUnL, gStore, pNil, pIx, opApp, opClear, opIns, gLen, gLt_ii, gLe_ii, gGt_ii, gGe_ii, gSub_ii, gAdd_ii, gMul_sm, gMod_pos, gDiv_pos, gPow_sm, gEq_ii, gNe_ii, gNeg, sizeLine_eq, gMax2, gMin2, gList, gTuple, gIx, Kd.seq, D.ow, Kd.ow, D.get, D.put, Kd.at, itemsOf, fItems, fRng1, fRng3, fEnum, fCall, oCall, takeAll, pinIx, D.erL, D.er, Kd.er, D.clnL, D.cln, Kd.cln, cl2_v, cl2_lst, cl2_tup, D.cl2L, fD0, gTupD, anyOw_nil, anyOw_cons, Bool.or_false, Bool.false_or, dI_eq, nD_eq, pcD_eq, prD_eq, er_prD, ow_prD, c2_prD, cl_prD, erL_dI, er_nD, er_pcD, ow_nD, ow_dI, ow_pcD, c2_nD, c2_dI, c2_pcD, cl_nD, cl_pcD, clnL_dI, List.getD_cons_zero, List.getD_cons_succ, List.set_cons_zero, List.set_cons_succ, List.map_cons, List.map_nil, List.length_cons, List.length_nil, List.length_map, List.replicate, List.append_nil, List.cons_append, List.nil_append, Option.bind_some, Option.map_some, Option.bind_none, Option.map_none, if_true, if_false, Bool.and_true, Bool.true_and, Bool.false_eq_true, reduceIte, reduceCtorEq, decide_true, decide_false, Nat.reduceAdd, Nat.reduceLT, Nat.reduceSub, Nat.reduceLeDiff]
      have : decide ((0 : Int) < (W.length : Int)) = decide (0 < W.length) := by
        apply Bool.eq_iff_iff.mpr
        rw [decide_eq_true_iff, decide_eq_true_iff]
        omega
      rw [this]
    · have hpos := of_decide_eq_true hk
      obtain ⟨W0, ⟨p, q⟩, rfl⟩ : ∃ W0 w, W = W0 ++ [w] := by
        have hne : W ≠ [] := fun z => by rw [z] at hpos; exact absurd hpos (by decide)
        exact ⟨W.dropLast, W.getLast hne, (List.dropLast_concat_getLast hne).symm⟩
      obtain ⟨hp, hq⟩ := hW (p, q) (by simp)
      have hp : p < sh.length := hp
      have hq : q < sh.length := hq
      have e1 := m_first sh.length L p hL hp hn
      have e2 := m_first sh.length L q hL hq hn
      have ea : atI [D.v (.int (p : Int)), .v (.int (q : Int))] 0 = some (.v (.int (p : Int))) := rfl
      have eb : atI [D.v (.int (p : Int)), .v (.int (q : Int))] 1 = some (.v (.int (q : Int))) := rfl
      have rp := root_le L p
      have rq := root_le L q
      by_cases hr : root L p = root L q
      · have hri : ((root L p : Nat) : Int) = (root L q : Nat) := by omega
        refine ⟨_, m - 1, ?_, ⟨L, W0, some (DL.prD (p, q)), some (nD (root L p)), some (nD (root L q)), x7, x8, x9, rfl, hL, hS.skip hr, fun w m => hW w (List.mem_append_left _ m), ?_, by omega⟩, ?_⟩
        · simp (disch := omega) only [sSeq, sIf, sRet, sAsg, sDrop, sPass, sFor, sForS, sFz, sMut, sMut0, sDPutF, sRaise, fHold, fMove, fFree, fVar, fC, f1, f2, fL, fCons, fNil, oCons, oNil, oTup, oLst, fTup, fLst, fT, fAnd, fOr, fNot, fAndV, fOrV, fNotV, fIf, fChain, fIsN, fNotN, DL.isNon, DL.isG, gSet, gsCons, gsNil, gUn, gUnL, gStore, pNil, pIx, opApp, opClear, opIns, gLen, gLt_ii, gLe_ii, gGt_ii, gGe_ii, gSub_ii, gAdd_ii, gMul_sm, gMod_pos, gDiv_pos, gPow_sm, gEq_ii, gNe_ii, gNeg, sizeLine_eq, gMax2, gMin2, gList, gTuple, gIx, Kd.seq, D.ow, Kd.ow, D.get, D.put, Kd.at, itemsOf, fItems, fRng1, fRng3, fEnum, fCall, oCall, takeAll, pinIx, D.erL, D.er, Kd.er, D.clnL, D.cln, Kd.cln, cl2_v, cl2_lst, cl2_tup, D.cl2L, fD0, gTupD, anyOw_nil, anyOw_cons, Bool.or_false, Bool.false_or, dI_eq, nD_eq, pcD_eq, prD_eq, er_prD, ow_prD, c2_prD, cl_prD, erL_dI, er_nD, er_pcD, ow_nD, ow_dI, ow_pcD, c2_nD, c2_dI, c2_pcD, cl_nD, cl_pcD, clnL_dI, List.getD_cons_zero, List.getD_cons_succ, List.set_cons_zero, List.set_cons_succ, List.map_cons, List.map_nil, List.length_cons, List.length_nil, List.length_map, List.replicate, List.append_nil, List.cons_append, List.nil_append, Option.bind_some, Option.map_some, Option.bind_none, Option.map_none, if_true, if_false, Bool.and_true, Bool.true_and, Bool.false_eq_true, reduceIte, reduceCtorEq, decide_true, decide_false, Nat.reduceAdd, Nat.reduceLT, Nat.reduceSub, Nat.reduceLeDiff, pop_pr, e1, e2, ea, eb, hri, Bool.not_true]
        · rw [List.length_append, List.length_singleton] at hm; omega
        · rw [List.length_append, List.length_singleton] at hm; omega
      · have hri : ¬ ((root L p : Nat) : Int) = (root L q : Nat) := by omega
        have hmax : (if ((root L q : Nat) : Int) > (root L p : Nat) then ((root L q : Nat) : Int) else (root L p : Nat)) = ((max (root L p) (root L q) : Nat) : Int) := by split <;> omega
        have hmin : (if ((root L q : Nat) : Int) < (root L p : Nat) then ((root L q : Nat) : Int) else (root L p : Nat)) = ((min (root L p) (root L q) : Nat) : Int) := by split <;> omega
        have hix : ixN L.length ((max (root L p) (root L q) : Nat) : Int) = some (max (root L p) (root L q)) := ixN_nat (by rw [hL.1]; omega)
        have fp := root_fix hL p
        have fq := root_fix hL q
        have ga : sh[root L p]? = some sh[root L p] := List.getElem?_eq_getElem (by omega)
        have gb : sh[root L q]? = some sh[root L q] := List.getElem?_eq_getElem (by omega)
        have hl4 : sh[root L p].length ≤ 4 := by have := hG.vs.ln _ (List.getElem_mem (show root L p < sh.length by omega)); omega
        have hWl : W0.length ≤ 100000 := by rw [List.length_append, List.length_singleton] at hm; omega
        obtain ⟨ρ3, e3, y7, y8, rfl⟩ := m_lots_0 sh x1 (some (.n (.lst true) ((L.set (max (root L p) (root L q)) (min (root L p) (root L q))).map nD))) (some (DL.prD (p, q))) x7 x8 x9 W0 (root L p) (root L q) _ _ ga gb hWl hl4
        have hset : (L.map nD).set (max (root L p) (root L q)) (D.v (.int ((min (root L p) (root L q) : Nat) : Int))) = (L.set (max (root L p) (root L q)) (min (root L p) (root L q))).map nD := by rw [List.map_set]; rfl
        have hless : fixN (L.set (max (root L p) (root L q)) (min (root L p) (root L q))) sh.length < fixN L sh.length := by
          have hmx : max (root L p) (root L q) < L.length := by rw [hL.1]; omega
          refine fix_less (x0 := max (root L p) (root L q)) (fun x hx h => ?_) (by omega) ?_ ?_
          · rw [getD_set hmx] at h
            by_cases c : x = max (root L p) (root L q)
            · rw [if_pos c] at h; omega
            · rw [if_neg c] at h; exact h
          · rcases Nat.le_total (root L p) (root L q) with c | c
            · rw [Nat.max_eq_right c]; exact fq
            · rw [Nat.max_eq_left c]; exact fp
          · rw [getD_set hmx, if_pos rfl]; omega
        have hz : ((sh[root L p]).zip (sh[root L q])).length ≤ 4 := by rw [List.length_zip]; omega
        simp only [prD_eq, nD_eq] at e3
        refine ⟨_, (W0 ++ (sh[root L p]).zip (sh[root L q])).length + 5 * fixN (L.set (max (root L p) (root L q)) (min (root L p) (root L q))) sh.length, ?_, ⟨_, W0 ++ (sh[root L p]).zip (sh[root L q]), some (DL.prD (p, q)), some (.v (.int ((root L p : Nat) : Int))), some (.v (.int ((root L q : Nat) : Int))), y7, y8, x9, rfl, hL.set (by omega) (by omega), ?_, ?_, rfl, ?_⟩, ?_⟩
        · simp (disch := omega) only [sSeq, sIf, sRet, sAsg, sDrop, sPass, sFor, sForS, sFz, sMut, sMut0, sDPutF, sRaise, fHold, fMove, fFree, fVar, fC, f1, f2, fL, fCons, fNil, oCons, oNil, oTup, oLst, fTup, fLst, fT, fAnd, fOr, fNot, fAndV, fOrV, fNotV, fIf, fChain, fIsN, fNotN, DL.isNon, DL.isG, gSet, gsCons, gsNil, gUn, gUnL, gStore, pNil, pIx, opApp, opClear, opIns, gLen, gLt_ii, gLe_ii, gGt_ii, gGe_ii, gSub_ii, gAdd_ii, gMul_sm, gMod_pos, gDiv_pos, gPow_sm, gEq_ii, gNe_ii, gNeg, sizeLine_eq, gMax2, gMin2, gList, gTuple, gIx, Kd.seq, D.ow, Kd.ow, D.get, D.put, Kd.at, itemsOf, fItems, fRng1, fRng3, fEnum, fCall, oCall, takeAll, pinIx, D.erL, D.er, Kd.er, D.clnL, D.cln, Kd.cln, cl2_v, cl2_lst, cl2_tup, D.cl2L, fD0, gTupD, anyOw_nil, anyOw_cons, Bool.or_false, Bool.false_or, dI_eq, nD_eq, pcD_eq, prD_eq, er_prD, ow_prD, c2_prD, cl_prD, erL_dI, er_nD, er_pcD, ow_nD, ow_dI, ow_pcD, c2_nD, c2_dI, c2_pcD, cl_nD, cl_pcD, clnL_dI, List.getD_cons_zero, List.getD_cons_succ, List.set_cons_zero, List.set_cons_succ, List.map_cons, List.map_nil, List.length_cons, List.length_nil, List.length_map, List.replicate, List.append_nil, List.cons_append, List.nil_append, Option.bind_some, Option.map_some, Option.bind_none, Option.map_none, if_true, if_false, Bool.and_true, Bool.true_and, Bool.false_eq_true, reduceIte, reduceCtorEq, decide_true, decide_false, Nat.reduceAdd, Nat.reduceLT, Nat.reduceSub, Nat.reduceLeDiff, pop_pr, e1, e2, ea, eb, hri, Bool.not_false, hmax, hmin, hix, hset]
          exact e3
        · refine hS.merge hG.ln (root_root hL p) (root_root hL q) ga gb (REq.eqv _) (fun x y => ?_) hG.rg
          exact REq.set hL (by omega) (by omega) fp fq hr x y
        · intro w m
          rcases List.mem_append.mp m with m | m
          · exact hW w (List.mem_append_left _ m)
          · exact fc_rng hG.vs ga gb w m
        · rw [List.length_append, List.length_singleton] at hm
          rw [List.length_append]
          omega
        · rw [List.length_append, List.length_singleton] at hm
          rw [List.length_append]
          omega
  · have : fixN L0 sh.length ≤ sh.length := by
      unfold fixN
      have := List.length_filter_le (fun x => decide (L0.getD x x = x)) (List.range sh.length)
      simpa using this
    omega
  · have : fixN L0 sh.length ≤ sh.length := by
      unfold fixN
      have := List.length_filter_le (fun x => decide (L0.getD x x = x)) (List.range sh.length)
      simpa using this
    omega
end A95

set_option Elab.async false
set_option linter.all false
set_option maxRecDepth 100000
set_option maxHeartbeats 4000000
namespace A95
open DL PySem L2 Gl
open PyProof.Rows hiding St
theorem range_get (n x : Nat) : (List.range n).getD x x = x := by
  rw [List.getD_eq_getElem?_getD]
  by_cases h : x < n
  · rw [List.getElem?_range h]; rfl
  · rw [List.getElem?_eq_none (by simpa using h)]; rfl
theorem fst_range (n : Nat) : Fst n (List.range n) := ⟨List.length_range, fun x _ => by rw [range_get]; exact Nat.le_refl _⟩
theorem root_range (n x : Nat) : root (List.range n) x = x := root_of_fix (range_get n x)
theorem m_lots (sh : List (List Nat)) (P : List (Nat × Nat)) (hG : Gok sh P) (hn : sh.length ≤ 1000) (hP : P.length ≤ 1000) :
    ∃ L, p_lots_of [.n (.lst false) (sh.map pcD), .n (.lst false) (P.map DL.prD)] = some (.ret (.n (.lst true) (((List.range sh.length).map fun x => root L x).map nD)) []) ∧ Fst sh.length L ∧ ∀ x y, REq L x y ↔ Cl sh P x y := by
  unfold p_lots_of fnG b_lots_of
  have hb : inBd (sh.length : Int) = true := decide_eq_true (by omega)
  have hb0 : inBd 0 = true := by decide
  have h1 : (((sh.length : Int) - 0).toNat) = sh.length := by omega
  have h2 : decide (sh.length ≤ 2 ^ 20) = true := decide_eq_true (by omega)
  simp (disch := omega) only [sSeq, sIf, sRet, sAsg, sDrop, sPass, sFor, sForS, sFz, sMut, sMut0, sDPutF, sRaise, fHold, fMove, fFree, fVar, fC, f1, f2, fL, fCons, fNil, oCons, oNil, oTup, oLst, fTup, fLst, fT, fAnd, fOr, fNot, fAndV, fOrV, fNotV, fIf, fChain, fIsN, fNotN, DL.isNon, DL.isG, gSet, gsCons, gsNil, gUn, gUnL, gStore, pNil, pIx, opApp, opClear, opIns, gLen, gLt_ii, gLe_ii, gGt_ii, gGe_ii, gSub_ii, gAdd_ii, gMul_sm, gMod_pos, gDiv_pos, gPow_sm, gEq_ii, gNe_ii, gNeg, sizeLine_eq, gMax2, gMin2, gList, gTuple, gIx, Kd.seq, D.ow, Kd.ow, D.get, D.put, Kd.at, itemsOf, fItems, fRng1, fRng3, fEnum, fCall, oCall, takeAll, pinIx, D.erL, D.er, Kd.er, D.clnL, D.cln, Kd.cln, cl2_v, cl2_lst, cl2_tup, D.cl2L, fD0, gTupD, anyOw_nil, anyOw_cons, Bool.or_false, Bool.false_or, dI_eq, nD_eq, pcD_eq, prD_eq, er_prD, ow_prD, c2_prD, cl_prD, erL_dI, er_nD, er_pcD, ow_nD, ow_dI, ow_pcD, c2_nD, c2_dI, c2_pcD, cl_nD, cl_pcD, clnL_dI, List.getD_cons_zero, List.getD_cons_succ, List.set_cons_zero, List.set_cons_succ, List.map_cons, List.map_nil, List.length_cons, List.length_nil, List.length_map, List.replicate, List.append_nil, List.cons_append, List.nil_append, Option.bind_some, Option.map_some, Option.bind_none, Option.map_none, if_true, if_false, Bool.and_true, Bool.true_and, Bool.false_eq_true, reduceIte, reduceCtorEq, decide_true, decide_false, Nat.reduceAdd, Nat.reduceLT, Nat.reduceSub, Nat.reduceLeDiff, fLstR, r1F, hb, hb0, h1, h2, rngD_nat]
  have hs0 : Gl.St sh P (REq (List.range sh.length)) P := Gl.St.start (REq.eqv _) fun x y h => by
    unfold REq at h
    rw [root_range, root_range] at h
    exact h
  obtain ⟨ρ', e, L, x4, x5, x6, x7, x8, x9, rfl, hL, hS⟩ := m_lots_1 sh P hG hn hP (List.range sh.length) (some (.n (.lst false) (P.map DL.prD))) (fst_range _) hs0
  rw [e]
  refine ⟨L, ?_, hL, fun x y => hS.done x y⟩
  have ec : c_lots_of_0 [some (.n (.lst false) (sh.map pcD)), some (.n (.lst false) (P.map DL.prD)), some (.n (.lst true) (L.map nD)), some (.n (.lst true) []), x4, x5, x6, x7, x8, x9] = some (.n (.lst true) (((List.range sh.length).map fun x => root L x).map nD)) := by
    unfold c_lots_of_0 fLc
    simp (disch := omega) only [sSeq, sIf, sRet, sAsg, sDrop, sPass, sFor, sForS, sFz, sMut, sMut0, sDPutF, sRaise, fHold, fMove, fFree, fVar, fC, f1, f2, fL, fCons, fNil, oCons, oNil, oTup, oLst, fTup, fLst, fT, fAnd, fOr, fNot, fAndV, fOrV, fNotV, fIf, fChain, fIsN, fNotN, DL.isNon, DL.isG, gSet, gsCons, gsNil, gUn, gUnL, gStore, pNil, pIx, opApp, opClear, opIns, gLen, gLt_ii, gLe_ii, gGt_ii, gGe_ii, gSub_ii, gAdd_ii, gMul_sm, gMod_pos, gDiv_pos, gPow_sm, gEq_ii, gNe_ii, gNeg, sizeLine_eq, gMax2, gMin2, gList, gTuple, gIx, Kd.seq, D.ow, Kd.ow, D.get, D.put, Kd.at, itemsOf, fItems, fRng1, fRng3, fEnum, fCall, oCall, takeAll, pinIx, D.erL, D.er, Kd.er, D.clnL, D.cln, Kd.cln, cl2_v, cl2_lst, cl2_tup, D.cl2L, fD0, gTupD, anyOw_nil, anyOw_cons, Bool.or_false, Bool.false_or, dI_eq, nD_eq, pcD_eq, prD_eq, er_prD, ow_prD, c2_prD, cl_prD, erL_dI, er_nD, er_pcD, ow_nD, ow_dI, ow_pcD, c2_nD, c2_dI, c2_pcD, cl_nD, cl_pcD, clnL_dI, List.getD_cons_zero, List.getD_cons_succ, List.set_cons_zero, List.set_cons_succ, List.map_cons, List.map_nil, List.length_cons, List.length_nil, List.length_map, List.replicate, List.append_nil, List.cons_append, List.nil_append, Option.bind_some, Option.map_some, Option.bind_none, Option.map_none, if_true, if_false, Bool.and_true, Bool.true_and, Bool.false_eq_true, reduceIte, reduceCtorEq, decide_true, decide_false, Nat.reduceAdd, Nat.reduceLT, Nat.reduceSub, Nat.reduceLeDiff, hb, Int.toNat_natCast, rngD_nat, fWipe]
    rw [lcL_mapN (g := nD) (k := fun x => nD (root L x)) _ fun x m => ⟨_, rfl, rfl, ?_⟩]
    · simp only [Option.bind_some, List.length_map, List.length_range]
      rw [if_pos (by omega), List.map_map]
      rfl
    · rw [List.mem_range] at m
      have e1 := m_first sh.length L x hL m hn
      simp (disch := omega) only [sSeq, sIf, sRet, sAsg, sDrop, sPass, sFor, sForS, sFz, sMut, sMut0, sDPutF, sRaise, fHold, fMove, fFree, fVar, fC, f1, f2, fL, fCons, fNil, oCons, oNil, oTup, oLst, fTup, fLst, fT, fAnd, fOr, fNot, fAndV, fOrV, fNotV, fIf, fChain, fIsN, fNotN, DL.isNon, DL.isG, gSet, gsCons, gsNil, gUn, gUnL, gStore, pNil, pIx, opApp, opClear, opIns, gLen, gLt_ii, gLe_ii, gGt_ii, gGe_ii, gSub_ii, gAdd_ii, gMul_sm, gMod_pos, gDiv_pos, gPow_sm, gEq_ii, gNe_ii, gNeg, sizeLine_eq, gMax2, gMin2, gList, gTuple, gIx, Kd.seq, D.ow, Kd.ow, D.get, D.put, Kd.at, itemsOf, fItems, fRng1, fRng3, fEnum, fCall, oCall, takeAll, pinIx, D.erL, D.er, Kd.er, D.clnL, D.cln, Kd.cln, cl2_v, cl2_lst, cl2_tup, D.cl2L, fD0, gTupD, anyOw_nil, anyOw_cons, Bool.or_false, Bool.false_or, dI_eq, nD_eq, pcD_eq, prD_eq, er_prD, ow_prD, c2_prD, cl_prD, erL_dI, er_nD, er_pcD, ow_nD, ow_dI, ow_pcD, c2_nD, c2_dI, c2_pcD, cl_nD, cl_pcD, clnL_dI, List.getD_cons_zero, List.getD_cons_succ, List.set_cons_zero, List.set_cons_succ, List.map_cons, List.map_nil, List.length_cons, List.length_nil, List.length_map, List.replicate, List.append_nil, List.cons_append, List.nil_append, Option.bind_some, Option.map_some, Option.bind_none, Option.map_none, if_true, if_false, Bool.and_true, Bool.true_and, Bool.false_eq_true, reduceIte, reduceCtorEq, decide_true, decide_false, Nat.reduceAdd, Nat.reduceLT, Nat.reduceSub, Nat.reduceLeDiff, e1]
  simp (disch := omega) only [sSeq, sIf, sRet, sAsg, sDrop, sPass, sFor, sForS, sFz, sMut, sMut0, sDPutF, sRaise, fHold, fMove, fFree, fVar, fC, f1, f2, fL, fCons, fNil, oCons, oNil, oTup, oLst, fTup, fLst, fT, fAnd, fOr, fNot, fAndV, fOrV, fNotV, fIf, fChain, fIsN, fNotN, DL.isNon, DL.isG, gSet, gsCons, gsNil, gUn, gUnL, gStore, pNil, pIx, opApp, opClear, opIns, gLen, gLt_ii, gLe_ii, gGt_ii, gGe_ii, gSub_ii, gAdd_ii, gMul_sm, gMod_pos, gDiv_pos, gPow_sm, gEq_ii, gNe_ii, gNeg, sizeLine_eq, gMax2, gMin2, gList, gTuple, gIx, Kd.seq, D.ow, Kd.ow, D.get, D.put, Kd.at, itemsOf, fItems, fRng1, fRng3, fEnum, fCall, oCall, takeAll, pinIx, D.erL, D.er, Kd.er, D.clnL, D.cln, Kd.cln, cl2_v, cl2_lst, cl2_tup, D.cl2L, fD0, gTupD, anyOw_nil, anyOw_cons, Bool.or_false, Bool.false_or, dI_eq, nD_eq, pcD_eq, prD_eq, er_prD, ow_prD, c2_prD, cl_prD, erL_dI, er_nD, er_pcD, ow_nD, ow_dI, ow_pcD, c2_nD, c2_dI, c2_pcD, cl_nD, cl_pcD, clnL_dI, List.getD_cons_zero, List.getD_cons_succ, List.set_cons_zero, List.set_cons_succ, List.map_cons, List.map_nil, List.length_cons, List.length_nil, List.length_map, List.replicate, List.append_nil, List.cons_append, List.nil_append, Option.bind_some, Option.map_some, Option.bind_none, Option.map_none, if_true, if_false, Bool.and_true, Bool.true_and, Bool.false_eq_true, reduceIte, reduceCtorEq, decide_true, decide_false, Nat.reduceAdd, Nat.reduceLT, Nat.reduceSub, Nat.reduceLeDiff, ec]
def lvI (n : Nat) : Int := if n = 0 then 0 else (n : Int) - 1
theorem m_level (p : List Nat) : p_level_of [.n (.tup false) (p.map nD)] = some (.ret (.v (.int (lvI p.length))) []) := by
  unfold p_level_of fnG b_level_of
  by_cases h : (p.length : Int) = 0
  · have h2 : lvI p.length = 0 := if_pos (by omega)
    simp (disch := omega) only [sSeq, sIf, sRet, sAsg, sDrop, sPass, sFor, sForS, sFz, sMut, sMut0, sDPutF, sRaise, fHold, fMove, fFree, fVar, fC, f1, f2, fL, fCons, fNil, oCons, oNil, oTup, oLst, fTup, fLst, fT, fAnd, fOr, fNot, fAndV, fOrV, fNotV, fIf, fChain, fIsN, fNotN, DL.isNon, DL.isG, gSet, gsCons, gsNil, gUn, gUnL, gStore, pNil, pIx, opApp, opClear, opIns, gLen, gLt_ii, gLe_ii, gGt_ii, gGe_ii, gSub_ii, gAdd_ii, gMul_sm, gMod_pos, gDiv_pos, gPow_sm, gEq_ii, gNe_ii, gNeg, sizeLine_eq, gMax2, gMin2, gList, gTuple, gIx, Kd.seq, D.ow, Kd.ow, D.get, D.put, Kd.at, itemsOf, fItems, fRng1, fRng3, fEnum, fCall, oCall, takeAll, pinIx, D.erL, D.er, Kd.er, D.clnL, D.cln, Kd.cln, cl2_v, cl2_lst, cl2_tup, D.cl2L, fD0, gTupD, anyOw_nil, anyOw_cons, Bool.or_false, Bool.false_or, dI_eq, nD_eq, pcD_eq, prD_eq, er_prD, ow_prD, c2_prD, cl_prD, erL_dI, er_nD, er_pcD, ow_nD, ow_dI, ow_pcD, c2_nD, c2_dI, c2_pcD, cl_nD, cl_pcD, clnL_dI, List.getD_cons_zero, List.getD_cons_succ, List.set_cons_zero, List.set_cons_succ, List.map_cons, List.map_nil, List.length_cons, List.length_nil, List.length_map, List.replicate, List.append_nil, List.cons_append, List.nil_append, Option.bind_some, Option.map_some, Option.bind_none, Option.map_none, if_true, if_false, Bool.and_true, Bool.true_and, Bool.false_eq_true, reduceIte, reduceCtorEq, decide_true, decide_false, Nat.reduceAdd, Nat.reduceLT, Nat.reduceSub, Nat.reduceLeDiff, h, h2]
  · have h2 : lvI p.length = (p.length : Int) - 1 := if_neg (by omega)
    simp (disch := omega) only [sSeq, sIf, sRet, sAsg, sDrop, sPass, sFor, sForS, sFz, sMut, sMut0, sDPutF, sRaise, fHold, fMove, fFree, fVar, fC, f1, f2, fL, fCons, fNil, oCons, oNil, oTup, oLst, fTup, fLst, fT, fAnd, fOr, fNot, fAndV, fOrV, fNotV, fIf, fChain, fIsN, fNotN, DL.isNon, DL.isG, gSet, gsCons, gsNil, gUn, gUnL, gStore, pNil, pIx, opApp, opClear, opIns, gLen, gLt_ii, gLe_ii, gGt_ii, gGe_ii, gSub_ii, gAdd_ii, gMul_sm, gMod_pos, gDiv_pos, gPow_sm, gEq_ii, gNe_ii, gNeg, sizeLine_eq, gMax2, gMin2, gList, gTuple, gIx, Kd.seq, D.ow, Kd.ow, D.get, D.put, Kd.at, itemsOf, fItems, fRng1, fRng3, fEnum, fCall, oCall, takeAll, pinIx, D.erL, D.er, Kd.er, D.clnL, D.cln, Kd.cln, cl2_v, cl2_lst, cl2_tup, D.cl2L, fD0, gTupD, anyOw_nil, anyOw_cons, Bool.or_false, Bool.false_or, dI_eq, nD_eq, pcD_eq, prD_eq, er_prD, ow_prD, c2_prD, cl_prD, erL_dI, er_nD, er_pcD, ow_nD, ow_dI, ow_pcD, c2_nD, c2_dI, c2_pcD, cl_nD, cl_pcD, clnL_dI, List.getD_cons_zero, List.getD_cons_succ, List.set_cons_zero, List.set_cons_succ, List.map_cons, List.map_nil, List.length_cons, List.length_nil, List.length_map, List.replicate, List.append_nil, List.cons_append, List.nil_append, Option.bind_some, Option.map_some, Option.bind_none, Option.map_none, if_true, if_false, Bool.and_true, Bool.true_and, Bool.false_eq_true, reduceIte, reduceCtorEq, decide_true, decide_false, Nat.reduceAdd, Nat.reduceLT, Nat.reduceSub, Nat.reduceLeDiff, h, h2]
theorem m_isglue (sh : List (List Nat)) (p : Nat × Nat) (a b : List Nat) (h1 : sh[p.1]? = some a) (h2 : sh[p.2]? = some b) (hl : b.length = a.length) : p_is_glue [.n (.lst false) (sh.map pcD), DL.prD p] = some (.ret (.v (.bl true)) []) := by
  unfold p_is_glue fnG b_is_glue
  have l1 := (List.getElem?_eq_some_iff.mp h1).1
  have l2 := (List.getElem?_eq_some_iff.mp h2).1
  have e1 : atI [D.v (.int (p.1 : Int)), .v (.int (p.2 : Int))] 0 = some (.v (.int (p.1 : Int))) := rfl
  have e2 : atI [D.v (.int (p.1 : Int)), .v (.int (p.2 : Int))] 1 = some (.v (.int (p.2 : Int))) := rfl
  have e3 : atI (sh.map pcD) (p.1 : Int) = some (pcD a) := at_map (by omega) h1
  have e4 : atI (sh.map pcD) (p.2 : Int) = some (pcD b) := at_map (by omega) h2
  have e5 : (((0 : Nat) + 1 + 1 : Nat) : Int) = 2 := rfl
  simp (disch := omega) only [sSeq, sIf, sRet, sAsg, sDrop, sPass, sFor, sForS, sFz, sMut, sMut0, sDPutF, sRaise, fHold, fMove, fFree, fVar, fC, f1, f2, fL, fCons, fNil, oCons, oNil, oTup, oLst, fTup, fLst, fT, fAnd, fOr, fNot, fAndV, fOrV, fNotV, fIf, fChain, fIsN, fNotN, DL.isNon, DL.isG, gSet, gsCons, gsNil, gUn, gUnL, gStore, pNil, pIx, opApp, opClear, opIns, gLen, gLt_ii, gLe_ii, gGt_ii, gGe_ii, gSub_ii, gAdd_ii, gMul_sm, gMod_pos, gDiv_pos, gPow_sm, gEq_ii, gNe_ii, gNeg, sizeLine_eq, gMax2, gMin2, gList, gTuple, gIx, Kd.seq, D.ow, Kd.ow, D.get, D.put, Kd.at, itemsOf, fItems, fRng1, fRng3, fEnum, fCall, oCall, takeAll, pinIx, D.erL, D.er, Kd.er, D.clnL, D.cln, Kd.cln, cl2_v, cl2_lst, cl2_tup, D.cl2L, fD0, gTupD, anyOw_nil, anyOw_cons, Bool.or_false, Bool.false_or, dI_eq, nD_eq, pcD_eq, prD_eq, er_prD, ow_prD, c2_prD, cl_prD, erL_dI, er_nD, er_pcD, ow_nD, ow_dI, ow_pcD, c2_nD, c2_dI, c2_pcD, cl_nD, cl_pcD, clnL_dI, List.getD_cons_zero, List.getD_cons_succ, List.set_cons_zero, List.set_cons_succ, List.map_cons, List.map_nil, List.length_cons, List.length_nil, List.length_map, List.replicate, List.append_nil, List.cons_append, List.nil_append, Option.bind_some, Option.map_some, Option.bind_none, Option.map_none, if_true, if_false, Bool.and_true, Bool.true_and, Bool.false_eq_true, reduceIte, reduceCtorEq, decide_true, decide_false, Nat.reduceAdd, Nat.reduceLT, Nat.reduceSub, Nat.reduceLeDiff, fIs, gIs, tyN, kb_tup_tup, Bool.not_true, e1, e2, e3, e4, e5, m_spot_ok sh p.1 l1, m_spot_ok sh p.2 l2, m_level, hl]
end A95

set_option Elab.async false
set_option linter.all false
set_option maxRecDepth 100000
set_option maxHeartbeats 4000000
namespace A95
open DL PySem L2 Gl
open PyProof.Rows hiding St
/-- those that stand for themselves -/
def fsOf (n : Nat) (f : Nat → Nat) : List Nat := (List.range n).filter fun x => decide (f x = x)
def gpcs (sh : List (List Nat)) (f : Nat → Nat) (fs xs : List Nat) : List D := xs.map fun i => pcD ((sh.getD i []).map fun x => fs.idxOf (f x))
theorem gpcs_len (sh : List (List Nat)) (f : Nat → Nat) (fs xs : List Nat) : (gpcs sh f fs xs).length = xs.length := List.length_map _
def spotsD (n : Nat) (f : Nat → Nat) (fs : List Nat) : List D := ((List.range n).map fun x => fs.idxOf (f x)).map nD
def gluedD (sh : List (List Nat)) (f : Nat → Nat) : D := .n (.tup true) [.n (.lst true) (gpcs sh f (fsOf sh.length f) (fsOf sh.length f)), .n (.lst true) (spotsD sh.length f (fsOf sh.length f))]
theorem ow_gpcs (sh : List (List Nat)) (f : Nat → Nat) (fs xs : List Nat) : anyOw (gpcs sh f fs xs) = false := anyOw_map fun _ _ => rfl
theorem cl_gpcs (sh : List (List Nat)) (f : Nat → Nat) (fs xs : List Nat) : D.clnL (gpcs sh f fs xs) = true := cl_pl fun _ _ => pl_pc _
theorem cl_spots (n : Nat) (f : Nat → Nat) (fs : List Nat) : D.clnL (spotsD n f fs) = true := cl_nD _
theorem ow_spots (n : Nat) (f : Nat → Nat) (fs : List Nat) : anyOw (spotsD n f fs) = false := ow_nD _
structure Lbl (n : Nat) (f : Nat → Nat) : Prop where
  le : ∀ x, x < n → f x ≤ x
  id : ∀ x, x < n → f (f x) = f x
theorem Lbl.mem {n : Nat} {f : Nat → Nat} (h : Lbl n f) {x : Nat} (hx : x < n) : f x ∈ fsOf n f := by
  unfold fsOf
  rw [List.mem_filter, List.mem_range]
  have := h.le x hx
  exact ⟨by omega, decide_eq_true (h.id x hx)⟩
noncomputable abbrev gb0 : En → Option Out := sIf (fNot (fT (fCall [false, false] p_is_glue (fCons (fVar 0) (fCons (fVar 2) fNil))))) (sRaise "NoGlue") sPass
theorem m_glued_0 (sh : List (List Nat)) (S : D) (ps : List (Nat × Nat)) (hp : Prs sh ps) (x2 x3 x4 x5 x6 x7 x8 : Option D) :
    ∃ ρ', sForL (gSet 2) gb0 (ps.map DL.prD) [some (.n (.lst false) (sh.map pcD)), some S, x2, x3, x4, x5, x6, x7, x8] = some (.nx ρ') ∧ ∃ x2, ρ' = [some (.n (.lst false) (sh.map pcD)), some S, x2, x3, x4, x5, x6, x7, x8] := by
  refine for_fold (h := gSet 2) (bd := gb0) (g := DL.prD) (fun (_ : Unit) ρ => ∃ x2, ρ = [some (.n (.lst false) (sh.map pcD)), some S, x2, x3, x4, x5, x6, x7, x8]) (fun u _ => u) ps () _ ?_ ⟨x2, rfl⟩
  rintro _ p ρ m ⟨x2, rfl⟩
  obtain ⟨a, b, h1, h2, hl⟩ := hp p m
  have e := m_isglue sh p a b h1 h2 hl
  simp only [prD_eq, nD_eq] at e
  refine turn1 rfl ?_
  simp (disch := omega) only [sSeq, sIf, sRet, sAsg, sDrop, sPass, sFor, sForS, sFz, sMut, sMut0, sDPutF, sRaise, fHold, fMove, fFree, fVar, fC, f1, f2, fL, fCons, fNil, oCons, oNil, oTup, oLst, fTup, fLst, fT, fAnd, fOr, fNot, fAndV, fOrV, fNotV, fIf, fChain, fIsN, fNotN, DL.isNon, DL.isG, gSet, gsCons, gsNil, gUn, gUnL, gStore, pNil, pIx, opApp, opClear, opIns, gLen, gLt_ii, gLe_ii, gGt_ii, gGe_ii, gSub_ii, gAdd_ii, gMul_sm, gMod_pos, gDiv_pos, gPow_sm, gEq_ii, gNe_ii, gNeg, sizeLine_eq, gMax2, gMin2, gList, gTuple, gIx, Kd.seq, D.ow, Kd.ow, D.get, D.put, Kd.at, itemsOf, fItems, fRng1, fRng3, fEnum, fCall, oCall, takeAll, pinIx, D.erL, D.er, Kd.er, D.clnL, D.cln, Kd.cln, cl2_v, cl2_lst, cl2_tup, D.cl2L, fD0, gTupD, anyOw_nil, anyOw_cons, Bool.or_false, Bool.false_or, dI_eq, nD_eq, pcD_eq, prD_eq, er_prD, ow_prD, c2_prD, cl_prD, erL_dI, er_nD, er_pcD, ow_nD, ow_dI, ow_pcD, c2_nD, c2_dI, c2_pcD, cl_nD, cl_pcD, clnL_dI, List.getD_cons_zero, List.getD_cons_succ, List.set_cons_zero, List.set_cons_succ, List.map_cons, List.map_nil, List.length_cons, List.length_nil, List.length_map, List.replicate, List.append_nil, List.cons_append, List.nil_append, Option.bind_some, Option.map_some, Option.bind_none, Option.map_none, if_true, if_false, Bool.and_true, Bool.true_and, Bool.false_eq_true, reduceIte, reduceCtorEq, decide_true, decide_false, Nat.reduceAdd, Nat.reduceLT, Nat.reduceSub, Nat.reduceLeDiff, e, Bool.not_true]
  exact ⟨_, rfl, _, rfl⟩
theorem gLen_ix (fs : List Nat) : gLen [ixD true fs] = some (.v (.int fs.length)) := by
  show some (D.v (.int ((fs.map kI).length : Nat))) = _
  rw [List.length_map]
theorem m_glued_1 (sh : List (List Nat)) (f : Nat → Nat) (x1 x2 x5 x6 x7 x8 : Option D) (hn : sh.length ≤ 1000) :
    ∃ ρ', l_glued_1 [some (.n (.lst false) (sh.map pcD)), x1, x2, some (.n (.lst true) (((List.range sh.length).map f).map nD)), some (ixD true []), x5, x6, x7, x8] = some (.nx ρ') ∧ ∃ x5, ρ' = [some (.n (.lst false) (sh.map pcD)), x1, x2, some (.n (.lst true) (((List.range sh.length).map f).map nD)), some (ixD true (fsOf sh.length f)), x5, x6, x7, x8] := by
  unfold l_glued_1
  have hb : inBd (sh.length : Int) = true := decide_eq_true (by omega)
  simp (disch := omega) only [sSeq, sIf, sRet, sAsg, sDrop, sPass, sFor, sForS, sFz, sMut, sMut0, sDPutF, sRaise, fHold, fMove, fFree, fVar, fC, f1, f2, fL, fCons, fNil, oCons, oNil, oTup, oLst, fTup, fLst, fT, fAnd, fOr, fNot, fAndV, fOrV, fNotV, fIf, fChain, fIsN, fNotN, DL.isNon, DL.isG, gSet, gsCons, gsNil, gUn, gUnL, gStore, pNil, pIx, opApp, opClear, opIns, gLen, gLt_ii, gLe_ii, gGt_ii, gGe_ii, gSub_ii, gAdd_ii, gMul_sm, gMod_pos, gDiv_pos, gPow_sm, gEq_ii, gNe_ii, gNeg, sizeLine_eq, gMax2, gMin2, gList, gTuple, gIx, Kd.seq, D.ow, Kd.ow, D.get, D.put, Kd.at, itemsOf, fItems, fRng1, fRng3, fEnum, fCall, oCall, takeAll, pinIx, D.erL, D.er, Kd.er, D.clnL, D.cln, Kd.cln, cl2_v, cl2_lst, cl2_tup, D.cl2L, fD0, gTupD, anyOw_nil, anyOw_cons, Bool.or_false, Bool.false_or, dI_eq, nD_eq, pcD_eq, prD_eq, er_prD, ow_prD, c2_prD, cl_prD, erL_dI, er_nD, er_pcD, ow_nD, ow_dI, ow_pcD, c2_nD, c2_dI, c2_pcD, cl_nD, cl_pcD, clnL_dI, List.getD_cons_zero, List.getD_cons_succ, List.set_cons_zero, List.set_cons_succ, List.map_cons, List.map_nil, List.length_cons, List.length_nil, List.length_map, List.replicate, List.append_nil, List.cons_append, List.nil_append, Option.bind_some, Option.map_some, Option.bind_none, Option.map_none, if_true, if_false, Bool.and_true, Bool.true_and, Bool.false_eq_true, reduceIte, reduceCtorEq, decide_true, decide_false, Nat.reduceAdd, Nat.reduceLT, Nat.reduceSub, Nat.reduceLeDiff, hb, Int.toNat_natCast]
  refine for_to (fun dn ρ => ∃ x5, ρ = [some (.n (.lst false) (sh.map pcD)), x1, x2, some (.n (.lst true) (((List.range sh.length).map f).map nD)), some (ixD true (fsOf dn.length f)), x5, x6, x7, x8]) ?_ ⟨x5, rfl⟩ ?_
  · rintro dn d rest ρ hsp ⟨x5, rfl⟩
    obtain ⟨rfl, hd⟩ := rng_split hsp
    have hz : (0 : Int) + (dn.length : Nat) = ((dn.length : Nat) : Int) := by omega
    rw [hz]
    have ea : atI (((List.range sh.length).map f).map nD) ((dn.length : Nat) : Int) = some (nD (f dn.length)) := at_map (by omega) (by rw [List.getElem?_map, show ((dn.length : Nat) : Int).toNat = dn.length by omega, List.getElem?_range hd]; rfl)
    have hlen : (fsOf dn.length f).length ≤ dn.length := by
      have := List.length_filter_le (fun x => decide (f x = x)) (List.range dn.length)
      rw [List.length_range] at this
      exact this
    have hsucc : fsOf (dn ++ [D.v (.int ((dn.length : Nat) : Int))]).length f = if f dn.length = dn.length then fsOf dn.length f ++ [dn.length] else fsOf dn.length f := by
      rw [List.length_append, List.length_singleton]
      unfold fsOf
      rw [List.range_succ, List.filter_append]
      by_cases h : f dn.length = dn.length
      · rw [if_pos h]
        simp [h]
      · rw [if_neg h]
        simp [h]
    refine turn rfl ?_
    by_cases h : f dn.length = dn.length
    · have hi : ((f dn.length : Nat) : Int) = (dn.length : Nat) := by omega
      have hp := put_ix 4 [some (.n (.lst false) (sh.map pcD)), x1, x2, some (.n (.lst true) (((List.range sh.length).map f).map nD)), some (ixD true (fsOf dn.length f)), some (.v (.int ((dn.length : Nat) : Int))), x6, x7, x8] (fL gLen (fCons (fVar 4) fNil)) (fVar 5) (fsOf dn.length f) (fsOf dn.length f).length dn.length rfl (gLen_ix _) rfl rfl (fun m => by
        unfold fsOf at m
        have := (List.mem_filter.mp m).1
        rw [List.mem_range] at this
        omega) (by omega)
      simp (disch := omega) only [sSeq, sIf, sRet, sAsg, sDrop, sPass, sFor, sForS, sFz, sMut, sMut0, sRaise, fHold, fMove, fFree, fVar, fC, f1, f2, fL, fCons, fNil, oCons, oNil, oTup, oLst, fTup, fLst, fT, fAnd, fOr, fNot, fAndV, fOrV, fNotV, fIf, fChain, fIsN, fNotN, DL.isNon, DL.isG, gSet, gsCons, gsNil, gUn, gUnL, gStore, pNil, pIx, opApp, opClear, opIns, gLen, gLt_ii, gLe_ii, gGt_ii, gGe_ii, gSub_ii, gAdd_ii, gMul_sm, gMod_pos, gDiv_pos, gPow_sm, gEq_ii, gNe_ii, gNeg, sizeLine_eq, gMax2, gMin2, gList, gTuple, gIx, Kd.seq, D.ow, Kd.ow, D.get, D.put, Kd.at, itemsOf, fItems, fRng1, fRng3, fEnum, fCall, oCall, takeAll, pinIx, D.erL, D.er, Kd.er, D.clnL, D.cln, Kd.cln, cl2_v, cl2_lst, cl2_tup, D.cl2L, fD0, gTupD, anyOw_nil, anyOw_cons, Bool.or_false, Bool.false_or, dI_eq, nD_eq, pcD_eq, prD_eq, er_prD, ow_prD, c2_prD, cl_prD, erL_dI, er_nD, er_pcD, ow_nD, ow_dI, ow_pcD, c2_nD, c2_dI, c2_pcD, cl_nD, cl_pcD, clnL_dI, List.getD_cons_zero, List.getD_cons_succ, List.set_cons_zero, List.set_cons_succ, List.map_cons, List.map_nil, List.length_cons, List.length_nil, List.length_map, List.replicate, List.append_nil, List.cons_append, List.nil_append, Option.bind_some, Option.map_some, Option.bind_none, Option.map_none, if_true, if_false, Bool.and_true, Bool.true_and, Bool.false_eq_true, reduceIte, reduceCtorEq, decide_true, decide_false, Nat.reduceAdd, Nat.reduceLT, Nat.reduceSub, Nat.reduceLeDiff, ea, hi, hp]
      refine ⟨_, rfl, some (.v (.int ((dn.length : Nat) : Int))), ?_⟩
      rw [hsucc, if_pos h]
    · have hi : ¬ ((f dn.length : Nat) : Int) = (dn.length : Nat) := by omega
      simp (disch := omega) only [sSeq, sIf, sRet, sAsg, sDrop, sPass, sFor, sForS, sFz, sMut, sMut0, sRaise, fHold, fMove, fFree, fVar, fC, f1, f2, fL, fCons, fNil, oCons, oNil, oTup, oLst, fTup, fLst, fT, fAnd, fOr, fNot, fAndV, fOrV, fNotV, fIf, fChain, fIsN, fNotN, DL.isNon, DL.isG, gSet, gsCons, gsNil, gUn, gUnL, gStore, pNil, pIx, opApp, opClear, opIns, gLen, gLt_ii, gLe_ii, gGt_ii, gGe_ii, gSub_ii, gAdd_ii, gMul_sm, gMod_pos, gDiv_pos, gPow_sm, gEq_ii, gNe_ii, gNeg, sizeLine_eq, gMax2, gMin2, gList, gTuple, gIx, Kd.seq, D.ow, Kd.ow, D.get, D.put, Kd.at, itemsOf, fItems, fRng1, fRng3, fEnum, fCall, oCall, takeAll, pinIx, D.erL, D.er, Kd.er, D.clnL, D.cln, Kd.cln, cl2_v, cl2_lst, cl2_tup, D.cl2L, fD0, gTupD, anyOw_nil, anyOw_cons, Bool.or_false, Bool.false_or, dI_eq, nD_eq, pcD_eq, prD_eq, er_prD, ow_prD, c2_prD, cl_prD, erL_dI, er_nD, er_pcD, ow_nD, ow_dI, ow_pcD, c2_nD, c2_dI, c2_pcD, cl_nD, cl_pcD, clnL_dI, List.getD_cons_zero, List.getD_cons_succ, List.set_cons_zero, List.set_cons_succ, List.map_cons, List.map_nil, List.length_cons, List.length_nil, List.length_map, List.replicate, List.append_nil, List.cons_append, List.nil_append, Option.bind_some, Option.map_some, Option.bind_none, Option.map_none, if_true, if_false, Bool.and_true, Bool.true_and, Bool.false_eq_true, reduceIte, reduceCtorEq, decide_true, decide_false, Nat.reduceAdd, Nat.reduceLT, Nat.reduceSub, Nat.reduceLeDiff, ea, hi]
      refine ⟨_, rfl, some (.v (.int ((dn.length : Nat) : Int))), ?_⟩
      rw [hsucc, if_neg h]
  · rintro ρ' ⟨x5, rfl⟩
    exact ⟨x5, by rw [rng_len]⟩
end A95

set_option Elab.async false
set_option linter.all false
set_option maxRecDepth 100000
set_option maxHeartbeats 4000000
namespace A95
open DL PySem L2 Gl
open PyProof.Rows hiding St
theorem m_glued_c0 (n : Nat) (f : Nat → Nat) (x0 x1 x2 x5 x6 x7 x8 : Option D) (hf : Lbl n f) (hn : n ≤ 1000) :
    c_glued_0 [x0, x1, x2, some (.n (.lst true) (((List.range n).map f).map nD)), some (ixD true (fsOf n f)), x5, x6, x7, x8] = some (.n (.lst true) (spotsD n f (fsOf n f))) := by
  unfold c_glued_0 fLc
  simp (disch := omega) only [sSeq, sIf, sRet, sAsg, sDrop, sPass, sFor, sForS, sFz, sMut, sMut0, sDPutF, sRaise, fHold, fMove, fFree, fVar, fC, f1, f2, fL, fCons, fNil, oCons, oNil, oTup, oLst, fTup, fLst, fT, fAnd, fOr, fNot, fAndV, fOrV, fNotV, fIf, fChain, fIsN, fNotN, DL.isNon, DL.isG, gSet, gsCons, gsNil, gUn, gUnL, gStore, pNil, pIx, opApp, opClear, opIns, gLen, gLt_ii, gLe_ii, gGt_ii, gGe_ii, gSub_ii, gAdd_ii, gMul_sm, gMod_pos, gDiv_pos, gPow_sm, gEq_ii, gNe_ii, gNeg, sizeLine_eq, gMax2, gMin2, gList, gTuple, gIx, Kd.seq, D.ow, Kd.ow, D.get, D.put, Kd.at, itemsOf, fItems, fRng1, fRng3, fEnum, fCall, oCall, takeAll, pinIx, D.erL, D.er, Kd.er, D.clnL, D.cln, Kd.cln, cl2_v, cl2_lst, cl2_tup, D.cl2L, fD0, gTupD, anyOw_nil, anyOw_cons, Bool.or_false, Bool.false_or, dI_eq, nD_eq, pcD_eq, prD_eq, er_prD, ow_prD, c2_prD, cl_prD, erL_dI, er_nD, er_pcD, ow_nD, ow_dI, ow_pcD, c2_nD, c2_dI, c2_pcD, cl_nD, cl_pcD, clnL_dI, List.getD_cons_zero, List.getD_cons_succ, List.set_cons_zero, List.set_cons_succ, List.map_cons, List.map_nil, List.length_cons, List.length_nil, List.length_map, List.replicate, List.append_nil, List.cons_append, List.nil_append, Option.bind_some, Option.map_some, Option.bind_none, Option.map_none, if_true, if_false, Bool.and_true, Bool.true_and, Bool.false_eq_true, reduceIte, reduceCtorEq, decide_true, decide_false, Nat.reduceAdd, Nat.reduceLT, Nat.reduceSub, Nat.reduceLeDiff, fWipe]
  rw [List.map_map, lcL_mapN (g := nD ∘ f) (k := fun x => nD ((fsOf n f).idxOf (f x))) _ fun x m => ⟨_, rfl, rfl, ?_⟩]
  · simp only [Option.bind_some, List.length_map, List.length_range]
    rw [if_pos (by omega)]
    unfold spotsD
    rw [List.map_map]
    rfl
  · rw [List.mem_range] at m
    have e := get_ix (b := true) (hf.mem m)
    simp (disch := omega) only [sSeq, sIf, sRet, sAsg, sDrop, sPass, sFor, sForS, sFz, sMut, sMut0, sDPutF, sRaise, fHold, fMove, fFree, fVar, fC, f1, f2, fL, fCons, fNil, oCons, oNil, oTup, oLst, fTup, fLst, fT, fAnd, fOr, fNot, fAndV, fOrV, fNotV, fIf, fChain, fIsN, fNotN, DL.isNon, DL.isG, gSet, gsCons, gsNil, gUn, gUnL, gStore, pNil, pIx, opApp, opClear, opIns, gLen, gLt_ii, gLe_ii, gGt_ii, gGe_ii, gSub_ii, gAdd_ii, gMul_sm, gMod_pos, gDiv_pos, gPow_sm, gEq_ii, gNe_ii, gNeg, sizeLine_eq, gMax2, gMin2, gList, gTuple, gIx, Kd.seq, D.ow, Kd.ow, D.get, D.put, Kd.at, itemsOf, fItems, fRng1, fRng3, fEnum, fCall, oCall, takeAll, pinIx, D.erL, D.er, Kd.er, D.clnL, D.cln, Kd.cln, cl2_v, cl2_lst, cl2_tup, D.cl2L, fD0, gTupD, anyOw_nil, anyOw_cons, Bool.or_false, Bool.false_or, dI_eq, nD_eq, pcD_eq, prD_eq, er_prD, ow_prD, c2_prD, cl_prD, erL_dI, er_nD, er_pcD, ow_nD, ow_dI, ow_pcD, c2_nD, c2_dI, c2_pcD, cl_nD, cl_pcD, clnL_dI, List.getD_cons_zero, List.getD_cons_succ, List.set_cons_zero, List.set_cons_succ, List.map_cons, List.map_nil, List.length_cons, List.length_nil, List.length_map, List.replicate, List.append_nil, List.cons_append, List.nil_append, Option.bind_some, Option.map_some, Option.bind_none, Option.map_none, if_true, if_false, Bool.and_true, Bool.true_and, Bool.false_eq_true, reduceIte, reduceCtorEq, decide_true, decide_false, Nat.reduceAdd, Nat.reduceLT, Nat.reduceSub, Nat.reduceLeDiff, Function.comp_apply, e]
theorem m_glued_c1 (sh : List (List Nat)) (f : Nat → Nat) (fs p : List Nat) (i : Nat) (x1 x2 x3 x4 x5 x8 : Option D) (hi : sh[i]? = some p) (hp : ∀ x ∈ p, x < sh.length) (hl : p.length ≤ 4) :
    c_glued_1 [some (.n (.lst false) (sh.map pcD)), x1, x2, x3, x4, x5, some (.n (.lst true) (spotsD sh.length f fs)), some (.v (.int (i : Int))), x8] = some (.n (.lst true) ((p.map fun x => fs.idxOf (f x)).map nD)) := by
  unfold c_glued_1 fLc
  have e1 : atI (sh.map pcD) (i : Int) = some (pcD p) := at_map (by omega) hi
  simp (disch := omega) only [sSeq, sIf, sRet, sAsg, sDrop, sPass, sFor, sForS, sFz, sMut, sMut0, sDPutF, sRaise, fHold, fMove, fFree, fVar, fC, f1, f2, fL, fCons, fNil, oCons, oNil, oTup, oLst, fTup, fLst, fT, fAnd, fOr, fNot, fAndV, fOrV, fNotV, fIf, fChain, fIsN, fNotN, DL.isNon, DL.isG, gSet, gsCons, gsNil, gUn, gUnL, gStore, pNil, pIx, opApp, opClear, opIns, gLen, gLt_ii, gLe_ii, gGt_ii, gGe_ii, gSub_ii, gAdd_ii, gMul_sm, gMod_pos, gDiv_pos, gPow_sm, gEq_ii, gNe_ii, gNeg, sizeLine_eq, gMax2, gMin2, gList, gTuple, gIx, Kd.seq, D.ow, Kd.ow, D.get, D.put, Kd.at, itemsOf, fItems, fRng1, fRng3, fEnum, fCall, oCall, takeAll, pinIx, D.erL, D.er, Kd.er, D.clnL, D.cln, Kd.cln, cl2_v, cl2_lst, cl2_tup, D.cl2L, fD0, gTupD, anyOw_nil, anyOw_cons, Bool.or_false, Bool.false_or, dI_eq, nD_eq, pcD_eq, prD_eq, er_prD, ow_prD, c2_prD, cl_prD, erL_dI, er_nD, er_pcD, ow_nD, ow_dI, ow_pcD, c2_nD, c2_dI, c2_pcD, cl_nD, cl_pcD, clnL_dI, List.getD_cons_zero, List.getD_cons_succ, List.set_cons_zero, List.set_cons_succ, List.map_cons, List.map_nil, List.length_cons, List.length_nil, List.length_map, List.replicate, List.append_nil, List.cons_append, List.nil_append, Option.bind_some, Option.map_some, Option.bind_none, Option.map_none, if_true, if_false, Bool.and_true, Bool.true_and, Bool.false_eq_true, reduceIte, reduceCtorEq, decide_true, decide_false, Nat.reduceAdd, Nat.reduceLT, Nat.reduceSub, Nat.reduceLeDiff, e1, fWipe]
  rw [lcL_mapN (g := nD) (k := fun x => nD (fs.idxOf (f x))) p fun x m => ⟨_, rfl, rfl, ?_⟩]
  · simp only [Option.bind_some, List.length_map]
    rw [if_pos (by omega), List.map_map]
    rfl
  · have hx := hp x m
    have e2 : atI (spotsD sh.length f fs) (x : Int) = some (nD (fs.idxOf (f x))) := by
      unfold spotsD
      exact at_map (by omega) (by rw [List.getElem?_map, show ((x : Nat) : Int).toNat = x by omega, List.getElem?_range hx]; rfl)
    simp (disch := omega) only [sSeq, sIf, sRet, sAsg, sDrop, sPass, sFor, sForS, sFz, sMut, sMut0, sDPutF, sRaise, fHold, fMove, fFree, fVar, fC, f1, f2, fL, fCons, fNil, oCons, oNil, oTup, oLst, fTup, fLst, fT, fAnd, fOr, fNot, fAndV, fOrV, fNotV, fIf, fChain, fIsN, fNotN, DL.isNon, DL.isG, gSet, gsCons, gsNil, gUn, gUnL, gStore, pNil, pIx, opApp, opClear, opIns, gLen, gLt_ii, gLe_ii, gGt_ii, gGe_ii, gSub_ii, gAdd_ii, gMul_sm, gMod_pos, gDiv_pos, gPow_sm, gEq_ii, gNe_ii, gNeg, sizeLine_eq, gMax2, gMin2, gList, gTuple, gIx, Kd.seq, D.ow, Kd.ow, D.get, D.put, Kd.at, itemsOf, fItems, fRng1, fRng3, fEnum, fCall, oCall, takeAll, pinIx, D.erL, D.er, Kd.er, D.clnL, D.cln, Kd.cln, cl2_v, cl2_lst, cl2_tup, D.cl2L, fD0, gTupD, anyOw_nil, anyOw_cons, Bool.or_false, Bool.false_or, dI_eq, nD_eq, pcD_eq, prD_eq, er_prD, ow_prD, c2_prD, cl_prD, erL_dI, er_nD, er_pcD, ow_nD, ow_dI, ow_pcD, c2_nD, c2_dI, c2_pcD, cl_nD, cl_pcD, clnL_dI, List.getD_cons_zero, List.getD_cons_succ, List.set_cons_zero, List.set_cons_succ, List.map_cons, List.map_nil, List.length_cons, List.length_nil, List.length_map, List.replicate, List.append_nil, List.cons_append, List.nil_append, Option.bind_some, Option.map_some, Option.bind_none, Option.map_none, if_true, if_false, Bool.and_true, Bool.true_and, Bool.false_eq_true, reduceIte, reduceCtorEq, decide_true, decide_false, Nat.reduceAdd, Nat.reduceLT, Nat.reduceSub, Nat.reduceLeDiff, e2]
theorem fDct_ix (ρ : En) (fs : List Nat) (h : ρ.getD 4 none = some (ixD false fs)) : fDct 4 itK ρ = some (fs.map nD) := by
  unfold fDct
  rw [h]
  show (if (fs.map kI).length = ((List.range fs.length).map nD).length then some (itK (fs.map kI) ((List.range fs.length).map nD)) else none) = _
  rw [if_pos (by simp)]
  unfold itK
  rw [List.map_map]
  rfl
theorem m_glued_c2 (sh : List (List Nat)) (f : Nat → Nat) (fs : List Nat) (x1 x2 x3 x5 x7 x8 : Option D) (hv : Sh sh) (hfs : ∀ i ∈ fs, i < sh.length) (hn : fs.length ≤ 1000) :
    c_glued_2 [some (.n (.lst false) (sh.map pcD)), x1, x2, x3, some (ixD false fs), x5, some (.n (.lst true) (spotsD sh.length f fs)), x7, x8] = some (.n (.lst true) (gpcs sh f fs fs)) := by
  unfold c_glued_2 fLc
  rw [fDct_ix _ fs rfl]
  simp (disch := omega) only [sSeq, sIf, sRet, sAsg, sDrop, sPass, sFor, sForS, sFz, sMut, sMut0, sDPutF, sRaise, fHold, fMove, fFree, fVar, fC, f1, f2, fL, fCons, fNil, oCons, oNil, oTup, oLst, fTup, fLst, fT, fAnd, fOr, fNot, fAndV, fOrV, fNotV, fIf, fChain, fIsN, fNotN, DL.isNon, DL.isG, gSet, gsCons, gsNil, gUn, gUnL, gStore, pNil, pIx, opApp, opClear, opIns, gLen, gLt_ii, gLe_ii, gGt_ii, gGe_ii, gSub_ii, gAdd_ii, gMul_sm, gMod_pos, gDiv_pos, gPow_sm, gEq_ii, gNe_ii, gNeg, sizeLine_eq, gMax2, gMin2, gList, gTuple, gIx, Kd.seq, D.ow, Kd.ow, D.get, D.put, Kd.at, itemsOf, fItems, fRng1, fRng3, fEnum, fCall, oCall, takeAll, pinIx, D.erL, D.er, Kd.er, D.clnL, D.cln, Kd.cln, cl2_v, cl2_lst, cl2_tup, D.cl2L, fD0, gTupD, anyOw_nil, anyOw_cons, Bool.or_false, Bool.false_or, dI_eq, nD_eq, pcD_eq, prD_eq, er_prD, ow_prD, c2_prD, cl_prD, erL_dI, er_nD, er_pcD, ow_nD, ow_dI, ow_pcD, c2_nD, c2_dI, c2_pcD, cl_nD, cl_pcD, clnL_dI, List.getD_cons_zero, List.getD_cons_succ, List.set_cons_zero, List.set_cons_succ, List.map_cons, List.map_nil, List.length_cons, List.length_nil, List.length_map, List.replicate, List.append_nil, List.cons_append, List.nil_append, Option.bind_some, Option.map_some, Option.bind_none, Option.map_none, if_true, if_false, Bool.and_true, Bool.true_and, Bool.false_eq_true, reduceIte, reduceCtorEq, decide_true, decide_false, Nat.reduceAdd, Nat.reduceLT, Nat.reduceSub, Nat.reduceLeDiff, fWipe]
  rw [lcL_mapN (g := nD) (k := fun i => pcD ((sh.getD i []).map fun x => fs.idxOf (f x))) fs fun i m => ⟨_, rfl, rfl, ?_⟩]
  · simp only [Option.bind_some, List.length_map]
    rw [if_pos (by omega)]
    rfl
  · have hi := hfs i m
    have hg : sh[i]? = some sh[i] := List.getElem?_eq_getElem hi
    have hgd : sh.getD i [] = sh[i] := by rw [List.getD_eq_getElem?_getD, hg]; rfl
    have e := m_glued_c1 sh f fs sh[i] i x1 x2 x3 (some (ixD false fs)) x5 x8 hg (fun x m => by have := hv.lt i _ hg x m; omega) (by have := hv.ln _ (List.getElem_mem hi); omega)
    rw [hgd]
    simp (disch := omega) only [sSeq, sIf, sRet, sAsg, sDrop, sPass, sFor, sForS, sFz, sMut, sMut0, sDPutF, sRaise, fHold, fMove, fFree, fVar, fC, f1, f2, fL, fCons, fNil, oCons, oNil, oTup, oLst, fTup, fLst, fT, fAnd, fOr, fNot, fAndV, fOrV, fNotV, fIf, fChain, fIsN, fNotN, DL.isNon, DL.isG, gSet, gsCons, gsNil, gUn, gUnL, gStore, pNil, pIx, opApp, opClear, opIns, gLen, gLt_ii, gLe_ii, gGt_ii, gGe_ii, gSub_ii, gAdd_ii, gMul_sm, gMod_pos, gDiv_pos, gPow_sm, gEq_ii, gNe_ii, gNeg, sizeLine_eq, gMax2, gMin2, gList, gTuple, gIx, Kd.seq, D.ow, Kd.ow, D.get, D.put, Kd.at, itemsOf, fItems, fRng1, fRng3, fEnum, fCall, oCall, takeAll, pinIx, D.erL, D.er, Kd.er, D.clnL, D.cln, Kd.cln, cl2_v, cl2_lst, cl2_tup, D.cl2L, fD0, gTupD, anyOw_nil, anyOw_cons, Bool.or_false, Bool.false_or, dI_eq, nD_eq, pcD_eq, prD_eq, er_prD, ow_prD, c2_prD, cl_prD, erL_dI, er_nD, er_pcD, ow_nD, ow_dI, ow_pcD, c2_nD, c2_dI, c2_pcD, cl_nD, cl_pcD, clnL_dI, List.getD_cons_zero, List.getD_cons_succ, List.set_cons_zero, List.set_cons_succ, List.map_cons, List.map_nil, List.length_cons, List.length_nil, List.length_map, List.replicate, List.append_nil, List.cons_append, List.nil_append, Option.bind_some, Option.map_some, Option.bind_none, Option.map_none, if_true, if_false, Bool.and_true, Bool.true_and, Bool.false_eq_true, reduceIte, reduceCtorEq, decide_true, decide_false, Nat.reduceAdd, Nat.reduceLT, Nat.reduceSub, Nat.reduceLeDiff, e]
theorem fsOf_lt {n : Nat} {f : Nat → Nat} {x : Nat} (h : x ∈ fsOf n f) : x < n := List.mem_range.mp (List.mem_filter.mp h).1
theorem fsOf_len {n : Nat} {f : Nat → Nat} : (fsOf n f).length ≤ n := by
  have := List.length_filter_le (fun x => decide (f x = x)) (List.range n)
  rw [List.length_range] at this
  exact this
theorem lbl_root {n : Nat} {L : List Nat} (h : Fst n L) : Lbl n (root L) := ⟨fun x _ => root_le L x, fun x _ => root_root h x⟩
theorem m_glued (sh : List (List Nat)) (P : List (Nat × Nat)) (hG : Gok sh P) (hp : Prs sh P) (hn : sh.length ≤ 1000) (hP : P.length ≤ 1000) :
    ∃ f, p_glued [.n (.lst false) (sh.map pcD), .n (.lst false) (P.map DL.prD)] = some (.ret (gluedD sh f) []) ∧ Lbl sh.length f ∧ ∀ x y, f x = f y ↔ Cl sh P x y := by
  unfold p_glued fnG b_glued
  simp (disch := omega) only [sSeq, sIf, sRet, sAsg, sDrop, sPass, sFor, sForS, sFz, sMut, sMut0, sDPutF, sRaise, fHold, fMove, fFree, fVar, fC, f1, f2, fL, fCons, fNil, oCons, oNil, oTup, oLst, fTup, fLst, fT, fAnd, fOr, fNot, fAndV, fOrV, fNotV, fIf, fChain, fIsN, fNotN, DL.isNon, DL.isG, gSet, gsCons, gsNil, gUn, gUnL, gStore, pNil, pIx, opApp, opClear, opIns, gLen, gLt_ii, gLe_ii, gGt_ii, gGe_ii, gSub_ii, gAdd_ii, gMul_sm, gMod_pos, gDiv_pos, gPow_sm, gEq_ii, gNe_ii, gNeg, sizeLine_eq, gMax2, gMin2, gList, gTuple, gIx, Kd.seq, D.ow, Kd.ow, D.get, D.put, Kd.at, itemsOf, fItems, fRng1, fRng3, fEnum, fCall, oCall, takeAll, pinIx, D.erL, D.er, Kd.er, D.clnL, D.cln, Kd.cln, cl2_v, cl2_lst, cl2_tup, D.cl2L, fD0, gTupD, anyOw_nil, anyOw_cons, Bool.or_false, Bool.false_or, dI_eq, nD_eq, pcD_eq, prD_eq, er_prD, ow_prD, c2_prD, cl_prD, erL_dI, er_nD, er_pcD, ow_nD, ow_dI, ow_pcD, c2_nD, c2_dI, c2_pcD, cl_nD, cl_pcD, clnL_dI, List.getD_cons_zero, List.getD_cons_succ, List.set_cons_zero, List.set_cons_succ, List.map_cons, List.map_nil, List.length_cons, List.length_nil, List.length_map, List.replicate, List.append_nil, List.cons_append, List.nil_append, Option.bind_some, Option.map_some, Option.bind_none, Option.map_none, if_true, if_false, Bool.and_true, Bool.true_and, Bool.false_eq_true, reduceIte, reduceCtorEq, decide_true, decide_false, Nat.reduceAdd, Nat.reduceLT, Nat.reduceSub, Nat.reduceLeDiff]
  have e0 : l_glued_0 [some (.n (.lst false) (sh.map pcD)), some (.n (.lst false) (P.map DL.prD)), none, none, none, none, none, none, none] = sForL (gSet 2) gb0 (P.map DL.prD) [some (.n (.lst false) (sh.map pcD)), some (.n (.lst false) (P.map DL.prD)), none, none, none, none, none, none, none] := by
    unfold l_glued_0
    simp only [sSeq, sIf, sRet, sAsg, sDrop, sPass, sFor, sForS, sFz, sMut, sMut0, sDPutF, sRaise, fHold, fMove, fFree, fVar, fC, f1, f2, fL, fCons, fNil, oCons, oNil, oTup, oLst, fTup, fLst, fT, fAnd, fOr, fNot, fAndV, fOrV, fNotV, fIf, fChain, fIsN, fNotN, DL.isNon, DL.isG, gSet, gsCons, gsNil, gUn, gUnL, gStore, pNil, pIx, opApp, opClear, opIns, gLen, gLt_ii, gLe_ii, gGt_ii, gGe_ii, gSub_ii, gAdd_ii, gMul_sm, gMod_pos, gDiv_pos, gPow_sm, gEq_ii, gNe_ii, gNeg, sizeLine_eq, gMax2, gMin2, gList, gTuple, gIx, Kd.seq, D.ow, Kd.ow, D.get, D.put, Kd.at, itemsOf, fItems, fRng1, fRng3, fEnum, fCall, oCall, takeAll, pinIx, D.erL, D.er, Kd.er, D.clnL, D.cln, Kd.cln, cl2_v, cl2_lst, cl2_tup, D.cl2L, fD0, gTupD, anyOw_nil, anyOw_cons, Bool.or_false, Bool.false_or, dI_eq, nD_eq, pcD_eq, prD_eq, er_prD, ow_prD, c2_prD, cl_prD, erL_dI, er_nD, er_pcD, ow_nD, ow_dI, ow_pcD, c2_nD, c2_dI, c2_pcD, cl_nD, cl_pcD, clnL_dI, List.getD_cons_zero, List.getD_cons_succ, List.set_cons_zero, List.set_cons_succ, List.map_cons, List.map_nil, List.length_cons, List.length_nil, List.length_map, List.replicate, List.append_nil, List.cons_append, List.nil_append, Option.bind_some, Option.map_some, Option.bind_none, Option.map_none, if_true, if_false, Bool.and_true, Bool.true_and, Bool.false_eq_true, reduceIte, reduceCtorEq, decide_true, decide_false, Nat.reduceAdd, Nat.reduceLT, Nat.reduceSub, Nat.reduceLeDiff]
  rw [e0]
  obtain ⟨ρ1, e1, x2, rfl⟩ := m_glued_0 sh (.n (.lst false) (P.map DL.prD)) P hp none none none none none none none
  rw [e1]
  obtain ⟨L, e2, hL, hR⟩ := m_lots sh P hG hn hP
  simp (disch := omega) only [sSeq, sIf, sRet, sAsg, sDrop, sPass, sFor, sForS, sFz, sMut, sMut0, sDPutF, sRaise, fHold, fMove, fFree, fVar, fC, f1, f2, fL, fCons, fNil, oCons, oNil, oTup, oLst, fTup, fLst, fT, fAnd, fOr, fNot, fAndV, fOrV, fNotV, fIf, fChain, fIsN, fNotN, DL.isNon, DL.isG, gSet, gsCons, gsNil, gUn, gUnL, gStore, pNil, pIx, opApp, opClear, opIns, gLen, gLt_ii, gLe_ii, gGt_ii, gGe_ii, gSub_ii, gAdd_ii, gMul_sm, gMod_pos, gDiv_pos, gPow_sm, gEq_ii, gNe_ii, gNeg, sizeLine_eq, gMax2, gMin2, gList, gTuple, gIx, Kd.seq, D.ow, Kd.ow, D.get, D.put, Kd.at, itemsOf, fItems, fRng1, fRng3, fEnum, fCall, oCall, takeAll, pinIx, D.erL, D.er, Kd.er, D.clnL, D.cln, Kd.cln, cl2_v, cl2_lst, cl2_tup, D.cl2L, fD0, gTupD, anyOw_nil, anyOw_cons, Bool.or_false, Bool.false_or, dI_eq, nD_eq, pcD_eq, prD_eq, er_prD, ow_prD, c2_prD, cl_prD, erL_dI, er_nD, er_pcD, ow_nD, ow_dI, ow_pcD, c2_nD, c2_dI, c2_pcD, cl_nD, cl_pcD, clnL_dI, List.getD_cons_zero, List.getD_cons_succ, List.set_cons_zero, List.set_cons_succ, List.map_cons, List.map_nil, List.length_cons, List.length_nil, List.length_map, List.replicate, List.append_nil, List.cons_append, List.nil_append, Option.bind_some, Option.map_some, Option.bind_none, Option.map_none, if_true, if_false, Bool.and_true, Bool.true_and, Bool.false_eq_true, reduceIte, reduceCtorEq, decide_true, decide_false, Nat.reduceAdd, Nat.reduceLT, Nat.reduceSub, Nat.reduceLeDiff, e2, ixD_nil]
  obtain ⟨ρ3, e3, x5, rfl⟩ := m_glued_1 sh (root L) (some (.n (.lst false) (P.map DL.prD))) x2 none none none none hn
  have hl := lbl_root hL
  have ec0 := m_glued_c0 sh.length (root L) (some (.n (.lst false) (sh.map pcD))) (some (.n (.lst false) (P.map DL.prD))) x2 x5 none none none hl hn
  rw [e3]
  simp (disch := omega) only [sSeq, sIf, sRet, sAsg, sDrop, sPass, sFor, sForS, sFz, sMut, sMut0, sDPutF, sRaise, fHold, fMove, fFree, fVar, fC, f1, f2, fL, fCons, fNil, oCons, oNil, oTup, oLst, fTup, fLst, fT, fAnd, fOr, fNot, fAndV, fOrV, fNotV, fIf, fChain, fIsN, fNotN, DL.isNon, DL.isG, gSet, gsCons, gsNil, gUn, gUnL, gStore, pNil, pIx, opApp, opClear, opIns, gLen, gLt_ii, gLe_ii, gGt_ii, gGe_ii, gSub_ii, gAdd_ii, gMul_sm, gMod_pos, gDiv_pos, gPow_sm, gEq_ii, gNe_ii, gNeg, sizeLine_eq, gMax2, gMin2, gList, gTuple, gIx, Kd.seq, D.ow, Kd.ow, D.get, D.put, Kd.at, itemsOf, fItems, fRng1, fRng3, fEnum, fCall, oCall, takeAll, pinIx, D.erL, D.er, Kd.er, D.clnL, D.cln, Kd.cln, cl2_v, cl2_lst, cl2_tup, D.cl2L, fD0, gTupD, anyOw_nil, anyOw_cons, Bool.or_false, Bool.false_or, dI_eq, nD_eq, pcD_eq, prD_eq, er_prD, ow_prD, c2_prD, cl_prD, erL_dI, er_nD, er_pcD, ow_nD, ow_dI, ow_pcD, c2_nD, c2_dI, c2_pcD, cl_nD, cl_pcD, clnL_dI, List.getD_cons_zero, List.getD_cons_succ, List.set_cons_zero, List.set_cons_succ, List.map_cons, List.map_nil, List.length_cons, List.length_nil, List.length_map, List.replicate, List.append_nil, List.cons_append, List.nil_append, Option.bind_some, Option.map_some, Option.bind_none, Option.map_none, if_true, if_false, Bool.and_true, Bool.true_and, Bool.false_eq_true, reduceIte, reduceCtorEq, decide_true, decide_false, Nat.reduceAdd, Nat.reduceLT, Nat.reduceSub, Nat.reduceLeDiff, ec0, ixD_fz]
  have ec2 := m_glued_c2 sh (root L) (fsOf sh.length (root L)) (some (.n (.lst false) (P.map DL.prD))) x2 (some (.n (.lst true) (((List.range sh.length).map (root L)).map nD))) x5 none none hG.vs (fun i m => fsOf_lt m) (by have := fsOf_len (n := sh.length) (f := root L); omega)
  rw [ec2]
  refine ⟨root L, ?_, hl, hR⟩
  simp (disch := omega) only [sSeq, sIf, sRet, sAsg, sDrop, sPass, sFor, sForS, sFz, sMut, sMut0, sDPutF, sRaise, fHold, fMove, fFree, fVar, fC, f1, f2, fL, fCons, fNil, oCons, oNil, oTup, oLst, fTup, fLst, fT, fAnd, fOr, fNot, fAndV, fOrV, fNotV, fIf, fChain, fIsN, fNotN, DL.isNon, DL.isG, gSet, gsCons, gsNil, gUn, gUnL, gStore, pNil, pIx, opApp, opClear, opIns, gLen, gLt_ii, gLe_ii, gGt_ii, gGe_ii, gSub_ii, gAdd_ii, gMul_sm, gMod_pos, gDiv_pos, gPow_sm, gEq_ii, gNe_ii, gNeg, sizeLine_eq, gMax2, gMin2, gList, gTuple, gIx, Kd.seq, D.ow, Kd.ow, D.get, D.put, Kd.at, itemsOf, fItems, fRng1, fRng3, fEnum, fCall, oCall, takeAll, pinIx, D.erL, D.er, Kd.er, D.clnL, D.cln, Kd.cln, cl2_v, cl2_lst, cl2_tup, D.cl2L, fD0, gTupD, anyOw_nil, anyOw_cons, Bool.or_false, Bool.false_or, dI_eq, nD_eq, pcD_eq, prD_eq, er_prD, ow_prD, c2_prD, cl_prD, erL_dI, er_nD, er_pcD, ow_nD, ow_dI, ow_pcD, c2_nD, c2_dI, c2_pcD, cl_nD, cl_pcD, clnL_dI, List.getD_cons_zero, List.getD_cons_succ, List.set_cons_zero, List.set_cons_succ, List.map_cons, List.map_nil, List.length_cons, List.length_nil, List.length_map, List.replicate, List.append_nil, List.cons_append, List.nil_append, Option.bind_some, Option.map_some, Option.bind_none, Option.map_none, if_true, if_false, Bool.and_true, Bool.true_and, Bool.false_eq_true, reduceIte, reduceCtorEq, decide_true, decide_false, Nat.reduceAdd, Nat.reduceLT, Nat.reduceSub, Nat.reduceLeDiff, cl_gpcs, ow_gpcs, cl_spots, ow_spots]
  rfl
end A95

set_option Elab.async false
set_option linter.all false
set_option maxRecDepth 100000
set_option maxHeartbeats 4000000
namespace A95
open DL PySem L2 Gl
open PyProof.Rows hiding St
theorem lab_range (n : Nat) : Lab n (List.range n) := ⟨List.length_range, fun x _ => by rw [range_get]; exact Nat.le_refl _, fun x _ => by rw [range_get, range_get]⟩
theorem m_lg_0 (sh : List (List Nat)) (x1 x2 x6 x7 x8 x9 x10 x11 x12 x13 : Option D) (W : List (Nat × Nat)) (a b : Nat) (pa pb : List Nat) (ea : sh[a]? = some pa) (eb : sh[b]? = some pb) (hW : W.length ≤ 100000) (hl : pa.length ≤ 4) :
    ∃ ρ', l__law_glued_0 [some (.n (.lst false) (sh.map pcD)), x1, x2, some (.n (.lst true) (W.map DL.prD)), some (.v (.int (a : Int))), some (.v (.int (b : Int))), x6, x7, x8, x9, x10, x11, x12, x13] = some (.nx ρ') ∧ ∃ x9 x10, ρ' = [some (.n (.lst false) (sh.map pcD)), x1, x2, some (.n (.lst true) ((W ++ pa.zip pb).map DL.prD)), some (.v (.int (a : Int))), some (.v (.int (b : Int))), x6, x7, x8, x9, x10, x11, x12, x13] := by
  unfold l__law_glued_0
  have e1 : atI (sh.map pcD) (a : Int) = some (pcD pa) := at_map (by omega) ea
  have e2 : atI (sh.map pcD) (b : Int) = some (pcD pb) := at_map (by omega) eb
  simp (disch := omega) only [sSeq, sIf, sRet, sAsg, sDrop, sPass, sFor, sForS, sFz, sMut, sMut0, sDPutF, sRaise, fHold, fMove, fFree, fVar, fC, f1, f2, fL, fCons, fNil, oCons, oNil, oTup, oLst, fTup, fLst, fT, fAnd, fOr, fNot, fAndV, fOrV, fNotV, fIf, fChain, fIsN, fNotN, DL.isNon, DL.isG, gSet, gsCons, gsNil, gUn, gUnL, gStore, pNil, pIx, opApp, opClear, opIns, gLen, gLt_ii, gLe_ii, gGt_ii, gGe_ii, gSub_ii, gAdd_ii, gMul_sm, gMod_pos, gDiv_pos, gPow_sm, gEq_ii, gNe_ii, gNeg, sizeLine_eq, gMax2, gMin2, gList, gTuple, gIx, Kd.seq, D.ow, Kd.ow, D.get, D.put, Kd.at, itemsOf, fItems, fRng1, fRng3, fEnum, fCall, oCall, takeAll, pinIx, D.erL, D.er, Kd.er, D.clnL, D.cln, Kd.cln, cl2_v, cl2_lst, cl2_tup, D.cl2L, fD0, gTupD, anyOw_nil, anyOw_cons, Bool.or_false, Bool.false_or, dI_eq, nD_eq, pcD_eq, prD_eq, er_prD, ow_prD, c2_prD, cl_prD, erL_dI, er_nD, er_pcD, ow_nD, ow_dI, ow_pcD, c2_nD, c2_dI, c2_pcD, cl_nD, cl_pcD, clnL_dI, List.getD_cons_zero, List.getD_cons_succ, List.set_cons_zero, List.set_cons_succ, List.map_cons, List.map_nil, List.length_cons, List.length_nil, List.length_map, List.replicate, List.append_nil, List.cons_append, List.nil_append, Option.bind_some, Option.map_some, Option.bind_none, Option.map_none, if_true, if_false, Bool.and_true, Bool.true_and, Bool.false_eq_true, reduceIte, reduceCtorEq, decide_true, decide_false, Nat.reduceAdd, Nat.reduceLT, Nat.reduceSub, Nat.reduceLeDiff, e1, e2, fZip, lstItems, tupItems, zip_pr]
  refine for_to (fun dn ρ => ∃ x9 x10, ρ = [some (.n (.lst false) (sh.map pcD)), x1, x2, some (.n (.lst true) ((W ++ (pa.zip pb).take dn.length).map DL.prD)), some (.v (.int (a : Int))), some (.v (.int (b : Int))), x6, x7, x8, x9, x10, x11, x12, x13] ∧ dn.length ≤ (pa.zip pb).length) ?_ ⟨x9, x10, by rw [List.length_nil, List.take_zero, List.append_nil], Nat.zero_le _⟩ ?_
  · rintro dn d rest ρ hsp ⟨x9, x10, rfl, hl0⟩
    have hdn : dn.length < (pa.zip pb).length := by
      have := congrArg List.length hsp
      rw [List.length_map, List.length_append, List.length_cons] at this
      omega
    have hd : d = DL.prD (pa.zip pb)[dn.length] := by
      have e : ((pa.zip pb).map DL.prD)[dn.length]? = some d := by rw [hsp]; simp
      rw [List.getElem?_map, List.getElem?_eq_getElem hdn] at e
      exact (Option.some.inj e).symm
    subst hd
    have h4 : (pa.zip pb).length ≤ 4 := by rw [List.length_zip]; omega
    have hz : (W ++ (pa.zip pb).take dn.length).length < 16777216 := by rw [List.length_append, List.length_take]; omega
    refine turn rfl ?_
    simp (disch := omega) only [sSeq, sIf, sRet, sAsg, sDrop, sPass, sFor, sForS, sFz, sMut, sMut0, sDPutF, sRaise, fHold, fMove, fFree, fVar, fC, f1, f2, fL, fCons, fNil, oCons, oNil, oTup, oLst, fTup, fLst, fT, fAnd, fOr, fNot, fAndV, fOrV, fNotV, fIf, fChain, fIsN, fNotN, DL.isNon, DL.isG, gSet, gsCons, gsNil, gUn, gUnL, gStore, pNil, pIx, opApp, opClear, opIns, gLen, gLt_ii, gLe_ii, gGt_ii, gGe_ii, gSub_ii, gAdd_ii, gMul_sm, gMod_pos, gDiv_pos, gPow_sm, gEq_ii, gNe_ii, gNeg, sizeLine_eq, gMax2, gMin2, gList, gTuple, gIx, Kd.seq, D.ow, Kd.ow, D.get, D.put, Kd.at, itemsOf, fItems, fRng1, fRng3, fEnum, fCall, oCall, takeAll, pinIx, D.erL, D.er, Kd.er, D.clnL, D.cln, Kd.cln, cl2_v, cl2_lst, cl2_tup, D.cl2L, fD0, gTupD, anyOw_nil, anyOw_cons, Bool.or_false, Bool.false_or, dI_eq, nD_eq, pcD_eq, prD_eq, er_prD, ow_prD, c2_prD, cl_prD, erL_dI, er_nD, er_pcD, ow_nD, ow_dI, ow_pcD, c2_nD, c2_dI, c2_pcD, cl_nD, cl_pcD, clnL_dI, List.getD_cons_zero, List.getD_cons_succ, List.set_cons_zero, List.set_cons_succ, List.map_cons, List.map_nil, List.length_cons, List.length_nil, List.length_map, List.replicate, List.append_nil, List.cons_append, List.nil_append, Option.bind_some, Option.map_some, Option.bind_none, Option.map_none, if_true, if_false, Bool.and_true, Bool.true_and, Bool.false_eq_true, reduceIte, reduceCtorEq, decide_true, decide_false, Nat.reduceAdd, Nat.reduceLT, Nat.reduceSub, Nat.reduceLeDiff, hz]
    refine ⟨_, rfl, some (nD (pa.zip pb)[dn.length].1), some (nD (pa.zip pb)[dn.length].2), ?_, ?_⟩
    · rw [List.length_append, List.length_singleton, List.take_succ_eq_append_getElem hdn, ← List.append_assoc, List.map_append (l₁ := W ++ _)]
      rfl
    · rw [List.length_append, List.length_singleton]; omega
  · rintro ρ' ⟨x9, x10, rfl, _⟩
    refine ⟨x9, x10, ?_⟩
    rw [List.length_map, List.take_length]
theorem m_lg_c0 (M : List Nat) (lo hi : Nat) (x0 x1 x3 x4 x5 x8 x9 x10 x11 x12 x13 : Option D) (hn : M.length ≤ 1000) :
    c__law_glued_0 [x0, x1, some (.n (.lst true) (M.map nD)), x3, x4, x5, some (.v (.int (lo : Int))), some (.v (.int (hi : Int))), x8, x9, x10, x11, x12, x13] = some (.n (.lst true) ((relab M lo hi).map nD)) := by
  unfold c__law_glued_0 fLc
  simp (disch := omega) only [sSeq, sIf, sRet, sAsg, sDrop, sPass, sFor, sForS, sFz, sMut, sMut0, sDPutF, sRaise, fHold, fMove, fFree, fVar, fC, f1, f2, fL, fCons, fNil, oCons, oNil, oTup, oLst, fTup, fLst, fT, fAnd, fOr, fNot, fAndV, fOrV, fNotV, fIf, fChain, fIsN, fNotN, DL.isNon, DL.isG, gSet, gsCons, gsNil, gUn, gUnL, gStore, pNil, pIx, opApp, opClear, opIns, gLen, gLt_ii, gLe_ii, gGt_ii, gGe_ii, gSub_ii, gAdd_ii, gMul_sm, gMod_pos, gDiv_pos, gPow_sm, gEq_ii, gNe_ii, gNeg, sizeLine_eq, gMax2, gMin2, gList, gTuple, gIx, Kd.seq, D.ow, Kd.ow, D.get, D.put, Kd.at, itemsOf, fItems, fRng1, fRng3, fEnum, fCall, oCall, takeAll, pinIx, D.erL, D.er, Kd.er, D.clnL, D.cln, Kd.cln, cl2_v, cl2_lst, cl2_tup, D.cl2L, fD0, gTupD, anyOw_nil, anyOw_cons, Bool.or_false, Bool.false_or, dI_eq, nD_eq, pcD_eq, prD_eq, er_prD, ow_prD, c2_prD, cl_prD, erL_dI, er_nD, er_pcD, ow_nD, ow_dI, ow_pcD, c2_nD, c2_dI, c2_pcD, cl_nD, cl_pcD, clnL_dI, List.getD_cons_zero, List.getD_cons_succ, List.set_cons_zero, List.set_cons_succ, List.map_cons, List.map_nil, List.length_cons, List.length_nil, List.length_map, List.replicate, List.append_nil, List.cons_append, List.nil_append, Option.bind_some, Option.map_some, Option.bind_none, Option.map_none, if_true, if_false, Bool.and_true, Bool.true_and, Bool.false_eq_true, reduceIte, reduceCtorEq, decide_true, decide_false, Nat.reduceAdd, Nat.reduceLT, Nat.reduceSub, Nat.reduceLeDiff, fWipe]
  rw [lcL_mapN (g := nD) (k := fun l => nD (if l = hi then lo else l)) _ fun x m => ⟨_, rfl, rfl, ?_⟩]
  · simp only [Option.bind_some, List.length_map]
    rw [if_pos (by omega)]
    unfold relab
    rw [List.map_map]
    rfl
  · by_cases h : x = hi
    · have hx : (x : Int) = (hi : Int) := by omega
      rw [if_pos h]
      simp (disch := omega) only [sSeq, sIf, sRet, sAsg, sDrop, sPass, sFor, sForS, sFz, sMut, sMut0, sDPutF, sRaise, fHold, fMove, fFree, fVar, fC, f1, f2, fL, fCons, fNil, oCons, oNil, oTup, oLst, fTup, fLst, fT, fAnd, fOr, fNot, fAndV, fOrV, fNotV, fIf, fChain, fIsN, fNotN, DL.isNon, DL.isG, gSet, gsCons, gsNil, gUn, gUnL, gStore, pNil, pIx, opApp, opClear, opIns, gLen, gLt_ii, gLe_ii, gGt_ii, gGe_ii, gSub_ii, gAdd_ii, gMul_sm, gMod_pos, gDiv_pos, gPow_sm, gEq_ii, gNe_ii, gNeg, sizeLine_eq, gMax2, gMin2, gList, gTuple, gIx, Kd.seq, D.ow, Kd.ow, D.get, D.put, Kd.at, itemsOf, fItems, fRng1, fRng3, fEnum, fCall, oCall, takeAll, pinIx, D.erL, D.er, Kd.er, D.clnL, D.cln, Kd.cln, cl2_v, cl2_lst, cl2_tup, D.cl2L, fD0, gTupD, anyOw_nil, anyOw_cons, Bool.or_false, Bool.false_or, dI_eq, nD_eq, pcD_eq, prD_eq, er_prD, ow_prD, c2_prD, cl_prD, erL_dI, er_nD, er_pcD, ow_nD, ow_dI, ow_pcD, c2_nD, c2_dI, c2_pcD, cl_nD, cl_pcD, clnL_dI, List.getD_cons_zero, List.getD_cons_succ, List.set_cons_zero, List.set_cons_succ, List.map_cons, List.map_nil, List.length_cons, List.length_nil, List.length_map, List.replicate, List.append_nil, List.cons_append, List.nil_append, Option.bind_some, Option.map_some, Option.bind_none, Option.map_none, if_true, if_false, Bool.and_true, Bool.true_and, Bool.false_eq_true, reduceIte, reduceCtorEq, decide_true, decide_false, Nat.reduceAdd, Nat.reduceLT, Nat.reduceSub, Nat.reduceLeDiff, hx]
    · have hx : ¬ (x : Int) = (hi : Int) := by omega
      rw [if_neg h]
      simp (disch := omega) only [sSeq, sIf, sRet, sAsg, sDrop, sPass, sFor, sForS, sFz, sMut, sMut0, sDPutF, sRaise, fHold, fMove, fFree, fVar, fC, f1, f2, fL, fCons, fNil, oCons, oNil, oTup, oLst, fTup, fLst, fT, fAnd, fOr, fNot, fAndV, fOrV, fNotV, fIf, fChain, fIsN, fNotN, DL.isNon, DL.isG, gSet, gsCons, gsNil, gUn, gUnL, gStore, pNil, pIx, opApp, opClear, opIns, gLen, gLt_ii, gLe_ii, gGt_ii, gGe_ii, gSub_ii, gAdd_ii, gMul_sm, gMod_pos, gDiv_pos, gPow_sm, gEq_ii, gNe_ii, gNeg, sizeLine_eq, gMax2, gMin2, gList, gTuple, gIx, Kd.seq, D.ow, Kd.ow, D.get, D.put, Kd.at, itemsOf, fItems, fRng1, fRng3, fEnum, fCall, oCall, takeAll, pinIx, D.erL, D.er, Kd.er, D.clnL, D.cln, Kd.cln, cl2_v, cl2_lst, cl2_tup, D.cl2L, fD0, gTupD, anyOw_nil, anyOw_cons, Bool.or_false, Bool.false_or, dI_eq, nD_eq, pcD_eq, prD_eq, er_prD, ow_prD, c2_prD, cl_prD, erL_dI, er_nD, er_pcD, ow_nD, ow_dI, ow_pcD, c2_nD, c2_dI, c2_pcD, cl_nD, cl_pcD, clnL_dI, List.getD_cons_zero, List.getD_cons_succ, List.set_cons_zero, List.set_cons_succ, List.map_cons, List.map_nil, List.length_cons, List.length_nil, List.length_map, List.replicate, List.append_nil, List.cons_append, List.nil_append, Option.bind_some, Option.map_some, Option.bind_none, Option.map_none, if_true, if_false, Bool.and_true, Bool.true_and, Bool.false_eq_true, reduceIte, reduceCtorEq, decide_true, decide_false, Nat.reduceAdd, Nat.reduceLT, Nat.reduceSub, Nat.reduceLeDiff, hx]
theorem m_lg_1 (sh : List (List Nat)) (P : List (Nat × Nat)) (hG : Gok sh P) (hn : sh.length ≤ 1000) (hP : P.length ≤ 1000) (x1 : Option D) :
    ∃ ρ', l__law_glued_1 [some (.n (.lst false) (sh.map pcD)), x1, some (.n (.lst true) ((List.range sh.length).map nD)), some (.n (.lst true) (P.map DL.prD)), none, none, none, none, none, none, none, none, none, none] = some (.nx ρ') ∧
      ∃ M x4 x5 x6 x7 x8 x9 x10, ρ' = [some (.n (.lst false) (sh.map pcD)), x1, some (.n (.lst true) (M.map nD)), some (.n (.lst true) []), x4, x5, x6, x7, x8, x9, x10, none, none, none] ∧ Lab sh.length M ∧ Gl.St sh P (LEq M) [] := by
  unfold l__law_glued_1
  have hs0 : Gl.St sh P (LEq (List.range sh.length)) P := Gl.St.start (LEq.eqv _) fun x y h => by
    unfold LEq at h
    rw [range_get, range_get] at h
    exact h
  have key := while_m (c := fT (f2 gGt (fL gLen (fCons (fVar 3) fNil)) (fC (V.int 0)))) (b := sSeq (sAsg (sMut0 3 pNil opPop) (gUn 2 (gsCons (gSet 4) (gsCons (gSet 5) gsNil)))) (sSeq (sAsg (fHold (fL gMin2 (fCons (f2 gIx (fVar 2) (fVar 4)) (fCons (f2 gIx (fVar 2) (fVar 5)) fNil)))) (gSet 6)) (sSeq (sAsg (fHold (fL gMax2 (fCons (f2 gIx (fVar 2) (fVar 4)) (fCons (f2 gIx (fVar 2) (fVar 5)) fNil)))) (gSet 7)) (sIf (fT (f2 gNe (fVar 6) (fVar 7))) (sSeq (sAsg (fHold c__law_glued_0) (gSet 2)) l__law_glued_0) sPass))))
    (fun m ρ => ∃ M W x4 x5 x6 x7 x8 x9 x10, ρ = [some (.n (.lst false) (sh.map pcD)), x1, some (.n (.lst true) (M.map nD)), some (.n (.lst true) (W.map DL.prD)), x4, x5, x6, x7, x8, x9, x10, none, none, none] ∧ Lab sh.length M ∧ Gl.St sh P (LEq M) W ∧ (∀ w ∈ W, w.1 < sh.length ∧ w.2 < sh.length) ∧ m = W.length + 5 * fixN M sh.length ∧ m ≤ 10000)
    ?_ 100000 (P.length + 5 * fixN (List.range sh.length) sh.length) [some (.n (.lst false) (sh.map pcD)), x1, some (.n (.lst true) ((List.range sh.length).map nD)), some (.n (.lst true) (P.map DL.prD)), none, none, none, none, none, none, none, none, none, none] ⟨List.range sh.length, P, none, none, none, none, none, none, none, rfl, lab_range _, hs0, hG.pr, rfl, ?_⟩ ?_
  · obtain ⟨ρ', m', e, ⟨M, W, x4, x5, x6, x7, x8, x9, x10, rfl, hL, hS, hW, hm⟩, hc⟩ := key
    have hw : W = [] := by
      simp (disch := omega) only [sSeq, sIf, sRet, sAsg, sDrop, sPass, sFor, sForS, sFz, sMut, sMut0, sDPutF, sRaise, fHold, fMove, fFree, fVar, fC, f1, f2, fL, fCons, fNil, oCons, oNil, oTup, oLst, fTup, fLst, fT, fAnd, fOr, fNot, fAndV, fOrV, fNotV, fIf, fChain, fIsN, fNotN, DL.isNon, DL.isG, gSet, gsCons, gsNil, gUn, gUnL, gStore, pNil, pIx, opApp, opClear, opIns, gLen, gLt_ii, gLe_ii, gGt_ii, gGe_ii, gSub_ii, gAdd_ii, gMul_sm, gMod_pos, gDiv_pos, gPow_sm, gEq_ii, gNe_ii, gNeg, sizeLine_eq, gMax2, gMin2, gList, gTuple, gIx, Kd.seq, D.ow, Kd.ow, D.get, D.put, Kd.at, itemsOf, fItems, fRng1, fRng3, fEnum, fCall, oCall, takeAll, pinIx, D.erL, D.er, Kd.er, D.clnL, D.cln, Kd.cln, cl2_v, cl2_lst, cl2_tup, D.cl2L, fD0, gTupD, anyOw_nil, anyOw_cons, Bool.or_false, Bool.false_or, dI_eq, nD_eq, pcD_eq, prD_eq, er_prD, ow_prD, c2_prD, cl_prD, erL_dI, er_nD, er_pcD, ow_nD, ow_dI, ow_pcD, c2_nD, c2_dI, c2_pcD, cl_nD, cl_pcD, clnL_dI, List.getD_cons_zero, List.getD_cons_succ, List.set_cons_zero, List.set_cons_succ, List.map_cons, List.map_nil, List.length_cons, List.length_nil, List.length_map, List.replicate, List.append_nil, List.cons_append, List.nil_append, Option.bind_some, Option.map_some, Option.bind_none, Option.map_none, if_true, if_false, Bool.and_true, Bool.true_and, Bool.false_eq_true, reduceIte, reduceCtorEq, decide_true, decide_false, Nat.reduceAdd, Nat.reduceLT, Nat.reduceSub, Nat.reduceLeDiff] at hc
      have h3 := Option.some.inj hc
      have h4 := of_decide_eq_false h3
      have : W.length = 0 := by omega
      exact List.eq_nil_of_length_eq_zero this
    subst hw
    exact ⟨_, e, M, x4, x5, x6, x7, x8, x9, x10, rfl, hL, hS⟩
  · rintro m ρ ⟨M, W, x4, x5, x6, x7, x8, x9, x10, rfl, hL, hS, hW, hm, hm2⟩
    refine ⟨decide (0 < W.length), ?_, fun hk => ?_⟩
    · simp (disch := omega) only [sSeq, sIf, sRet, sAsg, sDrop, sPass, sFor, sForS, sFz, sMut, sMut0, sDPutF, sRaise, fHold, fMove, fFree, fVar, fC, f1, f2, fL, fCons, fNil, oCons, oNil, oTup, oLst, fTup, fLst, fT, fAnd, fOr, fNot, fAndV, fOrV, fNotV, fIf, fChain, fIsN, fNotN, DL.isNon, DL.isG, gSet, gsCons, gsNil, gUn, gUnL, gStore, pNil, pIx, opApp, opClear, opIns, gLen, gLt_ii, gLe_ii, gGt_ii, gGe_ii, gSub_ii, gAdd_ii, gMul_sm, gMod_pos, gDiv_pos, gPow_sm, gEq_ii, gNe_ii, gNeg, sizeLine_eq, gMax2, gMin2, gList, gTuple, gIx, Kd.seq, D.ow, Kd.ow, D.get, D.put, Kd.at, itemsOf, fItems, fRng1, fRng3, fEnum, fCall, oCall, takeAll, pinIx, D.erL, D.er, Kd.er, D.clnL, D.cln, Kd.cln, cl2_v, cl2_lst, cl2_tup, D.cl2L, fD0, gTupD, anyOw_nil, anyOw_cons, Bool.or_false, Bool.false_or, dI_eq, nD_eq, pcD_eq, prD_eq, er_prD, ow_prD, c2_prD, cl_prD, erL_dI, er_nD, er_pcD, ow_nD, ow_dI, ow_pcD, c2_nD, c2_dI, c2_pcD, cl_nD, cl_pcD, clnL_dI, List.getD_cons_zero, List.getD_cons_succ, List.set_cons_zero, List.set_cons_succ, List.map_cons, List.map_nil, List.length_cons, List.length_nil, List.length_map, List.replicate, List.append_nil, List.cons_append, List.nil_append, Option.bind_some, Option.map_some, Option.bind_none, Option.map_none, if_true, if_false, Bool.and_true, Bool.true_and, Bool.false_eq_true, reduceIte, reduceCtorEq, decide_true, decide_false, Nat.reduceAdd, Nat.reduceLT, Nat.reduceSub, Nat.reduceLeDiff]
      have : decide ((0 : Int) < (W.length : Int)) = decide (0 < W.length) := by
        apply Bool.eq_iff_iff.mpr
        rw [decide_eq_true_iff, decide_eq_true_iff]
        omega
      rw [this]
    · have hpos := of_decide_eq_true hk
      obtain ⟨W0, ⟨p, q⟩, rfl⟩ : ∃ W0 w, W = W0 ++ [w] := by
        have hne : W ≠ [] := fun z => by rw [z] at hpos; exact absurd hpos (by decide)
        exact ⟨W.dropLast, W.getLast hne, (List.dropLast_concat_getLast hne).symm⟩
      obtain ⟨hp, hq⟩ := hW (p, q) (by simp)
      have hp : p < sh.length := hp
      have hq : q < sh.length := hq
      have ea := at_nat M p (by rw [hL.len]; exact hp)
      have eb := at_nat M q (by rw [hL.len]; exact hq)
      have lp := hL.le p hp
      have lq := hL.le q hq
      have ip := hL.id p hp
      have iq := hL.id q hq
      have hmax : (if ((M.getD q q : Nat) : Int) > (M.getD p p : Nat) then ((M.getD q q : Nat) : Int) else (M.getD p p : Nat)) = ((max (M.getD p p) (M.getD q q) : Nat) : Int) := by split <;> omega
      have hmin : (if ((M.getD q q : Nat) : Int) < (M.getD p p : Nat) then ((M.getD q q : Nat) : Int) else (M.getD p p : Nat)) = ((min (M.getD p p) (M.getD q q) : Nat) : Int) := by split <;> omega
      by_cases hr : M.getD p p = M.getD q q
      · have hri : ((min (M.getD p p) (M.getD q q) : Nat) : Int) = ((max (M.getD p p) (M.getD q q) : Nat) : Int) := by omega
        refine ⟨_, m - 1, ?_, ⟨M, W0, some (nD p), some (nD q), some (.v (.int ((min (M.getD p p) (M.getD q q) : Nat) : Int))), some (.v (.int ((max (M.getD p p) (M.getD q q) : Nat) : Int))), x8, x9, x10, rfl, hL, hS.skip hr, fun w m => hW w (List.mem_append_left _ m), ?_, by omega⟩, ?_⟩
        · simp (disch := omega) only [sSeq, sIf, sRet, sAsg, sDrop, sPass, sFor, sForS, sFz, sMut, sMut0, sDPutF, sRaise, fHold, fMove, fFree, fVar, fC, f1, f2, fL, fCons, fNil, oCons, oNil, oTup, oLst, fTup, fLst, fT, fAnd, fOr, fNot, fAndV, fOrV, fNotV, fIf, fChain, fIsN, fNotN, DL.isNon, DL.isG, gSet, gsCons, gsNil, gUn, gUnL, gStore, pNil, pIx, opApp, opClear, opIns, gLen, gLt_ii, gLe_ii, gGt_ii, gGe_ii, gSub_ii, gAdd_ii, gMul_sm, gMod_pos, gDiv_pos, gPow_sm, gEq_ii, gNe_ii, gNeg, sizeLine_eq, gMax2, gMin2, gList, gTuple, gIx, Kd.seq, D.ow, Kd.ow, D.get, D.put, Kd.at, itemsOf, fItems, fRng1, fRng3, fEnum, fCall, oCall, takeAll, pinIx, D.erL, D.er, Kd.er, D.clnL, D.cln, Kd.cln, cl2_v, cl2_lst, cl2_tup, D.cl2L, fD0, gTupD, anyOw_nil, anyOw_cons, Bool.or_false, Bool.false_or, dI_eq, nD_eq, pcD_eq, prD_eq, er_prD, ow_prD, c2_prD, cl_prD, erL_dI, er_nD, er_pcD, ow_nD, ow_dI, ow_pcD, c2_nD, c2_dI, c2_pcD, cl_nD, cl_pcD, clnL_dI, List.getD_cons_zero, List.getD_cons_succ, List.set_cons_zero, List.set_cons_succ, List.map_cons, List.map_nil, List.length_cons, List.length_nil, List.length_map, List.replicate, List.append_nil, List.cons_append, List.nil_append, Option.bind_some, Option.map_some, Option.bind_none, Option.map_none, if_true, if_false, Bool.and_true, Bool.true_and, Bool.false_eq_true, reduceIte, reduceCtorEq, decide_true, decide_false, Nat.reduceAdd, Nat.reduceLT, Nat.reduceSub, Nat.reduceLeDiff, pop_pr, ea, eb, hmax, hmin, decide_eq_true hri, Bool.not_true]
        · rw [List.length_append, List.length_singleton] at hm; omega
        · rw [List.length_append, List.length_singleton] at hm; omega
      · have hri : ¬ ((min (M.getD p p) (M.getD q q) : Nat) : Int) = ((max (M.getD p p) (M.getD q q) : Nat) : Int) := by omega
        have ga : sh[p]? = some sh[p] := List.getElem?_eq_getElem hp
        have gb : sh[q]? = some sh[q] := List.getElem?_eq_getElem hq
        have hl4 : sh[p].length ≤ 4 := by have := hG.vs.ln _ (List.getElem_mem hp); omega
        have hWl : W0.length ≤ 100000 := by rw [List.length_append, List.length_singleton] at hm; omega
        have ec := m_lg_c0 M (min (M.getD p p) (M.getD q q)) (max (M.getD p p) (M.getD q q)) (some (.n (.lst false) (sh.map pcD))) x1 (some (.n (.lst true) (W0.map DL.prD))) (some (nD p)) (some (nD q)) x8 x9 x10 none none none (by rw [hL.len]; exact hn)
        obtain ⟨ρ3, e3, y9, y10, rfl⟩ := m_lg_0 sh x1 (some (.n (.lst true) ((relab M (min (M.getD p p) (M.getD q q)) (max (M.getD p p) (M.getD q q))).map nD))) (some (.v (.int ((min (M.getD p p) (M.getD q q) : Nat) : Int)))) (some (.v (.int ((max (M.getD p p) (M.getD q q) : Nat) : Int)))) x8 x9 x10 none none none W0 p q _ _ ga gb hWl hl4
        have flo : M.getD (min (M.getD p p) (M.getD q q)) (min (M.getD p p) (M.getD q q)) = min (M.getD p p) (M.getD q q) := by
          rcases Nat.le_total (M.getD p p) (M.getD q q) with c | c
          · rw [Nat.min_eq_left c]; exact ip
          · rw [Nat.min_eq_right c]; exact iq
        have fhi : M.getD (max (M.getD p p) (M.getD q q)) (max (M.getD p p) (M.getD q q)) = max (M.getD p p) (M.getD q q) := by
          rcases Nat.le_total (M.getD p p) (M.getD q q) with c | c
          · rw [Nat.max_eq_right c]; exact iq
          · rw [Nat.max_eq_left c]; exact ip
        have hless : fixN (relab M (min (M.getD p p) (M.getD q q)) (max (M.getD p p) (M.getD q q))) sh.length < fixN M sh.length := by
          refine fix_less (x0 := max (M.getD p p) (M.getD q q)) (fun x hx h => ?_) (by omega) fhi ?_
          · rw [relab_get hL.len hx] at h
            have := hL.le x hx
            by_cases c : M.getD x x = max (M.getD p p) (M.getD q q)
            · rw [if_pos c] at h; omega
            · rw [if_neg c] at h; exact h
          · rw [relab_get hL.len (by omega), if_pos fhi]; omega
        have hz : ((sh[p]).zip (sh[q])).length ≤ 4 := by rw [List.length_zip]; omega
        simp only [prD_eq, nD_eq] at e3 ec
        refine ⟨_, (W0 ++ (sh[p]).zip (sh[q])).length + 5 * fixN (relab M (min (M.getD p p) (M.getD q q)) (max (M.getD p p) (M.getD q q))) sh.length, ?_, ⟨_, W0 ++ (sh[p]).zip (sh[q]), some (nD p), some (nD q), some (.v (.int ((min (M.getD p p) (M.getD q q) : Nat) : Int))), some (.v (.int ((max (M.getD p p) (M.getD q q) : Nat) : Int))), x8, y9, y10, rfl, hL.relab (by omega) (by omega) flo, ?_, ?_, rfl, ?_⟩, ?_⟩
        · simp (disch := omega) only [sSeq, sIf, sRet, sAsg, sDrop, sPass, sFor, sForS, sFz, sMut, sMut0, sDPutF, sRaise, fHold, fMove, fFree, fVar, fC, f1, f2, fL, fCons, fNil, oCons, oNil, oTup, oLst, fTup, fLst, fT, fAnd, fOr, fNot, fAndV, fOrV, fNotV, fIf, fChain, fIsN, fNotN, DL.isNon, DL.isG, gSet, gsCons, gsNil, gUn, gUnL, gStore, pNil, pIx, opApp, opClear, opIns, gLen, gLt_ii, gLe_ii, gGt_ii, gGe_ii, gSub_ii, gAdd_ii, gMul_sm, gMod_pos, gDiv_pos, gPow_sm, gEq_ii, gNe_ii, gNeg, sizeLine_eq, gMax2, gMin2, gList, gTuple, gIx, Kd.seq, D.ow, Kd.ow, D.get, D.put, Kd.at, itemsOf, fItems, fRng1, fRng3, fEnum, fCall, oCall, takeAll, pinIx, D.erL, D.er, Kd.er, D.clnL, D.cln, Kd.cln, cl2_v, cl2_lst, cl2_tup, D.cl2L, fD0, gTupD, anyOw_nil, anyOw_cons, Bool.or_false, Bool.false_or, dI_eq, nD_eq, pcD_eq, prD_eq, er_prD, ow_prD, c2_prD, cl_prD, erL_dI, er_nD, er_pcD, ow_nD, ow_dI, ow_pcD, c2_nD, c2_dI, c2_pcD, cl_nD, cl_pcD, clnL_dI, List.getD_cons_zero, List.getD_cons_succ, List.set_cons_zero, List.set_cons_succ, List.map_cons, List.map_nil, List.length_cons, List.length_nil, List.length_map, List.replicate, List.append_nil, List.cons_append, List.nil_append, Option.bind_some, Option.map_some, Option.bind_none, Option.map_none, if_true, if_false, Bool.and_true, Bool.true_and, Bool.false_eq_true, reduceIte, reduceCtorEq, decide_true, decide_false, Nat.reduceAdd, Nat.reduceLT, Nat.reduceSub, Nat.reduceLeDiff, pop_pr, ea, eb, hmax, hmin, decide_eq_false hri, Bool.not_false, ec]
          exact e3
        · refine hS.merge hG.ln rfl rfl ga gb (LEq.eqv _) (fun x y => ?_) hG.rg
          exact LEq.relabA hL hp hq hr x y
        · intro w m
          rcases List.mem_append.mp m with m | m
          · exact hW w (List.mem_append_left _ m)
          · exact fc_rng hG.vs ga gb w m
        · rw [List.length_append, List.length_singleton] at hm
          rw [List.length_append]
          omega
        · rw [List.length_append, List.length_singleton] at hm
          rw [List.length_append]
          omega
  · have : fixN (List.range sh.length) sh.length ≤ sh.length := by
      unfold fixN
      have := List.length_filter_le (fun x => decide ((List.range sh.length).getD x x = x)) (List.range sh.length)
      rw [List.length_range] at this
      exact this
    omega
  · have : fixN (List.range sh.length) sh.length ≤ sh.length := by
      unfold fixN
      have := List.length_filter_le (fun x => decide ((List.range sh.length).getD x x = x)) (List.range sh.length)
      rw [List.length_range] at this
      exact this
    omega
end A95

set_option Elab.async false
set_option linter.all false
set_option maxRecDepth 100000
set_option maxHeartbeats 4000000
namespace A95
open DL PySem L2 Gl
open PyProof.Rows hiding St
theorem lab_eq {n : Nat} {M : List Nat} (h : M.length = n) : M = (List.range n).map fun x => M.getD x x := by
  apply List.ext_getElem
  · rw [List.length_map, List.length_range, h]
  · intro i h1 h2
    rw [List.getElem_map, List.getElem_range, List.getD_eq_getElem?_getD, List.getElem?_eq_getElem h1]
    rfl
theorem m_lg_c1 (sh : List (List Nat)) (M : List Nat) (x1 x3 x4 x5 x6 x7 x8 x9 x10 x11 x12 x13 : Option D) (hn : sh.length ≤ 1000) (hM : M.length = sh.length) :
    c__law_glued_1 [some (.n (.lst false) (sh.map pcD)), x1, some (.n (.lst true) (M.map nD)), x3, x4, x5, x6, x7, x8, x9, x10, x11, x12, x13] = some (.n (.lst true) ((fsOf sh.length fun x => M.getD x x).map nD)) := by
  unfold c__law_glued_1 fLc
  have hb : inBd (sh.length : Int) = true := decide_eq_true (by omega)
  simp (disch := omega) only [sSeq, sIf, sRet, sAsg, sDrop, sPass, sFor, sForS, sFz, sMut, sMut0, sDPutF, sRaise, fHold, fMove, fFree, fVar, fC, f1, f2, fL, fCons, fNil, oCons, oNil, oTup, oLst, fTup, fLst, fT, fAnd, fOr, fNot, fAndV, fOrV, fNotV, fIf, fChain, fIsN, fNotN, DL.isNon, DL.isG, gSet, gsCons, gsNil, gUn, gUnL, gStore, pNil, pIx, opApp, opClear, opIns, gLen, gLt_ii, gLe_ii, gGt_ii, gGe_ii, gSub_ii, gAdd_ii, gMul_sm, gMod_pos, gDiv_pos, gPow_sm, gEq_ii, gNe_ii, gNeg, sizeLine_eq, gMax2, gMin2, gList, gTuple, gIx, Kd.seq, D.ow, Kd.ow, D.get, D.put, Kd.at, itemsOf, fItems, fRng1, fRng3, fEnum, fCall, oCall, takeAll, pinIx, D.erL, D.er, Kd.er, D.clnL, D.cln, Kd.cln, cl2_v, cl2_lst, cl2_tup, D.cl2L, fD0, gTupD, anyOw_nil, anyOw_cons, Bool.or_false, Bool.false_or, dI_eq, nD_eq, pcD_eq, prD_eq, er_prD, ow_prD, c2_prD, cl_prD, erL_dI, er_nD, er_pcD, ow_nD, ow_dI, ow_pcD, c2_nD, c2_dI, c2_pcD, cl_nD, cl_pcD, clnL_dI, List.getD_cons_zero, List.getD_cons_succ, List.set_cons_zero, List.set_cons_succ, List.map_cons, List.map_nil, List.length_cons, List.length_nil, List.length_map, List.replicate, List.append_nil, List.cons_append, List.nil_append, Option.bind_some, Option.map_some, Option.bind_none, Option.map_none, if_true, if_false, Bool.and_true, Bool.true_and, Bool.false_eq_true, reduceIte, reduceCtorEq, decide_true, decide_false, Nat.reduceAdd, Nat.reduceLT, Nat.reduceSub, Nat.reduceLeDiff, hb, Int.toNat_natCast, rngD_nat, fWipe]
  rw [lcL_filN (g := nD) (k := nD) (p := fun x => decide (M.getD x x = x)) _ fun i m => ⟨_, rfl, ?_, fun _ => rfl⟩]
  · simp only [Option.bind_some, List.length_map]
    have hle : ((List.range sh.length).filter fun x => decide (M.getD x x = x)).length ≤ sh.length := fsOf_len (n := sh.length) (f := fun x => M.getD x x)
    rw [if_pos (by omega)]
    rfl
  · rw [List.mem_range] at m
    have e := at_nat M i (by rw [hM]; exact m)
    simp (disch := omega) only [sSeq, sIf, sRet, sAsg, sDrop, sPass, sFor, sForS, sFz, sMut, sMut0, sDPutF, sRaise, fHold, fMove, fFree, fVar, fC, f1, f2, fL, fCons, fNil, oCons, oNil, oTup, oLst, fTup, fLst, fT, fAnd, fOr, fNot, fAndV, fOrV, fNotV, fIf, fChain, fIsN, fNotN, DL.isNon, DL.isG, gSet, gsCons, gsNil, gUn, gUnL, gStore, pNil, pIx, opApp, opClear, opIns, gLen, gLt_ii, gLe_ii, gGt_ii, gGe_ii, gSub_ii, gAdd_ii, gMul_sm, gMod_pos, gDiv_pos, gPow_sm, gEq_ii, gNe_ii, gNeg, sizeLine_eq, gMax2, gMin2, gList, gTuple, gIx, Kd.seq, D.ow, Kd.ow, D.get, D.put, Kd.at, itemsOf, fItems, fRng1, fRng3, fEnum, fCall, oCall, takeAll, pinIx, D.erL, D.er, Kd.er, D.clnL, D.cln, Kd.cln, cl2_v, cl2_lst, cl2_tup, D.cl2L, fD0, gTupD, anyOw_nil, anyOw_cons, Bool.or_false, Bool.false_or, dI_eq, nD_eq, pcD_eq, prD_eq, er_prD, ow_prD, c2_prD, cl_prD, erL_dI, er_nD, er_pcD, ow_nD, ow_dI, ow_pcD, c2_nD, c2_dI, c2_pcD, cl_nD, cl_pcD, clnL_dI, List.getD_cons_zero, List.getD_cons_succ, List.set_cons_zero, List.set_cons_succ, List.map_cons, List.map_nil, List.length_cons, List.length_nil, List.length_map, List.replicate, List.append_nil, List.cons_append, List.nil_append, Option.bind_some, Option.map_some, Option.bind_none, Option.map_none, if_true, if_false, Bool.and_true, Bool.true_and, Bool.false_eq_true, reduceIte, reduceCtorEq, decide_true, decide_false, Nat.reduceAdd, Nat.reduceLT, Nat.reduceSub, Nat.reduceLeDiff, e]
    congr 1
    apply Bool.eq_iff_iff.mpr
    rw [decide_eq_true_iff, decide_eq_true_iff]
    omega
theorem m_lg_c2 (sh : List (List Nat)) (M fs p : List Nat) (i : Nat) (x1 x3 x4 x5 x6 x7 x8 x9 x10 x13 : Option D) (hi : sh[i]? = some p) (hM : M.length = sh.length) (hp : ∀ x ∈ p, x < sh.length) (hf : ∀ x ∈ p, M.getD x x ∈ fs) (hl : p.length ≤ 4) :
    c__law_glued_2 [some (.n (.lst false) (sh.map pcD)), x1, some (.n (.lst true) (M.map nD)), x3, x4, x5, x6, x7, x8, x9, x10, some (.n (.lst true) (fs.map nD)), some (.v (.int (i : Int))), x13] = some (.n (.lst true) ((p.map fun x => fs.idxOf (M.getD x x)).map nD)) := by
  unfold c__law_glued_2 fLc
  have e1 : atI (sh.map pcD) (i : Int) = some (pcD p) := at_map (by omega) hi
  simp (disch := omega) only [sSeq, sIf, sRet, sAsg, sDrop, sPass, sFor, sForS, sFz, sMut, sMut0, sDPutF, sRaise, fHold, fMove, fFree, fVar, fC, f1, f2, fL, fCons, fNil, oCons, oNil, oTup, oLst, fTup, fLst, fT, fAnd, fOr, fNot, fAndV, fOrV, fNotV, fIf, fChain, fIsN, fNotN, DL.isNon, DL.isG, gSet, gsCons, gsNil, gUn, gUnL, gStore, pNil, pIx, opApp, opClear, opIns, gLen, gLt_ii, gLe_ii, gGt_ii, gGe_ii, gSub_ii, gAdd_ii, gMul_sm, gMod_pos, gDiv_pos, gPow_sm, gEq_ii, gNe_ii, gNeg, sizeLine_eq, gMax2, gMin2, gList, gTuple, gIx, Kd.seq, D.ow, Kd.ow, D.get, D.put, Kd.at, itemsOf, fItems, fRng1, fRng3, fEnum, fCall, oCall, takeAll, pinIx, D.erL, D.er, Kd.er, D.clnL, D.cln, Kd.cln, cl2_v, cl2_lst, cl2_tup, D.cl2L, fD0, gTupD, anyOw_nil, anyOw_cons, Bool.or_false, Bool.false_or, dI_eq, nD_eq, pcD_eq, prD_eq, er_prD, ow_prD, c2_prD, cl_prD, erL_dI, er_nD, er_pcD, ow_nD, ow_dI, ow_pcD, c2_nD, c2_dI, c2_pcD, cl_nD, cl_pcD, clnL_dI, List.getD_cons_zero, List.getD_cons_succ, List.set_cons_zero, List.set_cons_succ, List.map_cons, List.map_nil, List.length_cons, List.length_nil, List.length_map, List.replicate, List.append_nil, List.cons_append, List.nil_append, Option.bind_some, Option.map_some, Option.bind_none, Option.map_none, if_true, if_false, Bool.and_true, Bool.true_and, Bool.false_eq_true, reduceIte, reduceCtorEq, decide_true, decide_false, Nat.reduceAdd, Nat.reduceLT, Nat.reduceSub, Nat.reduceLeDiff, e1, fWipe]
  rw [lcL_mapN (g := nD) (k := fun x => nD (fs.idxOf (M.getD x x))) p fun x m => ⟨_, rfl, rfl, ?_⟩]
  · simp only [Option.bind_some, List.length_map]
    rw [if_pos (by omega), List.map_map]
    rfl
  · have e := at_nat M x (by rw [hM]; exact hp x m)
    simp (disch := omega) only [sSeq, sIf, sRet, sAsg, sDrop, sPass, sFor, sForS, sFz, sMut, sMut0, sDPutF, sRaise, fHold, fMove, fFree, fVar, fC, f1, f2, fL, fCons, fNil, oCons, oNil, oTup, oLst, fTup, fLst, fT, fAnd, fOr, fNot, fAndV, fOrV, fNotV, fIf, fChain, fIsN, fNotN, DL.isNon, DL.isG, gSet, gsCons, gsNil, gUn, gUnL, gStore, pNil, pIx, opApp, opClear, opIns, gLen, gLt_ii, gLe_ii, gGt_ii, gGe_ii, gSub_ii, gAdd_ii, gMul_sm, gMod_pos, gDiv_pos, gPow_sm, gEq_ii, gNe_ii, gNeg, sizeLine_eq, gMax2, gMin2, gList, gTuple, gIx, Kd.seq, D.ow, Kd.ow, D.get, D.put, Kd.at, itemsOf, fItems, fRng1, fRng3, fEnum, fCall, oCall, takeAll, pinIx, D.erL, D.er, Kd.er, D.clnL, D.cln, Kd.cln, cl2_v, cl2_lst, cl2_tup, D.cl2L, fD0, gTupD, anyOw_nil, anyOw_cons, Bool.or_false, Bool.false_or, dI_eq, nD_eq, pcD_eq, prD_eq, er_prD, ow_prD, c2_prD, cl_prD, erL_dI, er_nD, er_pcD, ow_nD, ow_dI, ow_pcD, c2_nD, c2_dI, c2_pcD, cl_nD, cl_pcD, clnL_dI, List.getD_cons_zero, List.getD_cons_succ, List.set_cons_zero, List.set_cons_succ, List.map_cons, List.map_nil, List.length_cons, List.length_nil, List.length_map, List.replicate, List.append_nil, List.cons_append, List.nil_append, Option.bind_some, Option.map_some, Option.bind_none, Option.map_none, if_true, if_false, Bool.and_true, Bool.true_and, Bool.false_eq_true, reduceIte, reduceCtorEq, decide_true, decide_false, Nat.reduceAdd, Nat.reduceLT, Nat.reduceSub, Nat.reduceLeDiff, e, fIndex, kList, flatV, flats_nD, idx_nat fs _ (hf x m)]
theorem m_lg_c3 (n : Nat) (f : Nat → Nat) (fs : List Nat) (x0 x1 x3 x4 x5 x6 x7 x8 x9 x10 x12 x13 : Option D) (hn : n ≤ 1000) (hf : ∀ x, x < n → f x ∈ fs) :
    c__law_glued_3 [x0, x1, some (.n (.lst true) (((List.range n).map f).map nD)), x3, x4, x5, x6, x7, x8, x9, x10, some (.n (.lst true) (fs.map nD)), x12, x13] = some (.n (.lst true) (spotsD n f fs)) := by
  unfold c__law_glued_3 fLc
  simp (disch := omega) only [sSeq, sIf, sRet, sAsg, sDrop, sPass, sFor, sForS, sFz, sMut, sMut0, sDPutF, sRaise, fHold, fMove, fFree, fVar, fC, f1, f2, fL, fCons, fNil, oCons, oNil, oTup, oLst, fTup, fLst, fT, fAnd, fOr, fNot, fAndV, fOrV, fNotV, fIf, fChain, fIsN, fNotN, DL.isNon, DL.isG, gSet, gsCons, gsNil, gUn, gUnL, gStore, pNil, pIx, opApp, opClear, opIns, gLen, gLt_ii, gLe_ii, gGt_ii, gGe_ii, gSub_ii, gAdd_ii, gMul_sm, gMod_pos, gDiv_pos, gPow_sm, gEq_ii, gNe_ii, gNeg, sizeLine_eq, gMax2, gMin2, gList, gTuple, gIx, Kd.seq, D.ow, Kd.ow, D.get, D.put, Kd.at, itemsOf, fItems, fRng1, fRng3, fEnum, fCall, oCall, takeAll, pinIx, D.erL, D.er, Kd.er, D.clnL, D.cln, Kd.cln, cl2_v, cl2_lst, cl2_tup, D.cl2L, fD0, gTupD, anyOw_nil, anyOw_cons, Bool.or_false, Bool.false_or, dI_eq, nD_eq, pcD_eq, prD_eq, er_prD, ow_prD, c2_prD, cl_prD, erL_dI, er_nD, er_pcD, ow_nD, ow_dI, ow_pcD, c2_nD, c2_dI, c2_pcD, cl_nD, cl_pcD, clnL_dI, List.getD_cons_zero, List.getD_cons_succ, List.set_cons_zero, List.set_cons_succ, List.map_cons, List.map_nil, List.length_cons, List.length_nil, List.length_map, List.replicate, List.append_nil, List.cons_append, List.nil_append, Option.bind_some, Option.map_some, Option.bind_none, Option.map_none, if_true, if_false, Bool.and_true, Bool.true_and, Bool.false_eq_true, reduceIte, reduceCtorEq, decide_true, decide_false, Nat.reduceAdd, Nat.reduceLT, Nat.reduceSub, Nat.reduceLeDiff, fWipe]
  rw [List.map_map, lcL_mapN (g := nD ∘ f) (k := fun x => nD (fs.idxOf (f x))) _ fun x m => ⟨_, rfl, rfl, ?_⟩]
  · simp only [Option.bind_some, List.length_map, List.length_range]
    rw [if_pos (by omega)]
    unfold spotsD
    rw [List.map_map]
    rfl
  · rw [List.mem_range] at m
    simp (disch := omega) only [sSeq, sIf, sRet, sAsg, sDrop, sPass, sFor, sForS, sFz, sMut, sMut0, sDPutF, sRaise, fHold, fMove, fFree, fVar, fC, f1, f2, fL, fCons, fNil, oCons, oNil, oTup, oLst, fTup, fLst, fT, fAnd, fOr, fNot, fAndV, fOrV, fNotV, fIf, fChain, fIsN, fNotN, DL.isNon, DL.isG, gSet, gsCons, gsNil, gUn, gUnL, gStore, pNil, pIx, opApp, opClear, opIns, gLen, gLt_ii, gLe_ii, gGt_ii, gGe_ii, gSub_ii, gAdd_ii, gMul_sm, gMod_pos, gDiv_pos, gPow_sm, gEq_ii, gNe_ii, gNeg, sizeLine_eq, gMax2, gMin2, gList, gTuple, gIx, Kd.seq, D.ow, Kd.ow, D.get, D.put, Kd.at, itemsOf, fItems, fRng1, fRng3, fEnum, fCall, oCall, takeAll, pinIx, D.erL, D.er, Kd.er, D.clnL, D.cln, Kd.cln, cl2_v, cl2_lst, cl2_tup, D.cl2L, fD0, gTupD, anyOw_nil, anyOw_cons, Bool.or_false, Bool.false_or, dI_eq, nD_eq, pcD_eq, prD_eq, er_prD, ow_prD, c2_prD, cl_prD, erL_dI, er_nD, er_pcD, ow_nD, ow_dI, ow_pcD, c2_nD, c2_dI, c2_pcD, cl_nD, cl_pcD, clnL_dI, List.getD_cons_zero, List.getD_cons_succ, List.set_cons_zero, List.set_cons_succ, List.map_cons, List.map_nil, List.length_cons, List.length_nil, List.length_map, List.replicate, List.append_nil, List.cons_append, List.nil_append, Option.bind_some, Option.map_some, Option.bind_none, Option.map_none, if_true, if_false, Bool.and_true, Bool.true_and, Bool.false_eq_true, reduceIte, reduceCtorEq, decide_true, decide_false, Nat.reduceAdd, Nat.reduceLT, Nat.reduceSub, Nat.reduceLeDiff, Function.comp_apply, fIndex, kList, flatV, flats_nD, idx_nat fs _ (hf x m)]
theorem m_lg_2 (sh : List (List Nat)) (M fs : List Nat) (x1 x3 x4 x5 x6 x7 x8 x9 x10 x12 : Option D) (hv : Sh sh) (hM : M.length = sh.length) (hfs : ∀ i ∈ fs, i < sh.length) (hf : ∀ x, x < sh.length → M.getD x x ∈ fs) (hn : fs.length ≤ 1000) :
    ∃ ρ', l__law_glued_2 [some (.n (.lst false) (sh.map pcD)), x1, some (.n (.lst true) (M.map nD)), x3, x4, x5, x6, x7, x8, x9, x10, some (.n (.lst true) (fs.map nD)), x12, some (.n (.lst true) [])] = some (.nx ρ') ∧ ∃ x12, ρ' = [some (.n (.lst false) (sh.map pcD)), x1, some (.n (.lst true) (M.map nD)), x3, x4, x5, x6, x7, x8, x9, x10, some (.n (.lst true) (fs.map nD)), x12, some (.n (.lst true) (gpcs sh (fun x => M.getD x x) fs fs))] := by
  unfold l__law_glued_2 sForS
  simp (disch := omega) only [sSeq, sIf, sRet, sAsg, sDrop, sPass, sFor, sForS, sFz, sMut, sMut0, sDPutF, sRaise, fHold, fMove, fFree, fVar, fC, f1, f2, fL, fCons, fNil, oCons, oNil, oTup, oLst, fTup, fLst, fT, fAnd, fOr, fNot, fAndV, fOrV, fNotV, fIf, fChain, fIsN, fNotN, DL.isNon, DL.isG, gSet, gsCons, gsNil, gUn, gUnL, gStore, pNil, pIx, opApp, opClear, opIns, gLen, gLt_ii, gLe_ii, gGt_ii, gGe_ii, gSub_ii, gAdd_ii, gMul_sm, gMod_pos, gDiv_pos, gPow_sm, gEq_ii, gNe_ii, gNeg, sizeLine_eq, gMax2, gMin2, gList, gTuple, gIx, Kd.seq, D.ow, Kd.ow, D.get, D.put, Kd.at, itemsOf, fItems, fRng1, fRng3, fEnum, fCall, oCall, takeAll, pinIx, D.erL, D.er, Kd.er, D.clnL, D.cln, Kd.cln, cl2_v, cl2_lst, cl2_tup, D.cl2L, fD0, gTupD, anyOw_nil, anyOw_cons, Bool.or_false, Bool.false_or, dI_eq, nD_eq, pcD_eq, prD_eq, er_prD, ow_prD, c2_prD, cl_prD, erL_dI, er_nD, er_pcD, ow_nD, ow_dI, ow_pcD, c2_nD, c2_dI, c2_pcD, cl_nD, cl_pcD, clnL_dI, List.getD_cons_zero, List.getD_cons_succ, List.set_cons_zero, List.set_cons_succ, List.map_cons, List.map_nil, List.length_cons, List.length_nil, List.length_map, List.replicate, List.append_nil, List.cons_append, List.nil_append, Option.bind_some, Option.map_some, Option.bind_none, Option.map_none, if_true, if_false, Bool.and_true, Bool.true_and, Bool.false_eq_true, reduceIte, reduceCtorEq, decide_true, decide_false, Nat.reduceAdd, Nat.reduceLT, Nat.reduceSub, Nat.reduceLeDiff]
  have key := forS_inv (items := fs.map nD) (i := 11) (d0 := some (.n (.lst true) (fs.map nD))) (h := gSet 12) (b := sDrop (sMut 13 pNil (oCons (fHold (fL gTuple (fCons c__law_glued_2 fNil))) oNil) opApp)) (ρ := [some (.n (.lst false) (sh.map pcD)), x1, some (.n (.lst true) (M.map nD)), x3, x4, x5, x6, x7, x8, x9, x10, some (.n (.lst true) (fs.map nD)), x12, some (.n (.lst true) [])])
    (fun dn ρ => ∃ x12, ρ = [some (.n (.lst false) (sh.map pcD)), x1, some (.n (.lst true) (M.map nD)), x3, x4, x5, x6, x7, x8, x9, x10, some (.n (.lst true) (fs.map nD)), x12, some (.n (.lst true) (gpcs sh (fun x => M.getD x x) fs (fs.take dn.length)))]) (fun dn ρ ⟨x12, e⟩ => by rw [e]; rfl) ?_ ⟨x12, rfl⟩
  · obtain ⟨ρ', e, x12', e2⟩ := key
    refine ⟨ρ', e, x12', ?_⟩
    rw [e2, List.length_map, List.take_length]
  · rintro dn d rest ρ hsp ⟨x12, rfl⟩
    have hdn : dn.length < fs.length := by
      have := congrArg List.length hsp
      simp at this
      omega
    have hd : d = nD fs[dn.length] := by
      have e : (fs.map nD)[dn.length]? = some d := by rw [hsp]; simp
      rw [List.getElem?_map, List.getElem?_eq_getElem hdn] at e
      exact (Option.some.inj e).symm
    subst hd
    have m := List.getElem_mem hdn
    have hi := hfs _ m
    have hg : sh[fs[dn.length]]? = some sh[fs[dn.length]] := List.getElem?_eq_getElem hi
    have hgd : sh.getD fs[dn.length] [] = sh[fs[dn.length]] := by rw [List.getD_eq_getElem?_getD, hg]; rfl
    have hlt : ∀ x ∈ sh[fs[dn.length]], x < sh.length := fun x m => by have := hv.lt _ _ hg x m; omega
    have e := m_lg_c2 sh M fs sh[fs[dn.length]] fs[dn.length] x1 x3 x4 x5 x6 x7 x8 x9 x10 (some (.n (.lst true) (gpcs sh (fun x => M.getD x x) fs (fs.take dn.length)))) hg hM hlt (fun x m => hf x (hlt x m)) (by have := hv.ln _ (List.getElem_mem hi); omega)
    have hz : dn.length < 16777216 := by omega
    have hmin : min dn.length fs.length = dn.length := by omega
    refine turn1 rfl ?_
    simp (disch := omega) only [sSeq, sIf, sRet, sAsg, sDrop, sPass, sFor, sForS, sFz, sMut, sMut0, sDPutF, sRaise, fHold, fMove, fFree, fVar, fC, f1, f2, fL, fCons, fNil, oCons, oNil, oTup, oLst, fTup, fLst, fT, fAnd, fOr, fNot, fAndV, fOrV, fNotV, fIf, fChain, fIsN, fNotN, DL.isNon, DL.isG, gSet, gsCons, gsNil, gUn, gUnL, gStore, pNil, pIx, opApp, opClear, opIns, gLen, gLt_ii, gLe_ii, gGt_ii, gGe_ii, gSub_ii, gAdd_ii, gMul_sm, gMod_pos, gDiv_pos, gPow_sm, gEq_ii, gNe_ii, gNeg, sizeLine_eq, gMax2, gMin2, gList, gTuple, gIx, Kd.seq, D.ow, Kd.ow, D.get, D.put, Kd.at, itemsOf, fItems, fRng1, fRng3, fEnum, fCall, oCall, takeAll, pinIx, D.erL, D.er, Kd.er, D.clnL, D.cln, Kd.cln, cl2_v, cl2_lst, cl2_tup, D.cl2L, fD0, gTupD, anyOw_nil, anyOw_cons, Bool.or_false, Bool.false_or, dI_eq, nD_eq, pcD_eq, prD_eq, er_prD, ow_prD, c2_prD, cl_prD, erL_dI, er_nD, er_pcD, ow_nD, ow_dI, ow_pcD, c2_nD, c2_dI, c2_pcD, cl_nD, cl_pcD, clnL_dI, List.getD_cons_zero, List.getD_cons_succ, List.set_cons_zero, List.set_cons_succ, List.map_cons, List.map_nil, List.length_cons, List.length_nil, List.length_map, List.replicate, List.append_nil, List.cons_append, List.nil_append, Option.bind_some, Option.map_some, Option.bind_none, Option.map_none, if_true, if_false, Bool.and_true, Bool.true_and, Bool.false_eq_true, reduceIte, reduceCtorEq, decide_true, decide_false, Nat.reduceAdd, Nat.reduceLT, Nat.reduceSub, Nat.reduceLeDiff, e, gpcs_len, List.length_take, hmin, hz]
    refine ⟨_, rfl, some (nD fs[dn.length]), ?_⟩
    rw [List.length_append, List.length_singleton, List.take_succ_eq_append_getElem hdn]
    unfold gpcs
    rw [List.map_append, List.map_singleton, hgd]
    rfl
theorem lbl_lab {n : Nat} {M : List Nat} (h : Lab n M) : Lbl n fun x => M.getD x x := ⟨h.le, h.id⟩
theorem m_lglued (sh : List (List Nat)) (P : List (Nat × Nat)) (hG : Gok sh P) (hn : sh.length ≤ 1000) (hP : P.length ≤ 1000) :
    ∃ f, p__law_glued [.n (.lst false) (sh.map pcD), .n (.lst false) (P.map DL.prD)] = some (.ret (gluedD sh f) []) ∧ Lbl sh.length f ∧ ∀ x y, f x = f y ↔ Cl sh P x y := by
  unfold p__law_glued fnG b__law_glued
  have hb : inBd (sh.length : Int) = true := decide_eq_true (by omega)
  have hb0 : inBd 0 = true := by decide
  have h1 : (((sh.length : Int) - 0).toNat) = sh.length := by omega
  have h2 : decide (sh.length ≤ 2 ^ 20) = true := decide_eq_true (by omega)
  simp (disch := omega) only [sSeq, sIf, sRet, sAsg, sDrop, sPass, sFor, sForS, sFz, sMut, sMut0, sDPutF, sRaise, fHold, fMove, fFree, fVar, fC, f1, f2, fL, fCons, fNil, oCons, oNil, oTup, oLst, fTup, fLst, fT, fAnd, fOr, fNot, fAndV, fOrV, fNotV, fIf, fChain, fIsN, fNotN, DL.isNon, DL.isG, gSet, gsCons, gsNil, gUn, gUnL, gStore, pNil, pIx, opApp, opClear, opIns, gLen, gLt_ii, gLe_ii, gGt_ii, gGe_ii, gSub_ii, gAdd_ii, gMul_sm, gMod_pos, gDiv_pos, gPow_sm, gEq_ii, gNe_ii, gNeg, sizeLine_eq, gMax2, gMin2, gList, gTuple, gIx, Kd.seq, D.ow, Kd.ow, D.get, D.put, Kd.at, itemsOf, fItems, fRng1, fRng3, fEnum, fCall, oCall, takeAll, pinIx, D.erL, D.er, Kd.er, D.clnL, D.cln, Kd.cln, cl2_v, cl2_lst, cl2_tup, D.cl2L, fD0, gTupD, anyOw_nil, anyOw_cons, Bool.or_false, Bool.false_or, dI_eq, nD_eq, pcD_eq, prD_eq, er_prD, ow_prD, c2_prD, cl_prD, erL_dI, er_nD, er_pcD, ow_nD, ow_dI, ow_pcD, c2_nD, c2_dI, c2_pcD, cl_nD, cl_pcD, clnL_dI, List.getD_cons_zero, List.getD_cons_succ, List.set_cons_zero, List.set_cons_succ, List.map_cons, List.map_nil, List.length_cons, List.length_nil, List.length_map, List.replicate, List.append_nil, List.cons_append, List.nil_append, Option.bind_some, Option.map_some, Option.bind_none, Option.map_none, if_true, if_false, Bool.and_true, Bool.true_and, Bool.false_eq_true, reduceIte, reduceCtorEq, decide_true, decide_false, Nat.reduceAdd, Nat.reduceLT, Nat.reduceSub, Nat.reduceLeDiff, fLstR, r1F, hb, hb0, h1, h2, rngD_nat]
  obtain ⟨ρ', e, M, x4, x5, x6, x7, x8, x9, x10, rfl, hL, hS⟩ := m_lg_1 sh P hG hn hP (some (.n (.lst false) (P.map DL.prD)))
  rw [e]
  have hl := lbl_lab hL
  have ec1 := m_lg_c1 sh M (some (.n (.lst false) (P.map DL.prD))) (some (.n (.lst true) [])) x4 x5 x6 x7 x8 x9 x10 none none none hn hL.len
  simp (disch := omega) only [sSeq, sIf, sRet, sAsg, sDrop, sPass, sFor, sForS, sFz, sMut, sMut0, sDPutF, sRaise, fHold, fMove, fFree, fVar, fC, f1, f2, fL, fCons, fNil, oCons, oNil, oTup, oLst, fTup, fLst, fT, fAnd, fOr, fNot, fAndV, fOrV, fNotV, fIf, fChain, fIsN, fNotN, DL.isNon, DL.isG, gSet, gsCons, gsNil, gUn, gUnL, gStore, pNil, pIx, opApp, opClear, opIns, gLen, gLt_ii, gLe_ii, gGt_ii, gGe_ii, gSub_ii, gAdd_ii, gMul_sm, gMod_pos, gDiv_pos, gPow_sm, gEq_ii, gNe_ii, gNeg, sizeLine_eq, gMax2, gMin2, gList, gTuple, gIx, Kd.seq, D.ow, Kd.ow, D.get, D.put, Kd.at, itemsOf, fItems, fRng1, fRng3, fEnum, fCall, oCall, takeAll, pinIx, D.erL, D.er, Kd.er, D.clnL, D.cln, Kd.cln, cl2_v, cl2_lst, cl2_tup, D.cl2L, fD0, gTupD, anyOw_nil, anyOw_cons, Bool.or_false, Bool.false_or, dI_eq, nD_eq, pcD_eq, prD_eq, er_prD, ow_prD, c2_prD, cl_prD, erL_dI, er_nD, er_pcD, ow_nD, ow_dI, ow_pcD, c2_nD, c2_dI, c2_pcD, cl_nD, cl_pcD, clnL_dI, List.getD_cons_zero, List.getD_cons_succ, List.set_cons_zero, List.set_cons_succ, List.map_cons, List.map_nil, List.length_cons, List.length_nil, List.length_map, List.replicate, List.append_nil, List.cons_append, List.nil_append, Option.bind_some, Option.map_some, Option.bind_none, Option.map_none, if_true, if_false, Bool.and_true, Bool.true_and, Bool.false_eq_true, reduceIte, reduceCtorEq, decide_true, decide_false, Nat.reduceAdd, Nat.reduceLT, Nat.reduceSub, Nat.reduceLeDiff, ec1]
  have hfn := fsOf_len (n := sh.length) (f := fun x => M.getD x x)
  obtain ⟨ρ2, e2, x12, rfl⟩ := m_lg_2 sh M (fsOf sh.length fun x => M.getD x x) (some (.n (.lst false) (P.map DL.prD))) (some (.n (.lst true) [])) x4 x5 x6 x7 x8 x9 x10 none hG.vs hL.len (fun i m => fsOf_lt m) (fun x hx => hl.mem hx) (by omega)
  rw [e2]
  have ec3 := m_lg_c3 sh.length (fun x => M.getD x x) (fsOf sh.length fun x => M.getD x x) (some (.n (.lst false) (sh.map pcD))) (some (.n (.lst false) (P.map DL.prD))) (some (.n (.lst true) [])) x4 x5 x6 x7 x8 x9 x10 x12 none hn (fun x hx => hl.mem hx)
  rw [← lab_eq hL.len] at ec3
  simp (disch := omega) only [sSeq, sIf, sRet, sAsg, sDrop, sPass, sFor, sForS, sFz, sMut, sMut0, sDPutF, sRaise, fHold, fMove, fFree, fVar, fC, f1, f2, fL, fCons, fNil, oCons, oNil, oTup, oLst, fTup, fLst, fT, fAnd, fOr, fNot, fAndV, fOrV, fNotV, fIf, fChain, fIsN, fNotN, DL.isNon, DL.isG, gSet, gsCons, gsNil, gUn, gUnL, gStore, pNil, pIx, opApp, opClear, opIns, gLen, gLt_ii, gLe_ii, gGt_ii, gGe_ii, gSub_ii, gAdd_ii, gMul_sm, gMod_pos, gDiv_pos, gPow_sm, gEq_ii, gNe_ii, gNeg, sizeLine_eq, gMax2, gMin2, gList, gTuple, gIx, Kd.seq, D.ow, Kd.ow, D.get, D.put, Kd.at, itemsOf, fItems, fRng1, fRng3, fEnum, fCall, oCall, takeAll, pinIx, D.erL, D.er, Kd.er, D.clnL, D.cln, Kd.cln, cl2_v, cl2_lst, cl2_tup, D.cl2L, fD0, gTupD, anyOw_nil, anyOw_cons, Bool.or_false, Bool.false_or, dI_eq, nD_eq, pcD_eq, prD_eq, er_prD, ow_prD, c2_prD, cl_prD, erL_dI, er_nD, er_pcD, ow_nD, ow_dI, ow_pcD, c2_nD, c2_dI, c2_pcD, cl_nD, cl_pcD, clnL_dI, List.getD_cons_zero, List.getD_cons_succ, List.set_cons_zero, List.set_cons_succ, List.map_cons, List.map_nil, List.length_cons, List.length_nil, List.length_map, List.replicate, List.append_nil, List.cons_append, List.nil_append, Option.bind_some, Option.map_some, Option.bind_none, Option.map_none, if_true, if_false, Bool.and_true, Bool.true_and, Bool.false_eq_true, reduceIte, reduceCtorEq, decide_true, decide_false, Nat.reduceAdd, Nat.reduceLT, Nat.reduceSub, Nat.reduceLeDiff, ec3]
  refine ⟨fun x => M.getD x x, ?_, hl, fun x y => hS.done x y⟩
  simp (disch := omega) only [sSeq, sIf, sRet, sAsg, sDrop, sPass, sFor, sForS, sFz, sMut, sMut0, sDPutF, sRaise, fHold, fMove, fFree, fVar, fC, f1, f2, fL, fCons, fNil, oCons, oNil, oTup, oLst, fTup, fLst, fT, fAnd, fOr, fNot, fAndV, fOrV, fNotV, fIf, fChain, fIsN, fNotN, DL.isNon, DL.isG, gSet, gsCons, gsNil, gUn, gUnL, gStore, pNil, pIx, opApp, opClear, opIns, gLen, gLt_ii, gLe_ii, gGt_ii, gGe_ii, gSub_ii, gAdd_ii, gMul_sm, gMod_pos, gDiv_pos, gPow_sm, gEq_ii, gNe_ii, gNeg, sizeLine_eq, gMax2, gMin2, gList, gTuple, gIx, Kd.seq, D.ow, Kd.ow, D.get, D.put, Kd.at, itemsOf, fItems, fRng1, fRng3, fEnum, fCall, oCall, takeAll, pinIx, D.erL, D.er, Kd.er, D.clnL, D.cln, Kd.cln, cl2_v, cl2_lst, cl2_tup, D.cl2L, fD0, gTupD, anyOw_nil, anyOw_cons, Bool.or_false, Bool.false_or, dI_eq, nD_eq, pcD_eq, prD_eq, er_prD, ow_prD, c2_prD, cl_prD, erL_dI, er_nD, er_pcD, ow_nD, ow_dI, ow_pcD, c2_nD, c2_dI, c2_pcD, cl_nD, cl_pcD, clnL_dI, List.getD_cons_zero, List.getD_cons_succ, List.set_cons_zero, List.set_cons_succ, List.map_cons, List.map_nil, List.length_cons, List.length_nil, List.length_map, List.replicate, List.append_nil, List.cons_append, List.nil_append, Option.bind_some, Option.map_some, Option.bind_none, Option.map_none, if_true, if_false, Bool.and_true, Bool.true_and, Bool.false_eq_true, reduceIte, reduceCtorEq, decide_true, decide_false, Nat.reduceAdd, Nat.reduceLT, Nat.reduceSub, Nat.reduceLeDiff, cl_gpcs, ow_gpcs, cl_spots, ow_spots]
  rfl
/-- both ways tell the same -/
theorem glued_same (sh : List (List Nat)) (P : List (Nat × Nat)) (hG : Gok sh P) (hp : Prs sh P) (hn : sh.length ≤ 1000) (hP : P.length ≤ 1000) :
    ∃ f, p_glued [.n (.lst false) (sh.map pcD), .n (.lst false) (P.map DL.prD)] = some (.ret (gluedD sh f) []) ∧ p__law_glued [.n (.lst false) (sh.map pcD), .n (.lst false) (P.map DL.prD)] = some (.ret (gluedD sh f) []) := by
  obtain ⟨f, e1, l1, c1⟩ := m_glued sh P hG hp hn hP
  obtain ⟨g, e2, l2, c2⟩ := m_lglued sh P hG hn hP
  have hfg : ∀ x, x < sh.length → f x = g x := least_unique (R := Cl sh P) (fun x hx => ⟨(c1 x (f x)).mp (l1.id x hx).symm, by have := l1.le x hx; omega⟩) (fun x hx => ⟨(c2 x (g x)).mp (l2.id x hx).symm, by have := l2.le x hx; omega⟩)
    (fun x y hx hy c => by rw [(c1 x y).mpr c]; exact l1.le y hy) (fun x y hx hy c => by rw [(c2 x y).mpr c]; exact l2.le y hy)
  refine ⟨f, e1, ?_⟩
  rw [e2]
  have h1 : fsOf sh.length g = fsOf sh.length f := by
    unfold fsOf
    apply List.filter_congr
    intro x m
    rw [List.mem_range] at m
    rw [hfg x m]
  have h2 : spotsD sh.length g (fsOf sh.length f) = spotsD sh.length f (fsOf sh.length f) := by
    unfold spotsD
    congr 1
    apply List.map_congr_left
    intro x m
    rw [List.mem_range] at m
    rw [hfg x m]
  have h3 : gpcs sh g (fsOf sh.length f) (fsOf sh.length f) = gpcs sh f (fsOf sh.length f) (fsOf sh.length f) := by
    unfold gpcs
    apply List.map_congr_left
    intro i m
    have hi := fsOf_lt m
    congr 1
    apply List.map_congr_left
    intro x mx
    have hx : x < sh.length := by
      rw [List.getD_eq_getElem?_getD, List.getElem?_eq_getElem hi] at mx
      have := hG.vs.lt i _ (List.getElem?_eq_getElem hi) x mx
      omega
    rw [hfg x hx]
  unfold gluedD
  rw [h1, h2, h3]
end A95

set_option Elab.async false
set_option linter.all false
set_option maxRecDepth 100000
set_option maxHeartbeats 4000000
namespace A95
open DL PySem L2 Gl
open PyProof.Rows hiding St
theorem rng_of {sh : List (List Nat)} {P : List (Nat × Nat)} (hv : Sh sh) (hp : Prs sh P) : Rng sh P := fun x y c => by
  induction c with
  | base m =>
    intro _
    obtain ⟨a, b, h1, h2, _⟩ := hp _ m
    exact ⟨(List.getElem?_eq_some_iff.mp h1).1, (List.getElem?_eq_some_iff.mp h2).1⟩
  | refl x => exact fun h => absurd rfl h
  | symm _ ih => exact fun h => (ih (Ne.symm h)).symm
  | @trans x y z _ _ i1 i2 =>
    intro h
    by_cases e : x = y
    · subst e
      exact i2 h
    · by_cases e2 : y = z
      · subst e2
        exact i1 e
      · exact ⟨(i1 e).1, (i2 e2).2⟩
  | face _ ha hb m ih => exact fun _ => fc_rng hv ha hb _ m
theorem lns_of {sh : List (List Nat)} {P : List (Nat × Nat)} (hv : Sh sh) (hp : Prs sh P) : Lns sh P := fun x y a b c => by
  have hr := rng_of hv hp
  induction c generalizing a b with
  | base m =>
    intro ha hb
    obtain ⟨a', b', h1, h2, h3⟩ := hp _ m
    rw [h1] at ha; cases ha
    rw [h2] at hb; cases hb
    exact h3.symm
  | refl x => intro ha hb; rw [ha] at hb; cases hb; rfl
  | symm _ ih => intro ha hb; exact (ih b a hb ha).symm
  | @trans x y z c1 c2 i1 i2 =>
    intro ha hb
    by_cases e : x = y
    · subst e
      exact i2 a b ha hb
    · have hy := (hr x y c1 e).2
      have g : sh[y]? = some sh[y] := List.getElem?_eq_getElem hy
      rw [i1 a _ ha g]
      exact i2 _ b g hb
  | @face x y p q w c1 ha hb m ih =>
    intro hw1 hw2
    have hl := ih p q ha hb
    have f1 := hv.fc p (List.mem_of_getElem? ha) w.1 (List.of_mem_zip m).1
    have f2 := hv.fc q (List.mem_of_getElem? hb) w.2 (List.of_mem_zip m).2
    obtain ⟨r1, g1, l1⟩ := f1
    obtain ⟨r2, g2, l2⟩ := f2
    rw [g1] at hw1; cases hw1
    rw [g2] at hw2; cases hw2
    rw [l1, l2, hl]
theorem gok_of {sh : List (List Nat)} {P : List (Nat × Nat)} (hv : Sh sh) (hp : Prs sh P) : Gok sh P := ⟨hv, lns_of hv hp, rng_of hv hp, fun p m => by
  obtain ⟨a, b, h1, h2, _⟩ := hp p m
  exact ⟨(List.getElem?_eq_some_iff.mp h1).1, (List.getElem?_eq_some_iff.mp h2).1⟩⟩
/-! what is no place of a shape of n pieces -/
inductive Bad (n : Nat) : D → Prop
  | big : Bad n (.v (.int n))
  | neg : Bad n (.v (.int (-1)))
  | tru : Bad n (.v (.bl true))
  | non : Bad n (.v .non)
  | str : Bad n (.v (.str "0"))
  | tup : Bad n (.n (.tup false) [.v (.int 0)])
  | lst {k} (h : k = .flst ∨ k = .lst false) : Bad n (.n k [.v (.int 0)])
  | pow : Bad n (.v (.int 1000000000000000000000000000000))
theorem bad_er {n : Nat} {d : D} (h : Bad n d) : Bad n d.er := by
  cases h with
  | big => exact .big
  | neg => exact .neg
  | tru => exact .tru
  | non => exact .non
  | str => exact .str
  | tup => exact .tup
  | lst h => rcases h with rfl | rfl <;> exact .lst (.inr rfl)
  | pow => exact .pow
theorem bad_spot (sh : List (List Nat)) (d : D) (h : Bad sh.length d) (hn : sh.length ≤ 1000) : p_is_spot [.n (.lst false) (sh.map pcD), d] = some (.ret (.v (.bl false)) []) := by
  cases h with
  | big => rw [m_spot, decide_eq_false (by omega : ¬ ((sh.length : Nat) : Int) < sh.length), Bool.and_false]
  | neg => rw [m_spot, decide_eq_false (by omega : ¬ (0 : Int) ≤ -1), Bool.false_and]
  | pow => rw [m_spot, decide_eq_false (by omega : ¬ (1000000000000000000000000000000 : Int) < sh.length), Bool.and_false]
  | tru =>
    have e : p_is_whole [.v (.bl true)] = some (.ret (.v (.bl false)) []) := by
      unfold p_is_whole fnG b_is_whole
      simp (disch := omega) only [sSeq, sIf, sRet, sAsg, sDrop, sPass, sFor, sForS, sFz, sMut, sMut0, sDPutF, sRaise, fHold, fMove, fFree, fVar, fC, f1, f2, fL, fCons, fNil, oCons, oNil, oTup, oLst, fTup, fLst, fT, fAnd, fOr, fNot, fAndV, fOrV, fNotV, fIf, fChain, fIsN, fNotN, DL.isNon, DL.isG, gSet, gsCons, gsNil, gUn, gUnL, gStore, pNil, pIx, opApp, opClear, opIns, gLen, gLt_ii, gLe_ii, gGt_ii, gGe_ii, gSub_ii, gAdd_ii, gMul_sm, gMod_pos, gDiv_pos, gPow_sm, gEq_ii, gNe_ii, gNeg, sizeLine_eq, gMax2, gMin2, gList, gTuple, gIx, Kd.seq, D.ow, Kd.ow, D.get, D.put, Kd.at, itemsOf, fItems, fRng1, fRng3, fEnum, fCall, oCall, takeAll, pinIx, D.erL, D.er, Kd.er, D.clnL, D.cln, Kd.cln, cl2_v, cl2_lst, cl2_tup, D.cl2L, fD0, gTupD, anyOw_nil, anyOw_cons, Bool.or_false, Bool.false_or, dI_eq, nD_eq, pcD_eq, prD_eq, er_prD, ow_prD, c2_prD, cl_prD, erL_dI, er_nD, er_pcD, ow_nD, ow_dI, ow_pcD, c2_nD, c2_dI, c2_pcD, cl_nD, cl_pcD, clnL_dI, List.getD_cons_zero, List.getD_cons_succ, List.set_cons_zero, List.set_cons_succ, List.map_cons, List.map_nil, List.length_cons, List.length_nil, List.length_map, List.replicate, List.append_nil, List.cons_append, List.nil_append, Option.bind_some, Option.map_some, Option.bind_none, Option.map_none, if_true, if_false, Bool.and_true, Bool.true_and, Bool.false_eq_true, reduceIte, reduceCtorEq, decide_true, decide_false, Nat.reduceAdd, Nat.reduceLT, Nat.reduceSub, Nat.reduceLeDiff, fIs, gIs, tyN, kb_bool_int, kb_bool_bool, Bool.not_true]
    unfold p_is_spot fnG b_is_spot
    simp (disch := omega) only [sSeq, sIf, sRet, sAsg, sDrop, sPass, sFor, sForS, sFz, sMut, sMut0, sDPutF, sRaise, fHold, fMove, fFree, fVar, fC, f1, f2, fL, fCons, fNil, oCons, oNil, oTup, oLst, fTup, fLst, fT, fAnd, fOr, fNot, fAndV, fOrV, fNotV, fIf, fChain, fIsN, fNotN, DL.isNon, DL.isG, gSet, gsCons, gsNil, gUn, gUnL, gStore, pNil, pIx, opApp, opClear, opIns, gLen, gLt_ii, gLe_ii, gGt_ii, gGe_ii, gSub_ii, gAdd_ii, gMul_sm, gMod_pos, gDiv_pos, gPow_sm, gEq_ii, gNe_ii, gNeg, sizeLine_eq, gMax2, gMin2, gList, gTuple, gIx, Kd.seq, D.ow, Kd.ow, D.get, D.put, Kd.at, itemsOf, fItems, fRng1, fRng3, fEnum, fCall, oCall, takeAll, pinIx, D.erL, D.er, Kd.er, D.clnL, D.cln, Kd.cln, cl2_v, cl2_lst, cl2_tup, D.cl2L, fD0, gTupD, anyOw_nil, anyOw_cons, Bool.or_false, Bool.false_or, dI_eq, nD_eq, pcD_eq, prD_eq, er_prD, ow_prD, c2_prD, cl_prD, erL_dI, er_nD, er_pcD, ow_nD, ow_dI, ow_pcD, c2_nD, c2_dI, c2_pcD, cl_nD, cl_pcD, clnL_dI, List.getD_cons_zero, List.getD_cons_succ, List.set_cons_zero, List.set_cons_succ, List.map_cons, List.map_nil, List.length_cons, List.length_nil, List.length_map, List.replicate, List.append_nil, List.cons_append, List.nil_append, Option.bind_some, Option.map_some, Option.bind_none, Option.map_none, if_true, if_false, Bool.and_true, Bool.true_and, Bool.false_eq_true, reduceIte, reduceCtorEq, decide_true, decide_false, Nat.reduceAdd, Nat.reduceLT, Nat.reduceSub, Nat.reduceLeDiff, e]
  | non =>
    have e : p_is_whole [.v .non] = some (.ret (.v (.bl false)) []) := by
      unfold p_is_whole fnG b_is_whole
      simp (disch := omega) only [sSeq, sIf, sRet, sAsg, sDrop, sPass, sFor, sForS, sFz, sMut, sMut0, sDPutF, sRaise, fHold, fMove, fFree, fVar, fC, f1, f2, fL, fCons, fNil, oCons, oNil, oTup, oLst, fTup, fLst, fT, fAnd, fOr, fNot, fAndV, fOrV, fNotV, fIf, fChain, fIsN, fNotN, DL.isNon, DL.isG, gSet, gsCons, gsNil, gUn, gUnL, gStore, pNil, pIx, opApp, opClear, opIns, gLen, gLt_ii, gLe_ii, gGt_ii, gGe_ii, gSub_ii, gAdd_ii, gMul_sm, gMod_pos, gDiv_pos, gPow_sm, gEq_ii, gNe_ii, gNeg, sizeLine_eq, gMax2, gMin2, gList, gTuple, gIx, Kd.seq, D.ow, Kd.ow, D.get, D.put, Kd.at, itemsOf, fItems, fRng1, fRng3, fEnum, fCall, oCall, takeAll, pinIx, D.erL, D.er, Kd.er, D.clnL, D.cln, Kd.cln, cl2_v, cl2_lst, cl2_tup, D.cl2L, fD0, gTupD, anyOw_nil, anyOw_cons, Bool.or_false, Bool.false_or, dI_eq, nD_eq, pcD_eq, prD_eq, er_prD, ow_prD, c2_prD, cl_prD, erL_dI, er_nD, er_pcD, ow_nD, ow_dI, ow_pcD, c2_nD, c2_dI, c2_pcD, cl_nD, cl_pcD, clnL_dI, List.getD_cons_zero, List.getD_cons_succ, List.set_cons_zero, List.set_cons_succ, List.map_cons, List.map_nil, List.length_cons, List.length_nil, List.length_map, List.replicate, List.append_nil, List.cons_append, List.nil_append, Option.bind_some, Option.map_some, Option.bind_none, Option.map_none, if_true, if_false, Bool.and_true, Bool.true_and, Bool.false_eq_true, reduceIte, reduceCtorEq, decide_true, decide_false, Nat.reduceAdd, Nat.reduceLT, Nat.reduceSub, Nat.reduceLeDiff, fIs, gIs, tyN, kb_non_int]
    unfold p_is_spot fnG b_is_spot
    simp (disch := omega) only [sSeq, sIf, sRet, sAsg, sDrop, sPass, sFor, sForS, sFz, sMut, sMut0, sDPutF, sRaise, fHold, fMove, fFree, fVar, fC, f1, f2, fL, fCons, fNil, oCons, oNil, oTup, oLst, fTup, fLst, fT, fAnd, fOr, fNot, fAndV, fOrV, fNotV, fIf, fChain, fIsN, fNotN, DL.isNon, DL.isG, gSet, gsCons, gsNil, gUn, gUnL, gStore, pNil, pIx, opApp, opClear, opIns, gLen, gLt_ii, gLe_ii, gGt_ii, gGe_ii, gSub_ii, gAdd_ii, gMul_sm, gMod_pos, gDiv_pos, gPow_sm, gEq_ii, gNe_ii, gNeg, sizeLine_eq, gMax2, gMin2, gList, gTuple, gIx, Kd.seq, D.ow, Kd.ow, D.get, D.put, Kd.at, itemsOf, fItems, fRng1, fRng3, fEnum, fCall, oCall, takeAll, pinIx, D.erL, D.er, Kd.er, D.clnL, D.cln, Kd.cln, cl2_v, cl2_lst, cl2_tup, D.cl2L, fD0, gTupD, anyOw_nil, anyOw_cons, Bool.or_false, Bool.false_or, dI_eq, nD_eq, pcD_eq, prD_eq, er_prD, ow_prD, c2_prD, cl_prD, erL_dI, er_nD, er_pcD, ow_nD, ow_dI, ow_pcD, c2_nD, c2_dI, c2_pcD, cl_nD, cl_pcD, clnL_dI, List.getD_cons_zero, List.getD_cons_succ, List.set_cons_zero, List.set_cons_succ, List.map_cons, List.map_nil, List.length_cons, List.length_nil, List.length_map, List.replicate, List.append_nil, List.cons_append, List.nil_append, Option.bind_some, Option.map_some, Option.bind_none, Option.map_none, if_true, if_false, Bool.and_true, Bool.true_and, Bool.false_eq_true, reduceIte, reduceCtorEq, decide_true, decide_false, Nat.reduceAdd, Nat.reduceLT, Nat.reduceSub, Nat.reduceLeDiff, e]
  | str =>
    have e : p_is_whole [.v (.str "0")] = some (.ret (.v (.bl false)) []) := by
      unfold p_is_whole fnG b_is_whole
      simp (disch := omega) only [sSeq, sIf, sRet, sAsg, sDrop, sPass, sFor, sForS, sFz, sMut, sMut0, sDPutF, sRaise, fHold, fMove, fFree, fVar, fC, f1, f2, fL, fCons, fNil, oCons, oNil, oTup, oLst, fTup, fLst, fT, fAnd, fOr, fNot, fAndV, fOrV, fNotV, fIf, fChain, fIsN, fNotN, DL.isNon, DL.isG, gSet, gsCons, gsNil, gUn, gUnL, gStore, pNil, pIx, opApp, opClear, opIns, gLen, gLt_ii, gLe_ii, gGt_ii, gGe_ii, gSub_ii, gAdd_ii, gMul_sm, gMod_pos, gDiv_pos, gPow_sm, gEq_ii, gNe_ii, gNeg, sizeLine_eq, gMax2, gMin2, gList, gTuple, gIx, Kd.seq, D.ow, Kd.ow, D.get, D.put, Kd.at, itemsOf, fItems, fRng1, fRng3, fEnum, fCall, oCall, takeAll, pinIx, D.erL, D.er, Kd.er, D.clnL, D.cln, Kd.cln, cl2_v, cl2_lst, cl2_tup, D.cl2L, fD0, gTupD, anyOw_nil, anyOw_cons, Bool.or_false, Bool.false_or, dI_eq, nD_eq, pcD_eq, prD_eq, er_prD, ow_prD, c2_prD, cl_prD, erL_dI, er_nD, er_pcD, ow_nD, ow_dI, ow_pcD, c2_nD, c2_dI, c2_pcD, cl_nD, cl_pcD, clnL_dI, List.getD_cons_zero, List.getD_cons_succ, List.set_cons_zero, List.set_cons_succ, List.map_cons, List.map_nil, List.length_cons, List.length_nil, List.length_map, List.replicate, List.append_nil, List.cons_append, List.nil_append, Option.bind_some, Option.map_some, Option.bind_none, Option.map_none, if_true, if_false, Bool.and_true, Bool.true_and, Bool.false_eq_true, reduceIte, reduceCtorEq, decide_true, decide_false, Nat.reduceAdd, Nat.reduceLT, Nat.reduceSub, Nat.reduceLeDiff, fIs, gIs, tyN, kb_str_int]
    unfold p_is_spot fnG b_is_spot
    simp (disch := omega) only [sSeq, sIf, sRet, sAsg, sDrop, sPass, sFor, sForS, sFz, sMut, sMut0, sDPutF, sRaise, fHold, fMove, fFree, fVar, fC, f1, f2, fL, fCons, fNil, oCons, oNil, oTup, oLst, fTup, fLst, fT, fAnd, fOr, fNot, fAndV, fOrV, fNotV, fIf, fChain, fIsN, fNotN, DL.isNon, DL.isG, gSet, gsCons, gsNil, gUn, gUnL, gStore, pNil, pIx, opApp, opClear, opIns, gLen, gLt_ii, gLe_ii, gGt_ii, gGe_ii, gSub_ii, gAdd_ii, gMul_sm, gMod_pos, gDiv_pos, gPow_sm, gEq_ii, gNe_ii, gNeg, sizeLine_eq, gMax2, gMin2, gList, gTuple, gIx, Kd.seq, D.ow, Kd.ow, D.get, D.put, Kd.at, itemsOf, fItems, fRng1, fRng3, fEnum, fCall, oCall, takeAll, pinIx, D.erL, D.er, Kd.er, D.clnL, D.cln, Kd.cln, cl2_v, cl2_lst, cl2_tup, D.cl2L, fD0, gTupD, anyOw_nil, anyOw_cons, Bool.or_false, Bool.false_or, dI_eq, nD_eq, pcD_eq, prD_eq, er_prD, ow_prD, c2_prD, cl_prD, erL_dI, er_nD, er_pcD, ow_nD, ow_dI, ow_pcD, c2_nD, c2_dI, c2_pcD, cl_nD, cl_pcD, clnL_dI, List.getD_cons_zero, List.getD_cons_succ, List.set_cons_zero, List.set_cons_succ, List.map_cons, List.map_nil, List.length_cons, List.length_nil, List.length_map, List.replicate, List.append_nil, List.cons_append, List.nil_append, Option.bind_some, Option.map_some, Option.bind_none, Option.map_none, if_true, if_false, Bool.and_true, Bool.true_and, Bool.false_eq_true, reduceIte, reduceCtorEq, decide_true, decide_false, Nat.reduceAdd, Nat.reduceLT, Nat.reduceSub, Nat.reduceLeDiff, e]
  | tup =>
    have e : p_is_whole [.n (.tup false) [.v (.int 0)]] = some (.ret (.v (.bl false)) []) := by
      unfold p_is_whole fnG b_is_whole
      simp (disch := omega) only [sSeq, sIf, sRet, sAsg, sDrop, sPass, sFor, sForS, sFz, sMut, sMut0, sDPutF, sRaise, fHold, fMove, fFree, fVar, fC, f1, f2, fL, fCons, fNil, oCons, oNil, oTup, oLst, fTup, fLst, fT, fAnd, fOr, fNot, fAndV, fOrV, fNotV, fIf, fChain, fIsN, fNotN, DL.isNon, DL.isG, gSet, gsCons, gsNil, gUn, gUnL, gStore, pNil, pIx, opApp, opClear, opIns, gLen, gLt_ii, gLe_ii, gGt_ii, gGe_ii, gSub_ii, gAdd_ii, gMul_sm, gMod_pos, gDiv_pos, gPow_sm, gEq_ii, gNe_ii, gNeg, sizeLine_eq, gMax2, gMin2, gList, gTuple, gIx, Kd.seq, D.ow, Kd.ow, D.get, D.put, Kd.at, itemsOf, fItems, fRng1, fRng3, fEnum, fCall, oCall, takeAll, pinIx, D.erL, D.er, Kd.er, D.clnL, D.cln, Kd.cln, cl2_v, cl2_lst, cl2_tup, D.cl2L, fD0, gTupD, anyOw_nil, anyOw_cons, Bool.or_false, Bool.false_or, dI_eq, nD_eq, pcD_eq, prD_eq, er_prD, ow_prD, c2_prD, cl_prD, erL_dI, er_nD, er_pcD, ow_nD, ow_dI, ow_pcD, c2_nD, c2_dI, c2_pcD, cl_nD, cl_pcD, clnL_dI, List.getD_cons_zero, List.getD_cons_succ, List.set_cons_zero, List.set_cons_succ, List.map_cons, List.map_nil, List.length_cons, List.length_nil, List.length_map, List.replicate, List.append_nil, List.cons_append, List.nil_append, Option.bind_some, Option.map_some, Option.bind_none, Option.map_none, if_true, if_false, Bool.and_true, Bool.true_and, Bool.false_eq_true, reduceIte, reduceCtorEq, decide_true, decide_false, Nat.reduceAdd, Nat.reduceLT, Nat.reduceSub, Nat.reduceLeDiff, fIs, gIs, tyN, kb_tup_int]
    unfold p_is_spot fnG b_is_spot
    simp (disch := omega) only [sSeq, sIf, sRet, sAsg, sDrop, sPass, sFor, sForS, sFz, sMut, sMut0, sDPutF, sRaise, fHold, fMove, fFree, fVar, fC, f1, f2, fL, fCons, fNil, oCons, oNil, oTup, oLst, fTup, fLst, fT, fAnd, fOr, fNot, fAndV, fOrV, fNotV, fIf, fChain, fIsN, fNotN, DL.isNon, DL.isG, gSet, gsCons, gsNil, gUn, gUnL, gStore, pNil, pIx, opApp, opClear, opIns, gLen, gLt_ii, gLe_ii, gGt_ii, gGe_ii, gSub_ii, gAdd_ii, gMul_sm, gMod_pos, gDiv_pos, gPow_sm, gEq_ii, gNe_ii, gNeg, sizeLine_eq, gMax2, gMin2, gList, gTuple, gIx, Kd.seq, D.ow, Kd.ow, D.get, D.put, Kd.at, itemsOf, fItems, fRng1, fRng3, fEnum, fCall, oCall, takeAll, pinIx, D.erL, D.er, Kd.er, D.clnL, D.cln, Kd.cln, cl2_v, cl2_lst, cl2_tup, D.cl2L, fD0, gTupD, anyOw_nil, anyOw_cons, Bool.or_false, Bool.false_or, dI_eq, nD_eq, pcD_eq, prD_eq, er_prD, ow_prD, c2_prD, cl_prD, erL_dI, er_nD, er_pcD, ow_nD, ow_dI, ow_pcD, c2_nD, c2_dI, c2_pcD, cl_nD, cl_pcD, clnL_dI, List.getD_cons_zero, List.getD_cons_succ, List.set_cons_zero, List.set_cons_succ, List.map_cons, List.map_nil, List.length_cons, List.length_nil, List.length_map, List.replicate, List.append_nil, List.cons_append, List.nil_append, Option.bind_some, Option.map_some, Option.bind_none, Option.map_none, if_true, if_false, Bool.and_true, Bool.true_and, Bool.false_eq_true, reduceIte, reduceCtorEq, decide_true, decide_false, Nat.reduceAdd, Nat.reduceLT, Nat.reduceSub, Nat.reduceLeDiff, e]
  | lst h =>
    have e : p_is_whole [.n (.lst false) [.v (.int 0)]] = some (.ret (.v (.bl false)) []) := by
      unfold p_is_whole fnG b_is_whole
      simp (disch := omega) only [sSeq, sIf, sRet, sAsg, sDrop, sPass, sFor, sForS, sFz, sMut, sMut0, sDPutF, sRaise, fHold, fMove, fFree, fVar, fC, f1, f2, fL, fCons, fNil, oCons, oNil, oTup, oLst, fTup, fLst, fT, fAnd, fOr, fNot, fAndV, fOrV, fNotV, fIf, fChain, fIsN, fNotN, DL.isNon, DL.isG, gSet, gsCons, gsNil, gUn, gUnL, gStore, pNil, pIx, opApp, opClear, opIns, gLen, gLt_ii, gLe_ii, gGt_ii, gGe_ii, gSub_ii, gAdd_ii, gMul_sm, gMod_pos, gDiv_pos, gPow_sm, gEq_ii, gNe_ii, gNeg, sizeLine_eq, gMax2, gMin2, gList, gTuple, gIx, Kd.seq, D.ow, Kd.ow, D.get, D.put, Kd.at, itemsOf, fItems, fRng1, fRng3, fEnum, fCall, oCall, takeAll, pinIx, D.erL, D.er, Kd.er, D.clnL, D.cln, Kd.cln, cl2_v, cl2_lst, cl2_tup, D.cl2L, fD0, gTupD, anyOw_nil, anyOw_cons, Bool.or_false, Bool.false_or, dI_eq, nD_eq, pcD_eq, prD_eq, er_prD, ow_prD, c2_prD, cl_prD, erL_dI, er_nD, er_pcD, ow_nD, ow_dI, ow_pcD, c2_nD, c2_dI, c2_pcD, cl_nD, cl_pcD, clnL_dI, List.getD_cons_zero, List.getD_cons_succ, List.set_cons_zero, List.set_cons_succ, List.map_cons, List.map_nil, List.length_cons, List.length_nil, List.length_map, List.replicate, List.append_nil, List.cons_append, List.nil_append, Option.bind_some, Option.map_some, Option.bind_none, Option.map_none, if_true, if_false, Bool.and_true, Bool.true_and, Bool.false_eq_true, reduceIte, reduceCtorEq, decide_true, decide_false, Nat.reduceAdd, Nat.reduceLT, Nat.reduceSub, Nat.reduceLeDiff, fIs, gIs, tyN, kb_lst_int]
    rcases h with rfl | rfl
    · unfold p_is_spot fnG b_is_spot
      simp (disch := omega) only [sSeq, sIf, sRet, sAsg, sDrop, sPass, sFor, sForS, sFz, sMut, sMut0, sDPutF, sRaise, fHold, fMove, fFree, fVar, fC, f1, f2, fL, fCons, fNil, oCons, oNil, oTup, oLst, fTup, fLst, fT, fAnd, fOr, fNot, fAndV, fOrV, fNotV, fIf, fChain, fIsN, fNotN, DL.isNon, DL.isG, gSet, gsCons, gsNil, gUn, gUnL, gStore, pNil, pIx, opApp, opClear, opIns, gLen, gLt_ii, gLe_ii, gGt_ii, gGe_ii, gSub_ii, gAdd_ii, gMul_sm, gMod_pos, gDiv_pos, gPow_sm, gEq_ii, gNe_ii, gNeg, sizeLine_eq, gMax2, gMin2, gList, gTuple, gIx, Kd.seq, D.ow, Kd.ow, D.get, D.put, Kd.at, itemsOf, fItems, fRng1, fRng3, fEnum, fCall, oCall, takeAll, pinIx, D.erL, D.er, Kd.er, D.clnL, D.cln, Kd.cln, cl2_v, cl2_lst, cl2_tup, D.cl2L, fD0, gTupD, anyOw_nil, anyOw_cons, Bool.or_false, Bool.false_or, dI_eq, nD_eq, pcD_eq, prD_eq, er_prD, ow_prD, c2_prD, cl_prD, erL_dI, er_nD, er_pcD, ow_nD, ow_dI, ow_pcD, c2_nD, c2_dI, c2_pcD, cl_nD, cl_pcD, clnL_dI, List.getD_cons_zero, List.getD_cons_succ, List.set_cons_zero, List.set_cons_succ, List.map_cons, List.map_nil, List.length_cons, List.length_nil, List.length_map, List.replicate, List.append_nil, List.cons_append, List.nil_append, Option.bind_some, Option.map_some, Option.bind_none, Option.map_none, if_true, if_false, Bool.and_true, Bool.true_and, Bool.false_eq_true, reduceIte, reduceCtorEq, decide_true, decide_false, Nat.reduceAdd, Nat.reduceLT, Nat.reduceSub, Nat.reduceLeDiff, e]
    · unfold p_is_spot fnG b_is_spot
      simp (disch := omega) only [sSeq, sIf, sRet, sAsg, sDrop, sPass, sFor, sForS, sFz, sMut, sMut0, sDPutF, sRaise, fHold, fMove, fFree, fVar, fC, f1, f2, fL, fCons, fNil, oCons, oNil, oTup, oLst, fTup, fLst, fT, fAnd, fOr, fNot, fAndV, fOrV, fNotV, fIf, fChain, fIsN, fNotN, DL.isNon, DL.isG, gSet, gsCons, gsNil, gUn, gUnL, gStore, pNil, pIx, opApp, opClear, opIns, gLen, gLt_ii, gLe_ii, gGt_ii, gGe_ii, gSub_ii, gAdd_ii, gMul_sm, gMod_pos, gDiv_pos, gPow_sm, gEq_ii, gNe_ii, gNeg, sizeLine_eq, gMax2, gMin2, gList, gTuple, gIx, Kd.seq, D.ow, Kd.ow, D.get, D.put, Kd.at, itemsOf, fItems, fRng1, fRng3, fEnum, fCall, oCall, takeAll, pinIx, D.erL, D.er, Kd.er, D.clnL, D.cln, Kd.cln, cl2_v, cl2_lst, cl2_tup, D.cl2L, fD0, gTupD, anyOw_nil, anyOw_cons, Bool.or_false, Bool.false_or, dI_eq, nD_eq, pcD_eq, prD_eq, er_prD, ow_prD, c2_prD, cl_prD, erL_dI, er_nD, er_pcD, ow_nD, ow_dI, ow_pcD, c2_nD, c2_dI, c2_pcD, cl_nD, cl_pcD, clnL_dI, List.getD_cons_zero, List.getD_cons_succ, List.set_cons_zero, List.set_cons_succ, List.map_cons, List.map_nil, List.length_cons, List.length_nil, List.length_map, List.replicate, List.append_nil, List.cons_append, List.nil_append, Option.bind_some, Option.map_some, Option.bind_none, Option.map_none, if_true, if_false, Bool.and_true, Bool.true_and, Bool.false_eq_true, reduceIte, reduceCtorEq, decide_true, decide_false, Nat.reduceAdd, Nat.reduceLT, Nat.reduceSub, Nat.reduceLeDiff, e]
end A95

set_option Elab.async false
set_option linter.all false
set_option maxRecDepth 100000
set_option maxHeartbeats 4000000
namespace A95
open DL PySem L2 Gl
open PyProof.Rows hiding St
theorem bad_ow {n : Nat} {d : D} (h : Bad n d) (hk : ∀ ds, d ≠ .n .flst ds) : d.ow = false ∧ d.er = d := by
  cases h with
  | lst h => rcases h with rfl | rfl
             · exact absurd rfl (hk _)
             · exact ⟨rfl, rfl⟩
  | _ => exact ⟨rfl, rfl⟩
theorem m_part_bad (sh : List (List Nat)) (sp : List Nat) (bd : D) (rest : List D) (hsp : ∀ f ∈ sp, f < sh.length) (hs : sh.length ≤ 1000) (hb : Bad sh.length bd) (he : bd.er = bd) :
    p_part [.n (.lst false) (sh.map pcD), .n (.lst false) (sp.map nD ++ bd :: rest)] = some (.exc "NoGlue" none []) := by
  unfold p_part fnG b_part
  simp (disch := omega) only [sSeq, sIf, sRet, sAsg, sDrop, sPass, sFor, sForS, sFz, sMut, sMut0, sDPutF, sRaise, fHold, fMove, fFree, fVar, fC, f1, f2, fL, fCons, fNil, oCons, oNil, oTup, oLst, fTup, fLst, fT, fAnd, fOr, fNot, fAndV, fOrV, fNotV, fIf, fChain, fIsN, fNotN, DL.isNon, DL.isG, gSet, gsCons, gsNil, gUn, gUnL, gStore, pNil, pIx, opApp, opClear, opIns, gLen, gLt_ii, gLe_ii, gGt_ii, gGe_ii, gSub_ii, gAdd_ii, gMul_sm, gMod_pos, gDiv_pos, gPow_sm, gEq_ii, gNe_ii, gNeg, sizeLine_eq, gMax2, gMin2, gList, gTuple, gIx, Kd.seq, D.ow, Kd.ow, D.get, D.put, Kd.at, itemsOf, fItems, fRng1, fRng3, fEnum, fCall, oCall, takeAll, pinIx, D.erL, D.er, Kd.er, D.clnL, D.cln, Kd.cln, cl2_v, cl2_lst, cl2_tup, D.cl2L, fD0, gTupD, anyOw_nil, anyOw_cons, Bool.or_false, Bool.false_or, dI_eq, nD_eq, pcD_eq, prD_eq, er_prD, ow_prD, c2_prD, cl_prD, erL_dI, er_nD, er_pcD, ow_nD, ow_dI, ow_pcD, c2_nD, c2_dI, c2_pcD, cl_nD, cl_pcD, clnL_dI, List.getD_cons_zero, List.getD_cons_succ, List.set_cons_zero, List.set_cons_succ, List.map_cons, List.map_nil, List.length_cons, List.length_nil, List.length_map, List.replicate, List.append_nil, List.cons_append, List.nil_append, Option.bind_some, Option.map_some, Option.bind_none, Option.map_none, if_true, if_false, Bool.and_true, Bool.true_and, Bool.false_eq_true, reduceIte, reduceCtorEq, decide_true, decide_false, Nat.reduceAdd, Nat.reduceLT, Nat.reduceSub, Nat.reduceLeDiff]
  have e0 : l_part_0 [some (.n (.lst false) (sh.map pcD)), some (.n (.lst false) (sp.map nD ++ bd :: rest)), some (.n (.dct true []) []), none, none, none, none, none, none] = sForL (gSet 3) pb0 (sp.map nD ++ bd :: rest) (envP sh (.n (.lst false) (sp.map nD ++ bd :: rest)) [] none none none none none none) := by
    unfold l_part_0
    simp only [sSeq, sIf, sRet, sAsg, sDrop, sPass, sFor, sForS, sFz, sMut, sMut0, sDPutF, sRaise, fHold, fMove, fFree, fVar, fC, f1, f2, fL, fCons, fNil, oCons, oNil, oTup, oLst, fTup, fLst, fT, fAnd, fOr, fNot, fAndV, fOrV, fNotV, fIf, fChain, fIsN, fNotN, DL.isNon, DL.isG, gSet, gsCons, gsNil, gUn, gUnL, gStore, pNil, pIx, opApp, opClear, opIns, gLen, gLt_ii, gLe_ii, gGt_ii, gGe_ii, gSub_ii, gAdd_ii, gMul_sm, gMod_pos, gDiv_pos, gPow_sm, gEq_ii, gNe_ii, gNeg, sizeLine_eq, gMax2, gMin2, gList, gTuple, gIx, Kd.seq, D.ow, Kd.ow, D.get, D.put, Kd.at, itemsOf, fItems, fRng1, fRng3, fEnum, fCall, oCall, takeAll, pinIx, D.erL, D.er, Kd.er, D.clnL, D.cln, Kd.cln, cl2_v, cl2_lst, cl2_tup, D.cl2L, fD0, gTupD, anyOw_nil, anyOw_cons, Bool.or_false, Bool.false_or, dI_eq, nD_eq, pcD_eq, prD_eq, er_prD, ow_prD, c2_prD, cl_prD, erL_dI, er_nD, er_pcD, ow_nD, ow_dI, ow_pcD, c2_nD, c2_dI, c2_pcD, cl_nD, cl_pcD, clnL_dI, List.getD_cons_zero, List.getD_cons_succ, List.set_cons_zero, List.set_cons_succ, List.map_cons, List.map_nil, List.length_cons, List.length_nil, List.length_map, List.replicate, List.append_nil, List.cons_append, List.nil_append, Option.bind_some, Option.map_some, Option.bind_none, Option.map_none, if_true, if_false, Bool.and_true, Bool.true_and, Bool.false_eq_true, reduceIte, reduceCtorEq, decide_true, decide_false, Nat.reduceAdd, Nat.reduceLT, Nat.reduceSub, Nat.reduceLeDiff]
    rfl
  rw [e0]
  obtain ⟨ρ', e, ⟨x3, rfl⟩, _⟩ := for_fold_app (h := gSet 3) (bd := pb0) (g := nD) (fun K ρ => (∃ x3, ρ = envP sh (.n (.lst false) (sp.map nD ++ bd :: rest)) K x3 none none none none none) ∧ Pk sh.length K) addK (bd :: rest) sp [] (envP sh (.n (.lst false) (sp.map nD ++ bd :: rest)) [] none none none none none none) (by
    rintro K f ρ hf ⟨⟨x3, rfl⟩, hK⟩
    have hf := hsp f hf
    refine turn1 rfl ?_
    have hp := put_true 2 [some (.n (.lst false) (sh.map pcD)), some (.n (.lst false) (sp.map nD ++ bd :: rest)), some (dctK K), some (.v (.int (f : Int))), none, none, none, none, none] (fVar 3) K f rfl rfl (by have := hK.len; omega)
    have hsf := m_spot_ok sh f hf
    simp (disch := omega) only [sSeq, sIf, sRet, sAsg, sDrop, sPass, sFor, sForS, sFz, sMut, sMut0, sRaise, fHold, fMove, fFree, fVar, fC, f1, f2, fL, fCons, fNil, oCons, oNil, oTup, oLst, fTup, fLst, fT, fAnd, fOr, fNot, fAndV, fOrV, fNotV, fIf, fChain, fIsN, fNotN, DL.isNon, DL.isG, gSet, gsCons, gsNil, gUn, gUnL, gStore, pNil, pIx, opApp, opClear, opIns, gLen, gLt_ii, gLe_ii, gGt_ii, gGe_ii, gSub_ii, gAdd_ii, gMul_sm, gMod_pos, gDiv_pos, gPow_sm, gEq_ii, gNe_ii, gNeg, sizeLine_eq, gMax2, gMin2, gList, gTuple, gIx, Kd.seq, D.ow, Kd.ow, D.get, D.put, Kd.at, itemsOf, fItems, fRng1, fRng3, fEnum, fCall, oCall, takeAll, pinIx, D.erL, D.er, Kd.er, D.clnL, D.cln, Kd.cln, cl2_v, cl2_lst, cl2_tup, D.cl2L, fD0, gTupD, anyOw_nil, anyOw_cons, Bool.or_false, Bool.false_or, dI_eq, nD_eq, pcD_eq, prD_eq, er_prD, ow_prD, c2_prD, cl_prD, erL_dI, er_nD, er_pcD, ow_nD, ow_dI, ow_pcD, c2_nD, c2_dI, c2_pcD, cl_nD, cl_pcD, clnL_dI, List.getD_cons_zero, List.getD_cons_succ, List.set_cons_zero, List.set_cons_succ, List.map_cons, List.map_nil, List.length_cons, List.length_nil, List.length_map, List.replicate, List.append_nil, List.cons_append, List.nil_append, Option.bind_some, Option.map_some, Option.bind_none, Option.map_none, if_true, if_false, Bool.and_true, Bool.true_and, Bool.false_eq_true, reduceIte, reduceCtorEq, decide_true, decide_false, Nat.reduceAdd, Nat.reduceLT, Nat.reduceSub, Nat.reduceLeDiff, hsf, Bool.not_true, hp]
    exact ⟨_, rfl, ⟨_, rfl⟩, hK.add hf⟩) ⟨⟨none, rfl⟩, List.nodup_nil, fun k m => nomatch m⟩
  rw [e]
  have hbs := bad_spot sh bd hb hs
  have hl := forL_rs (h := gSet 3) (b := pb0) (d := bd) (items := rest) (cn := "NoGlue") (p := none) (ρ := envP sh (.n (.lst false) (sp.map nD ++ bd :: rest)) (sp.foldl addK []) x3 none none none none none) (ρ1 := envP sh (.n (.lst false) (sp.map nD ++ bd :: rest)) (sp.foldl addK []) (some bd) none none none none none) (ρ2 := envP sh (.n (.lst false) (sp.map nD ++ bd :: rest)) (sp.foldl addK []) (some bd) none none none none none) rfl (by
    unfold envP
    simp (disch := omega) only [sSeq, sIf, sRet, sAsg, sDrop, sPass, sFor, sForS, sFz, sMut, sMut0, sRaise, fHold, fMove, fFree, fVar, fC, f1, f2, fL, fCons, fNil, oCons, oNil, oTup, oLst, fTup, fLst, fT, fAnd, fOr, fNot, fAndV, fOrV, fNotV, fIf, fChain, fIsN, fNotN, DL.isNon, DL.isG, gSet, gsCons, gsNil, gUn, gUnL, gStore, pNil, pIx, opApp, opClear, opIns, gLen, gLt_ii, gLe_ii, gGt_ii, gGe_ii, gSub_ii, gAdd_ii, gMul_sm, gMod_pos, gDiv_pos, gPow_sm, gEq_ii, gNe_ii, gNeg, sizeLine_eq, gMax2, gMin2, gList, gTuple, gIx, Kd.seq, D.ow, Kd.ow, D.get, D.put, Kd.at, itemsOf, fItems, fRng1, fRng3, fEnum, fCall, oCall, takeAll, pinIx, D.erL, D.er, Kd.er, D.clnL, D.cln, Kd.cln, cl2_v, cl2_lst, cl2_tup, D.cl2L, fD0, gTupD, anyOw_nil, anyOw_cons, Bool.or_false, Bool.false_or, dI_eq, nD_eq, pcD_eq, prD_eq, er_prD, ow_prD, c2_prD, cl_prD, erL_dI, er_nD, er_pcD, ow_nD, ow_dI, ow_pcD, c2_nD, c2_dI, c2_pcD, cl_nD, cl_pcD, clnL_dI, List.getD_cons_zero, List.getD_cons_succ, List.set_cons_zero, List.set_cons_succ, List.map_cons, List.map_nil, List.length_cons, List.length_nil, List.length_map, List.replicate, List.append_nil, List.cons_append, List.nil_append, Option.bind_some, Option.map_some, Option.bind_none, Option.map_none, if_true, if_false, Bool.and_true, Bool.true_and, Bool.false_eq_true, reduceIte, reduceCtorEq, decide_true, decide_false, Nat.reduceAdd, Nat.reduceLT, Nat.reduceSub, Nat.reduceLeDiff, he, hbs, Bool.not_false])
  rw [hl]
  rfl
end A95

set_option Elab.async false
set_option linter.all false
set_option maxRecDepth 100000
set_option maxHeartbeats 4000000
namespace A95
open DL PySem L2 Gl
open PyProof.Rows hiding St
/-- what is no pair to glue -/
inductive BadP (n : Nat) : D → Prop
  | one {d} : Bad n d → d.er = d → BadP n (.n (.tup false) [.v (.int 0), d])
  | two {d} : Bad n d → d.er = d → BadP n (.n (.tup false) [d, .v (.int 0)])
  | three : BadP n (.n (.tup false) [.v (.int 0), .v (.int 0), .v (.int 0)])
  | lst : BadP n (.n (.lst false) [.v (.int 0), .v (.int 0)])
  | sgl : BadP n (.n (.tup false) [.v (.int 0)])
  | bad {d} : Bad n d → d.er = d → BadP n d
theorem m_isglue_bad (sh : List (List Nat)) (d : D) (hb : BadP sh.length d) (hn : sh.length ≤ 1000) (h0 : 0 < sh.length) : p_is_glue [.n (.lst false) (sh.map pcD), d] = some (.ret (.v (.bl false)) []) := by
  have s0 := m_spot_ok sh 0 h0
  rw [show ((0 : Nat) : Int) = 0 from rfl] at s0
  have n2 : ¬ ((((0 : Nat) + 1 : Nat) : Int) = 2) := by decide
  have n3 : ¬ ((((0 : Nat) + 1 + 1 + 1 : Nat) : Int) = 2) := by decide
  have y2 : ((((0 : Nat) + 1 + 1 : Nat) : Int) = 2) := rfl
  cases hb with
  | @one d hb he =>
    have e1 : atI [D.v (.int 0), d] 0 = some (.v (.int 0)) := rfl
    have e2 : atI [D.v (.int 0), d] 1 = some d := rfl
    have hbs := bad_spot sh d hb hn
    unfold p_is_glue fnG b_is_glue
    simp (disch := omega) only [sSeq, sIf, sRet, sAsg, sDrop, sPass, sFor, sForS, sFz, sMut, sMut0, sDPutF, sRaise, fHold, fMove, fFree, fVar, fC, f1, f2, fL, fCons, fNil, oCons, oNil, oTup, oLst, fTup, fLst, fT, fAnd, fOr, fNot, fAndV, fOrV, fNotV, fIf, fChain, fIsN, fNotN, DL.isNon, DL.isG, gSet, gsCons, gsNil, gUn, gUnL, gStore, pNil, pIx, opApp, opClear, opIns, gLen, gLt_ii, gLe_ii, gGt_ii, gGe_ii, gSub_ii, gAdd_ii, gMul_sm, gMod_pos, gDiv_pos, gPow_sm, gEq_ii, gNe_ii, gNeg, sizeLine_eq, gMax2, gMin2, gList, gTuple, gIx, Kd.seq, D.ow, Kd.ow, D.get, D.put, Kd.at, itemsOf, fItems, fRng1, fRng3, fEnum, fCall, oCall, takeAll, pinIx, D.erL, D.er, Kd.er, D.clnL, D.cln, Kd.cln, cl2_v, cl2_lst, cl2_tup, D.cl2L, fD0, gTupD, anyOw_nil, anyOw_cons, Bool.or_false, Bool.false_or, dI_eq, nD_eq, pcD_eq, prD_eq, er_prD, ow_prD, c2_prD, cl_prD, erL_dI, er_nD, er_pcD, ow_nD, ow_dI, ow_pcD, c2_nD, c2_dI, c2_pcD, cl_nD, cl_pcD, clnL_dI, List.getD_cons_zero, List.getD_cons_succ, List.set_cons_zero, List.set_cons_succ, List.map_cons, List.map_nil, List.length_cons, List.length_nil, List.length_map, List.replicate, List.append_nil, List.cons_append, List.nil_append, Option.bind_some, Option.map_some, Option.bind_none, Option.map_none, if_true, if_false, Bool.and_true, Bool.true_and, Bool.false_eq_true, reduceIte, reduceCtorEq, decide_true, decide_false, Nat.reduceAdd, Nat.reduceLT, Nat.reduceSub, Nat.reduceLeDiff, fIs, gIs, tyN, kb_tup_tup, Bool.not_true, Bool.not_false, e1, e2, y2, s0, he, hbs]
  | @two d hb he =>
    have e1 : atI [d, D.v (.int 0)] 0 = some d := rfl
    have hbs := bad_spot sh d hb hn
    unfold p_is_glue fnG b_is_glue
    simp (disch := omega) only [sSeq, sIf, sRet, sAsg, sDrop, sPass, sFor, sForS, sFz, sMut, sMut0, sDPutF, sRaise, fHold, fMove, fFree, fVar, fC, f1, f2, fL, fCons, fNil, oCons, oNil, oTup, oLst, fTup, fLst, fT, fAnd, fOr, fNot, fAndV, fOrV, fNotV, fIf, fChain, fIsN, fNotN, DL.isNon, DL.isG, gSet, gsCons, gsNil, gUn, gUnL, gStore, pNil, pIx, opApp, opClear, opIns, gLen, gLt_ii, gLe_ii, gGt_ii, gGe_ii, gSub_ii, gAdd_ii, gMul_sm, gMod_pos, gDiv_pos, gPow_sm, gEq_ii, gNe_ii, gNeg, sizeLine_eq, gMax2, gMin2, gList, gTuple, gIx, Kd.seq, D.ow, Kd.ow, D.get, D.put, Kd.at, itemsOf, fItems, fRng1, fRng3, fEnum, fCall, oCall, takeAll, pinIx, D.erL, D.er, Kd.er, D.clnL, D.cln, Kd.cln, cl2_v, cl2_lst, cl2_tup, D.cl2L, fD0, gTupD, anyOw_nil, anyOw_cons, Bool.or_false, Bool.false_or, dI_eq, nD_eq, pcD_eq, prD_eq, er_prD, ow_prD, c2_prD, cl_prD, erL_dI, er_nD, er_pcD, ow_nD, ow_dI, ow_pcD, c2_nD, c2_dI, c2_pcD, cl_nD, cl_pcD, clnL_dI, List.getD_cons_zero, List.getD_cons_succ, List.set_cons_zero, List.set_cons_succ, List.map_cons, List.map_nil, List.length_cons, List.length_nil, List.length_map, List.replicate, List.append_nil, List.cons_append, List.nil_append, Option.bind_some, Option.map_some, Option.bind_none, Option.map_none, if_true, if_false, Bool.and_true, Bool.true_and, Bool.false_eq_true, reduceIte, reduceCtorEq, decide_true, decide_false, Nat.reduceAdd, Nat.reduceLT, Nat.reduceSub, Nat.reduceLeDiff, fIs, gIs, tyN, kb_tup_tup, Bool.not_true, Bool.not_false, e1, y2, he, hbs]
  | three =>
    unfold p_is_glue fnG b_is_glue
    simp (disch := omega) only [sSeq, sIf, sRet, sAsg, sDrop, sPass, sFor, sForS, sFz, sMut, sMut0, sDPutF, sRaise, fHold, fMove, fFree, fVar, fC, f1, f2, fL, fCons, fNil, oCons, oNil, oTup, oLst, fTup, fLst, fT, fAnd, fOr, fNot, fAndV, fOrV, fNotV, fIf, fChain, fIsN, fNotN, DL.isNon, DL.isG, gSet, gsCons, gsNil, gUn, gUnL, gStore, pNil, pIx, opApp, opClear, opIns, gLen, gLt_ii, gLe_ii, gGt_ii, gGe_ii, gSub_ii, gAdd_ii, gMul_sm, gMod_pos, gDiv_pos, gPow_sm, gEq_ii, gNe_ii, gNeg, sizeLine_eq, gMax2, gMin2, gList, gTuple, gIx, Kd.seq, D.ow, Kd.ow, D.get, D.put, Kd.at, itemsOf, fItems, fRng1, fRng3, fEnum, fCall, oCall, takeAll, pinIx, D.erL, D.er, Kd.er, D.clnL, D.cln, Kd.cln, cl2_v, cl2_lst, cl2_tup, D.cl2L, fD0, gTupD, anyOw_nil, anyOw_cons, Bool.or_false, Bool.false_or, dI_eq, nD_eq, pcD_eq, prD_eq, er_prD, ow_prD, c2_prD, cl_prD, erL_dI, er_nD, er_pcD, ow_nD, ow_dI, ow_pcD, c2_nD, c2_dI, c2_pcD, cl_nD, cl_pcD, clnL_dI, List.getD_cons_zero, List.getD_cons_succ, List.set_cons_zero, List.set_cons_succ, List.map_cons, List.map_nil, List.length_cons, List.length_nil, List.length_map, List.replicate, List.append_nil, List.cons_append, List.nil_append, Option.bind_some, Option.map_some, Option.bind_none, Option.map_none, if_true, if_false, Bool.and_true, Bool.true_and, Bool.false_eq_true, reduceIte, reduceCtorEq, decide_true, decide_false, Nat.reduceAdd, Nat.reduceLT, Nat.reduceSub, Nat.reduceLeDiff, fIs, gIs, tyN, kb_tup_tup, Bool.not_true, Bool.not_false, n3]
  | lst =>
    unfold p_is_glue fnG b_is_glue
    simp (disch := omega) only [sSeq, sIf, sRet, sAsg, sDrop, sPass, sFor, sForS, sFz, sMut, sMut0, sDPutF, sRaise, fHold, fMove, fFree, fVar, fC, f1, f2, fL, fCons, fNil, oCons, oNil, oTup, oLst, fTup, fLst, fT, fAnd, fOr, fNot, fAndV, fOrV, fNotV, fIf, fChain, fIsN, fNotN, DL.isNon, DL.isG, gSet, gsCons, gsNil, gUn, gUnL, gStore, pNil, pIx, opApp, opClear, opIns, gLen, gLt_ii, gLe_ii, gGt_ii, gGe_ii, gSub_ii, gAdd_ii, gMul_sm, gMod_pos, gDiv_pos, gPow_sm, gEq_ii, gNe_ii, gNeg, sizeLine_eq, gMax2, gMin2, gList, gTuple, gIx, Kd.seq, D.ow, Kd.ow, D.get, D.put, Kd.at, itemsOf, fItems, fRng1, fRng3, fEnum, fCall, oCall, takeAll, pinIx, D.erL, D.er, Kd.er, D.clnL, D.cln, Kd.cln, cl2_v, cl2_lst, cl2_tup, D.cl2L, fD0, gTupD, anyOw_nil, anyOw_cons, Bool.or_false, Bool.false_or, dI_eq, nD_eq, pcD_eq, prD_eq, er_prD, ow_prD, c2_prD, cl_prD, erL_dI, er_nD, er_pcD, ow_nD, ow_dI, ow_pcD, c2_nD, c2_dI, c2_pcD, cl_nD, cl_pcD, clnL_dI, List.getD_cons_zero, List.getD_cons_succ, List.set_cons_zero, List.set_cons_succ, List.map_cons, List.map_nil, List.length_cons, List.length_nil, List.length_map, List.replicate, List.append_nil, List.cons_append, List.nil_append, Option.bind_some, Option.map_some, Option.bind_none, Option.map_none, if_true, if_false, Bool.and_true, Bool.true_and, Bool.false_eq_true, reduceIte, reduceCtorEq, decide_true, decide_false, Nat.reduceAdd, Nat.reduceLT, Nat.reduceSub, Nat.reduceLeDiff, fIs, gIs, tyN, kb_lst_tup, Bool.not_true, Bool.not_false]
  | sgl =>
    unfold p_is_glue fnG b_is_glue
    simp (disch := omega) only [sSeq, sIf, sRet, sAsg, sDrop, sPass, sFor, sForS, sFz, sMut, sMut0, sDPutF, sRaise, fHold, fMove, fFree, fVar, fC, f1, f2, fL, fCons, fNil, oCons, oNil, oTup, oLst, fTup, fLst, fT, fAnd, fOr, fNot, fAndV, fOrV, fNotV, fIf, fChain, fIsN, fNotN, DL.isNon, DL.isG, gSet, gsCons, gsNil, gUn, gUnL, gStore, pNil, pIx, opApp, opClear, opIns, gLen, gLt_ii, gLe_ii, gGt_ii, gGe_ii, gSub_ii, gAdd_ii, gMul_sm, gMod_pos, gDiv_pos, gPow_sm, gEq_ii, gNe_ii, gNeg, sizeLine_eq, gMax2, gMin2, gList, gTuple, gIx, Kd.seq, D.ow, Kd.ow, D.get, D.put, Kd.at, itemsOf, fItems, fRng1, fRng3, fEnum, fCall, oCall, takeAll, pinIx, D.erL, D.er, Kd.er, D.clnL, D.cln, Kd.cln, cl2_v, cl2_lst, cl2_tup, D.cl2L, fD0, gTupD, anyOw_nil, anyOw_cons, Bool.or_false, Bool.false_or, dI_eq, nD_eq, pcD_eq, prD_eq, er_prD, ow_prD, c2_prD, cl_prD, erL_dI, er_nD, er_pcD, ow_nD, ow_dI, ow_pcD, c2_nD, c2_dI, c2_pcD, cl_nD, cl_pcD, clnL_dI, List.getD_cons_zero, List.getD_cons_succ, List.set_cons_zero, List.set_cons_succ, List.map_cons, List.map_nil, List.length_cons, List.length_nil, List.length_map, List.replicate, List.append_nil, List.cons_append, List.nil_append, Option.bind_some, Option.map_some, Option.bind_none, Option.map_none, if_true, if_false, Bool.and_true, Bool.true_and, Bool.false_eq_true, reduceIte, reduceCtorEq, decide_true, decide_false, Nat.reduceAdd, Nat.reduceLT, Nat.reduceSub, Nat.reduceLeDiff, fIs, gIs, tyN, kb_tup_tup, Bool.not_true, Bool.not_false, n2]
  | @bad d hb he =>
    cases hb with
    | big =>
      unfold p_is_glue fnG b_is_glue
      simp (disch := omega) only [sSeq, sIf, sRet, sAsg, sDrop, sPass, sFor, sForS, sFz, sMut, sMut0, sDPutF, sRaise, fHold, fMove, fFree, fVar, fC, f1, f2, fL, fCons, fNil, oCons, oNil, oTup, oLst, fTup, fLst, fT, fAnd, fOr, fNot, fAndV, fOrV, fNotV, fIf, fChain, fIsN, fNotN, DL.isNon, DL.isG, gSet, gsCons, gsNil, gUn, gUnL, gStore, pNil, pIx, opApp, opClear, opIns, gLen, gLt_ii, gLe_ii, gGt_ii, gGe_ii, gSub_ii, gAdd_ii, gMul_sm, gMod_pos, gDiv_pos, gPow_sm, gEq_ii, gNe_ii, gNeg, sizeLine_eq, gMax2, gMin2, gList, gTuple, gIx, Kd.seq, D.ow, Kd.ow, D.get, D.put, Kd.at, itemsOf, fItems, fRng1, fRng3, fEnum, fCall, oCall, takeAll, pinIx, D.erL, D.er, Kd.er, D.clnL, D.cln, Kd.cln, cl2_v, cl2_lst, cl2_tup, D.cl2L, fD0, gTupD, anyOw_nil, anyOw_cons, Bool.or_false, Bool.false_or, dI_eq, nD_eq, pcD_eq, prD_eq, er_prD, ow_prD, c2_prD, cl_prD, erL_dI, er_nD, er_pcD, ow_nD, ow_dI, ow_pcD, c2_nD, c2_dI, c2_pcD, cl_nD, cl_pcD, clnL_dI, List.getD_cons_zero, List.getD_cons_succ, List.set_cons_zero, List.set_cons_succ, List.map_cons, List.map_nil, List.length_cons, List.length_nil, List.length_map, List.replicate, List.append_nil, List.cons_append, List.nil_append, Option.bind_some, Option.map_some, Option.bind_none, Option.map_none, if_true, if_false, Bool.and_true, Bool.true_and, Bool.false_eq_true, reduceIte, reduceCtorEq, decide_true, decide_false, Nat.reduceAdd, Nat.reduceLT, Nat.reduceSub, Nat.reduceLeDiff, fIs, gIs, tyN, kb_int_tup, Bool.not_false]
    | neg =>
      unfold p_is_glue fnG b_is_glue
      simp (disch := omega) only [sSeq, sIf, sRet, sAsg, sDrop, sPass, sFor, sForS, sFz, sMut, sMut0, sDPutF, sRaise, fHold, fMove, fFree, fVar, fC, f1, f2, fL, fCons, fNil, oCons, oNil, oTup, oLst, fTup, fLst, fT, fAnd, fOr, fNot, fAndV, fOrV, fNotV, fIf, fChain, fIsN, fNotN, DL.isNon, DL.isG, gSet, gsCons, gsNil, gUn, gUnL, gStore, pNil, pIx, opApp, opClear, opIns, gLen, gLt_ii, gLe_ii, gGt_ii, gGe_ii, gSub_ii, gAdd_ii, gMul_sm, gMod_pos, gDiv_pos, gPow_sm, gEq_ii, gNe_ii, gNeg, sizeLine_eq, gMax2, gMin2, gList, gTuple, gIx, Kd.seq, D.ow, Kd.ow, D.get, D.put, Kd.at, itemsOf, fItems, fRng1, fRng3, fEnum, fCall, oCall, takeAll, pinIx, D.erL, D.er, Kd.er, D.clnL, D.cln, Kd.cln, cl2_v, cl2_lst, cl2_tup, D.cl2L, fD0, gTupD, anyOw_nil, anyOw_cons, Bool.or_false, Bool.false_or, dI_eq, nD_eq, pcD_eq, prD_eq, er_prD, ow_prD, c2_prD, cl_prD, erL_dI, er_nD, er_pcD, ow_nD, ow_dI, ow_pcD, c2_nD, c2_dI, c2_pcD, cl_nD, cl_pcD, clnL_dI, List.getD_cons_zero, List.getD_cons_succ, List.set_cons_zero, List.set_cons_succ, List.map_cons, List.map_nil, List.length_cons, List.length_nil, List.length_map, List.replicate, List.append_nil, List.cons_append, List.nil_append, Option.bind_some, Option.map_some, Option.bind_none, Option.map_none, if_true, if_false, Bool.and_true, Bool.true_and, Bool.false_eq_true, reduceIte, reduceCtorEq, decide_true, decide_false, Nat.reduceAdd, Nat.reduceLT, Nat.reduceSub, Nat.reduceLeDiff, fIs, gIs, tyN, kb_int_tup, Bool.not_false]
    | pow =>
      unfold p_is_glue fnG b_is_glue
      simp (disch := omega) only [sSeq, sIf, sRet, sAsg, sDrop, sPass, sFor, sForS, sFz, sMut, sMut0, sDPutF, sRaise, fHold, fMove, fFree, fVar, fC, f1, f2, fL, fCons, fNil, oCons, oNil, oTup, oLst, fTup, fLst, fT, fAnd, fOr, fNot, fAndV, fOrV, fNotV, fIf, fChain, fIsN, fNotN, DL.isNon, DL.isG, gSet, gsCons, gsNil, gUn, gUnL, gStore, pNil, pIx, opApp, opClear, opIns, gLen, gLt_ii, gLe_ii, gGt_ii, gGe_ii, gSub_ii, gAdd_ii, gMul_sm, gMod_pos, gDiv_pos, gPow_sm, gEq_ii, gNe_ii, gNeg, sizeLine_eq, gMax2, gMin2, gList, gTuple, gIx, Kd.seq, D.ow, Kd.ow, D.get, D.put, Kd.at, itemsOf, fItems, fRng1, fRng3, fEnum, fCall, oCall, takeAll, pinIx, D.erL, D.er, Kd.er, D.clnL, D.cln, Kd.cln, cl2_v, cl2_lst, cl2_tup, D.cl2L, fD0, gTupD, anyOw_nil, anyOw_cons, Bool.or_false, Bool.false_or, dI_eq, nD_eq, pcD_eq, prD_eq, er_prD, ow_prD, c2_prD, cl_prD, erL_dI, er_nD, er_pcD, ow_nD, ow_dI, ow_pcD, c2_nD, c2_dI, c2_pcD, cl_nD, cl_pcD, clnL_dI, List.getD_cons_zero, List.getD_cons_succ, List.set_cons_zero, List.set_cons_succ, List.map_cons, List.map_nil, List.length_cons, List.length_nil, List.length_map, List.replicate, List.append_nil, List.cons_append, List.nil_append, Option.bind_some, Option.map_some, Option.bind_none, Option.map_none, if_true, if_false, Bool.and_true, Bool.true_and, Bool.false_eq_true, reduceIte, reduceCtorEq, decide_true, decide_false, Nat.reduceAdd, Nat.reduceLT, Nat.reduceSub, Nat.reduceLeDiff, fIs, gIs, tyN, kb_int_tup, Bool.not_false]
    | tru =>
      unfold p_is_glue fnG b_is_glue
      simp (disch := omega) only [sSeq, sIf, sRet, sAsg, sDrop, sPass, sFor, sForS, sFz, sMut, sMut0, sDPutF, sRaise, fHold, fMove, fFree, fVar, fC, f1, f2, fL, fCons, fNil, oCons, oNil, oTup, oLst, fTup, fLst, fT, fAnd, fOr, fNot, fAndV, fOrV, fNotV, fIf, fChain, fIsN, fNotN, DL.isNon, DL.isG, gSet, gsCons, gsNil, gUn, gUnL, gStore, pNil, pIx, opApp, opClear, opIns, gLen, gLt_ii, gLe_ii, gGt_ii, gGe_ii, gSub_ii, gAdd_ii, gMul_sm, gMod_pos, gDiv_pos, gPow_sm, gEq_ii, gNe_ii, gNeg, sizeLine_eq, gMax2, gMin2, gList, gTuple, gIx, Kd.seq, D.ow, Kd.ow, D.get, D.put, Kd.at, itemsOf, fItems, fRng1, fRng3, fEnum, fCall, oCall, takeAll, pinIx, D.erL, D.er, Kd.er, D.clnL, D.cln, Kd.cln, cl2_v, cl2_lst, cl2_tup, D.cl2L, fD0, gTupD, anyOw_nil, anyOw_cons, Bool.or_false, Bool.false_or, dI_eq, nD_eq, pcD_eq, prD_eq, er_prD, ow_prD, c2_prD, cl_prD, erL_dI, er_nD, er_pcD, ow_nD, ow_dI, ow_pcD, c2_nD, c2_dI, c2_pcD, cl_nD, cl_pcD, clnL_dI, List.getD_cons_zero, List.getD_cons_succ, List.set_cons_zero, List.set_cons_succ, List.map_cons, List.map_nil, List.length_cons, List.length_nil, List.length_map, List.replicate, List.append_nil, List.cons_append, List.nil_append, Option.bind_some, Option.map_some, Option.bind_none, Option.map_none, if_true, if_false, Bool.and_true, Bool.true_and, Bool.false_eq_true, reduceIte, reduceCtorEq, decide_true, decide_false, Nat.reduceAdd, Nat.reduceLT, Nat.reduceSub, Nat.reduceLeDiff, fIs, gIs, tyN, kb_bool_tup, Bool.not_false]
    | non =>
      unfold p_is_glue fnG b_is_glue
      simp (disch := omega) only [sSeq, sIf, sRet, sAsg, sDrop, sPass, sFor, sForS, sFz, sMut, sMut0, sDPutF, sRaise, fHold, fMove, fFree, fVar, fC, f1, f2, fL, fCons, fNil, oCons, oNil, oTup, oLst, fTup, fLst, fT, fAnd, fOr, fNot, fAndV, fOrV, fNotV, fIf, fChain, fIsN, fNotN, DL.isNon, DL.isG, gSet, gsCons, gsNil, gUn, gUnL, gStore, pNil, pIx, opApp, opClear, opIns, gLen, gLt_ii, gLe_ii, gGt_ii, gGe_ii, gSub_ii, gAdd_ii, gMul_sm, gMod_pos, gDiv_pos, gPow_sm, gEq_ii, gNe_ii, gNeg, sizeLine_eq, gMax2, gMin2, gList, gTuple, gIx, Kd.seq, D.ow, Kd.ow, D.get, D.put, Kd.at, itemsOf, fItems, fRng1, fRng3, fEnum, fCall, oCall, takeAll, pinIx, D.erL, D.er, Kd.er, D.clnL, D.cln, Kd.cln, cl2_v, cl2_lst, cl2_tup, D.cl2L, fD0, gTupD, anyOw_nil, anyOw_cons, Bool.or_false, Bool.false_or, dI_eq, nD_eq, pcD_eq, prD_eq, er_prD, ow_prD, c2_prD, cl_prD, erL_dI, er_nD, er_pcD, ow_nD, ow_dI, ow_pcD, c2_nD, c2_dI, c2_pcD, cl_nD, cl_pcD, clnL_dI, List.getD_cons_zero, List.getD_cons_succ, List.set_cons_zero, List.set_cons_succ, List.map_cons, List.map_nil, List.length_cons, List.length_nil, List.length_map, List.replicate, List.append_nil, List.cons_append, List.nil_append, Option.bind_some, Option.map_some, Option.bind_none, Option.map_none, if_true, if_false, Bool.and_true, Bool.true_and, Bool.false_eq_true, reduceIte, reduceCtorEq, decide_true, decide_false, Nat.reduceAdd, Nat.reduceLT, Nat.reduceSub, Nat.reduceLeDiff, fIs, gIs, tyN, kb_non_tup, Bool.not_false]
    | str =>
      unfold p_is_glue fnG b_is_glue
      simp (disch := omega) only [sSeq, sIf, sRet, sAsg, sDrop, sPass, sFor, sForS, sFz, sMut, sMut0, sDPutF, sRaise, fHold, fMove, fFree, fVar, fC, f1, f2, fL, fCons, fNil, oCons, oNil, oTup, oLst, fTup, fLst, fT, fAnd, fOr, fNot, fAndV, fOrV, fNotV, fIf, fChain, fIsN, fNotN, DL.isNon, DL.isG, gSet, gsCons, gsNil, gUn, gUnL, gStore, pNil, pIx, opApp, opClear, opIns, gLen, gLt_ii, gLe_ii, gGt_ii, gGe_ii, gSub_ii, gAdd_ii, gMul_sm, gMod_pos, gDiv_pos, gPow_sm, gEq_ii, gNe_ii, gNeg, sizeLine_eq, gMax2, gMin2, gList, gTuple, gIx, Kd.seq, D.ow, Kd.ow, D.get, D.put, Kd.at, itemsOf, fItems, fRng1, fRng3, fEnum, fCall, oCall, takeAll, pinIx, D.erL, D.er, Kd.er, D.clnL, D.cln, Kd.cln, cl2_v, cl2_lst, cl2_tup, D.cl2L, fD0, gTupD, anyOw_nil, anyOw_cons, Bool.or_false, Bool.false_or, dI_eq, nD_eq, pcD_eq, prD_eq, er_prD, ow_prD, c2_prD, cl_prD, erL_dI, er_nD, er_pcD, ow_nD, ow_dI, ow_pcD, c2_nD, c2_dI, c2_pcD, cl_nD, cl_pcD, clnL_dI, List.getD_cons_zero, List.getD_cons_succ, List.set_cons_zero, List.set_cons_succ, List.map_cons, List.map_nil, List.length_cons, List.length_nil, List.length_map, List.replicate, List.append_nil, List.cons_append, List.nil_append, Option.bind_some, Option.map_some, Option.bind_none, Option.map_none, if_true, if_false, Bool.and_true, Bool.true_and, Bool.false_eq_true, reduceIte, reduceCtorEq, decide_true, decide_false, Nat.reduceAdd, Nat.reduceLT, Nat.reduceSub, Nat.reduceLeDiff, fIs, gIs, tyN, kb_str_tup, Bool.not_false]
    | tup =>
      unfold p_is_glue fnG b_is_glue
      simp (disch := omega) only [sSeq, sIf, sRet, sAsg, sDrop, sPass, sFor, sForS, sFz, sMut, sMut0, sDPutF, sRaise, fHold, fMove, fFree, fVar, fC, f1, f2, fL, fCons, fNil, oCons, oNil, oTup, oLst, fTup, fLst, fT, fAnd, fOr, fNot, fAndV, fOrV, fNotV, fIf, fChain, fIsN, fNotN, DL.isNon, DL.isG, gSet, gsCons, gsNil, gUn, gUnL, gStore, pNil, pIx, opApp, opClear, opIns, gLen, gLt_ii, gLe_ii, gGt_ii, gGe_ii, gSub_ii, gAdd_ii, gMul_sm, gMod_pos, gDiv_pos, gPow_sm, gEq_ii, gNe_ii, gNeg, sizeLine_eq, gMax2, gMin2, gList, gTuple, gIx, Kd.seq, D.ow, Kd.ow, D.get, D.put, Kd.at, itemsOf, fItems, fRng1, fRng3, fEnum, fCall, oCall, takeAll, pinIx, D.erL, D.er, Kd.er, D.clnL, D.cln, Kd.cln, cl2_v, cl2_lst, cl2_tup, D.cl2L, fD0, gTupD, anyOw_nil, anyOw_cons, Bool.or_false, Bool.false_or, dI_eq, nD_eq, pcD_eq, prD_eq, er_prD, ow_prD, c2_prD, cl_prD, erL_dI, er_nD, er_pcD, ow_nD, ow_dI, ow_pcD, c2_nD, c2_dI, c2_pcD, cl_nD, cl_pcD, clnL_dI, List.getD_cons_zero, List.getD_cons_succ, List.set_cons_zero, List.set_cons_succ, List.map_cons, List.map_nil, List.length_cons, List.length_nil, List.length_map, List.replicate, List.append_nil, List.cons_append, List.nil_append, Option.bind_some, Option.map_some, Option.bind_none, Option.map_none, if_true, if_false, Bool.and_true, Bool.true_and, Bool.false_eq_true, reduceIte, reduceCtorEq, decide_true, decide_false, Nat.reduceAdd, Nat.reduceLT, Nat.reduceSub, Nat.reduceLeDiff, fIs, gIs, tyN, kb_tup_tup, Bool.not_true, Bool.not_false, n2]
    | lst h =>
      rcases h with rfl | rfl
      · cases he
      · unfold p_is_glue fnG b_is_glue
        simp (disch := omega) only [sSeq, sIf, sRet, sAsg, sDrop, sPass, sFor, sForS, sFz, sMut, sMut0, sDPutF, sRaise, fHold, fMove, fFree, fVar, fC, f1, f2, fL, fCons, fNil, oCons, oNil, oTup, oLst, fTup, fLst, fT, fAnd, fOr, fNot, fAndV, fOrV, fNotV, fIf, fChain, fIsN, fNotN, DL.isNon, DL.isG, gSet, gsCons, gsNil, gUn, gUnL, gStore, pNil, pIx, opApp, opClear, opIns, gLen, gLt_ii, gLe_ii, gGt_ii, gGe_ii, gSub_ii, gAdd_ii, gMul_sm, gMod_pos, gDiv_pos, gPow_sm, gEq_ii, gNe_ii, gNeg, sizeLine_eq, gMax2, gMin2, gList, gTuple, gIx, Kd.seq, D.ow, Kd.ow, D.get, D.put, Kd.at, itemsOf, fItems, fRng1, fRng3, fEnum, fCall, oCall, takeAll, pinIx, D.erL, D.er, Kd.er, D.clnL, D.cln, Kd.cln, cl2_v, cl2_lst, cl2_tup, D.cl2L, fD0, gTupD, anyOw_nil, anyOw_cons, Bool.or_false, Bool.false_or, dI_eq, nD_eq, pcD_eq, prD_eq, er_prD, ow_prD, c2_prD, cl_prD, erL_dI, er_nD, er_pcD, ow_nD, ow_dI, ow_pcD, c2_nD, c2_dI, c2_pcD, cl_nD, cl_pcD, clnL_dI, List.getD_cons_zero, List.getD_cons_succ, List.set_cons_zero, List.set_cons_succ, List.map_cons, List.map_nil, List.length_cons, List.length_nil, List.length_map, List.replicate, List.append_nil, List.cons_append, List.nil_append, Option.bind_some, Option.map_some, Option.bind_none, Option.map_none, if_true, if_false, Bool.and_true, Bool.true_and, Bool.false_eq_true, reduceIte, reduceCtorEq, decide_true, decide_false, Nat.reduceAdd, Nat.reduceLT, Nat.reduceSub, Nat.reduceLeDiff, fIs, gIs, tyN, kb_lst_tup, Bool.not_false]
theorem badp_er {n : Nat} {d : D} (h : BadP n d) : d.er = d := by
  cases h with
  | one hb he => simp only [D.er, D.erL, Kd.er, he]
  | two hb he => simp only [D.er, D.erL, Kd.er, he]
  | three => rfl
  | lst => rfl
  | sgl => rfl
  | bad hb he => exact he
theorem m_glued_bad (sh : List (List Nat)) (ps : List (Nat × Nat)) (bd : D) (rest : List D) (hp : Prs sh ps) (hn : sh.length ≤ 1000) (h0 : 0 < sh.length) (hb : BadP sh.length bd) :
    p_glued [.n (.lst false) (sh.map pcD), .n (.lst false) (ps.map DL.prD ++ bd :: rest)] = some (.exc "NoGlue" none []) := by
  unfold p_glued fnG b_glued
  simp (disch := omega) only [sSeq, sIf, sRet, sAsg, sDrop, sPass, sFor, sForS, sFz, sMut, sMut0, sDPutF, sRaise, fHold, fMove, fFree, fVar, fC, f1, f2, fL, fCons, fNil, oCons, oNil, oTup, oLst, fTup, fLst, fT, fAnd, fOr, fNot, fAndV, fOrV, fNotV, fIf, fChain, fIsN, fNotN, DL.isNon, DL.isG, gSet, gsCons, gsNil, gUn, gUnL, gStore, pNil, pIx, opApp, opClear, opIns, gLen, gLt_ii, gLe_ii, gGt_ii, gGe_ii, gSub_ii, gAdd_ii, gMul_sm, gMod_pos, gDiv_pos, gPow_sm, gEq_ii, gNe_ii, gNeg, sizeLine_eq, gMax2, gMin2, gList, gTuple, gIx, Kd.seq, D.ow, Kd.ow, D.get, D.put, Kd.at, itemsOf, fItems, fRng1, fRng3, fEnum, fCall, oCall, takeAll, pinIx, D.erL, D.er, Kd.er, D.clnL, D.cln, Kd.cln, cl2_v, cl2_lst, cl2_tup, D.cl2L, fD0, gTupD, anyOw_nil, anyOw_cons, Bool.or_false, Bool.false_or, dI_eq, nD_eq, pcD_eq, prD_eq, er_prD, ow_prD, c2_prD, cl_prD, erL_dI, er_nD, er_pcD, ow_nD, ow_dI, ow_pcD, c2_nD, c2_dI, c2_pcD, cl_nD, cl_pcD, clnL_dI, List.getD_cons_zero, List.getD_cons_succ, List.set_cons_zero, List.set_cons_succ, List.map_cons, List.map_nil, List.length_cons, List.length_nil, List.length_map, List.replicate, List.append_nil, List.cons_append, List.nil_append, Option.bind_some, Option.map_some, Option.bind_none, Option.map_none, if_true, if_false, Bool.and_true, Bool.true_and, Bool.false_eq_true, reduceIte, reduceCtorEq, decide_true, decide_false, Nat.reduceAdd, Nat.reduceLT, Nat.reduceSub, Nat.reduceLeDiff]
  have e0 : l_glued_0 [some (.n (.lst false) (sh.map pcD)), some (.n (.lst false) (ps.map DL.prD ++ bd :: rest)), none, none, none, none, none, none, none] = sForL (gSet 2) gb0 (ps.map DL.prD ++ bd :: rest) [some (.n (.lst false) (sh.map pcD)), some (.n (.lst false) (ps.map DL.prD ++ bd :: rest)), none, none, none, none, none, none, none] := by
    unfold l_glued_0
    simp only [sSeq, sIf, sRet, sAsg, sDrop, sPass, sFor, sForS, sFz, sMut, sMut0, sDPutF, sRaise, fHold, fMove, fFree, fVar, fC, f1, f2, fL, fCons, fNil, oCons, oNil, oTup, oLst, fTup, fLst, fT, fAnd, fOr, fNot, fAndV, fOrV, fNotV, fIf, fChain, fIsN, fNotN, DL.isNon, DL.isG, gSet, gsCons, gsNil, gUn, gUnL, gStore, pNil, pIx, opApp, opClear, opIns, gLen, gLt_ii, gLe_ii, gGt_ii, gGe_ii, gSub_ii, gAdd_ii, gMul_sm, gMod_pos, gDiv_pos, gPow_sm, gEq_ii, gNe_ii, gNeg, sizeLine_eq, gMax2, gMin2, gList, gTuple, gIx, Kd.seq, D.ow, Kd.ow, D.get, D.put, Kd.at, itemsOf, fItems, fRng1, fRng3, fEnum, fCall, oCall, takeAll, pinIx, D.erL, D.er, Kd.er, D.clnL, D.cln, Kd.cln, cl2_v, cl2_lst, cl2_tup, D.cl2L, fD0, gTupD, anyOw_nil, anyOw_cons, Bool.or_false, Bool.false_or, dI_eq, nD_eq, pcD_eq, prD_eq, er_prD, ow_prD, c2_prD, cl_prD, erL_dI, er_nD, er_pcD, ow_nD, ow_dI, ow_pcD, c2_nD, c2_dI, c2_pcD, cl_nD, cl_pcD, clnL_dI, List.getD_cons_zero, List.getD_cons_succ, List.set_cons_zero, List.set_cons_succ, List.map_cons, List.map_nil, List.length_cons, List.length_nil, List.length_map, List.replicate, List.append_nil, List.cons_append, List.nil_append, Option.bind_some, Option.map_some, Option.bind_none, Option.map_none, if_true, if_false, Bool.and_true, Bool.true_and, Bool.false_eq_true, reduceIte, reduceCtorEq, decide_true, decide_false, Nat.reduceAdd, Nat.reduceLT, Nat.reduceSub, Nat.reduceLeDiff]
  rw [e0]
  obtain ⟨ρ', e, x2, rfl⟩ := for_fold_app (h := gSet 2) (bd := gb0) (g := DL.prD) (fun (_ : Unit) ρ => ∃ x2, ρ = [some (.n (.lst false) (sh.map pcD)), some (.n (.lst false) (ps.map DL.prD ++ bd :: rest)), x2, none, none, none, none, none, none]) (fun u _ => u) (bd :: rest) ps () [some (.n (.lst false) (sh.map pcD)), some (.n (.lst false) (ps.map DL.prD ++ bd :: rest)), none, none, none, none, none, none, none] (by
    rintro _ p ρ m ⟨x2, rfl⟩
    obtain ⟨a, b, h1, h2, hl⟩ := hp p m
    have e := m_isglue sh p a b h1 h2 hl
    simp only [prD_eq, nD_eq] at e
    refine turn1 rfl ?_
    simp (disch := omega) only [sSeq, sIf, sRet, sAsg, sDrop, sPass, sFor, sForS, sFz, sMut, sMut0, sDPutF, sRaise, fHold, fMove, fFree, fVar, fC, f1, f2, fL, fCons, fNil, oCons, oNil, oTup, oLst, fTup, fLst, fT, fAnd, fOr, fNot, fAndV, fOrV, fNotV, fIf, fChain, fIsN, fNotN, DL.isNon, DL.isG, gSet, gsCons, gsNil, gUn, gUnL, gStore, pNil, pIx, opApp, opClear, opIns, gLen, gLt_ii, gLe_ii, gGt_ii, gGe_ii, gSub_ii, gAdd_ii, gMul_sm, gMod_pos, gDiv_pos, gPow_sm, gEq_ii, gNe_ii, gNeg, sizeLine_eq, gMax2, gMin2, gList, gTuple, gIx, Kd.seq, D.ow, Kd.ow, D.get, D.put, Kd.at, itemsOf, fItems, fRng1, fRng3, fEnum, fCall, oCall, takeAll, pinIx, D.erL, D.er, Kd.er, D.clnL, D.cln, Kd.cln, cl2_v, cl2_lst, cl2_tup, D.cl2L, fD0, gTupD, anyOw_nil, anyOw_cons, Bool.or_false, Bool.false_or, dI_eq, nD_eq, pcD_eq, prD_eq, er_prD, ow_prD, c2_prD, cl_prD, erL_dI, er_nD, er_pcD, ow_nD, ow_dI, ow_pcD, c2_nD, c2_dI, c2_pcD, cl_nD, cl_pcD, clnL_dI, List.getD_cons_zero, List.getD_cons_succ, List.set_cons_zero, List.set_cons_succ, List.map_cons, List.map_nil, List.length_cons, List.length_nil, List.length_map, List.replicate, List.append_nil, List.cons_append, List.nil_append, Option.bind_some, Option.map_some, Option.bind_none, Option.map_none, if_true, if_false, Bool.and_true, Bool.true_and, Bool.false_eq_true, reduceIte, reduceCtorEq, decide_true, decide_false, Nat.reduceAdd, Nat.reduceLT, Nat.reduceSub, Nat.reduceLeDiff, e, Bool.not_true]
    exact ⟨_, rfl, _, rfl⟩) ⟨none, rfl⟩
  rw [e]
  have hbs := m_isglue_bad sh bd hb hn h0
  have he := badp_er hb
  have hl := forL_rs (h := gSet 2) (b := gb0) (d := bd) (items := rest) (cn := "NoGlue") (p := none) (ρ := [some (.n (.lst false) (sh.map pcD)), some (.n (.lst false) (ps.map DL.prD ++ bd :: rest)), x2, none, none, none, none, none, none]) (ρ1 := [some (.n (.lst false) (sh.map pcD)), some (.n (.lst false) (ps.map DL.prD ++ bd :: rest)), some bd, none, none, none, none, none, none]) (ρ2 := [some (.n (.lst false) (sh.map pcD)), some (.n (.lst false) (ps.map DL.prD ++ bd :: rest)), some bd, none, none, none, none, none, none]) rfl (by
    simp (disch := omega) only [sSeq, sIf, sRet, sAsg, sDrop, sPass, sFor, sForS, sFz, sMut, sMut0, sDPutF, sRaise, fHold, fMove, fFree, fVar, fC, f1, f2, fL, fCons, fNil, oCons, oNil, oTup, oLst, fTup, fLst, fT, fAnd, fOr, fNot, fAndV, fOrV, fNotV, fIf, fChain, fIsN, fNotN, DL.isNon, DL.isG, gSet, gsCons, gsNil, gUn, gUnL, gStore, pNil, pIx, opApp, opClear, opIns, gLen, gLt_ii, gLe_ii, gGt_ii, gGe_ii, gSub_ii, gAdd_ii, gMul_sm, gMod_pos, gDiv_pos, gPow_sm, gEq_ii, gNe_ii, gNeg, sizeLine_eq, gMax2, gMin2, gList, gTuple, gIx, Kd.seq, D.ow, Kd.ow, D.get, D.put, Kd.at, itemsOf, fItems, fRng1, fRng3, fEnum, fCall, oCall, takeAll, pinIx, D.erL, D.er, Kd.er, D.clnL, D.cln, Kd.cln, cl2_v, cl2_lst, cl2_tup, D.cl2L, fD0, gTupD, anyOw_nil, anyOw_cons, Bool.or_false, Bool.false_or, dI_eq, nD_eq, pcD_eq, prD_eq, er_prD, ow_prD, c2_prD, cl_prD, erL_dI, er_nD, er_pcD, ow_nD, ow_dI, ow_pcD, c2_nD, c2_dI, c2_pcD, cl_nD, cl_pcD, clnL_dI, List.getD_cons_zero, List.getD_cons_succ, List.set_cons_zero, List.set_cons_succ, List.map_cons, List.map_nil, List.length_cons, List.length_nil, List.length_map, List.replicate, List.append_nil, List.cons_append, List.nil_append, Option.bind_some, Option.map_some, Option.bind_none, Option.map_none, if_true, if_false, Bool.and_true, Bool.true_and, Bool.false_eq_true, reduceIte, reduceCtorEq, decide_true, decide_false, Nat.reduceAdd, Nat.reduceLT, Nat.reduceSub, Nat.reduceLeDiff, he, hbs, Bool.not_false])
  rw [hl]
  rfl
end A95

set_option Elab.async false
set_option linter.all false
set_option maxRecDepth 100000
set_option maxHeartbeats 4000000
namespace A95
open DL PySem L2 Gl
open PyProof.Rows hiding St
theorem m_refused (S A B : D) (hs : S.er = S) (ha : A.er = A) (hb : B.er = B) (h1 : p_part [S, A] = some (.exc "NoGlue" none [])) (h2 : p_glued [S, B] = some (.exc "NoGlue" none [])) : p__law_refused [S, A, B] = some (.ret (.v (.bl true)) []) := by
  have hr : rngD 0 2 = [D.v (.int 0), .v (.int 1)] := rfl
  have hb2 : inBd 2 = true := by decide
  have ht : Int.toNat 2 = 2 := rfl
  have e10 : ¬ ((1 : Int) = 0) := by decide
  unfold p__law_refused noX fnG b__law_refused l__law_refused_0
  simp (disch := omega) only [sSeq, sIf, sRet, sAsg, sDrop, sPass, sFor, sForS, sFz, sMut, sMut0, sDPutF, sRaise, fHold, fMove, fFree, fVar, fC, f1, f2, fL, fCons, fNil, oCons, oNil, oTup, oLst, fTup, fLst, fT, fAnd, fOr, fNot, fAndV, fOrV, fNotV, fIf, fChain, fIsN, fNotN, DL.isNon, DL.isG, gSet, gsCons, gsNil, gUn, gUnL, gStore, pNil, pIx, opApp, opClear, opIns, gLen, gLt_ii, gLe_ii, gGt_ii, gGe_ii, gSub_ii, gAdd_ii, gMul_sm, gMod_pos, gDiv_pos, gPow_sm, gEq_ii, gNe_ii, gNeg, sizeLine_eq, gMax2, gMin2, gList, gTuple, gIx, Kd.seq, D.ow, Kd.ow, D.get, D.put, Kd.at, itemsOf, fItems, fRng1, fRng3, fEnum, fCall, oCall, takeAll, pinIx, D.erL, D.er, Kd.er, D.clnL, D.cln, Kd.cln, cl2_v, cl2_lst, cl2_tup, D.cl2L, fD0, gTupD, anyOw_nil, anyOw_cons, Bool.or_false, Bool.false_or, dI_eq, nD_eq, pcD_eq, prD_eq, er_prD, ow_prD, c2_prD, cl_prD, erL_dI, er_nD, er_pcD, ow_nD, ow_dI, ow_pcD, c2_nD, c2_dI, c2_pcD, cl_nD, cl_pcD, clnL_dI, List.getD_cons_zero, List.getD_cons_succ, List.set_cons_zero, List.set_cons_succ, List.map_cons, List.map_nil, List.length_cons, List.length_nil, List.length_map, List.replicate, List.append_nil, List.cons_append, List.nil_append, Option.bind_some, Option.map_some, Option.bind_none, Option.map_none, if_true, if_false, Bool.and_true, Bool.true_and, Bool.false_eq_true, reduceIte, reduceCtorEq, decide_true, decide_false, Nat.reduceAdd, Nat.reduceLT, Nat.reduceSub, Nat.reduceLeDiff, hb2, ht, hr, sForL, sTry, sCallX, hs, ha, hb, h1, h2, hitF_HoleError, clr, noRs, fIs, gIs, i_NoGlue, i_ValueError, Bool.not_true, Bool.not_false, e10]
theorem tenpow : (10 : Int) ^ Int.toNat 30 = 1000000000000000000000000000000 := by decide +kernel
/-- the thing -/
theorem thing_at (n : Nat) (x : Int) : ∃ th0, atI [D.v (.int (n : Int)), .v (.int (0 - 1)), .v (.bl true), .v .non, .v (.str "0"), .n (.tup false) [.v (.int 0)], .n (.lst true) [.v (.int 0)], .v (.int 1000000000000000000000000000000)] (x % 8) = some th0 ∧ Bad n th0.fz.er ∧ th0.fz.ow = false ∧ th0.fz.cln = true := by
  have h : x % 8 = 0 ∨ x % 8 = 1 ∨ x % 8 = 2 ∨ x % 8 = 3 ∨ x % 8 = 4 ∨ x % 8 = 5 ∨ x % 8 = 6 ∨ x % 8 = 7 := by omega
  rcases h with h | h | h | h | h | h | h | h <;> rw [h]
  · exact ⟨_, rfl, .big, rfl, rfl⟩
  · exact ⟨_, rfl, .neg, rfl, rfl⟩
  · exact ⟨_, rfl, .tru, rfl, rfl⟩
  · exact ⟨_, rfl, .non, rfl, rfl⟩
  · exact ⟨_, rfl, .str, rfl, rfl⟩
  · exact ⟨_, rfl, .tup, rfl, rfl⟩
  · exact ⟨_, rfl, .lst (.inr rfl), rfl, rfl⟩
  · exact ⟨_, rfl, .pow, rfl, rfl⟩
theorem er_er_bad {n : Nat} {d : D} (h : Bad n d.er) : d.er.er = d.er := by
  generalize he : d.er = e at h
  cases h with
  | lst h =>
    rcases h with rfl | rfl
    · cases d with
      | v x => cases he
      | g => cases he
      | n k ds =>
        simp only [D.er] at he
        have := (D.n.inj he).1
        cases k <;> simp [Kd.er] at this
    · rfl
  | _ => rfl
theorem pair_at (n : Nat) (x : Int) (th : D) (hb : Bad n th.er) (ho : th.ow = false) (hc : th.cln = true) : ∃ pr, atI [D.n (.tup false) [.v (.int 0), th], .n (.tup false) [th, .v (.int 0)], .n (.tup false) [.v (.int 0), .v (.int 0), .v (.int 0)], .n (.lst true) [.v (.int 0), .v (.int 0)], .n (.tup false) [.v (.int 0)], th] (x % 6) = some pr ∧ BadP n pr.er ∧ pr.cln = true := by
  have he := er_er_bad hb
  have h : x % 6 = 0 ∨ x % 6 = 1 ∨ x % 6 = 2 ∨ x % 6 = 3 ∨ x % 6 = 4 ∨ x % 6 = 5 := by omega
  rcases h with h | h | h | h | h | h <;> rw [h]
  · exact ⟨_, rfl, .one hb he, by simp only [D.cln, D.clnL, Kd.cln, hc, Bool.and_self]⟩
  · exact ⟨_, rfl, .two hb he, by simp only [D.cln, D.clnL, Kd.cln, hc, Bool.and_self]⟩
  · exact ⟨_, rfl, .three, rfl⟩
  · exact ⟨_, rfl, .lst, rfl⟩
  · exact ⟨_, rfl, .sgl, rfl⟩
  · exact ⟨_, rfl, .bad hb he, hc⟩
/-- the thing and the pair that are refused -/
theorem m_none (n : Nat) (x : Int) (hn : n ≤ 1000) : ∃ th pr : D, p__law_none [.v (.int x), .v (.int (n : Int))] = some (.ret (.n (.tup (anyOw [th, pr])) [th, pr]) []) ∧ Bad n th.er ∧ BadP n pr.er := by
  obtain ⟨th0, e1, h1, h2, h3⟩ := thing_at n x
  obtain ⟨pr, e2, h4, h5⟩ := pair_at n (x / 8) th0.fz h1 h2 h3
  refine ⟨th0.fz, pr, ?_, h1, h4⟩
  unfold p__law_none fnG b__law_none
  have es : D.ow = D.ow := rfl
  simp (disch := omega) only [sSeq, sIf, sRet, sAsg, sDrop, sPass, sFor, sForS, sFz, sMut, sMut0, sDPutF, sRaise, fHold, fMove, fFree, fVar, fC, f1, f2, fL, fCons, fNil, oCons, oNil, oTup, oLst, fTup, fLst, fT, fAnd, fOr, fNot, fAndV, fOrV, fNotV, fIf, fChain, fIsN, fNotN, DL.isNon, DL.isG, gSet, gsCons, gsNil, gUn, gUnL, gStore, pNil, pIx, opApp, opClear, opIns, gLen, gLt_ii, gLe_ii, gGt_ii, gGe_ii, gSub_ii, gAdd_ii, gMul_sm, gMod_pos, gDiv_pos, gPow_sm, gEq_ii, gNe_ii, gNeg, sizeLine_eq, gMax2, gMin2, gList, gTuple, gIx, Kd.seq, ow_lst, ow_tup, ow_int, Kd.ow, D.get, D.put, Kd.at, itemsOf, fItems, fRng1, fRng3, fEnum, fCall, oCall, takeAll, pinIx, D.erL, D.er, Kd.er, D.clnL, D.cln, Kd.cln, cl2_v, cl2_lst, cl2_tup, D.cl2L, fD0, gTupD, anyOw_nil, anyOw_cons, Bool.or_false, Bool.false_or, dI_eq, nD_eq, pcD_eq, prD_eq, er_prD, ow_prD, c2_prD, cl_prD, erL_dI, er_nD, er_pcD, ow_nD, ow_dI, ow_pcD, c2_nD, c2_dI, c2_pcD, cl_nD, cl_pcD, clnL_dI, List.getD_cons_zero, List.getD_cons_succ, List.set_cons_zero, List.set_cons_succ, List.map_cons, List.map_nil, List.length_cons, List.length_nil, List.length_map, List.replicate, List.append_nil, List.cons_append, List.nil_append, Option.bind_some, Option.map_some, Option.bind_none, Option.map_none, if_true, if_false, Bool.and_true, Bool.true_and, Bool.false_eq_true, reduceIte, reduceCtorEq, decide_true, decide_false, Nat.reduceAdd, Nat.reduceLT, Nat.reduceSub, Nat.reduceLeDiff, tenpow, e1, h2, e2]
  rw [h3, h5]
  rfl
end A95

set_option Elab.async false
set_option linter.all false
set_option maxRecDepth 100000
set_option maxHeartbeats 4000000
namespace A95
open DL PySem L2 Gl
open PyProof.Rows hiding St
theorem okD_lst {b : Bool} {ds : List D} {j : Nat} (h : D.okL ds j = true) : D.okD (.n (.lst b) ds) (j + 1) = true := by
  show (true && (decide (0 < j + 1) && D.okL ds (j + 1 - 1))) = true
  rw [decide_eq_true (by omega), Nat.add_sub_cancel, h]; rfl
theorem okD_tup {b : Bool} {ds : List D} {j : Nat} (h : D.okL ds j = true) : D.okD (.n (.tup b) ds) (j + 1) = true := by
  show (true && (decide (0 < j + 1) && D.okL ds (j + 1 - 1))) = true
  rw [decide_eq_true (by omega), Nat.add_sub_cancel, h]; rfl
theorem ok_two {b : Bool} {x y : D} {j : Nat} (h1 : x.okD j = true) (h2 : y.okD j = true) : D.okD (.n (.tup b) [x, y]) (j + 1) = true := okD_tup (by
  show (x.okD j && (y.okD j && true)) = true
  rw [h1, h2]; rfl)
theorem ok_three {b : Bool} {x y z : D} {j : Nat} (h1 : x.okD j = true) (h2 : y.okD j = true) (h3 : z.okD j = true) : D.okD (.n (.lst b) [x, y, z]) (j + 1) = true := okD_lst (by
  show (x.okD j && (y.okD j && (z.okD j && true))) = true
  rw [h1, h2, h3]; rfl)
theorem okd_part (sh : List (List Nat)) (old : List Nat) : (partD sh old).okD 60 = true := ok_two (j := 59) (okD_lst (j := 58) (ok_pl (by omega) fun _ _ => pl_pc _)) (okD_lst (j := 58) (ok_pl (by omega) fun _ _ => pl_n _))
theorem okd_glued (sh : List (List Nat)) (f : Nat → Nat) : (gluedD sh f).okD 60 = true := ok_two (j := 59) (okD_lst (j := 58) (ok_pl (by omega) fun _ _ => pl_pc _)) (okD_lst (j := 58) (ok_pl (by omega) fun _ _ => pl_n _))
def hanD (sh : List (List Nat)) (sp : List Nat) (ps : List (Nat × Nat)) : D := .n (.lst true) [.n (.lst true) (sh.map pcD), .n (.lst true) (sp.map nD), .n (.lst true) (ps.map DL.prD)]
theorem okd_han (sh : List (List Nat)) (sp : List Nat) (ps : List (Nat × Nat)) : (hanD sh sp ps).okD 60 = true := ok_three (j := 59) (okD_lst (j := 58) (ok_pl (by omega) fun _ _ => pl_pc _)) (okD_lst (j := 58) (ok_pl (by omega) fun _ _ => pl_n _)) (okD_lst (j := 58) (ok_pl (by omega) fun _ _ => pl_pr _))
theorem okd_shape (sh : List (List Nat)) : D.okD (.n (.lst true) (sh.map pcD)) 60 = true := okD_lst (j := 59) (ok_pl (by omega) fun _ _ => pl_pc _)
theorem c2_part (sh : List (List Nat)) (old : List Nat) : (partD sh old).cl2 = true := by
  unfold partD
  rw [cl2_tup, D.cl2L, D.cl2L, D.cl2L, cl2_lst, cl2_lst, c2_pieces, c2_nD]
  rfl
theorem c2_glued (sh : List (List Nat)) (f : Nat → Nat) : (gluedD sh f).cl2 = true := by
  unfold gluedD
  rw [cl2_tup, D.cl2L, D.cl2L, D.cl2L, cl2_lst, cl2_lst, show D.cl2L (gpcs sh f (fsOf sh.length f) (fsOf sh.length f)) = true from c2_pl fun _ _ => pl_pc _, show D.cl2L (spotsD sh.length f (fsOf sh.length f)) = true from c2_nD _]
  rfl
/-- the places asked for -/
theorem m_law_c0 (ns : List Int) (sh : List (List Nat)) (b : Int) (x1 x3 x4 x6 x7 x8 x9 x10 x11 x12 x13 x14 x15 x16 : Option D) (h0 : 0 < sh.length) (hs : sh.length ≤ 1000) :
    ∃ sp : List Nat, c_law_0 [some (.n .scr (ns.map dI)), x1, some (.v (.int b)), x3, x4, some (.n (.lst true) (sh.map pcD)), x6, x7, x8, x9, x10, x11, x12, x13, x14, x15, x16] = some (.n (.lst true) (sp.map nD)) ∧ (∀ f ∈ sp, f < sh.length) ∧ sp.length ≤ 1000 := by
  have h1 := Int.emod_nonneg b (show (101 : Int) ≠ 0 by omega)
  have h2 := Int.emod_lt_of_pos b (show (0 : Int) < 101 by omega)
  obtain ⟨ys, e, hl, hy⟩ := m_row ns 2 (b % 101) 999983 (by omega) (by omega) h1 (by omega) (by omega) (by omega)
  refine ⟨ys.map fun y => (y % (sh.length : Int)).toNat, ?_, fun f m => ?_, by rw [List.length_map, hl]; omega⟩
  · unfold c_law_0 fLc
    simp (disch := omega) only [sSeq, sIf, sRet, sAsg, sDrop, sPass, sFor, sForS, sFz, sMut, sMut0, sDPutF, sRaise, fHold, fMove, fFree, fVar, fC, f1, f2, fL, fCons, fNil, oCons, oNil, oTup, oLst, fTup, fLst, fT, fAnd, fOr, fNot, fAndV, fOrV, fNotV, fIf, fChain, fIsN, fNotN, DL.isNon, DL.isG, gSet, gsCons, gsNil, gUn, gUnL, gStore, pNil, pIx, opApp, opClear, opIns, gLen, gLt_ii, gLe_ii, gGt_ii, gGe_ii, gSub_ii, gAdd_ii, gMul_sm, gMod_pos, gDiv_pos, gPow_sm, gEq_ii, gNe_ii, gNeg, sizeLine_eq, gMax2, gMin2, gList, gTuple, gIx, Kd.seq, D.ow, Kd.ow, D.get, D.put, Kd.at, itemsOf, fItems, fRng1, fRng3, fEnum, fCall, oCall, takeAll, pinIx, D.erL, D.er, Kd.er, D.clnL, D.cln, Kd.cln, cl2_v, cl2_lst, cl2_tup, D.cl2L, fD0, gTupD, anyOw_nil, anyOw_cons, Bool.or_false, Bool.false_or, dI_eq, nD_eq, pcD_eq, prD_eq, er_prD, ow_prD, c2_prD, cl_prD, erL_dI, er_nD, er_pcD, ow_nD, ow_dI, ow_pcD, c2_nD, c2_dI, c2_pcD, cl_nD, cl_pcD, clnL_dI, List.getD_cons_zero, List.getD_cons_succ, List.set_cons_zero, List.set_cons_succ, List.map_cons, List.map_nil, List.length_cons, List.length_nil, List.length_map, List.replicate, List.append_nil, List.cons_append, List.nil_append, Option.bind_some, Option.map_some, Option.bind_none, Option.map_none, if_true, if_false, Bool.and_true, Bool.true_and, Bool.false_eq_true, reduceIte, reduceCtorEq, decide_true, decide_false, Nat.reduceAdd, Nat.reduceLT, Nat.reduceSub, Nat.reduceLeDiff, e, fWipe]
    rw [lcL_mapN (g := dI) (k := fun y => nD (y % (sh.length : Int)).toNat) ys fun y m => ⟨_, rfl, rfl, ?_⟩]
    · simp only [Option.bind_some, List.length_map]
      rw [if_pos (by omega), List.map_map]
      rfl
    · have a := Int.emod_nonneg y (show (sh.length : Int) ≠ 0 by omega)
      have ht : (((y % (sh.length : Int)).toNat : Nat) : Int) = y % (sh.length : Int) := by omega
      simp (disch := omega) only [sSeq, sIf, sRet, sAsg, sDrop, sPass, sFor, sForS, sFz, sMut, sMut0, sDPutF, sRaise, fHold, fMove, fFree, fVar, fC, f1, f2, fL, fCons, fNil, oCons, oNil, oTup, oLst, fTup, fLst, fT, fAnd, fOr, fNot, fAndV, fOrV, fNotV, fIf, fChain, fIsN, fNotN, DL.isNon, DL.isG, gSet, gsCons, gsNil, gUn, gUnL, gStore, pNil, pIx, opApp, opClear, opIns, gLen, gLt_ii, gLe_ii, gGt_ii, gGe_ii, gSub_ii, gAdd_ii, gMul_sm, gMod_pos, gDiv_pos, gPow_sm, gEq_ii, gNe_ii, gNeg, sizeLine_eq, gMax2, gMin2, gList, gTuple, gIx, Kd.seq, D.ow, Kd.ow, D.get, D.put, Kd.at, itemsOf, fItems, fRng1, fRng3, fEnum, fCall, oCall, takeAll, pinIx, D.erL, D.er, Kd.er, D.clnL, D.cln, Kd.cln, cl2_v, cl2_lst, cl2_tup, D.cl2L, fD0, gTupD, anyOw_nil, anyOw_cons, Bool.or_false, Bool.false_or, dI_eq, nD_eq, pcD_eq, prD_eq, er_prD, ow_prD, c2_prD, cl_prD, erL_dI, er_nD, er_pcD, ow_nD, ow_dI, ow_pcD, c2_nD, c2_dI, c2_pcD, cl_nD, cl_pcD, clnL_dI, List.getD_cons_zero, List.getD_cons_succ, List.set_cons_zero, List.set_cons_succ, List.map_cons, List.map_nil, List.length_cons, List.length_nil, List.length_map, List.replicate, List.append_nil, List.cons_append, List.nil_append, Option.bind_some, Option.map_some, Option.bind_none, Option.map_none, if_true, if_false, Bool.and_true, Bool.true_and, Bool.false_eq_true, reduceIte, reduceCtorEq, decide_true, decide_false, Nat.reduceAdd, Nat.reduceLT, Nat.reduceSub, Nat.reduceLeDiff, ht]
  · obtain ⟨y, _, rfl⟩ := List.mem_map.mp m
    have a := Int.emod_nonneg y (show (sh.length : Int) ≠ 0 by omega)
    have b := Int.emod_lt_of_pos y (show (0 : Int) < sh.length by omega)
    omega
end A95

set_option Elab.async false
set_option linter.all false
set_option maxRecDepth 100000
set_option maxHeartbeats 4000000
namespace A95
open DL PySem L2 Gl
open PyProof.Rows hiding St
theorem m_law_0 (S A B C E : D) (sh : List (List Nat)) (sp : List Nat) (ps : List (Nat × Nat)) (old : List Nat) (f : Nat → Nat) (x7 : Option D)
    (ep : p_part [.n (.lst false) (sh.map pcD), .n (.lst false) (sp.map nD)] = some (.ret (partD sh old) [])) (elp : p__law_part [.n (.lst false) (sh.map pcD), .n (.lst false) (sp.map nD)] = some (.ret (partD sh old) []))
    (eg : p_glued [.n (.lst false) (sh.map pcD), .n (.lst false) (ps.map DL.prD)] = some (.ret (gluedD sh f) [])) (elg : p__law_glued [.n (.lst false) (sh.map pcD), .n (.lst false) (ps.map DL.prD)] = some (.ret (gluedD sh f) [])) (hl : (fsOf sh.length f).length ≤ 1000) :
    ∃ ρ', l_law_0 [some S, some A, some B, some C, some E, some (.n (.lst true) (sh.map pcD)), some (.n (.lst true) (sp.map nD)), x7, some (.n (.lst true) (ps.map DL.prD)), some (hanD sh sp ps), none, none, none, none, none, none, none] = some (.nx ρ') ∧
      ∃ x10 x11 x12, ρ' = [some S, some A, some B, some C, some E, some (.n (.lst true) (sh.map pcD)), some (.n (.lst true) (sp.map nD)), x7, some (.n (.lst true) (ps.map DL.prD)), some (hanD sh sp ps), x10, x11, x12, none, none, none, none] := by
  unfold l_law_0
  have hb : inBd 2 = true := by decide
  simp (disch := omega) only [sSeq, sIf, sRet, sAsg, sDrop, sPass, sFor, sForS, sFz, sMut, sMut0, sDPutF, sRaise, fHold, fMove, fFree, fVar, fC, f1, f2, fL, fCons, fNil, oCons, oNil, oTup, oLst, fTup, fLst, fT, fAnd, fOr, fNot, fAndV, fOrV, fNotV, fIf, fChain, fIsN, fNotN, DL.isNon, DL.isG, gSet, gsCons, gsNil, gUn, gUnL, gStore, pNil, pIx, opApp, opClear, opIns, gLen, gLt_ii, gLe_ii, gGt_ii, gGe_ii, gSub_ii, gAdd_ii, gMul_sm, gMod_pos, gDiv_pos, gPow_sm, gEq_ii, gNe_ii, gNeg, sizeLine_eq, gMax2, gMin2, gList, gTuple, gIx, Kd.seq, D.ow, Kd.ow, D.get, D.put, Kd.at, itemsOf, fItems, fRng1, fRng3, fEnum, fCall, oCall, takeAll, pinIx, D.erL, D.er, Kd.er, D.clnL, D.cln, Kd.cln, cl2_v, cl2_lst, cl2_tup, D.cl2L, fD0, gTupD, anyOw_nil, anyOw_cons, Bool.or_false, Bool.false_or, dI_eq, nD_eq, pcD_eq, prD_eq, er_prD, ow_prD, c2_prD, cl_prD, erL_dI, er_nD, er_pcD, ow_nD, ow_dI, ow_pcD, c2_nD, c2_dI, c2_pcD, cl_nD, cl_pcD, clnL_dI, List.getD_cons_zero, List.getD_cons_succ, List.set_cons_zero, List.set_cons_succ, List.map_cons, List.map_nil, List.length_cons, List.length_nil, List.length_map, List.replicate, List.append_nil, List.cons_append, List.nil_append, Option.bind_some, Option.map_some, Option.bind_none, Option.map_none, if_true, if_false, Bool.and_true, Bool.true_and, Bool.false_eq_true, reduceIte, reduceCtorEq, decide_true, decide_false, Nat.reduceAdd, Nat.reduceLT, Nat.reduceSub, Nat.reduceLeDiff, hb]
  have gp := gNe_same (okd_part sh old) (okd_part sh old) rfl
  have gg := gNe_same (okd_glued sh f) (okd_glued sh f) rfl
  have gh := gNe_same (okd_han sh sp ps) (okd_han sh sp ps) rfl
  have c2p := c2_part sh old
  have c2g := c2_glued sh f
  refine for_to (fun dn ρ => ∃ x10 x11 x12, ρ = [some S, some A, some B, some C, some E, some (.n (.lst true) (sh.map pcD)), some (.n (.lst true) (sp.map nD)), x7, some (.n (.lst true) (ps.map DL.prD)), some (hanD sh sp ps), x10, x11, x12, none, none, none, none]) ?_ ⟨none, none, none, rfl⟩ (fun _ h => h)
  rintro dn d rest ρ hsp ⟨x10, x11, x12, rfl⟩
  refine turn rfl ?_
  have a0 : ∀ x y z : D, atI [x, y, z] 0 = some x := fun _ _ _ => rfl
  have a1 : ∀ x y z : D, atI [x, y, z] 1 = some y := fun _ _ _ => rfl
  have a2 : ∀ x y z : D, atI [x, y, z] 2 = some z := fun _ _ _ => rfl
  have b0 : ∀ x y : D, atI [x, y] 0 = some x := fun _ _ => rfl
  have b1 : ∀ x y : D, atI [x, y] 1 = some y := fun _ _ => rfl
  have i20 : ixN 2 0 = some 0 := rfl
  have i21 : ixN 2 1 = some 1 := rfl
  have hz : (fsOf sh.length f).length < 16777216 := by omega
  unfold hanD at gh ⊢
  unfold partD at ep elp gp c2p
  unfold gluedD at eg elg gg c2g
  simp (disch := omega) only [sSeq, sIf, sRet, sAsg, sDrop, sPass, sFor, sForS, sFz, sMut, sMut0, sDPutF, sRaise, fHold, fMove, fFree, fVar, fC, f1, f2, fL, fCons, fNil, oCons, oNil, oTup, oLst, fTup, fLst, fT, fAnd, fOr, fNot, fAndV, fOrV, fNotV, fIf, fChain, fIsN, fNotN, DL.isNon, DL.isG, gSet, gsCons, gsNil, gUn, gUnL, gStore, pNil, pIx, opApp, opClear, opIns, gLen, gLt_ii, gLe_ii, gGt_ii, gGe_ii, gSub_ii, gAdd_ii, gMul_sm, gMod_pos, gDiv_pos, gPow_sm, gEq_ii, gNe_ii, gNeg, sizeLine_eq, gMax2, gMin2, gList, gTuple, gIx, Kd.seq, D.ow, Kd.ow, D.get, D.put, Kd.at, itemsOf, fItems, fRng1, fRng3, fEnum, fCall, oCall, takeAll, pinIx, D.erL, D.er, Kd.er, D.clnL, D.cln, Kd.cln, cl2_v, cl2_lst, cl2_tup, D.cl2L, fD0, gTupD, anyOw_nil, anyOw_cons, Bool.or_false, Bool.false_or, dI_eq, nD_eq, pcD_eq, prD_eq, er_prD, ow_prD, c2_prD, cl_prD, erL_dI, er_nD, er_pcD, ow_nD, ow_dI, ow_pcD, c2_nD, c2_dI, c2_pcD, cl_nD, cl_pcD, clnL_dI, List.getD_cons_zero, List.getD_cons_succ, List.set_cons_zero, List.set_cons_succ, List.map_cons, List.map_nil, List.length_cons, List.length_nil, List.length_map, List.replicate, List.append_nil, List.cons_append, List.nil_append, Option.bind_some, Option.map_some, Option.bind_none, Option.map_none, if_true, if_false, Bool.and_true, Bool.true_and, Bool.false_eq_true, reduceIte, reduceCtorEq, decide_true, decide_false, Nat.reduceAdd, Nat.reduceLT, Nat.reduceSub, Nat.reduceLeDiff, ep, elp, eg, elg, gp, gg, gh, c2p, c2g, a0, a1, a2, b0, b1, fIs, gIs, tyN, kb_lst_lst, Bool.not_true, gpcs_len, hz, c2_pieces, ow_pieces, i20, i21, List.getElem?_cons_zero, List.getElem?_cons_succ]
  exact ⟨_, rfl, _, _, _, rfl⟩
end A95

set_option Elab.async false
set_option linter.all false
set_option maxRecDepth 100000
set_option maxHeartbeats 4000000
namespace A95
open DL PySem L2 Gl
open PyProof.Rows hiding St
theorem er_ins {α : Type} {g : α → D} (hg : ∀ x, (g x).er = g x) (xs : List α) (j : Nat) (th : D) : D.erL (List.take j (xs.map g) ++ [th] ++ List.drop j (xs.map g)) = (xs.take j).map g ++ th.er :: (xs.drop j).map g := by
  rw [D.erL_map, List.map_append, List.map_append, ← List.map_take, ← List.map_drop, List.map_map, List.map_map, List.append_assoc]
  have : D.er ∘ g = g := funext hg
  rw [this]
  rfl
theorem er_sp (sp rest : List Nat) (th : D) (h : th.er = th) : D.er (.n (.lst false) (sp.map nD ++ th :: rest.map nD)) = .n (.lst false) (sp.map nD ++ th :: rest.map nD) := by
  show D.n (.lst false) (D.erL _) = _
  rw [D.erL_map, List.map_append, List.map_cons, List.map_map, List.map_map, h]
  rfl
theorem er_ps (sp rest : List (Nat × Nat)) (th : D) (h : th.er = th) : D.er (.n (.lst false) (sp.map DL.prD ++ th :: rest.map DL.prD)) = .n (.lst false) (sp.map DL.prD ++ th :: rest.map DL.prD) := by
  show D.n (.lst false) (D.erL _) = _
  rw [D.erL_map, List.map_append, List.map_cons, List.map_map, List.map_map, h]
  rfl
theorem law_true (ns : List Int) (hns : ns.length ≤ 63) (hbits : ∀ z ∈ ns, Builtin.Int.intBits z ≤ 1048576) : p_law [.n .scr (ns.map dI)] = some (.ret (.v (.bl true)) []) := by
  unfold p_law fnG b_law
  obtain ⟨xs, er, hl, hx⟩ := m_row ns 0 4 999983 (by omega) (by omega) (by omega) (by omega) (by omega) (by omega)
  obtain ⟨a, b, c, d, rfl⟩ : ∃ a b c d, xs = [a, b, c, d] := by
    have hl : xs.length = 4 := hl
    match xs, hl with
    | [a, b, c, d], _ => exact ⟨a, b, c, d, rfl⟩
  have ha := hx a (by simp)
  have hd := hx d (by simp)
  have hc1 := Int.emod_nonneg c (show (61 : Int) ≠ 0 by omega)
  have hc2 := Int.emod_lt_of_pos c (show (0 : Int) < 61 by omega)
  have ha1 := Int.emod_nonneg a (show (40 : Int) ≠ 0 by omega)
  have ha2 := Int.emod_lt_of_pos a (show (0 : Int) < 40 by omega)
  obtain ⟨sh, es, hsl, hv⟩ := m_shape ns 1 (1 + a % 40) (by omega) (by omega) (by omega) (by omega)
  have h0 : 0 < sh.length := by omega
  have hs64 : sh.length < 64 := by omega
  obtain ⟨sp, ec, hsp, hspl⟩ := m_law_c0 ns sh b (some (.v (.int a))) (some (.v (.int c))) (some (.v (.int d))) none none none none none none none none none none none h0 (by omega)
  obtain ⟨ps, ep, hpl, hps⟩ := m_pairs ns sh (c % 61) (decide (d % 2 = 1)) hc1 (by omega) (by omega) h0
  have hG := gok_of hv hps
  obtain ⟨f, eg, elg⟩ := glued_same sh ps hG hps (by omega) (by omega)
  have epa := m_part sh sp hv hs64 hsp
  have elp := m_lpart sh sp hv hs64 hsp
  have hfl := fsOf_len (n := sh.length) (f := f)
  obtain ⟨ρ1, e1, x10, x11, x12, rfl⟩ := m_law_0 (.n .scr (ns.map dI)) (.v (.int a)) (.v (.int b)) (.v (.int c)) (.v (.int d)) sh sp ps (partOld sh sp) f none epa elp eg elg (by omega)
  obtain ⟨th, pr, en, hth, hpr⟩ := m_none sh.length (d / 2) (by omega)
  simp only [List.map_cons, List.map_nil, dI_eq] at er
  have hk1 := Int.emod_nonneg (d / 128) (show ((sp.length : Int) + 1) ≠ 0 by omega)
  have hk2 := Int.emod_lt_of_pos (d / 128) (show (0 : Int) < (sp.length : Int) + 1 by omega)
  have hk3 := Int.emod_nonneg (d / 128) (show ((ps.length : Int) + 1) ≠ 0 by omega)
  have hk4 := Int.emod_lt_of_pos (d / 128) (show (0 : Int) < (ps.length : Int) + 1 by omega)
  unfold hanD at e1
  have i31 : ixN 3 1 = some 1 := rfl
  have i32 : ixN 3 2 = some 2 := rfl
  have a0 : ∀ x y z : D, atI [x, y, z] 0 = some x := fun _ _ _ => rfl
  have a1 : ∀ x y z : D, atI [x, y, z] 1 = some y := fun _ _ _ => rfl
  have a2 : ∀ x y z : D, atI [x, y, z] 2 = some z := fun _ _ _ => rfl
  have g1 : sp.length < 16777216 ∧ 0 ≤ d / 128 % ((sp.length : Int) + 1) ∧ (d / 128 % ((sp.length : Int) + 1)).natAbs < 9223372036854775808 := by omega
  have g2 : ps.length < 16777216 ∧ 0 ≤ d / 128 % ((ps.length : Int) + 1) ∧ (d / 128 % ((ps.length : Int) + 1)).natAbs < 9223372036854775808 := by omega
  have q1 := er_ins (g := nD) (fun _ => rfl) sp (d / 128 % ((sp.length : Int) + 1)).toNat th
  have q2 := er_ins (g := DL.prD) (fun x => (pl_pr x).1) ps (d / 128 % ((ps.length : Int) + 1)).toNat pr
  have hter := er_er_bad hth
  have hper := badp_er hpr
  have r1 := m_part_bad sh (sp.take (d / 128 % ((sp.length : Int) + 1)).toNat) th.er ((sp.drop (d / 128 % ((sp.length : Int) + 1)).toNat).map nD) (fun f m => hsp f (List.mem_of_mem_take m)) (by omega) hth hter
  have r2 := m_glued_bad sh (ps.take (d / 128 % ((ps.length : Int) + 1)).toNat) pr.er ((ps.drop (d / 128 % ((ps.length : Int) + 1)).toNat).map DL.prD) (fun p m => hps p (List.mem_of_mem_take m)) (by omega) h0 hpr
  have rr := m_refused (.n (.lst false) (sh.map pcD)) _ _ (by show D.n (.lst false) (D.erL _) = _; rw [er_pcD]) (er_sp _ _ _ hter) (er_ps _ _ _ hper) r1 r2
  have ge1 := gEq_same (okd_shape sh) (okd_shape sh) rfl
  have ge2 := gEq_same (okd_part sh (partOld sh sp)) (okd_part sh (partOld sh sp)) rfl
  have c2p := c2_part sh (partOld sh sp)
  simp (config := { maxSteps := 10000000 }) (disch := omega) only [sSeq, sIf, sRet, sAsg, sDrop, sPass, sFor, sForS, sFz, sMut, sMut0, sDPutF, sRaise, fHold, fMove, fFree, fVar, fC, f1, f2, fL, fCons, fNil, oCons, oNil, oTup, oLst, fTup, fLst, fT, fAnd, fOr, fNot, fAndV, fOrV, fNotV, fIf, fChain, fIsN, fNotN, DL.isNon, DL.isG, gSet, gsCons, gsNil, gUn, gUnL, gStore, pNil, pIx, opApp, opClear, opIns, gLen, gLt_ii, gLe_ii, gGt_ii, gGe_ii, gSub_ii, gAdd_ii, gMul_sm, gMod_pos, gDiv_pos, gPow_sm, gEq_ii, gNe_ii, gNeg, sizeLine_eq, gMax2, gMin2, gList, gTuple, gIx, Kd.seq, D.ow, Kd.ow, D.get, D.put, Kd.at, itemsOf, fItems, fRng1, fRng3, fEnum, fCall, oCall, takeAll, pinIx, D.erL, D.er, Kd.er, D.clnL, D.cln, Kd.cln, cl2_v, cl2_lst, cl2_tup, D.cl2L, fD0, gTupD, anyOw_nil, anyOw_cons, Bool.or_false, Bool.false_or, dI_eq, nD_eq, pcD_eq, prD_eq, er_prD, ow_prD, c2_prD, cl_prD, erL_dI, er_nD, er_pcD, ow_nD, ow_dI, ow_pcD, c2_nD, c2_dI, c2_pcD, cl_nD, cl_pcD, clnL_dI, List.getD_cons_zero, List.getD_cons_succ, List.set_cons_zero, List.set_cons_succ, List.map_cons, List.map_nil, List.length_cons, List.length_nil, List.length_map, List.replicate, List.append_nil, List.cons_append, List.nil_append, Option.bind_some, Option.map_some, Option.bind_none, Option.map_none, if_true, if_false, Bool.and_true, Bool.true_and, Bool.false_eq_true, reduceIte, reduceCtorEq, decide_true, decide_false, Nat.reduceAdd, Nat.reduceLT, Nat.reduceSub, Nat.reduceLeDiff, er, es, ec, ep, e1, en]
  simp (config := { maxSteps := 10000000 }) (disch := omega) only [sSeq, sIf, sRet, sAsg, sDrop, sPass, sFor, sForS, sFz, sMut, sMut0, sDPutF, sRaise, fHold, fMove, fFree, fVar, fC, f1, f2, fL, fCons, fNil, oCons, oNil, oTup, oLst, fTup, fLst, fT, fAnd, fOr, fNot, fAndV, fOrV, fNotV, fIf, fChain, fIsN, fNotN, DL.isNon, DL.isG, gSet, gsCons, gsNil, gUn, gUnL, gStore, pNil, pIx, opApp, opClear, opIns, gLen, gLt_ii, gLe_ii, gGt_ii, gGe_ii, gSub_ii, gAdd_ii, gMul_sm, gMod_pos, gDiv_pos, gPow_sm, gEq_ii, gNe_ii, gNeg, sizeLine_eq, gMax2, gMin2, gList, gTuple, gIx, Kd.seq, D.ow, Kd.ow, D.get, D.put, Kd.at, itemsOf, fItems, fRng1, fRng3, fEnum, fCall, oCall, takeAll, pinIx, D.erL, D.er, Kd.er, D.clnL, D.cln, Kd.cln, cl2_v, cl2_lst, cl2_tup, D.cl2L, fD0, gTupD, anyOw_nil, anyOw_cons, Bool.or_false, Bool.false_or, dI_eq, nD_eq, pcD_eq, prD_eq, er_prD, ow_prD, c2_prD, cl_prD, erL_dI, er_nD, er_pcD, ow_nD, ow_dI, ow_pcD, c2_nD, c2_dI, c2_pcD, cl_nD, cl_pcD, clnL_dI, List.getD_cons_zero, List.getD_cons_succ, List.set_cons_zero, List.set_cons_succ, List.map_cons, List.map_nil, List.length_cons, List.length_nil, List.length_map, List.replicate, List.append_nil, List.cons_append, List.nil_append, Option.bind_some, Option.map_some, Option.bind_none, Option.map_none, if_true, if_false, Bool.and_true, Bool.true_and, Bool.false_eq_true, reduceIte, reduceCtorEq, decide_true, decide_false, Nat.reduceAdd, Nat.reduceLT, Nat.reduceSub, Nat.reduceLeDiff, i31, i32, a0, a1, a2, g1, g2, and_self, List.getElem?_cons_zero, List.getElem?_cons_succ, q1, q2, rr, Bool.not_true, ge1, epa, elp, c2p, ge2]
end A95

set_option Elab.async false
set_option linter.all false
set_option maxRecDepth 100000
set_option maxHeartbeats 4000000
/-! the walk; printed by gen95.py -/
namespace A95
open DL PySem PySem.Spec L2
open PyProof.Rows hiding St
def topS (i : Nat) : Stmt := PySem.Challenge.pw_holebook_k95_many_places_and_pairs.main.body.getD i (.Pass ⟨0, 0, 0, 0⟩)
abbrev s_is_whole : Stmt := topS 4
abbrev s_level_of : Stmt := topS 5
abbrev s_is_spot : Stmt := topS 7
abbrev s_part : Stmt := topS 8
abbrev s_is_glue : Stmt := topS 9
abbrev s_first_of : Stmt := topS 10
abbrev s_lots_of : Stmt := topS 11
abbrev s_glued : Stmt := topS 12
abbrev s__law_cell : Stmt := topS 14
abbrev s__law_row : Stmt := topS 15
abbrev s__law_meets : Stmt := topS 16
abbrev s__law_faces : Stmt := topS 17
abbrev s__law_shape : Stmt := topS 18
abbrev s__law_part : Stmt := topS 19
abbrev s__law_glued : Stmt := topS 20
abbrev s__law_pairs : Stmt := topS 21
abbrev s__law_refused : Stmt := topS 22
abbrev s__law_none : Stmt := topS 23
abbrev s_law : Stmt := topS 24
structure Tx (K : PySem.W.Frag) (mg : Str → Option Value) (C_HoleError C_NoGlue : Addr) : Prop where
  z_ValueError : mg "ValueError" = none
  z_bool : mg "bool" = none
  z_enumerate : mg "enumerate" = none
  z_int : mg "int" = none
  z_isinstance : mg "isinstance" = none
  z_len : mg "len" = none
  z_list : mg "list" = none
  z_max : mg "max" = none
  z_min : mg "min" = none
  z_range : mg "range" = none
  z_reversed : mg "reversed" = none
  z_sorted : mg "sorted" = none
  z_tuple : mg "tuple" = none
  z_zip : mg "zip" = none
  g_HoleError : mg "HoleError" = some (.ref C_HoleError)
  g_NoGlue : mg "NoGlue" = some (.ref C_NoGlue)
  k_NoGlue : PySem.W.keepIn K (.ref C_NoGlue) = true
  x_NoGlue : PySem.W.excIn K C_NoGlue [.type "ValueError", .type "Exception", .type "BaseException", .type "object"] "ValueError.__new__" = true
  b_NoGlue : PySem.W.subIn K (.ref C_NoGlue) (.type "BaseException") = some true
  t_NoGlue : PySem.W.typeIn K (.ref C_NoGlue) = some (.type "type")
  m_NoGlue : PySem.W.exmOne K (.ref C_NoGlue) (.ref C_HoleError) = some true
  c_NoGlue : ExcC K C_NoGlue
  i1 : PySem.W.kitOne K (.ref C_NoGlue) (.ref C_NoGlue) = some true
  i2 : PySem.W.kitOne K (.ref C_NoGlue) (.type "ValueError") = some true
abbrev EN : List Str := ["NoGlue"]
section
variable {P : Program} {w : World} {K : PySem.W.Frag} {mg : Str → Option Value} {base : Heap} {C_HoleError C_NoGlue : Addr}
theorem c_eq (T : Tx K mg C_HoleError C_NoGlue) {cn : Str} {C : Addr} (h : cls EN mg cn C) : cn = "NoGlue" ∧ C = C_NoGlue := by
  have e : cn = "NoGlue" := by simpa [EN] using h.1
  subst e
  have e2 := h.2.symm.trans T.g_NoGlue
  cases e2
  exact ⟨rfl, rfl⟩
theorem hit_HoleError (T : Tx K mg C_HoleError C_NoGlue) : ∀ cn C, cls EN mg cn C → PySem.W.exmOne K (.ref C) (.ref C_HoleError) = some (hitF_HoleError cn) := fun cn C h => by
  obtain ⟨rfl, rfl⟩ := c_eq T h
  exact T.m_NoGlue
theorem e_is_NoGlue (T : Tx K mg C_HoleError C_NoGlue) : ∀ cn b C, i_NoGlue cn = some b → cls EN mg cn C → ExcC K C ∧ PySem.W.kitOne K (.ref C) (.ref C_NoGlue) = some b := fun cn b C e h => by
  obtain ⟨rfl, rfl⟩ := c_eq T h
  have : b = true := by simpa [i_NoGlue] using e.symm
  subst this
  exact ⟨T.c_NoGlue, T.i1⟩
theorem e_is_ValueError (T : Tx K mg C_HoleError C_NoGlue) : ∀ cn b C, i_ValueError cn = some b → cls EN mg cn C → ExcC K C ∧ PySem.W.kitOne K (.ref C) (.type "ValueError") = some b := fun cn b C e h => by
  obtain ⟨rfl, rfl⟩ := c_eq T h
  have : b = true := by simpa [i_ValueError] using e.symm
  subst this
  exact ⟨T.c_NoGlue, T.i2⟩
abbrev n_is_whole : List Str := ["thing"]
theorem sc_is_whole : FnScope n_is_whole ["thing"] (defScope s_is_whole) := ⟨rfl, rfl, rfl, by decide +kernel, rfl, by decide +kernel, by decide +kernel⟩
theorem ok_is_whole (T : Tx K mg C_HoleError C_NoGlue) {f : Addr} {fd : FuncData} (F : Fun K "is_whole" "is_whole" s_is_whole f fd) : FnOk P w K mg base CX0 1 f fd ["thing"] (SpG K (cls EN mg) [false] p_is_whole) := by
  refine F.ok sc_is_whole (fun vs H Q E h => SpG.len rfl vs H Q E h) (fun cdv A outer s H vs Q E hr h => ?_)
  refine ⟨_, (pss_one (ps_ret (pe_and (pe_callB call_isA (by rfl) T.z_isinstance bt_isinstance (pa_cons (pv 0) (pa_cons (pe_bltn (v := .ty "int") (by rfl) T.z_int bt_int rfl) pa_nil))) (pe_one (pe_not (pe_callB call_isA (by rfl) T.z_isinstance bt_isinstance (pa_cons (pv 0) (pa_cons (pe_bltn (v := .ty "bool") (by rfl) T.z_bool bt_bool rfl) pa_nil)))))))), ?_⟩
  exact sp_run (md := [false]) (f := b_is_whole) (fun e => (s_ret (oe_om (o_hold (e_shr (e_andV (x_isT "int" (e_var 0)) (e_notV (x_isT "bool" (e_var 0))))))))) h
abbrev n_level_of : List Str := ["piece"]
theorem sc_level_of : FnScope n_level_of ["piece"] (defScope s_level_of) := ⟨rfl, rfl, rfl, by decide +kernel, rfl, by decide +kernel, by decide +kernel⟩
theorem ok_level_of (T : Tx K mg C_HoleError C_NoGlue) {f : Addr} {fd : FuncData} (F : Fun K "level_of" "level_of" s_level_of f fd) : FnOk P w K mg base CX0 1 f fd ["piece"] (SpG K (cls EN mg) [false] p_level_of) := by
  refine F.ok sc_level_of (fun vs H Q E h => SpG.len rfl vs H Q E h) (fun cdv A outer s H vs Q E hr h => ?_)
  refine ⟨_, (pss_cons (ps_if (pt_cmpR (op_eqD hr.units) (pe_callB cx_len (by rfl) T.z_len bt_len (by exact (pa_cons (pv 0) pa_nil))) pe_int (nomark _)) (pss_one (ps_ret pe_int)) pss_nil)
  (pss_one (ps_ret (pe_op op_sub (pe_callB cx_len (by rfl) T.z_len bt_len (by exact (pa_cons (pv 0) pa_nil))) pe_int)))), ?_⟩
  exact sp_run (md := [false]) (f := b_level_of) (fun e => (s_seq (s_if (t_test (e_op (e_cb (ea_cons (e_var 0) ea_nil) v_len) (e_c (.int 0)) v_eq)) (s_ret (oe_om (o_hold (e_shr (e_c (.int 0)))))) s_pass)
  (s_ret (oe_om (o_hold (e_shr (e_op (e_cb (ea_cons (e_var 0) ea_nil) v_len) (e_c (.int 1)) v_sub))))))) h
abbrev n_is_spot : List Str := ["shape", "thing"]
theorem sc_is_spot : FnScope n_is_spot ["shape", "thing"] (defScope s_is_spot) := ⟨rfl, rfl, rfl, by decide +kernel, rfl, by decide +kernel, by decide +kernel⟩
theorem ok_is_spot (T : Tx K mg C_HoleError C_NoGlue) {f : Addr} {fd : FuncData} (F : Fun K "is_spot" "is_spot" s_is_spot f fd) (c_is_whole : Fk P w K mg base CX0 1 "is_whole" ["thing"] (SpG K (cls EN mg) [false] p_is_whole)) : FnOk P w K mg base CX0 2 f fd ["shape", "thing"] (SpG K (cls EN mg) [false, false] p_is_spot) := by
  refine F.ok sc_is_spot (fun vs H Q E h => SpG.len rfl vs H Q E h) (fun cdv A outer s H vs Q E hr h => ?_)
  refine ⟨_, (pss_one (ps_ret (pe_and (pe_fk c_is_whole hr (by decide) (by rfl) pass0 (pa_cons (pv 1) pa_nil)) (pe_one (pe_chain op_le op_lt pe_int (pv 1) (pe_callB cx_len (by rfl) T.z_len bt_len (by exact (pa_cons (pv 0) pa_nil)))))))), ?_⟩
  exact sp_run (md := [false, false]) (f := b_is_spot) (fun e => (s_ret (oe_om (o_hold (e_shr (e_andV (e_call rfl (ea_cons (e_var 1) ea_nil)) (e_chain (e_c (.int 0)) (e_var 1) (e_cb (ea_cons (e_var 0) ea_nil) v_len) v_le v_lt))))))) h
abbrev n_part : List Str := ["shape", "spots", "kept", "spot", "place", "face", "old", "new", "at"]
theorem sc_part : FnScope n_part ["shape", "spots"] (defScope s_part) := ⟨rfl, rfl, rfl, by decide +kernel, rfl, by decide +kernel, by decide +kernel⟩
theorem ok_part (T : Tx K mg C_HoleError C_NoGlue) {f : Addr} {fd : FuncData} (F : Fun K "part" "part" s_part f fd) (c_is_spot : Fk P w K mg base CX0 2 "is_spot" ["shape", "thing"] (SpG K (cls EN mg) [false, false] p_is_spot)) : FnOk P w K mg base (L2.CX P w) 3 f fd ["shape", "spots"] (SpG K (cls EN mg) [false, false] p_part) := by
  refine F.okX sc_part (fun vs H Q E h => SpG.len rfl vs H Q E h) (fun cdv A outer s H vs Q E hr h => ?_)
  refine ⟨_, (pss_cons (ps_set (i := 2) sc_part.nd rfl (by first | exact .inl rfl | exact .inr rfl) pe_dnewK)
  (pss_cons (ps_for (passes_of rfl) rfl (pi_seq (pv 1)) (pg_name (i := 3) sc_part.nd rfl (by first | exact .inl rfl | exact .inr rfl)) (pss_cons (ps_if (pt_not (pt_val (pe_fk c_is_spot hr (by decide) (by rfl) pass0 (pa_cons (pv 0) (pa_cons (pv 3) pa_nil))))) (pss_one (ps_raise rfl (takes_of rfl rfl rfl rfl) (pmk_own PySem.F.excBase_ValueError T.x_NoGlue T.g_NoGlue T.k_NoGlue (raises_own T.b_NoGlue T.t_NoGlue) rfl))) pss_nil)
  (pss_one (ps_dput (hu_of hr) (pv 2) (pv 3) pe_bl (by rfl)))))
  (pss_cons (ps_for (passes_of rfl) rfl (pi_range3 (by rfl) T.z_range (pa_cons (pe_op op_sub (pe_callB cx_len (by rfl) T.z_len bt_len (by exact (pa_cons (pv 0) pa_nil))) pe_int) (pa_cons (pe_un un_neg pe_int) (pa_cons (pe_un un_neg pe_int) pa_nil)))) (pg_name (i := 4) sc_part.nd rfl (by first | exact .inl rfl | exact .inr rfl)) (pss_one (ps_if (pt_cmp (pc_din (hu_of hr) (pv 4) (pv 2)) (by with_unfolding_all rfl)) (pss_one (ps_for (passes_of rfl) rfl (pi_seq (pe_ix ix_seq (pv 0) (pv 4) (fun _ _ => rfl))) (pg_name (i := 5) sc_part.nd rfl (by first | exact .inl rfl | exact .inr rfl)) (pss_one (ps_dput (hu_of hr) (pv 2) (pv 5) pe_bl (by rfl))))) pss_nil)))
  (pss_cons (ps_set (i := 6) sc_part.nd rfl (by first | exact .inl rfl | exact .inr rfl) (pe_callB (call_sortedDI (by rfl)) (by rfl) T.z_sorted bt_sorted (by exact (pa_cons (pv 2) pa_nil))))
  (pss_cons (ps_set (i := 7) sc_part.nd rfl (by first | exact .inl rfl | exact .inr rfl) pe_dnewK)
  (pss_cons (ps_for (passes_of rfl) rfl (pi_enum (by rfl) T.z_enumerate (pa_cons (pv 6) pa_nil)) (pg_tup (by rfl) (pgs_cons (pg_name (i := 8) sc_part.nd rfl (by first | exact .inl rfl | exact .inr rfl)) (pgs_cons (pg_name (i := 4) sc_part.nd rfl (by first | exact .inl rfl | exact .inr rfl)) pgs_nil))) (pss_one (ps_dput (hu_of hr) (pv 7) (pv 4) (pv 8) (by rfl))))
  (pss_one (ps_ret (pe_tup (pa_cons (pe_lc (own := [("place", 4)]) (wi := (iSeq K (tVar 6))) (g := (gName 4)) (tt := tYes) (te := (tCB (rTupOf K) (tCons (tLc (iSeq K (tOp (rIx K) (tVar 0) (tVar 4))) (gName 5) tYes (tDGet (tVar 7) (tVar 5)) [5]) tNil))) (by rfl) sc_part.nd (by exact (pi_seq (pv 6))) (blkOk_by (by kernel_rfl)) (fun _ _ _ _ _ => (pg_name (i := 4) sc_part.nd rfl (by first | exact .inl rfl | exact .inr rfl))) (fun _ _ _ _ _ => pts_nil) (fun _ _ _ _ _ => by exact (pe_callTy call_tuple_of (by rfl) T.z_tuple bt_tuple (by exact (pa_cons (pe_lc (own := [("face", 5)]) (wi := (iSeq K (tOp (rIx K) (tVar 0) (tVar 4)))) (g := (gName 5)) (tt := tYes) (te := (tDGet (tVar 7) (tVar 5))) (by rfl) sc_part.nd (by exact (pi_seq (pe_ix ix_seq (pv 0) (pv 4) (fun _ _ => rfl)))) (blkOk_by (by kernel_rfl)) (fun _ _ _ _ _ => (pg_name (i := 5) sc_part.nd rfl (by first | exact .inl rfl | exact .inr rfl))) (fun _ _ _ _ _ => pts_nil) (fun _ _ _ _ _ => by exact (pe_dget (hu_of hr) (pv 7) (pv 5) (fun _ _ => rfl)))) pa_nil))))) (pa_cons (pv 6) pa_nil))))))))))), ?_⟩
  exact sp_run (md := [false, false]) (f := b_part) (fun e => (s_seq (s_asg (oe_om (o_hold e_d0)) (g_name (i := 2) (by decide)))
  (s_seq (s_for (fun _ => (si_seq (e_shr (e_free (e_var 1))))) (g_name (i := 3) (by decide)) (s_seq (s_if (t_not (t_tB (e_call rfl (ea_cons (e_var 0) (ea_cons (e_var 3) ea_nil))))) (s_raise (cn := "NoGlue") ⟨by decide, T.g_NoGlue⟩) s_pass)
  (s_dput (e_c (.bl true)) (lv_name 2) (e_var 3))))
  (s_seq (s_for (fun _ => (si_rng3 (m := .fre) (ea_cons (e_weak (e_op (e_cb (ea_cons (e_var 0) ea_nil) v_len) (e_c (.int 1)) v_sub)) (ea_cons (e_weak (e_un (e_c (.int 1)) v_neg)) (ea_cons (e_weak (e_un (e_c (.int 1)) v_neg)) ea_nil))))) (g_name (i := 4) (by decide)) (s_if (t_tB (e_din (e_var 4) (e_var 2))) (s_for (fun _ => (si_seq (e_shr (e_free (e_ix (e_var 0) (e_var 4)))))) (g_name (i := 5) (by decide)) (s_dput (e_c (.bl true)) (lv_name 2) (e_var 5))) s_pass))
  (s_seq (s_asg (oe_om (o_hold (e_cb (ea_cons (e_var 2) ea_nil) v_sortD))) (g_name (i := 6) (by decide)))
  (s_seq (s_asg (oe_om (o_hold e_d0)) (g_name (i := 7) (by decide)))
  (s_seq (s_forS (lw_enum 6) (g_un (gs_cons (g_name (i := 8) (by decide)) (gs_cons (g_name (i := 4) (by decide)) gs_nil))) (s_dput (e_var 8) (lv_name 7) (e_var 4)))
  (s_fz (i := 7) (s_ret (oe_om (o_tup (oa_cons (o_hold (e_lc (fun _ => (si_seq (e_var 6))) (gx_name (i := 4) (by decide)) t_yes (e_shr (e_cb (ea_cons (e_weak (e_lc (fun _ => (si_seq (e_ix (e_var 0) (e_var 4)))) (gx_name (i := 5) (by decide)) t_yes (e_shr (e_free (e_dget (e_var 7) (e_var 5)))))) ea_nil) v_tuple)))) (oa_cons (o_move 6) oa_nil))))))))))))) h
abbrev n_is_glue : List Str := ["shape", "thing"]
theorem sc_is_glue : FnScope n_is_glue ["shape", "thing"] (defScope s_is_glue) := ⟨rfl, rfl, rfl, by decide +kernel, rfl, by decide +kernel, by decide +kernel⟩
theorem ok_is_glue (T : Tx K mg C_HoleError C_NoGlue) {f : Addr} {fd : FuncData} (F : Fun K "is_glue" "is_glue" s_is_glue f fd) (c_is_spot : Fk P w K mg base CX0 2 "is_spot" ["shape", "thing"] (SpG K (cls EN mg) [false, false] p_is_spot)) (c_level_of : Fk P w K mg base CX0 1 "level_of" ["piece"] (SpG K (cls EN mg) [false] p_level_of)) : FnOk P w K mg base CX0 3 f fd ["shape", "thing"] (SpG K (cls EN mg) [false, false] p_is_glue) := by
  refine F.ok sc_is_glue (fun vs H Q E h => SpG.len rfl vs H Q E h) (fun cdv A outer s H vs Q E hr h => ?_)
  refine ⟨_, (pss_cons (ps_if (PW.pt (pw_or (pt_not (pt_val (pe_callB call_isA (by rfl) T.z_isinstance bt_isinstance (pa_cons (pv 1) (pa_cons (pe_bltn (v := .ty "tuple") (by rfl) T.z_tuple bt_tuple rfl) pa_nil))))) (pw_or1 (pt_cmpR (op_neD hr.units) (pe_callB cx_len (by rfl) T.z_len bt_len (by exact (pa_cons (pv 1) pa_nil))) pe_int (nomark _))))) (pss_one (ps_ret pe_bl)) pss_nil)
  (pss_cons (ps_if (PW.pt (pw_or (pt_not (pt_val (pe_fk c_is_spot hr (by decide) (by rfl) pass0 (pa_cons (pv 0) (pa_cons (pe_ix ix_seq (pv 1) pe_int (fun _ _ => rfl)) pa_nil))))) (pw_or1 (pt_not (pt_val (pe_fk c_is_spot hr (by decide) (by rfl) pass0 (pa_cons (pv 0) (pa_cons (pe_ix ix_seq (pv 1) pe_int (fun _ _ => rfl)) pa_nil)))))))) (pss_one (ps_ret pe_bl)) pss_nil)
  (pss_one (ps_ret (pe_cmpR (op_eqD hr.units) (pe_fk c_level_of hr (by decide) (by rfl) pass0 (pa_cons (pe_ix ix_seq (pv 0) (pe_ix ix_seq (pv 1) pe_int (fun _ _ => rfl)) (fun _ _ => rfl)) pa_nil)) (pe_fk c_level_of hr (by decide) (by rfl) pass0 (pa_cons (pe_ix ix_seq (pv 0) (pe_ix ix_seq (pv 1) pe_int (fun _ _ => rfl)) (fun _ _ => rfl)) pa_nil)) (nomark _)))))), ?_⟩
  exact sp_run (md := [false, false]) (f := b_is_glue) (fun e => (s_seq (s_if (t_or (t_not (t_tB (x_isT "tuple" (e_var 1)))) (t_test (e_op (e_cb (ea_cons (e_var 1) ea_nil) v_len) (e_c (.int 2)) v_ne))) (s_ret (oe_om (o_hold (e_shr (e_c (.bl false)))))) s_pass)
  (s_seq (s_if (t_or (t_not (t_tB (e_call rfl (ea_cons (e_var 0) (ea_cons (e_ix (e_var 1) (e_c (.int 0))) ea_nil))))) (t_not (t_tB (e_call rfl (ea_cons (e_var 0) (ea_cons (e_ix (e_var 1) (e_c (.int 1))) ea_nil)))))) (s_ret (oe_om (o_hold (e_shr (e_c (.bl false)))))) s_pass)
  (s_ret (oe_om (o_hold (e_shr (e_op (e_call rfl (ea_cons (e_ix (e_var 0) (e_ix (e_var 1) (e_c (.int 0)))) ea_nil)) (e_call rfl (ea_cons (e_ix (e_var 0) (e_ix (e_var 1) (e_c (.int 1)))) ea_nil)) v_eq)))))))) h
abbrev n_first_of : List Str := ["firsts", "place"]
theorem sc_first_of : FnScope n_first_of ["firsts", "place"] (defScope s_first_of) := ⟨rfl, rfl, rfl, by decide +kernel, rfl, by decide +kernel, by decide +kernel⟩
theorem ok_first_of (T : Tx K mg C_HoleError C_NoGlue) {f : Addr} {fd : FuncData} (F : Fun K "first_of" "first_of" s_first_of f fd) : FnOk P w K mg base CX0 1 f fd ["firsts", "place"] (SpG K (cls EN mg) [false, false] p_first_of) := by
  refine F.ok sc_first_of (fun vs H Q E h => SpG.len rfl vs H Q E h) (fun cdv A outer s H vs Q E hr h => ?_)
  refine ⟨_, (pss_cons (ps_while PassesOwn.never (pt_cmpR (op_neD hr.units) (pe_ix ix_seq (pv 0) (pv 1) (fun _ _ => rfl)) (pv 1) (nomark _)) (pss_one (ps_set (i := 1) sc_first_of.nd rfl (by first | exact .inl rfl | exact .inr rfl) (pe_ix ix_seq (pv 0) (pv 1) (fun _ _ => rfl)))))
  (pss_one (ps_ret (pv 1)))), ?_⟩
  exact sp_run (md := [false, false]) (f := b_first_of) (fun e => (s_seq (s_while (n := 100000) (t_test (e_op (e_ix (e_var 0) (e_var 1)) (e_var 1) v_ne)) (s_asg (oe_om (o_hold (e_shr (e_free (e_ix (e_var 0) (e_var 1)))))) (g_name (i := 1) (by decide))))
  (s_ret (oe_om (o_hold (e_shr (e_free (e_var 1)))))))) h
abbrev n_lots_of : List Str := ["shape", "pairs", "firsts", "waiting", "pair", "one", "other", "below", "beneath", "place"]
theorem sc_lots_of : FnScope n_lots_of ["shape", "pairs"] (defScope s_lots_of) := ⟨rfl, rfl, rfl, by decide +kernel, rfl, by decide +kernel, by decide +kernel⟩
theorem ok_lots_of (T : Tx K mg C_HoleError C_NoGlue) {f : Addr} {fd : FuncData} (F : Fun K "lots_of" "lots_of" s_lots_of f fd) (c_first_of : Fk P w K mg base CX0 1 "first_of" ["firsts", "place"] (SpG K (cls EN mg) [false, false] p_first_of)) : FnOk P w K mg base CX0 2 f fd ["shape", "pairs"] (SpG K (cls EN mg) [false, false] p_lots_of) := by
  refine F.ok sc_lots_of (fun vs H Q E h => SpG.len rfl vs H Q E h) (fun cdv A outer s H vs Q E hr h => ?_)
  refine ⟨_, (pss_cons (ps_set (i := 2) sc_lots_of.nd rfl (by first | exact .inl rfl | exact .inr rfl) (pe_listRg (by rfl) (by rfl) T.z_list (prg_1 (by rfl) T.z_range (pe_callB cx_len (by rfl) T.z_len bt_len (by exact (pa_cons (pv 0) pa_nil))))))
  (pss_cons (ps_set (i := 3) sc_lots_of.nd rfl (by first | exact .inl rfl | exact .inr rfl) (pe_callTy call_list_of (by rfl) T.z_list bt_list (by exact (pa_cons (pv 1) pa_nil))))
  (pss_cons (ps_while PassesOwn.never (pt_cmpR op_gt (pe_callB cx_len (by rfl) T.z_len bt_len (by exact (pa_cons (pv 3) pa_nil))) pe_int (nomark _)) (pss_cons (ps_set (i := 4) sc_lots_of.nd rfl (by first | exact .inl rfl | exact .inr rfl) (pe_bm0 PySem.F.plainAttrs_list PySem.F.slot_list_pop PySem.F.type_list_pop mt_pop (pv 3)))
  (pss_cons (ps_set (i := 5) sc_lots_of.nd rfl (by first | exact .inl rfl | exact .inr rfl) (pe_fk c_first_of hr (by decide) (by rfl) pass0 (pa_cons (pv 2) (pa_cons (pe_ix ix_seq (pv 4) pe_int (fun _ _ => rfl)) pa_nil))))
  (pss_cons (ps_set (i := 6) sc_lots_of.nd rfl (by first | exact .inl rfl | exact .inr rfl) (pe_fk c_first_of hr (by decide) (by rfl) pass0 (pa_cons (pv 2) (pa_cons (pe_ix ix_seq (pv 4) pe_int (fun _ _ => rfl)) pa_nil))))
  (pss_one (ps_if (pt_cmpR (op_neD hr.units) (pv 5) (pv 6) (nomark _)) (pss_cons (ps_asg (pe_callB (call_min2 (by rfl)) (by rfl) T.z_min bt_min (by exact (pa_cons (pv 5) (pa_cons (pv 6) pa_nil)))) (pg_sub (pv 2) (pe_callB (call_max2 (by rfl)) (by rfl) T.z_max bt_max (by exact (pa_cons (pv 5) (pa_cons (pv 6) pa_nil)))) set_list))
  (pss_one (ps_for PassesOwn.never rfl (RZ.pi_zipA (by rfl) T.z_zip (pa_cons (pe_ix ix_seq (pv 0) (pv 5) (fun _ _ => rfl)) (pa_cons (pe_ix ix_seq (pv 0) (pv 6) (fun _ _ => rfl)) pa_nil))) (pg_tup (by rfl) (pgs_cons (pg_name (i := 7) sc_lots_of.nd rfl (by first | exact .inl rfl | exact .inr rfl)) (pgs_cons (pg_name (i := 8) sc_lots_of.nd rfl (by first | exact .inl rfl | exact .inr rfl)) pgs_nil))) (pss_one (ps_expr (pe_bm PySem.F.plainAttrs_list PySem.F.slot_list_append PySem.F.type_list_append mt_append (pv 3) (pa_cons (pe_tup (pa_cons (pv 7) (pa_cons (pv 8) pa_nil))) pa_nil))))))) pss_nil))))))
  (pss_one (ps_ret (pe_lc (own := [("place", 9)]) (wi := (iRng1 (tCons (tCB (rLenX K) (tCons (tVar 0) tNil)) tNil))) (g := (gName 9)) (tt := tYes) (te := (tCall (SpG K (cls EN mg) [false, false] p_first_of) [] E0 (tCons (tVar 2) (tCons (tVar 9) tNil)))) (by rfl) sc_lots_of.nd (by exact (pi_range1 (by rfl) T.z_range (pa_cons (pe_callB cx_len (by rfl) T.z_len bt_len (by exact (pa_cons (pv 0) pa_nil))) pa_nil))) (blkOk_by (by kernel_rfl)) (fun _ _ _ _ _ => (pg_name (i := 9) sc_lots_of.nd rfl (by first | exact .inl rfl | exact .inr rfl))) (fun _ _ _ _ _ => pts_nil) (fun _ _ _ _ _ => by exact (pe_fk c_first_of hr (by decide) (by rfl) pass0 (pa_cons (pv 2) (pa_cons (pv 9) pa_nil)))))))))), ?_⟩
  exact sp_run (md := [false, false]) (f := b_lots_of) (fun e => (s_seq (s_asg (oe_om (o_hold (e_listR (er_1 (e_cb (ea_cons (e_var 0) ea_nil) v_len))))) (g_name (i := 2) (by decide)))
  (s_seq (s_asg (oe_om (o_hold (e_cb (ea_cons (e_var 1) ea_nil) v_list))) (g_name (i := 3) (by decide)))
  (s_seq (s_while (n := 100000) (t_test (e_op (e_cb (ea_cons (e_var 3) ea_nil) v_len) (e_c (.int 0)) v_gt)) (s_seq (s_asg (m_pop (lv_name 3)) (g_name (i := 4) (by decide)))
  (s_seq (s_asg (oe_om (o_call rfl (ea_cons (e_var 2) (ea_cons (e_ix (e_var 4) (e_c (.int 0))) ea_nil)))) (g_name (i := 5) (by decide)))
  (s_seq (s_asg (oe_om (o_call rfl (ea_cons (e_var 2) (ea_cons (e_ix (e_var 4) (e_c (.int 1))) ea_nil)))) (g_name (i := 6) (by decide)))
  (s_if (t_test (e_op (e_var 5) (e_var 6) v_ne)) (s_seq (s_asg (oe_om (o_hold (e_shr (e_cb (ea_cons (e_var 5) (ea_cons (e_var 6) ea_nil)) v_min2)))) (g_store (lv_name 2) (e_cb (ea_cons (e_var 5) (ea_cons (e_var 6) ea_nil)) v_max2)))
  (s_for (fun _ => (si_zip (ea_cons (e_shr (e_free (e_ix (e_var 0) (e_var 5)))) (ea_cons (e_shr (e_free (e_ix (e_var 0) (e_var 6)))) ea_nil)))) (g_un (gs_cons (g_name (i := 7) (by decide)) (gs_cons (g_name (i := 8) (by decide)) gs_nil))) (s_drop (m_append (lv_name 3) (oa_cons (o_hold (e_tup (ea_cons (e_shr (e_free (e_var 7))) (ea_cons (e_shr (e_free (e_var 8))) (ea_nil (m := .fre)))))) oa_nil) (keeps_cons keep_hold keeps_nil))))) s_pass)))))
  (s_ret (oe_om (o_hold (e_lc (fun _ => (si_rng1 (m := .any) (ea_cons (e_weak (e_cb (ea_cons (e_var 0) ea_nil) v_len)) ea_nil))) (gx_name (i := 9) (by decide)) t_yes (e_call rfl (ea_cons (e_var 2) (ea_cons (e_var 9) ea_nil))))))))))) h
abbrev n_glued : List Str := ["shape", "pairs", "pair", "firsts", "new", "place", "spots", "first", "face"]
theorem sc_glued : FnScope n_glued ["shape", "pairs"] (defScope s_glued) := ⟨rfl, rfl, rfl, by decide +kernel, rfl, by decide +kernel, by decide +kernel⟩
theorem ok_glued (T : Tx K mg C_HoleError C_NoGlue) {f : Addr} {fd : FuncData} (F : Fun K "glued" "glued" s_glued f fd) (c_is_glue : Fk P w K mg base CX0 3 "is_glue" ["shape", "thing"] (SpG K (cls EN mg) [false, false] p_is_glue)) (c_lots_of : Fk P w K mg base CX0 2 "lots_of" ["shape", "pairs"] (SpG K (cls EN mg) [false, false] p_lots_of)) : FnOk P w K mg base (L2.CX P w) 4 f fd ["shape", "pairs"] (SpG K (cls EN mg) [false, false] p_glued) := by
  refine F.okX sc_glued (fun vs H Q E h => SpG.len rfl vs H Q E h) (fun cdv A outer s H vs Q E hr h => ?_)
  refine ⟨_, (pss_cons (ps_for (passes_of rfl) rfl (pi_seq (pv 1)) (pg_name (i := 2) sc_glued.nd rfl (by first | exact .inl rfl | exact .inr rfl)) (pss_one (ps_if (pt_not (pt_val (pe_fk c_is_glue hr (by decide) (by rfl) pass0 (pa_cons (pv 0) (pa_cons (pv 2) pa_nil))))) (pss_one (ps_raise rfl (takes_of rfl rfl rfl rfl) (pmk_own PySem.F.excBase_ValueError T.x_NoGlue T.g_NoGlue T.k_NoGlue (raises_own T.b_NoGlue T.t_NoGlue) rfl))) pss_nil)))
  (pss_cons (ps_set (i := 3) sc_glued.nd rfl (by first | exact .inl rfl | exact .inr rfl) (pe_fk c_lots_of hr (by decide) (by rfl) pass0 (pa_cons (pv 0) (pa_cons (pv 1) pa_nil))))
  (pss_cons (ps_set (i := 4) sc_glued.nd rfl (by first | exact .inl rfl | exact .inr rfl) pe_dnewK)
  (pss_cons (ps_for (passes_of rfl) rfl (pi_range1 (by rfl) T.z_range (pa_cons (pe_callB cx_len (by rfl) T.z_len bt_len (by exact (pa_cons (pv 0) pa_nil))) pa_nil)) (pg_name (i := 5) sc_glued.nd rfl (by first | exact .inl rfl | exact .inr rfl)) (pss_one (ps_if (pt_cmpR (op_eqD hr.units) (pe_ix ix_seq (pv 3) (pv 5) (fun _ _ => rfl)) (pv 5) (nomark _)) (pss_one (ps_dput (hu_of hr) (pv 4) (pv 5) (pe_callB cx_len (by rfl) T.z_len bt_len (by exact (pa_cons (pv 4) pa_nil))) (by rfl))) pss_nil)))
  (pss_cons (ps_set (i := 6) sc_glued.nd rfl (by first | exact .inl rfl | exact .inr rfl) (pe_lc (own := [("first", 7)]) (wi := (iSeq K (tVar 3))) (g := (gName 7)) (tt := tYes) (te := (tDGet (tVar 4) (tVar 7))) (by rfl) sc_glued.nd (by exact (pi_seq (pv 3))) (blkOk_by (by kernel_rfl)) (fun _ _ _ _ _ => (pg_name (i := 7) sc_glued.nd rfl (by first | exact .inl rfl | exact .inr rfl))) (fun _ _ _ _ _ => pts_nil) (fun _ _ _ _ _ => by exact (pe_dget (hu_of hr) (pv 4) (pv 7) (fun _ _ => rfl)))))
  (pss_one (ps_ret (pe_tup (pa_cons (pe_lk (pe_lc (own := [("first", 7)]) (wi := (iKeys (tVar 4))) (g := (gName 7)) (tt := tYes) (te := (tCB (rTupOf K) (tCons (tLc (iSeq K (tOp (rIx K) (tVar 0) (tVar 7))) (gName 8) tYes (tOp (rIx K) (tVar 6) (tVar 8)) [8]) tNil))) (by rfl) sc_glued.nd (by exact (pi_keys (pv 4))) (blkOk_by (by kernel_rfl)) (fun _ _ _ _ _ => (pg_name (i := 7) sc_glued.nd rfl (by first | exact .inl rfl | exact .inr rfl))) (fun _ _ _ _ _ => pts_nil) (fun _ _ _ _ _ => by exact (pe_callTy call_tuple_of (by rfl) T.z_tuple bt_tuple (by exact (pa_cons (pe_lc (own := [("face", 8)]) (wi := (iSeq K (tOp (rIx K) (tVar 0) (tVar 7)))) (g := (gName 8)) (tt := tYes) (te := (tOp (rIx K) (tVar 6) (tVar 8))) (by rfl) sc_glued.nd (by exact (pi_seq (pe_ix ix_seq (pv 0) (pv 7) (fun _ _ => rfl)))) (blkOk_by (by kernel_rfl)) (fun _ _ _ _ _ => (pg_name (i := 8) sc_glued.nd rfl (by first | exact .inl rfl | exact .inr rfl))) (fun _ _ _ _ _ => pts_nil) (fun _ _ _ _ _ => by exact (pe_ix ix_seq (pv 6) (pv 8) (fun _ _ => rfl)))) pa_nil)))))) (pa_cons (pv 6) pa_nil)))))))))), ?_⟩
  exact sp_run (md := [false, false]) (f := b_glued) (fun e => (s_seq (s_for (fun _ => (si_seq (e_shr (e_free (e_var 1))))) (g_name (i := 2) (by decide)) (s_if (t_not (t_tB (e_call rfl (ea_cons (e_var 0) (ea_cons (e_var 2) ea_nil))))) (s_raise (cn := "NoGlue") ⟨by decide, T.g_NoGlue⟩) s_pass))
  (s_seq (s_asg (oe_om (o_call rfl (ea_cons (e_var 0) (ea_cons (e_var 1) ea_nil)))) (g_name (i := 3) (by decide)))
  (s_seq (s_asg (oe_om (o_hold e_d0)) (g_name (i := 4) (by decide)))
  (s_seq (s_for (fun _ => (si_rng1 (m := .fre) (ea_cons (e_weak (e_cb (ea_cons (e_var 0) ea_nil) v_len)) ea_nil))) (g_name (i := 5) (by decide)) (s_if (t_test (e_op (e_ix (e_var 3) (e_var 5)) (e_var 5) v_eq)) (s_dput (e_cb (ea_cons (e_var 4) ea_nil) v_len) (lv_name 4) (e_var 5)) s_pass))
  (s_seq (s_asg (oe_om (o_hold (e_lc (fun _ => (si_seq (e_var 3))) (gx_name (i := 7) (by decide)) t_yes (e_shr (e_free (e_dget (e_var 4) (e_var 7))))))) (g_name (i := 6) (by decide)))
  (s_fz (i := 4) (s_ret (oe_om (o_tup (oa_cons (o_hold (e_lcD (dw_keys 4) (gx_name (i := 7) (by decide)) t_yes (e_shr (e_cb (ea_cons (e_weak (e_lc (fun _ => (si_seq (e_ix (e_var 0) (e_var 7)))) (gx_name (i := 8) (by decide)) t_yes (e_shr (e_free (e_ix (e_var 6) (e_var 8)))))) ea_nil) v_tuple)))) (oa_cons (o_move 6) oa_nil)))))))))))) h
abbrev n__law_cell : List Str := ["script", "k"]
theorem sc__law_cell : FnScope n__law_cell ["script", "k"] (defScope s__law_cell) := ⟨rfl, rfl, rfl, by decide +kernel, rfl, by decide +kernel, by decide +kernel⟩
theorem ok__law_cell (T : Tx K mg C_HoleError C_NoGlue) {f : Addr} {fd : FuncData} (F : Fun K "_law_cell" "_law_cell" s__law_cell f fd) : FnOk P w K mg base CX0 1 f fd ["script", "k"] (SpG K (cls EN mg) [false, false] p__law_cell) := by
  refine F.ok sc__law_cell (fun vs H Q E h => SpG.len rfl vs H Q E h) (fun cdv A outer s H vs Q E hr h => ?_)
  refine ⟨_, (pss_cons (ps_if (pt_cmpR op_lt (pv 1) (pe_callB cx_len (by rfl) T.z_len bt_len (by exact (pa_cons (pv 0) pa_nil))) (nomark _)) (pss_one (ps_ret (pe_ix ix_seq (pv 0) (pv 1) (fun _ _ => rfl)))) pss_nil)
  (pss_one (ps_ret pe_int))), ?_⟩
  exact sp_run (md := [false, false]) (f := b__law_cell) (fun e => (s_seq (s_if (t_test (e_op (e_var 1) (e_cb (ea_cons (e_var 0) ea_nil) v_len) v_lt)) (s_ret (oe_om (o_hold (e_shr (e_free (e_ix (e_var 0) (e_var 1))))))) s_pass)
  (s_ret (oe_om (o_hold (e_shr (e_c (.int 0)))))))) h
abbrev n__law_row : List Str := ["script", "k", "many", "size", "cell", "rest", "found", "i", "number"]
theorem sc__law_row : FnScope n__law_row ["script", "k", "many", "size"] (defScope s__law_row) := ⟨rfl, rfl, rfl, by decide +kernel, rfl, by decide +kernel, by decide +kernel⟩
theorem ok__law_row (T : Tx K mg C_HoleError C_NoGlue) {f : Addr} {fd : FuncData} (F : Fun K "_law_row" "_law_row" s__law_row f fd) (c__law_cell : Fk P w K mg base CX0 1 "_law_cell" ["script", "k"] (SpG K (cls EN mg) [false, false] p__law_cell)) : FnOk P w K mg base CX0 2 f fd ["script", "k", "many", "size"] (SpG K (cls EN mg) [false, false, false, false] p__law_row) := by
  refine F.ok sc__law_row (fun vs H Q E h => SpG.len rfl vs H Q E h) (fun cdv A outer s H vs Q E hr h => ?_)
  refine ⟨_, (pss_cons (ps_set (i := 4) sc__law_row.nd rfl (by first | exact .inl rfl | exact .inr rfl) (pe_fk c__law_cell hr (by decide) (by rfl) pass0 (pa_cons (pv 0) (pa_cons (pv 1) pa_nil))))
  (pss_cons (ps_set (i := 5) sc__law_row.nd rfl (by first | exact .inl rfl | exact .inr rfl) (pv 4))
  (pss_cons (ps_set (i := 6) sc__law_row.nd rfl (by first | exact .inl rfl | exact .inr rfl) (pe_lst pa_nil))
  (pss_cons (ps_for PassesOwn.never rfl (pi_range1 (by rfl) T.z_range (pa_cons (pv 2) pa_nil)) (pg_name (i := 7) sc__law_row.nd rfl (by first | exact .inl rfl | exact .inr rfl)) (pss_cons (ps_set (i := 8) sc__law_row.nd rfl (by first | exact .inl rfl | exact .inr rfl) (pe_op op_modN (pe_op ox_mul (pe_op ox_add (pe_op ox_add (pe_op ox_add (pe_op op_modN (pv 4) pe_int) (pe_op ox_mul pe_int (pv 7))) (pe_op ox_mul pe_int (pv 1))) pe_int) pe_int) pe_int))
  (pss_cons (ps_set (i := 8) sc__law_row.nd rfl (by first | exact .inl rfl | exact .inr rfl) (pe_op op_modN (pe_op ox_mul (pv 8) pe_int) pe_int))
  (pss_cons (ps_set (i := 8) sc__law_row.nd rfl (by first | exact .inl rfl | exact .inr rfl) (pe_op op_fdivF (pe_op op_modN (pe_op ox_mul (pv 8) (pe_op ox_add (pe_op ox_add (pe_op op_fdivF (pv 8) pe_int) pe_int) (pv 7))) pe_int) pe_int))
  (pss_cons (ps_if (PW.pt (pw_and (pt_cmpR op_ge (pv 4) (pe_op op_pow pe_int pe_int) (nomark _)) (pw_and1 (pt_cmpR op_gt (pv 5) pe_int (nomark _))))) (pss_cons (ps_set (i := 8) sc__law_row.nd rfl (by first | exact .inl rfl | exact .inr rfl) (pv 5))
  (pss_one (ps_set (i := 5) sc__law_row.nd rfl (by first | exact .inl rfl | exact .inr rfl) (pe_op op_fdivF (pv 5) (pv 3))))) pss_nil)
  (pss_one (ps_expr (pe_bm PySem.F.plainAttrs_list PySem.F.slot_list_append PySem.F.type_list_append mt_append (pv 6) (pa_cons (pe_op op_modN (pv 8) (pv 3)) pa_nil)))))))))
  (pss_one (ps_ret (pv 6))))))), ?_⟩
  exact sp_run (md := [false, false, false, false]) (f := b__law_row) (fun e => (s_seq (s_asg (oe_om (o_call rfl (ea_cons (e_var 0) (ea_cons (e_var 1) ea_nil)))) (g_name (i := 4) (by decide)))
  (s_seq (s_asg (oe_om (o_hold (e_shr (e_free (e_var 4))))) (g_name (i := 5) (by decide)))
  (s_seq (s_asg (oe_om (o_hold (e_lst (ea_nil (m := .fre))))) (g_name (i := 6) (by decide)))
  (s_seq (s_for (fun _ => (si_rng1 (m := .fre) (ea_cons (e_var 2) ea_nil))) (g_name (i := 7) (by decide)) (s_seq (s_asg (oe_om (o_hold (e_shr (e_op (e_op (e_op (e_op (e_op (e_op (e_var 4) (e_c (.int 2147483647)) v_mod) (e_op (e_c (.int 7919)) (e_var 7) v_mul) v_add) (e_op (e_c (.int 104729)) (e_var 1) v_mul) v_add) (e_c (.int 1)) v_add) (e_c (.int 48271)) v_mul) (e_c (.int 2147483647)) v_mod)))) (g_name (i := 8) (by decide)))
  (s_seq (s_asg (oe_om (o_hold (e_shr (e_op (e_op (e_var 8) (e_c (.int 39373)) v_mul) (e_c (.int 2147483629)) v_mod)))) (g_name (i := 8) (by decide)))
  (s_seq (s_asg (oe_om (o_hold (e_shr (e_op (e_op (e_op (e_var 8) (e_op (e_op (e_op (e_var 8) (e_c (.int 1009)) v_div) (e_c (.int 7919)) v_add) (e_var 7) v_add) v_mul) (e_c (.int 2147483629)) v_mod) (e_c (.int 7)) v_div)))) (g_name (i := 8) (by decide)))
  (s_seq (s_if (t_and (t_test (e_op (e_var 4) (e_op (e_c (.int 10)) (e_c (.int 18)) v_pow) v_ge)) (t_test (e_op (e_var 5) (e_c (.int 0)) v_gt))) (s_seq (s_asg (oe_om (o_hold (e_shr (e_free (e_var 5))))) (g_name (i := 8) (by decide)))
  (s_asg (oe_om (o_hold (e_shr (e_op (e_var 5) (e_var 3) v_div)))) (g_name (i := 5) (by decide)))) s_pass)
  (s_drop (m_append (lv_name 6) (oa_cons (o_hold (e_shr (e_op (e_var 8) (e_var 3) v_mod))) oa_nil) (keeps_cons keep_hold keeps_nil))))))))
  (s_ret (oe_om (o_move 6)))))))) h
abbrev n__law_meets : List Str := ["shape", "chosen", "piece", "level", "last", "i", "face"]
theorem sc__law_meets : FnScope n__law_meets ["shape", "chosen", "piece", "level"] (defScope s__law_meets) := ⟨rfl, rfl, rfl, by decide +kernel, rfl, by decide +kernel, by decide +kernel⟩
theorem ok__law_meets (T : Tx K mg C_HoleError C_NoGlue) {f : Addr} {fd : FuncData} (F : Fun K "_law_meets" "_law_meets" s__law_meets f fd) : FnOk P w K mg base CX0 1 f fd ["shape", "chosen", "piece", "level"] (SpG K (cls EN mg) [false, false, false, false] p__law_meets) := by
  refine F.ok sc__law_meets (fun vs H Q E h => SpG.len rfl vs H Q E h) (fun cdv A outer s H vs Q E hr h => ?_)
  refine ⟨_, (pss_cons (ps_if (pt_cmpR (op_neD hr.units) (pe_callB (call_max2 (by rfl)) (by rfl) T.z_max bt_max (by exact (pa_cons pe_int (pa_cons (pe_op op_sub (pe_callB cx_len (by rfl) T.z_len bt_len (by exact (pa_cons (pv 2) pa_nil))) pe_int) pa_nil)))) (pe_op op_sub (pv 3) pe_int) (nomark _)) (pss_one (ps_ret pe_bl)) pss_nil)
  (pss_cons (ps_set (i := 4) sc__law_meets.nd rfl (by first | exact .inl rfl | exact .inr rfl) (pe_op op_sub (pe_callB cx_len (by rfl) T.z_len bt_len (by exact (pa_cons (pv 1) pa_nil))) pe_int))
  (pss_cons (ps_for PassesOwn.never rfl (pi_enum (by rfl) T.z_enumerate (pa_cons (pv 1) pa_nil)) (pg_tup (by rfl) (pgs_cons (pg_name (i := 5) sc__law_meets.nd rfl (by first | exact .inl rfl | exact .inr rfl)) (pgs_cons (pg_name (i := 6) sc__law_meets.nd rfl (by first | exact .inl rfl | exact .inr rfl)) pgs_nil))) (pss_one (ps_if (PW.pt (pw_and (pt_cmpR op_gt (pv 3) pe_int (nomark _)) (pw_and1 (pt_cmpR (op_neD hr.units) (pe_ix ix_seq (pv 2) (pv 5) (fun _ _ => rfl)) (pe_ix ix_seq (pe_ix ix_seq (pv 0) (pv 6) (fun _ _ => rfl)) (pv 4) (fun _ _ => rfl)) (nomark _))))) (pss_one (ps_ret pe_bl)) pss_nil)))
  (pss_one (ps_ret pe_bl))))), ?_⟩
  exact sp_run (md := [false, false, false, false]) (f := b__law_meets) (fun e => (s_seq (s_if (t_test (e_op (e_cb (ea_cons (e_weak (e_c (.int 0))) (ea_cons (e_weak (e_op (e_cb (ea_cons (e_var 2) ea_nil) v_len) (e_c (.int 1)) v_sub)) ea_nil)) v_max2) (e_op (e_var 3) (e_c (.int 1)) v_sub) v_ne)) (s_ret (oe_om (o_hold (e_shr (e_c (.bl false)))))) s_pass)
  (s_seq (s_asg (oe_om (o_hold (e_shr (e_op (e_cb (ea_cons (e_var 1) ea_nil) v_len) (e_c (.int 1)) v_sub)))) (g_name (i := 4) (by decide)))
  (s_seq (s_for (fun _ => (si_enum (ea_cons (e_shr (e_free (e_var 1))) ea_nil))) (g_un (gs_cons (g_name (i := 5) (by decide)) (gs_cons (g_name (i := 6) (by decide)) gs_nil))) (s_if (t_and (t_test (e_op (e_var 3) (e_c (.int 1)) v_gt)) (t_test (e_op (e_ix (e_var 2) (e_var 5)) (e_ix (e_ix (e_var 0) (e_var 6)) (e_var 4)) v_ne))) (s_ret (oe_om (o_hold (e_shr (e_c (.bl false)))))) s_pass))
  (s_ret (oe_om (o_hold (e_shr (e_c (.bl true)))))))))) h
abbrev n__law_faces : List Str := ["shape", "level", "number", "chosen", "j", "some", "place", "piece"]
theorem sc__law_faces : FnScope n__law_faces ["shape", "level", "number"] (defScope s__law_faces) := ⟨rfl, rfl, rfl, by decide +kernel, rfl, by decide +kernel, by decide +kernel⟩
theorem ok__law_faces (T : Tx K mg C_HoleError C_NoGlue) {f : Addr} {fd : FuncData} (F : Fun K "_law_faces" "_law_faces" s__law_faces f fd) (c__law_meets : Fk P w K mg base CX0 1 "_law_meets" ["shape", "chosen", "piece", "level"] (SpG K (cls EN mg) [false, false, false, false] p__law_meets)) : FnOk P w K mg base CX0 2 f fd ["shape", "level", "number"] (SpG K (cls EN mg) [false, false, false] p__law_faces) := by
  refine F.ok sc__law_faces (fun vs H Q E h => SpG.len rfl vs H Q E h) (fun cdv A outer s H vs Q E hr h => ?_)
  refine ⟨_, (pss_cons (ps_set (i := 3) sc__law_faces.nd rfl (by first | exact .inl rfl | exact .inr rfl) (pe_lst pa_nil))
  (pss_cons (ps_for PassesOwn.never rfl (pi_range1 (by rfl) T.z_range (pa_cons (pe_op ox_add (pv 1) pe_int) pa_nil)) (pg_name (i := 4) sc__law_faces.nd rfl (by first | exact .inl rfl | exact .inr rfl)) (pss_cons (ps_set (i := 5) sc__law_faces.nd rfl (by first | exact .inl rfl | exact .inr rfl) (pe_lst pa_nil))
  (pss_cons (ps_for PassesOwn.never rfl (pi_enum (by rfl) T.z_enumerate (pa_cons (pv 0) pa_nil)) (pg_tup (by rfl) (pgs_cons (pg_name (i := 6) sc__law_faces.nd rfl (by first | exact .inl rfl | exact .inr rfl)) (pgs_cons (pg_name (i := 7) sc__law_faces.nd rfl (by first | exact .inl rfl | exact .inr rfl)) pgs_nil))) (pss_one (ps_if (pt_val (pe_fk c__law_meets hr (by decide) (by rfl) pass0 (pa_cons (pv 0) (pa_cons (pv 3) (pa_cons (pv 7) (pa_cons (pv 1) pa_nil)))))) (pss_one (ps_expr (pe_bm PySem.F.plainAttrs_list PySem.F.slot_list_append PySem.F.type_list_append mt_append (pv 5) (pa_cons (pv 6) pa_nil)))) pss_nil)))
  (pss_cons (ps_if (pt_cmpR (op_eqD hr.units) (pv 5) (pe_lst pa_nil) (nomark _)) (pss_one (ps_ret pe_non)) pss_nil)
  (pss_cons (ps_expr (pe_bm PySem.F.plainAttrs_list PySem.F.slot_list_append PySem.F.type_list_append mt_append (pv 3) (pa_cons (pe_ix ix_seq (pv 5) (pe_op op_modN (pv 2) (pe_callB cx_len (by rfl) T.z_len bt_len (by exact (pa_cons (pv 5) pa_nil)))) (fun _ _ => rfl)) pa_nil)))
  (pss_one (ps_set (i := 2) sc__law_faces.nd rfl (by first | exact .inl rfl | exact .inr rfl) (pe_op op_fdivF (pv 2) (pe_callB cx_len (by rfl) T.z_len bt_len (by exact (pa_cons (pv 5) pa_nil)))))))))))
  (pss_one (ps_ret (pe_callTy call_tuple_of (by rfl) T.z_tuple bt_tuple (by exact (pa_cons (pv 3) pa_nil))))))), ?_⟩
  exact sp_run (md := [false, false, false]) (f := b__law_faces) (fun e => (s_seq (s_asg (oe_om (o_hold (e_lst (ea_nil (m := .fre))))) (g_name (i := 3) (by decide)))
  (s_seq (s_for (fun _ => (si_rng1 (m := .fre) (ea_cons (e_weak (e_op (e_var 1) (e_c (.int 1)) v_add)) ea_nil))) (g_name (i := 4) (by decide)) (s_seq (s_asg (oe_om (o_hold (e_lst (ea_nil (m := .fre))))) (g_name (i := 5) (by decide)))
  (s_seq (s_for (fun _ => (si_enum (ea_cons (e_shr (e_free (e_var 0))) ea_nil))) (g_un (gs_cons (g_name (i := 6) (by decide)) (gs_cons (g_name (i := 7) (by decide)) gs_nil))) (s_if (t_tB (e_call rfl (ea_cons (e_var 0) (ea_cons (e_var 3) (ea_cons (e_var 7) (ea_cons (e_var 1) ea_nil)))))) (s_drop (m_append (lv_name 5) (oa_cons (o_hold (e_shr (e_free (e_var 6)))) oa_nil) (keeps_cons keep_hold keeps_nil))) s_pass))
  (s_seq (s_if (t_test (e_op (e_var 5) (e_lst (ea_nil (m := .fre))) v_eq)) (s_ret (oe_om (o_hold (e_shr (e_c .non))))) s_pass)
  (s_seq (s_drop (m_append (lv_name 3) (oa_cons (o_hold (e_shr (e_free (e_ix (e_var 5) (e_op (e_var 2) (e_cb (ea_cons (e_var 5) ea_nil) v_len) v_mod))))) oa_nil) (keeps_cons keep_hold keeps_nil)))
  (s_asg (oe_om (o_hold (e_shr (e_op (e_var 2) (e_cb (ea_cons (e_var 5) ea_nil) v_len) v_div)))) (g_name (i := 2) (by decide))))))))
  (s_ret (oe_om (o_hold (e_shr (e_cb (ea_cons (e_var 3) ea_nil) v_tuple)))))))) h
abbrev n__law_shape : List Str := ["script", "k", "many", "top", "shape", "number", "level", "faces"]
theorem sc__law_shape : FnScope n__law_shape ["script", "k", "many", "top"] (defScope s__law_shape) := ⟨rfl, rfl, rfl, by decide +kernel, rfl, by decide +kernel, by decide +kernel⟩
theorem ok__law_shape (T : Tx K mg C_HoleError C_NoGlue) {f : Addr} {fd : FuncData} (F : Fun K "_law_shape" "_law_shape" s__law_shape f fd) (c__law_row : Fk P w K mg base CX0 2 "_law_row" ["script", "k", "many", "size"] (SpG K (cls EN mg) [false, false, false, false] p__law_row)) (c__law_faces : Fk P w K mg base CX0 2 "_law_faces" ["shape", "level", "number"] (SpG K (cls EN mg) [false, false, false] p__law_faces)) : FnOk P w K mg base CX0 3 f fd ["script", "k", "many", "top"] (SpG K (cls EN mg) [false, false, false, false] p__law_shape) := by
  refine F.ok sc__law_shape (fun vs H Q E h => SpG.len rfl vs H Q E h) (fun cdv A outer s H vs Q E hr h => ?_)
  refine ⟨_, (pss_cons (ps_set (i := 4) sc__law_shape.nd rfl (by first | exact .inl rfl | exact .inr rfl) (pe_lst pa_nil))
  (pss_cons (ps_for PassesOwn.never rfl (pi_seq (pe_fk c__law_row hr (by decide) (by rfl) pass0 (pa_cons (pv 0) (pa_cons (pv 1) (pa_cons (pv 2) (pa_cons pe_int pa_nil)))))) (pg_name (i := 5) sc__law_shape.nd rfl (by first | exact .inl rfl | exact .inr rfl)) (pss_cons (ps_set (i := 6) sc__law_shape.nd rfl (by first | exact .inl rfl | exact .inr rfl) (pe_callB (call_min2 (by rfl)) (by rfl) T.z_min bt_min (by exact (pa_cons (pv 3) (pa_cons (pe_ix ix_seq (pe_lst (pa_cons pe_int (pa_cons pe_int (pa_cons pe_int (pa_cons pe_int (pa_cons pe_int (pa_cons pe_int (pa_cons pe_int (pa_cons pe_int pa_nil))))))))) (pe_op op_modN (pv 5) pe_int) (fun _ _ => rfl)) pa_nil)))))
  (pss_cons (ps_set (i := 7) sc__law_shape.nd rfl (by first | exact .inl rfl | exact .inr rfl) pe_non)
  (pss_cons (ps_if (pt_cmpR op_gt (pv 6) pe_int (nomark _)) (pss_one (ps_set (i := 7) sc__law_shape.nd rfl (by first | exact .inl rfl | exact .inr rfl) (pe_fk c__law_faces hr (by decide) (by rfl) pass0 (pa_cons (pv 4) (pa_cons (pv 6) (pa_cons (pe_op op_fdivF (pv 5) pe_int) pa_nil)))))) pss_nil)
  (pss_cons (ps_if (PW.pt (pw_and (pt_cmp (pc_isN (pv 7))) (pw_and (pt_cmpR op_gt (pe_op op_modN (pe_op op_fdivF (pv 5) pe_int) pe_int) pe_int (nomark _)) (pw_and1 (pt_cmpR op_gt (pe_callB cx_len (by rfl) T.z_len bt_len (by exact (pa_cons (pv 4) pa_nil))) pe_int (nomark _)))))) (pss_one (ps_set (i := 7) sc__law_shape.nd rfl (by first | exact .inl rfl | exact .inr rfl) (pe_fk c__law_faces hr (by decide) (by rfl) pass0 (pa_cons (pv 4) (pa_cons pe_int (pa_cons (pe_op op_fdivF (pv 5) pe_int) pa_nil)))))) pss_nil)
  (pss_cons (ps_if (pt_cmp (pc_isN (pv 7))) (pss_one (ps_set (i := 7) sc__law_shape.nd rfl (by first | exact .inl rfl | exact .inr rfl) (pe_tup pa_nil))) pss_nil)
  (pss_one (ps_expr (pe_bm PySem.F.plainAttrs_list PySem.F.slot_list_append PySem.F.type_list_append mt_append (pv 4) (pa_cons (pv 7) pa_nil))))))))))
  (pss_one (ps_ret (pv 4))))), ?_⟩
  exact sp_run (md := [false, false, false, false]) (f := b__law_shape) (fun e => (s_seq (s_asg (oe_om (o_hold (e_lst (ea_nil (m := .fre))))) (g_name (i := 4) (by decide)))
  (s_seq (s_for (fun _ => (si_seq (e_call rfl (ea_cons (e_var 0) (ea_cons (e_var 1) (ea_cons (e_var 2) (ea_cons (e_weak (e_c (.int 999983))) ea_nil))))))) (g_name (i := 5) (by decide)) (s_seq (s_asg (oe_om (o_hold (e_shr (e_cb (ea_cons (e_var 3) (ea_cons (e_weak (e_ix (e_lst (ea_cons (e_shr (e_c (.int 0))) (ea_cons (e_shr (e_c (.int 1))) (ea_cons (e_shr (e_c (.int 1))) (ea_cons (e_shr (e_c (.int 2))) (ea_cons (e_shr (e_c (.int 2))) (ea_cons (e_shr (e_c (.int 2))) (ea_cons (e_shr (e_c (.int 3))) (ea_cons (e_shr (e_c (.int 3))) (ea_nil (m := .fre))))))))))) (e_op (e_var 5) (e_c (.int 8)) v_mod))) ea_nil)) v_min2)))) (g_name (i := 6) (by decide)))
  (s_seq (s_asg (oe_om (o_hold (e_shr (e_c .non)))) (g_name (i := 7) (by decide)))
  (s_seq (s_if (t_test (e_op (e_var 6) (e_c (.int 0)) v_gt)) (s_asg (oe_om (o_call rfl (ea_cons (e_var 4) (ea_cons (e_var 6) (ea_cons (e_weak (e_op (e_var 5) (e_c (.int 8)) v_div)) ea_nil))))) (g_name (i := 7) (by decide))) s_pass)
  (s_seq (s_if (t_and (t_tB (e_isN (e_var 7))) (t_and (t_test (e_op (e_op (e_op (e_var 5) (e_c (.int 8)) v_div) (e_c (.int 4)) v_mod) (e_c (.int 0)) v_gt)) (t_test (e_op (e_cb (ea_cons (e_var 4) ea_nil) v_len) (e_c (.int 0)) v_gt)))) (s_asg (oe_om (o_call rfl (ea_cons (e_var 4) (ea_cons (e_weak (e_c (.int 1))) (ea_cons (e_weak (e_op (e_var 5) (e_c (.int 32)) v_div)) ea_nil))))) (g_name (i := 7) (by decide))) s_pass)
  (s_seq (s_if (t_tB (e_isN (e_var 7))) (s_asg (oe_om (o_hold (e_shr (e_tup (ea_nil (m := .shr)))))) (g_name (i := 7) (by decide))) s_pass)
  (s_drop (m_append (lv_name 4) (oa_cons (o_hold (e_shr (e_free (e_var 7)))) oa_nil) (keeps_cons keep_hold keeps_nil)))))))))
  (s_ret (oe_om (o_move 4)))))) h
abbrev n__law_part : List Str := ["shape", "spots", "kept", "place", "face", "old", "pieces"]
theorem sc__law_part : FnScope n__law_part ["shape", "spots"] (defScope s__law_part) := ⟨rfl, rfl, rfl, by decide +kernel, rfl, by decide +kernel, by decide +kernel⟩
theorem ok__law_part (T : Tx K mg C_HoleError C_NoGlue) {f : Addr} {fd : FuncData} (F : Fun K "_law_part" "_law_part" s__law_part f fd) : FnOk P w K mg base CX0 1 f fd ["shape", "spots"] (SpG K (cls EN mg) [false, false] p__law_part) := by
  refine F.ok sc__law_part (fun vs H Q E h => SpG.len rfl vs H Q E h) (fun cdv A outer s H vs Q E hr h => ?_)
  refine ⟨_, (pss_cons (ps_set (i := 2) sc__law_part.nd rfl (by first | exact .inl rfl | exact .inr rfl) (pe_lc (own := [("place", 3)]) (wi := (iRng1 (tCons (tCB (rLenX K) (tCons (tVar 0) tNil)) tNil))) (g := (gName 3)) (tt := tYes) (te := (tOp (rInX K false) (tVar 3) (tVar 1))) (by rfl) sc__law_part.nd (by exact (pi_range1 (by rfl) T.z_range (pa_cons (pe_callB cx_len (by rfl) T.z_len bt_len (by exact (pa_cons (pv 0) pa_nil))) pa_nil))) (blkOk_by (by kernel_rfl)) (fun _ _ _ _ _ => (pg_name (i := 3) sc__law_part.nd rfl (by first | exact .inl rfl | exact .inr rfl))) (fun _ _ _ _ _ => pts_nil) (fun _ _ _ _ _ => by exact (pe_cmpR ox_in (pv 3) (pv 1) (by with_unfolding_all rfl)))))
  (pss_cons (ps_for PassesOwn.never rfl (pi_revR (by rfl) T.z_reversed (prg_1 (by rfl) T.z_range (pe_callB cx_len (by rfl) T.z_len bt_len (by exact (pa_cons (pv 0) pa_nil))))) (pg_name (i := 3) sc__law_part.nd rfl (by first | exact .inl rfl | exact .inr rfl)) (pss_one (ps_if (pt_val (pe_ix ix_seq (pv 2) (pv 3) (fun _ _ => rfl))) (pss_one (ps_for PassesOwn.never rfl (pi_seq (pe_ix ix_seq (pv 0) (pv 3) (fun _ _ => rfl))) (pg_name (i := 4) sc__law_part.nd rfl (by first | exact .inl rfl | exact .inr rfl)) (pss_one (ps_asg pe_bl (pg_sub (pv 2) (pv 4) set_list))))) pss_nil)))
  (pss_cons (ps_set (i := 5) sc__law_part.nd rfl (by first | exact .inl rfl | exact .inr rfl) (pe_lc (own := [("place", 3)]) (wi := (iRng1 (tCons (tCB (rLenX K) (tCons (tVar 0) tNil)) tNil))) (g := (gName 3)) (tt := (tB (tOp (rIx K) (tVar 2) (tVar 3)))) (te := (tVar 3)) (by rfl) sc__law_part.nd (by exact (pi_range1 (by rfl) T.z_range (pa_cons (pe_callB cx_len (by rfl) T.z_len bt_len (by exact (pa_cons (pv 0) pa_nil))) pa_nil))) (blkOk_by (by kernel_rfl)) (fun _ _ _ _ _ => (pg_name (i := 3) sc__law_part.nd rfl (by first | exact .inl rfl | exact .inr rfl))) (fun _ _ _ _ _ => (pts_one (pt_val (pe_ix ix_seq (pv 2) (pv 3) (fun _ _ => rfl))))) (fun _ _ _ _ _ => by exact (pv 3))))
  (pss_cons (ps_set (i := 6) sc__law_part.nd rfl (by first | exact .inl rfl | exact .inr rfl) (pe_lst pa_nil))
  (pss_cons (ps_for PassesOwn.never rfl (pi_seq (pv 5)) (pg_name (i := 3) sc__law_part.nd rfl (by first | exact .inl rfl | exact .inr rfl)) (pss_one (ps_expr (pe_bm PySem.F.plainAttrs_list PySem.F.slot_list_append PySem.F.type_list_append mt_append (pv 6) (pa_cons (pe_callTy call_tuple_of (by rfl) T.z_tuple bt_tuple (by exact (pa_cons (pe_lc (own := [("face", 4)]) (wi := (iSeq K (tOp (rIx K) (tVar 0) (tVar 3)))) (g := (gName 4)) (tt := tYes) (te := (tBM K "list" (rIndex K) (tVar 5) (tCons (tVar 4) tNil))) (by rfl) sc__law_part.nd (by exact (pi_seq (pe_ix ix_seq (pv 0) (pv 3) (fun _ _ => rfl)))) (blkOk_by (by kernel_rfl)) (fun _ _ _ _ _ => (pg_name (i := 4) sc__law_part.nd rfl (by first | exact .inl rfl | exact .inr rfl))) (fun _ _ _ _ _ => pts_nil) (fun _ _ _ _ _ => by exact (pe_bm PySem.F.plainAttrs_list PySem.F.slot_list_index PySem.F.type_list_index mt_index (by exact (pv 5)) (by exact (pa_cons (pv 4) pa_nil))))) pa_nil))) pa_nil)))))
  (pss_one (ps_ret (pe_tup (pa_cons (pv 6) (pa_cons (pv 5) pa_nil)))))))))), ?_⟩
  exact sp_run (md := [false, false]) (f := b__law_part) (fun e => (s_seq (s_asg (oe_om (o_hold (e_lc (fun _ => (si_rng1 (m := .any) (ea_cons (e_weak (e_cb (ea_cons (e_var 0) ea_nil) v_len)) ea_nil))) (gx_name (i := 3) (by decide)) t_yes (e_shr (e_op (e_var 3) (e_var 1) v_in))))) (g_name (i := 2) (by decide)))
  (s_seq (s_for (fun _ => (si_revR (m := .fre) (er_1 (e_cb (ea_cons (e_var 0) ea_nil) v_len)))) (g_name (i := 3) (by decide)) (s_if (t_tB (e_ix (e_var 2) (e_var 3))) (s_for (fun _ => (si_seq (e_shr (e_free (e_ix (e_var 0) (e_var 3)))))) (g_name (i := 4) (by decide)) (s_asg (oe_om (o_hold (e_shr (e_c (.bl true))))) (g_store (lv_name 2) (e_var 4)))) s_pass))
  (s_seq (s_asg (oe_om (o_hold (e_lc (fun _ => (si_rng1 (m := .any) (ea_cons (e_weak (e_cb (ea_cons (e_var 0) ea_nil) v_len)) ea_nil))) (gx_name (i := 3) (by decide)) (t_tB (e_ix (e_var 2) (e_var 3))) (e_shr (e_free (e_var 3)))))) (g_name (i := 5) (by decide)))
  (s_seq (s_asg (oe_om (o_hold (e_lst (ea_nil (m := .fre))))) (g_name (i := 6) (by decide)))
  (s_seq (s_forS (lw_seq 5) (g_name (i := 3) (by decide)) (s_drop (m_append (lv_name 6) (oa_cons (o_hold (e_shr (e_cb (ea_cons (e_weak (e_lc (fun _ => (si_seq (e_ix (e_var 0) (e_var 3)))) (gx_name (i := 4) (by decide)) t_yes (e_shr (e_index (e_var 5) (e_var 4))))) ea_nil) v_tuple))) oa_nil) (keeps_cons keep_hold keeps_nil))))
  (s_ret (oe_om (o_tup (oa_cons (o_move 6) (oa_cons (o_move 5) oa_nil))))))))))) h
abbrev n__law_glued : List Str := ["shape", "pairs", "lots", "waiting", "one", "other", "low", "high", "lot", "face", "fellow", "firsts", "place", "pieces"]
theorem sc__law_glued : FnScope n__law_glued ["shape", "pairs"] (defScope s__law_glued) := ⟨rfl, rfl, rfl, by decide +kernel, rfl, by decide +kernel, by decide +kernel⟩
theorem ok__law_glued (T : Tx K mg C_HoleError C_NoGlue) {f : Addr} {fd : FuncData} (F : Fun K "_law_glued" "_law_glued" s__law_glued f fd) : FnOk P w K mg base CX0 1 f fd ["shape", "pairs"] (SpG K (cls EN mg) [false, false] p__law_glued) := by
  refine F.ok sc__law_glued (fun vs H Q E h => SpG.len rfl vs H Q E h) (fun cdv A outer s H vs Q E hr h => ?_)
  refine ⟨_, (pss_cons (ps_set (i := 2) sc__law_glued.nd rfl (by first | exact .inl rfl | exact .inr rfl) (pe_listRg (by rfl) (by rfl) T.z_list (prg_1 (by rfl) T.z_range (pe_callB cx_len (by rfl) T.z_len bt_len (by exact (pa_cons (pv 0) pa_nil))))))
  (pss_cons (ps_set (i := 3) sc__law_glued.nd rfl (by first | exact .inl rfl | exact .inr rfl) (pe_callTy call_list_of (by rfl) T.z_list bt_list (by exact (pa_cons (pv 1) pa_nil))))
  (pss_cons (ps_while PassesOwn.never (pt_cmpR op_gt (pe_callB cx_len (by rfl) T.z_len bt_len (by exact (pa_cons (pv 3) pa_nil))) pe_int (nomark _)) (pss_cons (ps_asg (pe_bm0 PySem.F.plainAttrs_list PySem.F.slot_list_pop PySem.F.type_list_pop mt_pop (pv 3)) (pg_tup (by rfl) (pgs_cons (pg_name (i := 4) sc__law_glued.nd rfl (by first | exact .inl rfl | exact .inr rfl)) (pgs_cons (pg_name (i := 5) sc__law_glued.nd rfl (by first | exact .inl rfl | exact .inr rfl)) pgs_nil))))
  (pss_cons (ps_set (i := 6) sc__law_glued.nd rfl (by first | exact .inl rfl | exact .inr rfl) (pe_callB (call_min2 (by rfl)) (by rfl) T.z_min bt_min (by exact (pa_cons (pe_ix ix_seq (pv 2) (pv 4) (fun _ _ => rfl)) (pa_cons (pe_ix ix_seq (pv 2) (pv 5) (fun _ _ => rfl)) pa_nil)))))
  (pss_cons (ps_set (i := 7) sc__law_glued.nd rfl (by first | exact .inl rfl | exact .inr rfl) (pe_callB (call_max2 (by rfl)) (by rfl) T.z_max bt_max (by exact (pa_cons (pe_ix ix_seq (pv 2) (pv 4) (fun _ _ => rfl)) (pa_cons (pe_ix ix_seq (pv 2) (pv 5) (fun _ _ => rfl)) pa_nil)))))
  (pss_one (ps_if (pt_cmpR (op_neD hr.units) (pv 6) (pv 7) (nomark _)) (pss_cons (ps_set (i := 2) sc__law_glued.nd rfl (by first | exact .inl rfl | exact .inr rfl) (pe_lc (own := [("lot", 8)]) (wi := (iSeq K (tVar 2))) (g := (gName 8)) (tt := tYes) (te := (tIf (tTest (tOp (rEqD K) (tVar 8) (tVar 7))) (tVar 6) (tVar 8))) (by rfl) sc__law_glued.nd (by exact (pi_seq (pv 2))) (blkOk_by (by kernel_rfl)) (fun _ _ _ _ _ => (pg_name (i := 8) sc__law_glued.nd rfl (by first | exact .inl rfl | exact .inr rfl))) (fun _ _ _ _ _ => pts_nil) (fun _ _ _ _ _ => by exact (pe_ifExp (pt_cmpR (op_eqD hr.units) (pv 8) (pv 7) (nomark _)) (pv 6) (pv 8)))))
  (pss_one (ps_for PassesOwn.never rfl (RZ.pi_zipA (by rfl) T.z_zip (pa_cons (pe_ix ix_seq (pv 0) (pv 4) (fun _ _ => rfl)) (pa_cons (pe_ix ix_seq (pv 0) (pv 5) (fun _ _ => rfl)) pa_nil))) (pg_tup (by rfl) (pgs_cons (pg_name (i := 9) sc__law_glued.nd rfl (by first | exact .inl rfl | exact .inr rfl)) (pgs_cons (pg_name (i := 10) sc__law_glued.nd rfl (by first | exact .inl rfl | exact .inr rfl)) pgs_nil))) (pss_one (ps_expr (pe_bm PySem.F.plainAttrs_list PySem.F.slot_list_append PySem.F.type_list_append mt_append (pv 3) (pa_cons (pe_tup (pa_cons (pv 9) (pa_cons (pv 10) pa_nil))) pa_nil))))))) pss_nil))))))
  (pss_cons (ps_set (i := 11) sc__law_glued.nd rfl (by first | exact .inl rfl | exact .inr rfl) (pe_lc (own := [("place", 12)]) (wi := (iRng1 (tCons (tCB (rLenX K) (tCons (tVar 0) tNil)) tNil))) (g := (gName 12)) (tt := (tTest (tOp (rEqD K) (tOp (rIx K) (tVar 2) (tVar 12)) (tVar 12)))) (te := (tVar 12)) (by rfl) sc__law_glued.nd (by exact (pi_range1 (by rfl) T.z_range (pa_cons (pe_callB cx_len (by rfl) T.z_len bt_len (by exact (pa_cons (pv 0) pa_nil))) pa_nil))) (blkOk_by (by kernel_rfl)) (fun _ _ _ _ _ => (pg_name (i := 12) sc__law_glued.nd rfl (by first | exact .inl rfl | exact .inr rfl))) (fun _ _ _ _ _ => (pts_one (pt_cmpR (op_eqD hr.units) (pe_ix ix_seq (pv 2) (pv 12) (fun _ _ => rfl)) (pv 12) (nomark _)))) (fun _ _ _ _ _ => by exact (pv 12))))
  (pss_cons (ps_set (i := 13) sc__law_glued.nd rfl (by first | exact .inl rfl | exact .inr rfl) (pe_lst pa_nil))
  (pss_cons (ps_for PassesOwn.never rfl (pi_seq (pv 11)) (pg_name (i := 12) sc__law_glued.nd rfl (by first | exact .inl rfl | exact .inr rfl)) (pss_one (ps_expr (pe_bm PySem.F.plainAttrs_list PySem.F.slot_list_append PySem.F.type_list_append mt_append (pv 13) (pa_cons (pe_callTy call_tuple_of (by rfl) T.z_tuple bt_tuple (by exact (pa_cons (pe_lc (own := [("face", 9)]) (wi := (iSeq K (tOp (rIx K) (tVar 0) (tVar 12)))) (g := (gName 9)) (tt := tYes) (te := (tBM K "list" (rIndex K) (tVar 11) (tCons (tOp (rIx K) (tVar 2) (tVar 9)) tNil))) (by rfl) sc__law_glued.nd (by exact (pi_seq (pe_ix ix_seq (pv 0) (pv 12) (fun _ _ => rfl)))) (blkOk_by (by kernel_rfl)) (fun _ _ _ _ _ => (pg_name (i := 9) sc__law_glued.nd rfl (by first | exact .inl rfl | exact .inr rfl))) (fun _ _ _ _ _ => pts_nil) (fun _ _ _ _ _ => by exact (pe_bm PySem.F.plainAttrs_list PySem.F.slot_list_index PySem.F.type_list_index mt_index (by exact (pv 11)) (by exact (pa_cons (pe_ix ix_seq (pv 2) (pv 9) (fun _ _ => rfl)) pa_nil))))) pa_nil))) pa_nil)))))
  (pss_one (ps_ret (pe_tup (pa_cons (pv 13) (pa_cons (pe_lc (own := [("lot", 8)]) (wi := (iSeq K (tVar 2))) (g := (gName 8)) (tt := tYes) (te := (tBM K "list" (rIndex K) (tVar 11) (tCons (tVar 8) tNil))) (by rfl) sc__law_glued.nd (by exact (pi_seq (pv 2))) (blkOk_by (by kernel_rfl)) (fun _ _ _ _ _ => (pg_name (i := 8) sc__law_glued.nd rfl (by first | exact .inl rfl | exact .inr rfl))) (fun _ _ _ _ _ => pts_nil) (fun _ _ _ _ _ => by exact (pe_bm PySem.F.plainAttrs_list PySem.F.slot_list_index PySem.F.type_list_index mt_index (by exact (pv 11)) (by exact (pa_cons (pv 8) pa_nil))))) pa_nil))))))))))), ?_⟩
  exact sp_run (md := [false, false]) (f := b__law_glued) (fun e => (s_seq (s_asg (oe_om (o_hold (e_listR (er_1 (e_cb (ea_cons (e_var 0) ea_nil) v_len))))) (g_name (i := 2) (by decide)))
  (s_seq (s_asg (oe_om (o_hold (e_cb (ea_cons (e_var 1) ea_nil) v_list))) (g_name (i := 3) (by decide)))
  (s_seq (s_while (n := 100000) (t_test (e_op (e_cb (ea_cons (e_var 3) ea_nil) v_len) (e_c (.int 0)) v_gt)) (s_seq (s_asg (m_pop (lv_name 3)) (g_un (gs_cons (g_name (i := 4) (by decide)) (gs_cons (g_name (i := 5) (by decide)) gs_nil))))
  (s_seq (s_asg (oe_om (o_hold (e_shr (e_cb (ea_cons (e_ix (e_var 2) (e_var 4)) (ea_cons (e_ix (e_var 2) (e_var 5)) ea_nil)) v_min2)))) (g_name (i := 6) (by decide)))
  (s_seq (s_asg (oe_om (o_hold (e_shr (e_cb (ea_cons (e_ix (e_var 2) (e_var 4)) (ea_cons (e_ix (e_var 2) (e_var 5)) ea_nil)) v_max2)))) (g_name (i := 7) (by decide)))
  (s_if (t_test (e_op (e_var 6) (e_var 7) v_ne)) (s_seq (s_asg (oe_om (o_hold (e_lc (fun _ => (si_seq (e_var 2))) (gx_name (i := 8) (by decide)) t_yes (e_shr (e_free (e_if (t_test (e_op (e_var 8) (e_var 7) v_eq)) (e_var 6) (e_var 8))))))) (g_name (i := 2) (by decide)))
  (s_for (fun _ => (si_zip (ea_cons (e_shr (e_free (e_ix (e_var 0) (e_var 4)))) (ea_cons (e_shr (e_free (e_ix (e_var 0) (e_var 5)))) ea_nil)))) (g_un (gs_cons (g_name (i := 9) (by decide)) (gs_cons (g_name (i := 10) (by decide)) gs_nil))) (s_drop (m_append (lv_name 3) (oa_cons (o_hold (e_tup (ea_cons (e_shr (e_free (e_var 9))) (ea_cons (e_shr (e_free (e_var 10))) (ea_nil (m := .fre)))))) oa_nil) (keeps_cons keep_hold keeps_nil))))) s_pass)))))
  (s_seq (s_asg (oe_om (o_hold (e_lc (fun _ => (si_rng1 (m := .any) (ea_cons (e_weak (e_cb (ea_cons (e_var 0) ea_nil) v_len)) ea_nil))) (gx_name (i := 12) (by decide)) (t_test (e_op (e_ix (e_var 2) (e_var 12)) (e_var 12) v_eq)) (e_shr (e_free (e_var 12)))))) (g_name (i := 11) (by decide)))
  (s_seq (s_asg (oe_om (o_hold (e_lst (ea_nil (m := .fre))))) (g_name (i := 13) (by decide)))
  (s_seq (s_forS (lw_seq 11) (g_name (i := 12) (by decide)) (s_drop (m_append (lv_name 13) (oa_cons (o_hold (e_shr (e_cb (ea_cons (e_weak (e_lc (fun _ => (si_seq (e_ix (e_var 0) (e_var 12)))) (gx_name (i := 9) (by decide)) t_yes (e_shr (e_index (e_var 11) (e_ix (e_var 2) (e_var 9)))))) ea_nil) v_tuple))) oa_nil) (keeps_cons keep_hold keeps_nil))))
  (s_ret (oe_om (o_tup (oa_cons (o_move 13) (oa_cons (o_hold (e_lc (fun _ => (si_seq (e_var 2))) (gx_name (i := 8) (by decide)) t_yes (e_shr (e_index (e_var 11) (e_var 8))))) oa_nil)))))))))))) h
abbrev n__law_pairs : List Str := ["script", "shape", "many", "points", "pairs", "number", "one", "alike", "place", "piece"]
theorem sc__law_pairs : FnScope n__law_pairs ["script", "shape", "many", "points"] (defScope s__law_pairs) := ⟨rfl, rfl, rfl, by decide +kernel, rfl, by decide +kernel, by decide +kernel⟩
theorem ok__law_pairs (T : Tx K mg C_HoleError C_NoGlue) {f : Addr} {fd : FuncData} (F : Fun K "_law_pairs" "_law_pairs" s__law_pairs f fd) (c__law_row : Fk P w K mg base CX0 2 "_law_row" ["script", "k", "many", "size"] (SpG K (cls EN mg) [false, false, false, false] p__law_row)) : FnOk P w K mg base CX0 3 f fd ["script", "shape", "many", "points"] (SpG K (cls EN mg) [false, false, false, false] p__law_pairs) := by
  refine F.ok sc__law_pairs (fun vs H Q E h => SpG.len rfl vs H Q E h) (fun cdv A outer s H vs Q E hr h => ?_)
  refine ⟨_, (pss_cons (ps_set (i := 4) sc__law_pairs.nd rfl (by first | exact .inl rfl | exact .inr rfl) (pe_lst pa_nil))
  (pss_cons (ps_for PassesOwn.never rfl (pi_seq (pe_fk c__law_row hr (by decide) (by rfl) pass0 (pa_cons (pv 0) (pa_cons pe_int (pa_cons (pv 2) (pa_cons pe_int pa_nil)))))) (pg_name (i := 5) sc__law_pairs.nd rfl (by first | exact .inl rfl | exact .inr rfl)) (pss_cons (ps_set (i := 6) sc__law_pairs.nd rfl (by first | exact .inl rfl | exact .inr rfl) (pe_op op_modN (pv 5) (pe_callB cx_len (by rfl) T.z_len bt_len (by exact (pa_cons (pv 1) pa_nil)))))
  (pss_cons (ps_if (PW.pt (pw_and (pt_val (pv 3)) (pw_and1 (pt_cmpR (op_neD hr.units) (pe_ix ix_seq (pv 1) (pv 6) (fun _ _ => rfl)) (pe_tup pa_nil) (nomark _))))) (pss_one (ps_set (i := 6) sc__law_pairs.nd rfl (by first | exact .inl rfl | exact .inr rfl) pe_int)) pss_nil)
  (pss_cons (ps_set (i := 7) sc__law_pairs.nd rfl (by first | exact .inl rfl | exact .inr rfl) (pe_lst pa_nil))
  (pss_cons (ps_for PassesOwn.never rfl (pi_enum (by rfl) T.z_enumerate (pa_cons (pv 1) pa_nil)) (pg_tup (by rfl) (pgs_cons (pg_name (i := 8) sc__law_pairs.nd rfl (by first | exact .inl rfl | exact .inr rfl)) (pgs_cons (pg_name (i := 9) sc__law_pairs.nd rfl (by first | exact .inl rfl | exact .inr rfl)) pgs_nil))) (pss_one (ps_if (pt_cmpR (op_eqD hr.units) (pe_callB cx_len (by rfl) T.z_len bt_len (by exact (pa_cons (pv 9) pa_nil))) (pe_callB cx_len (by rfl) T.z_len bt_len (by exact (pa_cons (pe_ix ix_seq (pv 1) (pv 6) (fun _ _ => rfl)) pa_nil))) (nomark _)) (pss_one (ps_expr (pe_bm PySem.F.plainAttrs_list PySem.F.slot_list_append PySem.F.type_list_append mt_append (pv 7) (pa_cons (pv 8) pa_nil)))) pss_nil)))
  (pss_one (ps_expr (pe_bm PySem.F.plainAttrs_list PySem.F.slot_list_append PySem.F.type_list_append mt_append (pv 4) (pa_cons (pe_tup (pa_cons (pv 6) (pa_cons (pe_ix ix_seq (pv 7) (pe_op op_modN (pe_op op_fdivF (pv 5) pe_int) (pe_callB cx_len (by rfl) T.z_len bt_len (by exact (pa_cons (pv 7) pa_nil)))) (fun _ _ => rfl)) pa_nil))) pa_nil)))))))))
  (pss_one (ps_ret (pv 4))))), ?_⟩
  exact sp_run (md := [false, false, false, false]) (f := b__law_pairs) (fun e => (s_seq (s_asg (oe_om (o_hold (e_lst (ea_nil (m := .fre))))) (g_name (i := 4) (by decide)))
  (s_seq (s_for (fun _ => (si_seq (e_call rfl (ea_cons (e_var 0) (ea_cons (e_weak (e_c (.int 3))) (ea_cons (e_var 2) (ea_cons (e_weak (e_c (.int 999983))) ea_nil))))))) (g_name (i := 5) (by decide)) (s_seq (s_asg (oe_om (o_hold (e_shr (e_op (e_var 5) (e_cb (ea_cons (e_var 1) ea_nil) v_len) v_mod)))) (g_name (i := 6) (by decide)))
  (s_seq (s_if (t_and (t_tB (e_var 3)) (t_test (e_op (e_ix (e_var 1) (e_var 6)) (e_tup (ea_nil (m := .shr))) v_ne))) (s_asg (oe_om (o_hold (e_shr (e_c (.int 0))))) (g_name (i := 6) (by decide))) s_pass)
  (s_seq (s_asg (oe_om (o_hold (e_lst (ea_nil (m := .fre))))) (g_name (i := 7) (by decide)))
  (s_seq (s_for (fun _ => (si_enum (ea_cons (e_shr (e_free (e_var 1))) ea_nil))) (g_un (gs_cons (g_name (i := 8) (by decide)) (gs_cons (g_name (i := 9) (by decide)) gs_nil))) (s_if (t_test (e_op (e_cb (ea_cons (e_var 9) ea_nil) v_len) (e_cb (ea_cons (e_ix (e_var 1) (e_var 6)) ea_nil) v_len) v_eq)) (s_drop (m_append (lv_name 7) (oa_cons (o_hold (e_shr (e_free (e_var 8)))) oa_nil) (keeps_cons keep_hold keeps_nil))) s_pass))
  (s_drop (m_append (lv_name 4) (oa_cons (o_hold (e_tup (ea_cons (e_shr (e_free (e_var 6))) (ea_cons (e_shr (e_free (e_ix (e_var 7) (e_op (e_op (e_var 5) (e_c (.int 64)) v_div) (e_cb (ea_cons (e_var 7) ea_nil) v_len) v_mod)))) (ea_nil (m := .fre)))))) oa_nil) (keeps_cons keep_hold keeps_nil))))))))
  (s_ret (oe_om (o_move 4)))))) h
abbrev n__law_refused : List Str := ["shape", "spots", "pairs", "way", "met", "e"]
theorem sc__law_refused : FnScope n__law_refused ["shape", "spots", "pairs"] (defScope s__law_refused) := ⟨rfl, rfl, rfl, by decide +kernel, rfl, by decide +kernel, by decide +kernel⟩
theorem ok__law_refused (T : Tx K mg C_HoleError C_NoGlue) {f : Addr} {fd : FuncData} (F : Fun K "_law_refused" "_law_refused" s__law_refused f fd) (c_part : Fk P w K mg base (L2.CX P w) 3 "part" ["shape", "spots"] (SpG K (cls EN mg) [false, false] p_part)) (c_glued : Fk P w K mg base (L2.CX P w) 4 "glued" ["shape", "pairs"] (SpG K (cls EN mg) [false, false] p_glued)) : FnOk P w K mg base CX0 5 f fd ["shape", "spots", "pairs"] (SpG K (cls EN mg) [false, false, false] p__law_refused) := by
  refine F.ok sc__law_refused (fun vs H Q E h => SpG.len rfl vs H Q E h) (fun cdv A outer s H vs Q E hr h => ?_)
  refine ⟨_, (pss_cons (ps_for PassesOwn.never rfl (pi_range1 (by rfl) T.z_range (pa_cons pe_int pa_nil)) (pg_name (i := 3) sc__law_refused.nd rfl (by first | exact .inl rfl | exact .inr rfl)) (pss_cons (ps_set (i := 4) sc__law_refused.nd rfl (by first | exact .inl rfl | exact .inr rfl) pe_non)
  (pss_cons (ps_try_asT (i := 5) (tb := fun W => (tIfS (tTest (tOp (rEqD K) (tVar 3) (tC (.int 0)))) (tDrop (tCallS (SpG K (cls EN mg) [false, false] p_part) (WE W) (tCons (tVar 0) (tCons (tVar 1) tNil)))) (tDrop (tCallS (SpG K (cls EN mg) [false, false] p_glued) (WE W) (tCons (tVar 0) (tCons (tVar 2) tNil)))))) (ts := (tAsg (tVar 5) (gName 4))) (Wout := fun _ _ _ _ => False) rfl rfl rfl sc__law_refused.nd rfl rfl ⟨rfl, by decide, Or.inl T.g_HoleError⟩ takes0 (fun W pn xe tk po => (pss_one (ps_if (pt_cmpR (op_eqD hr.units) (pv 3) pe_int (nomark _)) (pss_one (ps_expr (pe_fkS c_part hr (by decide) (by rfl) tk (pa_cons (pv 0) (pa_cons (pv 1) pa_nil))))) (pss_one (ps_expr (pe_fkS c_glued hr (by decide) (by rfl) tk (pa_cons (pv 0) (pa_cons (pv 2) pa_nil)))))))) (fun a pn => (pss_one (ps_set (i := 4) sc__law_refused.nd rfl (by first | exact .inl rfl | exact .inr rfl) (pv 5)))))
  (pss_one (ps_if (PW.pt (pw_or (pt_not (pt_val (pe_callB call_isA (by rfl) T.z_isinstance bt_isinstance (pa_cons (pv 4) (pa_cons (pe_glob (v := .ref C_NoGlue) (by rfl) T.g_NoGlue rfl) pa_nil))))) (pw_or1 (pt_not (pt_val (pe_callB call_isA (by rfl) T.z_isinstance bt_isinstance (pa_cons (pv 4) (pa_cons (pe_bltn (v := .ty "ValueError") (by rfl) T.z_ValueError bt_ValueError rfl) pa_nil)))))))) (pss_one (ps_ret pe_bl)) pss_nil)))))
  (pss_one (ps_ret pe_bl))), ?_⟩
  exact sp_runN (md := [false, false, false]) (f := b__law_refused) (fun e => (s_seq (s_for (fun _ => (si_rng1 (m := .fre) (ea_cons (e_weak (e_c (.int 2))) ea_nil))) (g_name (i := 3) (by decide)) (s_seq (s_asg (oe_om (o_hold (e_shr (e_c .non)))) (g_name (i := 4) (by decide)))
  (s_seq (s_try (hit := hitF_HoleError) (by decide) (hit_HoleError T) (fun _ => (s_if (t_test (e_op (e_var 3) (e_c (.int 0)) v_eq)) (s_callX rfl (ea_cons (e_var 0) (ea_cons (e_var 1) ea_nil))) (s_callX rfl (ea_cons (e_var 0) (ea_cons (e_var 2) ea_nil))))) (s_asg (oe_om (o_hold (e_shr (e_free (e_var 5))))) (g_name (i := 4) (by decide))))
  (s_if (t_or (t_not (t_tB (x_isC (isE := i_NoGlue) (e_is_NoGlue T) (e_var 4)))) (t_not (t_tB (x_isTE "ValueError" (isE := i_ValueError) (e_is_ValueError T) (e_var 4))))) (s_ret (oe_om (o_hold (e_shr (e_c (.bl false)))))) s_pass))))
  (s_ret (oe_om (o_hold (e_shr (e_c (.bl true)))))))) h
abbrev n__law_none : List Str := ["number", "size", "thing", "pair"]
theorem sc__law_none : FnScope n__law_none ["number", "size"] (defScope s__law_none) := ⟨rfl, rfl, rfl, by decide +kernel, rfl, by decide +kernel, by decide +kernel⟩
theorem ok__law_none (T : Tx K mg C_HoleError C_NoGlue) {f : Addr} {fd : FuncData} (F : Fun K "_law_none" "_law_none" s__law_none f fd) : FnOk P w K mg base CX0 1 f fd ["number", "size"] (SpG K (cls EN mg) [false, false] p__law_none) := by
  refine F.ok sc__law_none (fun vs H Q E h => SpG.len rfl vs H Q E h) (fun cdv A outer s H vs Q E hr h => ?_)
  refine ⟨_, (pss_cons (ps_set (i := 2) sc__law_none.nd rfl (by first | exact .inl rfl | exact .inr rfl) (pe_ix ix_seq (pe_lst (pa_cons (pv 1) (pa_cons (pe_op op_sub pe_int pe_int) (pa_cons pe_bl (pa_cons pe_non (pa_cons pe_str (pa_cons (pe_tup (pa_cons pe_int pa_nil)) (pa_cons (pe_lst (pa_cons pe_int pa_nil)) (pa_cons (pe_op op_pow pe_int pe_int) pa_nil))))))))) (pe_op op_modN (pv 0) pe_int) (fun _ _ => rfl)))
  (pss_cons (ps_set (i := 3) sc__law_none.nd rfl (by first | exact .inl rfl | exact .inr rfl) (pe_ix ix_seq (pe_lst (pa_cons (pe_tup (pa_cons pe_int (pa_cons (pv 2) pa_nil))) (pa_cons (pe_tup (pa_cons (pv 2) (pa_cons pe_int pa_nil))) (pa_cons (pe_tup (pa_cons pe_int (pa_cons pe_int (pa_cons pe_int pa_nil)))) (pa_cons (pe_lst (pa_cons pe_int (pa_cons pe_int pa_nil))) (pa_cons (pe_tup (pa_cons pe_int pa_nil)) (pa_cons (pv 2) pa_nil))))))) (pe_op op_modN (pe_op op_fdivF (pv 0) pe_int) pe_int) (fun _ _ => rfl)))
  (pss_one (ps_ret (pe_tup (pa_cons (pv 2) (pa_cons (pv 3) pa_nil))))))), ?_⟩
  exact sp_run (md := [false, false]) (f := b__law_none) (fun e => (s_seq (s_asg (oe_om (o_hold (e_ix (e_lst (ea_cons (e_shr (e_free (e_var 1))) (ea_cons (e_shr (e_op (e_c (.int 0)) (e_c (.int 1)) v_sub)) (ea_cons (e_shr (e_c (.bl true))) (ea_cons (e_shr (e_c .non)) (ea_cons (e_shr (e_c (.str "0"))) (ea_cons (e_shr (e_tup (ea_cons (e_c (.int 0)) (ea_nil (m := .shr))))) (ea_cons (e_lst (ea_cons (e_shr (e_c (.int 0))) (ea_nil (m := .fre)))) (ea_cons (e_shr (e_op (e_c (.int 10)) (e_c (.int 30)) v_pow)) (ea_nil (m := .fre))))))))))) (e_op (e_var 0) (e_c (.int 8)) v_mod)))) (g_name (i := 2) (by decide)))
  (s_seq (s_fz (i := 2) (s_asg (oe_om (o_hold (e_ix (e_lst (ea_cons (e_tup (ea_cons (e_shr (e_c (.int 0))) (ea_cons (e_shr (e_free (e_var 2))) (ea_nil (m := .fre))))) (ea_cons (e_tup (ea_cons (e_shr (e_free (e_var 2))) (ea_cons (e_shr (e_c (.int 0))) (ea_nil (m := .fre))))) (ea_cons (e_shr (e_tup (ea_cons (e_c (.int 0)) (ea_cons (e_c (.int 0)) (ea_cons (e_c (.int 0)) (ea_nil (m := .shr))))))) (ea_cons (e_lst (ea_cons (e_shr (e_c (.int 0))) (ea_cons (e_shr (e_c (.int 0))) (ea_nil (m := .fre))))) (ea_cons (e_shr (e_tup (ea_cons (e_c (.int 0)) (ea_nil (m := .shr))))) (ea_cons (e_shr (e_free (e_var 2))) (ea_nil (m := .fre))))))))) (e_op (e_op (e_var 0) (e_c (.int 8)) v_div) (e_c (.int 6)) v_mod)))) (g_name (i := 3) (by decide))))
  (s_ret (oe_om (o_tup (oa_cons (o_move 2) (oa_cons (o_move 3) oa_nil)))))))) h
abbrev n_law : List Str := ["script", "a", "b", "c", "d", "shape", "spots", "number", "pairs", "handed", "turn", "found", "made", "thing", "pair", "spot", "at"]
theorem sc_law : FnScope n_law ["script"] (defScope s_law) := ⟨rfl, rfl, rfl, by decide +kernel, rfl, by decide +kernel, by decide +kernel⟩
theorem ok_law (T : Tx K mg C_HoleError C_NoGlue) {f : Addr} {fd : FuncData} (F : Fun K "law" "law" s_law f fd) (c__law_row : Fk P w K mg base CX0 2 "_law_row" ["script", "k", "many", "size"] (SpG K (cls EN mg) [false, false, false, false] p__law_row)) (c__law_shape : Fk P w K mg base CX0 3 "_law_shape" ["script", "k", "many", "top"] (SpG K (cls EN mg) [false, false, false, false] p__law_shape)) (c__law_pairs : Fk P w K mg base CX0 3 "_law_pairs" ["script", "shape", "many", "points"] (SpG K (cls EN mg) [false, false, false, false] p__law_pairs)) (c_part : Fk P w K mg base (L2.CX P w) 3 "part" ["shape", "spots"] (SpG K (cls EN mg) [false, false] p_part)) (c_glued : Fk P w K mg base (L2.CX P w) 4 "glued" ["shape", "pairs"] (SpG K (cls EN mg) [false, false] p_glued)) (c__law_part : Fk P w K mg base CX0 1 "_law_part" ["shape", "spots"] (SpG K (cls EN mg) [false, false] p__law_part)) (c__law_glued : Fk P w K mg base CX0 1 "_law_glued" ["shape", "pairs"] (SpG K (cls EN mg) [false, false] p__law_glued)) (c__law_none : Fk P w K mg base CX0 1 "_law_none" ["number", "size"] (SpG K (cls EN mg) [false, false] p__law_none)) (c__law_refused : Fk P w K mg base CX0 5 "_law_refused" ["shape", "spots", "pairs"] (SpG K (cls EN mg) [false, false, false] p__law_refused)) : FnOk P w K mg base CX0 6 f fd ["script"] (SpG K (cls EN mg) [false] p_law) := by
  refine F.ok sc_law (fun vs H Q E h => SpG.len rfl vs H Q E h) (fun cdv A outer s H vs Q E hr h => ?_)
  refine ⟨_, (pss_cons (ps_asg (pe_fk c__law_row hr (by decide) (by rfl) pass0 (pa_cons (pv 0) (pa_cons pe_int (pa_cons pe_int (pa_cons pe_int pa_nil))))) (pg_unl (by rfl) (pgs_cons (pg_name (i := 1) sc_law.nd rfl (by first | exact .inl rfl | exact .inr rfl)) (pgs_cons (pg_name (i := 2) sc_law.nd rfl (by first | exact .inl rfl | exact .inr rfl)) (pgs_cons (pg_name (i := 3) sc_law.nd rfl (by first | exact .inl rfl | exact .inr rfl)) (pgs_cons (pg_name (i := 4) sc_law.nd rfl (by first | exact .inl rfl | exact .inr rfl)) pgs_nil))))))
  (pss_cons (ps_set (i := 5) sc_law.nd rfl (by first | exact .inl rfl | exact .inr rfl) (pe_fk c__law_shape hr (by decide) (by rfl) pass0 (pa_cons (pv 0) (pa_cons pe_int (pa_cons (pe_op ox_add pe_int (pe_op op_modN (pv 1) pe_int)) (pa_cons pe_int pa_nil))))))
  (pss_cons (ps_setLc (i := 6) (own := [("number", 7)]) (wi := (iSeq K (tCall (SpG K (cls EN mg) [false, false, false, false] p__law_row) [] E0 (tCons (tVar 0) (tCons (tC (.int 2)) (tCons (tOp rModX (tVar 2) (tC (.int 101))) (tCons (tC (.int 999983)) tNil))))))) (g := (gName 7)) (tt := tYes) (te := (tOp rModX (tVar 7) (tCB (rLenX K) (tCons (tVar 5) tNil)))) (by rfl) sc_law.nd rfl rfl (sw_true rfl rfl rfl (by decide +kernel)) (by exact (pi_seq (pe_fk c__law_row hr (by decide) (by rfl) pass0 (pa_cons (pv 0) (pa_cons pe_int (pa_cons (pe_op op_modN (pv 2) pe_int) (pa_cons pe_int pa_nil))))))) (blkOk_by (by kernel_rfl)) (fun _ _ _ _ _ => (pg_name (i := 7) sc_law.nd rfl (by first | exact .inl rfl | exact .inr rfl))) (fun _ _ _ _ _ => pts_nil) (fun _ _ _ _ _ => by exact (pe_op op_modN (pv 7) (pe_callB cx_len (by rfl) T.z_len bt_len (by exact (pa_cons (pv 5) pa_nil))))))
  (pss_cons (ps_set (i := 8) sc_law.nd rfl (by first | exact .inl rfl | exact .inr rfl) (pe_fk c__law_pairs hr (by decide) (by rfl) pass0 (pa_cons (pv 0) (pa_cons (pv 5) (pa_cons (pe_op op_modN (pv 3) pe_int) (pa_cons (pe_cmpR (op_eqD hr.units) (pe_op op_modN (pv 4) pe_int) pe_int (nomark _)) pa_nil))))))
  (pss_cons (ps_set (i := 9) sc_law.nd rfl (by first | exact .inl rfl | exact .inr rfl) (pe_lst (pa_cons (pe_callTy call_list_of (by rfl) T.z_list bt_list (by exact (pa_cons (pv 5) pa_nil))) (pa_cons (pe_callTy call_list_of (by rfl) T.z_list bt_list (by exact (pa_cons (pv 6) pa_nil))) (pa_cons (pe_callTy call_list_of (by rfl) T.z_list bt_list (by exact (pa_cons (pv 8) pa_nil))) pa_nil)))))
  (pss_cons (ps_for PassesOwn.never rfl (pi_range1 (by rfl) T.z_range (pa_cons pe_int pa_nil)) (pg_name (i := 10) sc_law.nd rfl (by first | exact .inl rfl | exact .inr rfl)) (pss_cons (ps_set (i := 11) sc_law.nd rfl (by first | exact .inl rfl | exact .inr rfl) (pe_fk c_part hr (by decide) (by rfl) passL (pa_cons (pe_ix ix_seq (pv 9) pe_int (fun _ _ => rfl)) (pa_cons (pe_ix ix_seq (pv 9) pe_int (fun _ _ => rfl)) pa_nil))))
  (pss_cons (ps_set (i := 12) sc_law.nd rfl (by first | exact .inl rfl | exact .inr rfl) (pe_fk c_glued hr (by decide) (by rfl) passL (pa_cons (pe_ix ix_seq (pv 9) pe_int (fun _ _ => rfl)) (pa_cons (pe_ix ix_seq (pv 9) pe_int (fun _ _ => rfl)) pa_nil))))
  (pss_cons (ps_if (PW.pt (pw_or (pt_cmpR (op_neD hr.units) (pv 11) (pe_fk c__law_part hr (by decide) (by rfl) pass0 (pa_cons (pv 5) (pa_cons (pv 6) pa_nil))) (nomark _)) (pw_or1 (pt_cmpR (op_neD hr.units) (pv 12) (pe_fk c__law_glued hr (by decide) (by rfl) pass0 (pa_cons (pv 5) (pa_cons (pv 8) pa_nil))) (nomark _))))) (pss_one (ps_ret pe_bl)) pss_nil)
  (pss_cons (ps_if (PW.pt (pw_or (pt_not (pt_val (pe_callB call_isA (by rfl) T.z_isinstance bt_isinstance (pa_cons (pe_ix ix_seq (pv 11) pe_int (fun _ _ => rfl)) (pa_cons (pe_bltn (v := .ty "list") (by rfl) T.z_list bt_list rfl) pa_nil))))) (pw_or1 (pt_not (pt_val (pe_callB call_isA (by rfl) T.z_isinstance bt_isinstance (pa_cons (pe_ix ix_seq (pv 12) pe_int (fun _ _ => rfl)) (pa_cons (pe_bltn (v := .ty "list") (by rfl) T.z_list bt_list rfl) pa_nil)))))))) (pss_one (ps_ret pe_bl)) pss_nil)
  (pss_cons (ps_if (pt_cmpR (op_neD hr.units) (pv 9) (pe_lst (pa_cons (pv 5) (pa_cons (pv 6) (pa_cons (pv 8) pa_nil)))) (nomark _)) (pss_one (ps_ret pe_bl)) pss_nil)
  (pss_cons (ps_expr (pe_bm0 PySem.F.plainAttrs_list PySem.F.slot_list_clear PySem.F.type_list_clear mt_clear (pe_ix ix_seq (pv 11) pe_int (fun _ _ => rfl))))
  (pss_cons (ps_expr (pe_bm PySem.F.plainAttrs_list PySem.F.slot_list_append PySem.F.type_list_append mt_append (pe_ix ix_seq (pv 12) pe_int (fun _ _ => rfl)) (pa_cons (pe_tup pa_nil) pa_nil)))
  (pss_one (ps_expr (pe_bm0 PySem.F.plainAttrs_list PySem.F.slot_list_clear PySem.F.type_list_clear mt_clear (pe_ix ix_seq (pv 12) pe_int (fun _ _ => rfl)))))))))))))
  (pss_cons (ps_asg (pe_fk c__law_none hr (by decide) (by rfl) pass0 (pa_cons (pe_op op_fdivF (pv 4) pe_int) (pa_cons (pe_callB cx_len (by rfl) T.z_len bt_len (by exact (pa_cons (pv 5) pa_nil))) pa_nil))) (pg_tup (by rfl) (pgs_cons (pg_name (i := 13) sc_law.nd rfl (by first | exact .inl rfl | exact .inr rfl)) (pgs_cons (pg_name (i := 14) sc_law.nd rfl (by first | exact .inl rfl | exact .inr rfl)) pgs_nil))))
  (pss_cons (ps_set (i := 15) sc_law.nd rfl (by first | exact .inl rfl | exact .inr rfl) (pe_op op_modN (pe_op op_fdivF (pv 4) pe_int) (pe_op ox_add (pe_callB cx_len (by rfl) T.z_len bt_len (by exact (pa_cons (pv 6) pa_nil))) pe_int)))
  (pss_cons (ps_set (i := 16) sc_law.nd rfl (by first | exact .inl rfl | exact .inr rfl) (pe_op op_modN (pe_op op_fdivF (pv 4) pe_int) (pe_op ox_add (pe_callB cx_len (by rfl) T.z_len bt_len (by exact (pa_cons (pv 8) pa_nil))) pe_int)))
  (pss_cons (ps_expr (pe_bm PySem.F.plainAttrs_list PySem.F.slot_list_insert PySem.F.type_list_insert mt_insert (pe_ix ix_seq (pv 9) pe_int (fun _ _ => rfl)) (pa_cons (pv 15) (pa_cons (pv 13) pa_nil))))
  (pss_cons (ps_expr (pe_bm PySem.F.plainAttrs_list PySem.F.slot_list_insert PySem.F.type_list_insert mt_insert (pe_ix ix_seq (pv 9) pe_int (fun _ _ => rfl)) (pa_cons (pv 16) (pa_cons (pv 14) pa_nil))))
  (pss_cons (ps_if (pt_not (pt_val (pe_fk c__law_refused hr (by decide) (by rfl) pass0 (pa_cons (pe_ix ix_seq (pv 9) pe_int (fun _ _ => rfl)) (pa_cons (pe_ix ix_seq (pv 9) pe_int (fun _ _ => rfl)) (pa_cons (pe_ix ix_seq (pv 9) pe_int (fun _ _ => rfl)) pa_nil)))))) (pss_one (ps_ret pe_bl)) pss_nil)
  (pss_one (ps_ret (pe_and (pe_cmpR (op_eqD hr.units) (pe_ix ix_seq (pv 9) pe_int (fun _ _ => rfl)) (pv 5) (nomark _)) (pe_one (pe_cmpR (op_eqD hr.units) (pe_fk c_part hr (by decide) (by rfl) passL (pa_cons (pv 5) (pa_cons (pv 6) pa_nil))) (pe_fk c__law_part hr (by decide) (by rfl) pass0 (pa_cons (pv 5) (pa_cons (pv 6) pa_nil))) (nomark _)))))))))))))))))), ?_⟩
  exact sp_run (md := [false]) (f := b_law) (fun e => (s_seq (s_asg (oe_om (o_call rfl (ea_cons (e_var 0) (ea_cons (e_weak (e_c (.int 0))) (ea_cons (e_weak (e_c (.int 4))) (ea_cons (e_weak (e_c (.int 999983))) ea_nil)))))) (g_unl (gs_cons (g_name (i := 1) (by decide)) (gs_cons (g_name (i := 2) (by decide)) (gs_cons (g_name (i := 3) (by decide)) (gs_cons (g_name (i := 4) (by decide)) gs_nil))))))
  (s_seq (s_asg (oe_om (o_call rfl (ea_cons (e_var 0) (ea_cons (e_weak (e_c (.int 1))) (ea_cons (e_weak (e_op (e_c (.int 1)) (e_op (e_var 1) (e_c (.int 40)) v_mod) v_add)) (ea_cons (e_weak (e_c (.int 3))) ea_nil)))))) (g_name (i := 5) (by decide)))
  (s_seq (s_asg (oe_om (o_hold (e_lc (fun _ => (si_seq (e_weak (e_call rfl (ea_cons (e_var 0) (ea_cons (e_weak (e_c (.int 2))) (ea_cons (e_weak (e_op (e_var 2) (e_c (.int 101)) v_mod)) (ea_cons (e_weak (e_c (.int 999983))) ea_nil)))))))) (gx_name (i := 7) (by decide)) t_yes (e_shr (e_op (e_var 7) (e_cb (ea_cons (e_var 5) ea_nil) v_len) v_mod))))) (g_name (i := 6) (by decide)))
  (s_seq (s_asg (oe_om (o_call rfl (ea_cons (e_var 0) (ea_cons (e_var 5) (ea_cons (e_weak (e_op (e_var 3) (e_c (.int 61)) v_mod)) (ea_cons (e_weak (e_op (e_op (e_var 4) (e_c (.int 2)) v_mod) (e_c (.int 1)) v_eq)) ea_nil)))))) (g_name (i := 8) (by decide)))
  (s_seq (s_asg (oe_om (o_hold (e_lst (ea_cons (e_cb (ea_cons (e_var 5) ea_nil) v_list) (ea_cons (e_cb (ea_cons (e_var 6) ea_nil) v_list) (ea_cons (e_cb (ea_cons (e_var 8) ea_nil) v_list) (ea_nil (m := .fre)))))))) (g_name (i := 9) (by decide)))
  (s_seq (s_for (fun _ => (si_rng1 (m := .fre) (ea_cons (e_weak (e_c (.int 2))) ea_nil))) (g_name (i := 10) (by decide)) (s_seq (s_asg (oe_om (o_call rfl (ea_cons (e_ix (e_var 9) (e_c (.int 0))) (ea_cons (e_ix (e_var 9) (e_c (.int 1))) ea_nil)))) (g_name (i := 11) (by decide)))
  (s_seq (s_asg (oe_om (o_call rfl (ea_cons (e_ix (e_var 9) (e_c (.int 0))) (ea_cons (e_ix (e_var 9) (e_c (.int 2))) ea_nil)))) (g_name (i := 12) (by decide)))
  (s_seq (s_if (t_or (t_test (e_op (e_var 11) (e_call rfl (ea_cons (e_var 5) (ea_cons (e_var 6) ea_nil))) v_ne)) (t_test (e_op (e_var 12) (e_call rfl (ea_cons (e_var 5) (ea_cons (e_var 8) ea_nil))) v_ne))) (s_ret (oe_om (o_hold (e_shr (e_c (.bl false)))))) s_pass)
  (s_seq (s_if (t_or (t_not (t_tB (x_isT "list" (e_ix (e_var 11) (e_c (.int 0)))))) (t_not (t_tB (x_isT "list" (e_ix (e_var 12) (e_c (.int 1))))))) (s_ret (oe_om (o_hold (e_shr (e_c (.bl false)))))) s_pass)
  (s_seq (s_if (t_test (e_op (e_var 9) (e_lstA (ea_cons (e_var 5) (ea_cons (e_var 6) (ea_cons (e_var 8) (ea_nil (m := .any)))))) v_ne)) (s_ret (oe_om (o_hold (e_shr (e_c (.bl false)))))) s_pass)
  (s_seq (s_drop (m_clear (lv_ix (lv_name 11) (e_c (.int 0)))))
  (s_seq (s_drop (m_append (lv_ix (lv_name 12) (e_c (.int 0))) (oa_cons (o_hold (e_shr (e_tup (ea_nil (m := .shr))))) oa_nil) (keeps_cons keep_hold keeps_nil)))
  (s_drop (m_clear (lv_ix (lv_name 12) (e_c (.int 1)))))))))))))
  (s_seq (s_asg (oe_om (o_call rfl (ea_cons (e_weak (e_op (e_var 4) (e_c (.int 2)) v_div)) (ea_cons (e_weak (e_cb (ea_cons (e_var 5) ea_nil) v_len)) ea_nil)))) (g_un (gs_cons (g_name (i := 13) (by decide)) (gs_cons (g_name (i := 14) (by decide)) gs_nil))))
  (s_seq (s_asg (oe_om (o_hold (e_shr (e_op (e_op (e_var 4) (e_c (.int 128)) v_div) (e_op (e_cb (ea_cons (e_var 6) ea_nil) v_len) (e_c (.int 1)) v_add) v_mod)))) (g_name (i := 15) (by decide)))
  (s_seq (s_asg (oe_om (o_hold (e_shr (e_op (e_op (e_var 4) (e_c (.int 128)) v_div) (e_op (e_cb (ea_cons (e_var 8) ea_nil) v_len) (e_c (.int 1)) v_add) v_mod)))) (g_name (i := 16) (by decide)))
  (s_seq (s_drop (m_insert (lv_ix (lv_name 9) (e_c (.int 1))) (oa_cons (o_hold (e_shr (e_free (e_var 15)))) (oa_cons (o_move 13) oa_nil)) (keeps_cons keep_hold (keeps_cons (keep_move (by decide)) keeps_nil))))
  (s_seq (s_drop (m_insert (lv_ix (lv_name 9) (e_c (.int 2))) (oa_cons (o_hold (e_shr (e_free (e_var 16)))) (oa_cons (o_move 14) oa_nil)) (keeps_cons keep_hold (keeps_cons (keep_move (by decide)) keeps_nil))))
  (s_seq (s_if (t_not (t_tB (e_call rfl (ea_cons (e_ix (e_var 9) (e_c (.int 0))) (ea_cons (e_ix (e_var 9) (e_c (.int 1))) (ea_cons (e_ix (e_var 9) (e_c (.int 2))) ea_nil)))))) (s_ret (oe_om (o_hold (e_shr (e_c (.bl false)))))) s_pass)
  (s_ret (oe_om (o_hold (e_shr (e_andV (e_op (e_ix (e_var 9) (e_c (.int 0))) (e_var 5) v_eq) (e_op (e_call rfl (ea_cons (e_var 5) (ea_cons (e_var 6) ea_nil))) (e_call rfl (ea_cons (e_var 5) (ea_cons (e_var 6) ea_nil))) v_eq))))))))))))))))))) h
end
end A95

set_option Elab.async false
set_option linter.all false
set_option maxRecDepth 100000
set_option maxHeartbeats 4000000
/-! the end; printed by gen95.py -/
namespace A95
open DL PySem PySem.Spec L2
open PyProof.Rows hiding St
theorem all_mk {P : Program} {w : World} {K : PySem.W.Frag} {h : Heap} {mg : Str → Option Value} {fa C_HoleError C_NoGlue : Addr} (X : K.In h) (G : h.Ns mainGlobals mg) (hfa : mg "law" = some (.ref fa)) (T : Tx K mg C_HoleError C_NoGlue)
    {f_is_whole : Addr} {fd_is_whole : FuncData} (D_is_whole : Dk K mg "is_whole" s_is_whole f_is_whole fd_is_whole)
    {f_level_of : Addr} {fd_level_of : FuncData} (D_level_of : Dk K mg "level_of" s_level_of f_level_of fd_level_of)
    {f_is_spot : Addr} {fd_is_spot : FuncData} (D_is_spot : Dk K mg "is_spot" s_is_spot f_is_spot fd_is_spot)
    {f_part : Addr} {fd_part : FuncData} (D_part : Dk K mg "part" s_part f_part fd_part)
    {f_is_glue : Addr} {fd_is_glue : FuncData} (D_is_glue : Dk K mg "is_glue" s_is_glue f_is_glue fd_is_glue)
    {f_first_of : Addr} {fd_first_of : FuncData} (D_first_of : Dk K mg "first_of" s_first_of f_first_of fd_first_of)
    {f_lots_of : Addr} {fd_lots_of : FuncData} (D_lots_of : Dk K mg "lots_of" s_lots_of f_lots_of fd_lots_of)
    {f_glued : Addr} {fd_glued : FuncData} (D_glued : Dk K mg "glued" s_glued f_glued fd_glued)
    {f__law_cell : Addr} {fd__law_cell : FuncData} (D__law_cell : Dk K mg "_law_cell" s__law_cell f__law_cell fd__law_cell)
    {f__law_row : Addr} {fd__law_row : FuncData} (D__law_row : Dk K mg "_law_row" s__law_row f__law_row fd__law_row)
    {f__law_meets : Addr} {fd__law_meets : FuncData} (D__law_meets : Dk K mg "_law_meets" s__law_meets f__law_meets fd__law_meets)
    {f__law_faces : Addr} {fd__law_faces : FuncData} (D__law_faces : Dk K mg "_law_faces" s__law_faces f__law_faces fd__law_faces)
    {f__law_shape : Addr} {fd__law_shape : FuncData} (D__law_shape : Dk K mg "_law_shape" s__law_shape f__law_shape fd__law_shape)
    {f__law_part : Addr} {fd__law_part : FuncData} (D__law_part : Dk K mg "_law_part" s__law_part f__law_part fd__law_part)
    {f__law_glued : Addr} {fd__law_glued : FuncData} (D__law_glued : Dk K mg "_law_glued" s__law_glued f__law_glued fd__law_glued)
    {f__law_pairs : Addr} {fd__law_pairs : FuncData} (D__law_pairs : Dk K mg "_law_pairs" s__law_pairs f__law_pairs fd__law_pairs)
    {f__law_refused : Addr} {fd__law_refused : FuncData} (D__law_refused : Dk K mg "_law_refused" s__law_refused f__law_refused fd__law_refused)
    {f__law_none : Addr} {fd__law_none : FuncData} (D__law_none : Dk K mg "_law_none" s__law_none f__law_none fd__law_none)
    {f_law : Addr} {oc : Value} {od an : Option Addr} {osl : Array (Option Value)} {kV doc pm cdv ct : Value} (a : PySem.W.nsIn K mainGlobals "law" = some (some (.ref f_law))) (l : K.lookup f_law = some ⟨oc, od, .func (PySem.W.fnOf "law" "law" (defArgs s_law) (defBody s_law) (defScope s_law) .none kV doc pm an cdv ct), osl⟩) (c : PySem.W.codeIn K cdv "law" = true) (k : PySem.W.keepIn K (.ref f_law) = true) :
    ∃ fd : FuncData, (∀ (s : Shared) (u : Value), BindsTo s fd ⟨[u], []⟩ [("script", u)]) ∧ ∀ base : Heap, K.In base → base.Ns mainGlobals mg → FnOk P w K mg base CX0 6 fa fd ["script"] (spLaw K) := by
  have e := hfa.symm.trans (PySem.W.mg_of X G a)
  cases e
  have FL := fun_mk (st := s_law) l c k
  refine ⟨PySem.W.fnOf "law" "law" (defArgs s_law) (defBody s_law) (defScope s_law) .none kV doc pm an cdv ct, fun s u => .of_eq rfl, fun base _ _ => ?_⟩
  have c_is_whole : Fk P w K mg base CX0 1 "is_whole" ["thing"] (SpG K (cls EN mg) [false] p_is_whole) := D_is_whole.fk (D_is_whole.fn.binds (ps := ["thing"]) fun _ _ _ _ _ _ us hl => match us, hl with | [_], _ => rfl) (ok_is_whole T D_is_whole.fn)
  have c_level_of : Fk P w K mg base CX0 1 "level_of" ["piece"] (SpG K (cls EN mg) [false] p_level_of) := D_level_of.fk (D_level_of.fn.binds (ps := ["piece"]) fun _ _ _ _ _ _ us hl => match us, hl with | [_], _ => rfl) (ok_level_of T D_level_of.fn)
  have c_is_spot : Fk P w K mg base CX0 2 "is_spot" ["shape", "thing"] (SpG K (cls EN mg) [false, false] p_is_spot) := D_is_spot.fk (D_is_spot.fn.binds (ps := ["shape", "thing"]) fun _ _ _ _ _ _ us hl => match us, hl with | [_, _], _ => rfl) (ok_is_spot T D_is_spot.fn c_is_whole)
  have c_part : Fk P w K mg base (L2.CX P w) 3 "part" ["shape", "spots"] (SpG K (cls EN mg) [false, false] p_part) := D_part.fk (D_part.fn.binds (ps := ["shape", "spots"]) fun _ _ _ _ _ _ us hl => match us, hl with | [_, _], _ => rfl) (ok_part T D_part.fn c_is_spot)
  have c_is_glue : Fk P w K mg base CX0 3 "is_glue" ["shape", "thing"] (SpG K (cls EN mg) [false, false] p_is_glue) := D_is_glue.fk (D_is_glue.fn.binds (ps := ["shape", "thing"]) fun _ _ _ _ _ _ us hl => match us, hl with | [_, _], _ => rfl) (ok_is_glue T D_is_glue.fn c_is_spot c_level_of)
  have c_first_of : Fk P w K mg base CX0 1 "first_of" ["firsts", "place"] (SpG K (cls EN mg) [false, false] p_first_of) := D_first_of.fk (D_first_of.fn.binds (ps := ["firsts", "place"]) fun _ _ _ _ _ _ us hl => match us, hl with | [_, _], _ => rfl) (ok_first_of T D_first_of.fn)
  have c_lots_of : Fk P w K mg base CX0 2 "lots_of" ["shape", "pairs"] (SpG K (cls EN mg) [false, false] p_lots_of) := D_lots_of.fk (D_lots_of.fn.binds (ps := ["shape", "pairs"]) fun _ _ _ _ _ _ us hl => match us, hl with | [_, _], _ => rfl) (ok_lots_of T D_lots_of.fn c_first_of)
  have c_glued : Fk P w K mg base (L2.CX P w) 4 "glued" ["shape", "pairs"] (SpG K (cls EN mg) [false, false] p_glued) := D_glued.fk (D_glued.fn.binds (ps := ["shape", "pairs"]) fun _ _ _ _ _ _ us hl => match us, hl with | [_, _], _ => rfl) (ok_glued T D_glued.fn c_is_glue c_lots_of)
  have c__law_cell : Fk P w K mg base CX0 1 "_law_cell" ["script", "k"] (SpG K (cls EN mg) [false, false] p__law_cell) := D__law_cell.fk (D__law_cell.fn.binds (ps := ["script", "k"]) fun _ _ _ _ _ _ us hl => match us, hl with | [_, _], _ => rfl) (ok__law_cell T D__law_cell.fn)
  have c__law_row : Fk P w K mg base CX0 2 "_law_row" ["script", "k", "many", "size"] (SpG K (cls EN mg) [false, false, false, false] p__law_row) := D__law_row.fk (D__law_row.fn.binds (ps := ["script", "k", "many", "size"]) fun _ _ _ _ _ _ us hl => match us, hl with | [_, _, _, _], _ => rfl) (ok__law_row T D__law_row.fn c__law_cell)
  have c__law_meets : Fk P w K mg base CX0 1 "_law_meets" ["shape", "chosen", "piece", "level"] (SpG K (cls EN mg) [false, false, false, false] p__law_meets) := D__law_meets.fk (D__law_meets.fn.binds (ps := ["shape", "chosen", "piece", "level"]) fun _ _ _ _ _ _ us hl => match us, hl with | [_, _, _, _], _ => rfl) (ok__law_meets T D__law_meets.fn)
  have c__law_faces : Fk P w K mg base CX0 2 "_law_faces" ["shape", "level", "number"] (SpG K (cls EN mg) [false, false, false] p__law_faces) := D__law_faces.fk (D__law_faces.fn.binds (ps := ["shape", "level", "number"]) fun _ _ _ _ _ _ us hl => match us, hl with | [_, _, _], _ => rfl) (ok__law_faces T D__law_faces.fn c__law_meets)
  have c__law_shape : Fk P w K mg base CX0 3 "_law_shape" ["script", "k", "many", "top"] (SpG K (cls EN mg) [false, false, false, false] p__law_shape) := D__law_shape.fk (D__law_shape.fn.binds (ps := ["script", "k", "many", "top"]) fun _ _ _ _ _ _ us hl => match us, hl with | [_, _, _, _], _ => rfl) (ok__law_shape T D__law_shape.fn c__law_row c__law_faces)
  have c__law_part : Fk P w K mg base CX0 1 "_law_part" ["shape", "spots"] (SpG K (cls EN mg) [false, false] p__law_part) := D__law_part.fk (D__law_part.fn.binds (ps := ["shape", "spots"]) fun _ _ _ _ _ _ us hl => match us, hl with | [_, _], _ => rfl) (ok__law_part T D__law_part.fn)
  have c__law_glued : Fk P w K mg base CX0 1 "_law_glued" ["shape", "pairs"] (SpG K (cls EN mg) [false, false] p__law_glued) := D__law_glued.fk (D__law_glued.fn.binds (ps := ["shape", "pairs"]) fun _ _ _ _ _ _ us hl => match us, hl with | [_, _], _ => rfl) (ok__law_glued T D__law_glued.fn)
  have c__law_pairs : Fk P w K mg base CX0 3 "_law_pairs" ["script", "shape", "many", "points"] (SpG K (cls EN mg) [false, false, false, false] p__law_pairs) := D__law_pairs.fk (D__law_pairs.fn.binds (ps := ["script", "shape", "many", "points"]) fun _ _ _ _ _ _ us hl => match us, hl with | [_, _, _, _], _ => rfl) (ok__law_pairs T D__law_pairs.fn c__law_row)
  have c__law_refused : Fk P w K mg base CX0 5 "_law_refused" ["shape", "spots", "pairs"] (SpG K (cls EN mg) [false, false, false] p__law_refused) := D__law_refused.fk (D__law_refused.fn.binds (ps := ["shape", "spots", "pairs"]) fun _ _ _ _ _ _ us hl => match us, hl with | [_, _, _], _ => rfl) (ok__law_refused T D__law_refused.fn c_part c_glued)
  have c__law_none : Fk P w K mg base CX0 1 "_law_none" ["number", "size"] (SpG K (cls EN mg) [false, false] p__law_none) := D__law_none.fk (D__law_none.fn.binds (ps := ["number", "size"]) fun _ _ _ _ _ _ us hl => match us, hl with | [_, _], _ => rfl) (ok__law_none T D__law_none.fn)
  exact fn_law law_true (ok_law T FL c__law_row c__law_shape c__law_pairs c_part c_glued c__law_part c__law_glued c__law_none c__law_refused)
end A95
open PySem PySem.W PyProof.Rows
set_option maxRecDepth 100000 in
set_option maxHeartbeats 0 in
theorem PySem.Challenge.cw_holebook_k95_many_places_and_pairs_holds : PySem.Challenge.rw_holebook_k95_many_places_and_pairs.Holds := by
  w_on; o_law; k_head; (case hw => w_witness2)
  k_fill
  refine L2.walk_ofB (l := PySem.Challenge.rw_holebook_k95_many_places_and_pairs) (n := 63) (k := 6) (x := "script") (CX := fun _ => L2.CX0) (sp := fun w => DL.spLaw _) rfl (by decide) rfl ⟨rfl, by decide, by decide⟩ (fun w h Y => PySem.W.kIn_of Y) ?F (fun _ _ a ns hl hb _ hS => ⟨a, ns, rfl, hS, hl, hb, fun _ => rfl⟩) (fun _ _ _ _ _ h => h)
  case F =>
    intro w mg fa h KX G hmg
    refine' A95.all_mk KX G hmg (A95.Tx.mk (PySem.W.mg_none_of KX G ?z_ValueError) (PySem.W.mg_none_of KX G ?z_bool) (PySem.W.mg_none_of KX G ?z_enumerate) (PySem.W.mg_none_of KX G ?z_int) (PySem.W.mg_none_of KX G ?z_isinstance) (PySem.W.mg_none_of KX G ?z_len) (PySem.W.mg_none_of KX G ?z_list) (PySem.W.mg_none_of KX G ?z_max) (PySem.W.mg_none_of KX G ?z_min) (PySem.W.mg_none_of KX G ?z_range) (PySem.W.mg_none_of KX G ?z_reversed) (PySem.W.mg_none_of KX G ?z_sorted) (PySem.W.mg_none_of KX G ?z_tuple) (PySem.W.mg_none_of KX G ?z_zip) (PySem.W.mg_of KX G ?gH) (PySem.W.mg_of KX G ?gN) ?kN ?xN ?bN ?tN (DL.exm_sub ?bH ?iH ?tH ?sNH) ⟨?e1, ?e2, ?bN2, ?e4, ?e5, ?e6, ?e7, ?e8⟩ DL.kit_self (DL.kit_ve ?vN)) (DL.dk KX G ?a0 ?l0 ?c0 ?k0) (DL.dk KX G ?a1 ?l1 ?c1 ?k1) (DL.dk KX G ?a2 ?l2 ?c2 ?k2) (DL.dk KX G ?a3 ?l3 ?c3 ?k3) (DL.dk KX G ?a4 ?l4 ?c4 ?k4) (DL.dk KX G ?a5 ?l5 ?c5 ?k5) (DL.dk KX G ?a6 ?l6 ?c6 ?k6) (DL.dk KX G ?a7 ?l7 ?c7 ?k7) (DL.dk KX G ?a8 ?l8 ?c8 ?k8) (DL.dk KX G ?a9 ?l9 ?c9 ?k9) (DL.dk KX G ?a10 ?l10 ?c10 ?k10) (DL.dk KX G ?a11 ?l11 ?c11 ?k11) (DL.dk KX G ?a12 ?l12 ?c12 ?k12) (DL.dk KX G ?a13 ?l13 ?c13 ?k13) (DL.dk KX G ?a14 ?l14 ?c14 ?k14) (DL.dk KX G ?a15 ?l15 ?c15 ?k15) (DL.dk KX G ?a16 ?l16 ?c16 ?k16) (DL.dk KX G ?a17 ?l17 ?c17 ?k17) ?aL ?lL ?cL ?kL
    (case z_ValueError => k_is); (case z_bool => k_is); (case z_enumerate => k_is); (case z_int => k_is); (case z_isinstance => k_is); (case z_len => k_is); (case z_list => k_is); (case z_max => k_is); (case z_min => k_is); (case z_range => k_is); (case z_reversed => k_is); (case z_sorted => k_is); (case z_tuple => k_is); (case z_zip => k_is)
    (case gH => k_is); (case gN => k_is); (case kN => k_is); (case xN => k_exc); (case bN => k_is); (case tN => k_is); (case bH => k_is); (case iH => k_is); (case tH => k_is); (case sNH => k_is)
    (case e1 => k_is); (case e2 => k_is); (case bN2 => k_is); (case e4 => k_is); (case e5 => k_is); (case e6 => k_is); (case e7 => k_is); (case e8 => k_is); (case vN => k_is)
    (case a0 => k_is); (case l0 => k_is); (case c0 => k_is); (case k0 => k_is)
    (case a1 => k_is); (case l1 => k_is); (case c1 => k_is); (case k1 => k_is)
    (case a2 => k_is); (case l2 => k_is); (case c2 => k_is); (case k2 => k_is)
    (case a3 => k_is); (case l3 => k_is); (case c3 => k_is); (case k3 => k_is)
    (case a4 => k_is); (case l4 => k_is); (case c4 => k_is); (case k4 => k_is)
    (case a5 => k_is); (case l5 => k_is); (case c5 => k_is); (case k5 => k_is)
    (case a6 => k_is); (case l6 => k_is); (case c6 => k_is); (case k6 => k_is)
    (case a7 => k_is); (case l7 => k_is); (case c7 => k_is); (case k7 => k_is)
    (case a8 => k_is); (case l8 => k_is); (case c8 => k_is); (case k8 => k_is)
    (case a9 => k_is); (case l9 => k_is); (case c9 => k_is); (case k9 => k_is)
    (case a10 => k_is); (case l10 => k_is); (case c10 => k_is); (case k10 => k_is)
    (case a11 => k_is); (case l11 => k_is); (case c11 => k_is); (case k11 => k_is)
    (case a12 => k_is); (case l12 => k_is); (case c12 => k_is); (case k12 => k_is)
    (case a13 => k_is); (case l13 => k_is); (case c13 => k_is); (case k13 => k_is)
    (case a14 => k_is); (case l14 => k_is); (case c14 => k_is); (case k14 => k_is)
    (case a15 => k_is); (case l15 => k_is); (case c15 => k_is); (case k15 => k_is)
    (case a16 => k_is); (case l16 => k_is); (case c16 => k_is); (case k16 => k_is)
    (case a17 => k_is); (case l17 => k_is); (case c17 => k_is); (case k17 => k_is)
    (case aL => k_is); (case lL => k_is); (case cL => k_is); (case kL => k_is)

