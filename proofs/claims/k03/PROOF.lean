import PyProof.Rows.All
import Wide.All
import OpenK.AllK
import Wide.FinOn
import HandS.ForMost
import HandS.IsInst
import HandS.Wide
import HandS.Exc
import HandS.WordsExc
import PySem.Challenge.RW_guardwords_k03_paths
set_option Elab.async false
set_option linter.all false
set_option maxRecDepth 100000
/-! DL1: values as data (tuples and settled lists by what they hold), a heap of own lists, lifts of the hand layer's judgements. -/
namespace DL
open PySem PySem.Spec PyProof.Rows L2

/-- data: a tuple or a settled list is its items; ref: an own list (in the data heap), a def, a class -/
inductive D where
  | non | bl (b : Bool) | int (i : Int) | str (x : Str) | tup (xs : List D) | lis (xs : List D) | scr (ns : List Int) | ref (a : Addr) | ty (n : String)

/-- what the data heap holds: an own list, a place that nobody touches -/
inductive DO where
  | lst (xs : List D)
  | hid
abbrev DH := Addr → Option DO
def put (h : DH) (a : Addr) (o : DO) : DH := fun b => if b = a then some o else h b
def del (h : DH) (a : Addr) : DH := fun b => if b = a then none else h b
theorem put_same {h : DH} {a : Addr} {o : DO} : put h a o a = some o := if_pos rfl
theorem put_ne {h : DH} {a b : Addr} {o : DO} (e : b ≠ a) : put h a o b = h b := if_neg e
theorem del_same {h : DH} {a : Addr} : del h a a = none := if_pos rfl
theorem del_ne {h : DH} {a b : Addr} (e : b ≠ a) : del h a b = h b := if_neg e
theorem put_put {h : DH} {a : Addr} {o u : DO} : put (put h a o) a u = put h a u := by
  funext b; unfold put; split <;> rfl
theorem put_comm {h : DH} {a b : Addr} {o u : DO} (e : a ≠ b) : put (put h a o) b u = put (put h b u) a o := by
  funext c; unfold put
  by_cases h1 : c = b
  · rw [if_pos h1, if_neg (fun h2 => e (h2.symm.trans h1)), if_pos h1]
  · rw [if_neg h1, if_neg h1]
theorem del_put {h : DH} {a : Addr} {o : DO} (n : h a = none) : del (put h a o) a = h := by
  funext b; unfold del put
  by_cases e : b = a
  · rw [if_pos e, e, n]
  · rw [if_neg e, if_neg e]
theorem del_put_ne {h : DH} {a b : Addr} {o : DO} (e : a ≠ b) : del (put h a o) b = put (del h b) a o := by
  funext c
  by_cases h1 : c = b
  · subst h1; rw [del_same, put_ne (Ne.symm e), del_same]
  · rw [del_ne h1]
    by_cases h2 : c = a
    · subst h2; rw [put_same, put_same]
    · rw [put_ne h2, put_ne h2, del_ne h1]
theorem put_get {h : DH} {a : Addr} {o : DO} (e : h a = some o) : put h a o = h := by
  funext b; unfold put
  by_cases q : b = a
  · rw [if_pos q, q, e]
  · rw [if_neg q]

/-- a tuple, a settled list: tracked where no own list is, or written -/
def TupAt (K : PySem.W.Frag) (h : DH) (H : Hp) (a : Addr) (vs : List V) : Prop :=
  (h a = none ∧ Rd H a (.tup vs)) ∨
    ∃ (o : Obj) (its : Array Value) (n : Nat), K.lookup a = some o ∧ o.cls = .type "tuple" ∧ o.data = .seq its n ∧ its.size ≤ sizeLine ∧ Vals vs its.toList
def ScrAt (K : PySem.W.Frag) (h : DH) (H : Hp) (a : Addr) (vs : List V) : Prop :=
  (h a = none ∧ Rd H a (.lst vs)) ∨
    ∃ (o : Obj) (its : Array Value) (n : Nat), K.lookup a = some o ∧ o.cls = .type "list" ∧ o.dict = none ∧ o.data = .seq its n ∧ its.size ≤ sizeLine ∧ Vals vs its.toList
theorem TupAt.sq {K : PySem.W.Frag} {h : DH} {H : Hp} {a : Addr} {vs : List V} (t : TupAt K h H a vs) : SqT K H a vs := t.elim (fun z => .inl z.2) .inr
theorem ScrAt.sq {K : PySem.W.Frag} {h : DH} {H : Hp} {a : Addr} {vs : List V} (t : ScrAt K h H a vs) : SqL K H a vs := t.elim (fun z => .inl z.2) .inr
variable {K : PySem.W.Frag}

mutual
/-- v, in the heap H, is the data d -/
def RD (K : PySem.W.Frag) (h : DH) (H : Hp) : D → V → Prop
  | .non, v => v = .non
  | .bl b, v => v = .bl b
  | .int i, v => v = .int i
  | .str x, v => v = .str x
  | .ref a, v => v = .ref a
  | .ty n, v => v = .ty n
  | .tup ds, v => ∃ a vs, v = .ref a ∧ TupAt K h H a vs ∧ RDs K h H ds vs
  | .lis ds, v => ∃ a vs, v = .ref a ∧ h a = none ∧ H a = some (.lst vs) ∧ RDs K h H ds vs
  | .scr ns, v => ∃ a, v = .ref a ∧ ScrAt K h H a (ns.map V.int)
def RDs (K : PySem.W.Frag) (h : DH) (H : Hp) : List D → List V → Prop
  | [], vs => vs = []
  | d :: ds, vs => ∃ v r, vs = v :: r ∧ RD K h H d v ∧ RDs K h H ds r
end

def still : Option DO → Bool
  | none => true
  | some .hid => true
  | some (.lst _) => false
/-- what is not an own list stays -/
def KP (h : DH) (H : Hp) (h' : DH) (H' : Hp) : Prop := ∀ a o, still (h a) = true → H a = some o → h' a = h a ∧ H' a = some o
theorem KP.refl {h : DH} {H : Hp} : KP h H h H := fun _ _ _ e => ⟨rfl, e⟩
theorem KP.trans {h h1 h2 : DH} {H H1 H2 : Hp} (k : KP h H h1 H1) (l : KP h1 H1 h2 H2) : KP h H h2 H2 := fun a o s e => by
  obtain ⟨e1, e2⟩ := k a o s e
  obtain ⟨e3, e4⟩ := l a o (by rw [e1]; exact s) e2
  exact ⟨e3.trans e1, e4⟩
theorem KP.rd {h h' : DH} {H H' : Hp} {a : Addr} {u : HO} (k : KP h H h' H') (n : h a = none) (r : Rd H a u) : h' a = none ∧ Rd H' a u := by
  have s : still (h a) = true := by rw [n]; rfl
  rcases r with e | ⟨o, e⟩
  · obtain ⟨e1, e2⟩ := k a _ s e
    exact ⟨e1.trans n, .inl e2⟩
  · obtain ⟨e1, e2⟩ := k a _ s e
    exact ⟨e1.trans n, .inr ⟨o, e2⟩⟩
/-- what data lean on -/
def KN (h : DH) (H : Hp) (h' : DH) (H' : Hp) : Prop := ∀ a o, h a = none → H a = some o → h' a = none ∧ H' a = some o
theorem KP.kn {h h' : DH} {H H' : Hp} (k : KP h H h' H') : KN h H h' H' := fun a o n e => by
  obtain ⟨e1, e2⟩ := k a o (by rw [n]; rfl) e
  exact ⟨e1.trans n, e2⟩
theorem KN.rd {h h' : DH} {H H' : Hp} {a : Addr} {u : HO} (k : KN h H h' H') (n : h a = none) (r : Rd H a u) : h' a = none ∧ Rd H' a u := by
  rcases r with e | ⟨o, e⟩
  · exact ⟨(k a _ n e).1, .inl (k a _ n e).2⟩
  · exact ⟨(k a _ n e).1, .inr ⟨o, (k a _ n e).2⟩⟩
theorem KN.tup {h h' : DH} {H H' : Hp} {a : Addr} {vs : List V} (k : KN h H h' H') (t : TupAt K h H a vs) : TupAt K h' H' a vs := t.elim (fun z => .inl (k.rd z.1 z.2)) .inr
theorem KN.scr {h h' : DH} {H H' : Hp} {a : Addr} {vs : List V} (k : KN h H h' H') (t : ScrAt K h H a vs) : ScrAt K h' H' a vs := t.elim (fun z => .inl (k.rd z.1 z.2)) .inr
theorem KP.tup {h h' : DH} {H H' : Hp} {a : Addr} {vs : List V} (k : KP h H h' H') (t : TupAt K h H a vs) : TupAt K h' H' a vs := t.elim (fun z => .inl (k.rd z.1 z.2)) .inr
theorem KP.scr {h h' : DH} {H H' : Hp} {a : Addr} {vs : List V} (k : KP h H h' H') (t : ScrAt K h H a vs) : ScrAt K h' H' a vs := t.elim (fun z => .inl (k.rd z.1 z.2)) .inr
mutual
theorem RD.monoN {h h' : DH} {H H' : Hp} (k : KN h H h' H') : ∀ (d : D) (v : V), RD K h H d v → RD K h' H' d v
  | .non, _, r => r
  | .bl _, _, r => r
  | .int _, _, r => r
  | .str _, _, r => r
  | .ref _, _, r => r
  | .ty _, _, r => r
  | .tup ds, v, r => by
    obtain ⟨a, vs, e, t, q⟩ := r
    exact ⟨a, vs, e, k.tup t, RDs.monoN k ds vs q⟩
  | .lis ds, v, r => by
    obtain ⟨a, vs, e, n, t, q⟩ := r
    obtain ⟨n', t'⟩ := k a _ n t
    exact ⟨a, vs, e, n', t', RDs.monoN k ds vs q⟩
  | .scr ns, v, r => by
    obtain ⟨a, e, t⟩ := r
    exact ⟨a, e, k.scr t⟩
theorem RDs.monoN {h h' : DH} {H H' : Hp} (k : KN h H h' H') : ∀ (ds : List D) (vs : List V), RDs K h H ds vs → RDs K h' H' ds vs
  | [], _, r => r
  | d :: ds, vs, r => by
    obtain ⟨v, w, e, q1, q2⟩ := r
    exact ⟨v, w, e, RD.monoN k d v q1, RDs.monoN k ds w q2⟩
end
theorem RD.mono {h h' : DH} {H H' : Hp} (k : KP h H h' H') (d : D) (v : V) (r : RD K h H d v) : RD K h' H' d v := RD.monoN k.kn d v r
theorem RDs.mono {h h' : DH} {H H' : Hp} (k : KP h H h' H') (ds : List D) (vs : List V) (r : RDs K h H ds vs) : RDs K h' H' ds vs := RDs.monoN k.kn ds vs r
theorem RDs.length {h : DH} {H : Hp} : ∀ {ds : List D} {vs : List V}, RDs K h H ds vs → vs.length = ds.length
  | [], vs, r => by rw [show vs = [] from r]; rfl
  | d :: ds, vs, r => by
    obtain ⟨v, w, e, _, q2⟩ := r
    rw [e, List.length_cons, List.length_cons, RDs.length q2]
theorem RDs.nil {h : DH} {H : Hp} : RDs K h H [] [] := rfl
theorem RDs.cons {h : DH} {H : Hp} {d : D} {v : V} {ds : List D} {vs : List V} (a : RD K h H d v) (b : RDs K h H ds vs) : RDs K h H (d :: ds) (v :: vs) := ⟨v, vs, rfl, a, b⟩
theorem RDs.append {h : DH} {H : Hp} : ∀ {ds es : List D} {vs ws : List V}, RDs K h H ds vs → RDs K h H es ws → RDs K h H (ds ++ es) (vs ++ ws)
  | [], _, _, _, r, s => by rw [show _ = [] from r]; exact s
  | d :: ds, _, _, _, r, s => by
    obtain ⟨v, w, rfl, q1, q2⟩ := r
    exact ⟨v, _, rfl, q1, RDs.append q2 s⟩
theorem RDs.get {h : DH} {H : Hp} : ∀ {ds : List D} {vs : List V} {i : Nat} {d : D}, RDs K h H ds vs → ds[i]? = some d → ∃ v, vs[i]? = some v ∧ RD K h H d v
  | [], _, i, _, _, e => by simp at e
  | d :: ds, vs, 0, d', r, e => by
    obtain ⟨v, w, rfl, q1, q2⟩ := r
    have e' : d = d' := by simpa using e
    subst e'
    exact ⟨v, rfl, q1⟩
  | d :: ds, vs, i + 1, d', r, e => by
    obtain ⟨v, w, rfl, q1, q2⟩ := r
    obtain ⟨u, e1, e2⟩ := RDs.get (i := i) (d := d') q2 (by simpa using e)
    exact ⟨u, by simpa using e1, e2⟩
theorem RDs.drop {h : DH} {H : Hp} : ∀ (n : Nat) {ds : List D} {vs : List V}, RDs K h H ds vs → RDs K h H (ds.drop n) (vs.drop n)
  | 0, _, _, r => r
  | n + 1, [], vs, r => by rw [show vs = [] from r]; exact rfl
  | n + 1, d :: ds, vs, r => by
    obtain ⟨v, w, rfl, q1, q2⟩ := r
    exact RDs.drop n q2
theorem RDs.take {h : DH} {H : Hp} : ∀ (n : Nat) {ds : List D} {vs : List V}, RDs K h H ds vs → RDs K h H (ds.take n) (vs.take n)
  | 0, _, _, _ => rfl
  | n + 1, [], vs, r => by rw [show vs = [] from r]; exact rfl
  | n + 1, d :: ds, vs, r => by
    obtain ⟨v, w, rfl, q1, q2⟩ := r
    exact ⟨v, _, rfl, q1, RDs.take n q2⟩
theorem RDs.set {h : DH} {H : Hp} {d : D} {v : V} (q : RD K h H d v) : ∀ (n : Nat) {ds : List D} {vs : List V}, RDs K h H ds vs → RDs K h H (ds.set n d) (vs.set n v)
  | _, [], vs, r => by rw [show vs = [] from r]; exact rfl
  | 0, d' :: ds, vs, r => by
    obtain ⟨v', w, rfl, q1, q2⟩ := r
    exact ⟨v, w, rfl, q, q2⟩
  | n + 1, d' :: ds, vs, r => by
    obtain ⟨v', w, rfl, q1, q2⟩ := r
    exact ⟨v', _, rfl, q1, RDs.set q n q2⟩

/-- the data heap is held -/
def HR (K : PySem.W.Frag) (h : DH) (H : Hp) : Prop := ∀ a o, h a = some o → match o with
  | .lst ds => ∃ vs, H a = some (.lst vs) ∧ RDs K h H ds vs
  | .hid => ∃ u, H a = some u
theorem HR.fresh {h : DH} {H : Hp} {p : Addr} (r : HR K h H) (n : H p = none) : h p = none := by
  cases e : h p with
  | none => rfl
  | some o =>
    have q := r p o e
    cases o with
    | lst ds => obtain ⟨vs, e1, _⟩ := q; rw [n] at e1; cases e1
    | hid => obtain ⟨u, e1⟩ := q; rw [n] at e1; cases e1
theorem HR.lst {h : DH} {H : Hp} {a : Addr} {ds : List D} (r : HR K h H) (e : h a = some (.lst ds)) : ∃ vs, H a = some (.lst vs) ∧ RDs K h H ds vs := r a _ e
/-- a new object that is not an own list -/
theorem KP.new {h : DH} {H : Hp} {p : Addr} {o : HO} (n : H p = none) : KP h H h (upd H p o) := fun a u _ e => ⟨rfl, by rw [upd_ne (ne_of_none e n)]; exact e⟩
theorem HR.new {h : DH} {H : Hp} {p : Addr} {o : HO} (r : HR K h H) (n : H p = none) : HR K h (upd H p o) := fun a u e => by
  have q := r a u e
  cases u with
  | lst ds =>
    obtain ⟨vs, e1, q⟩ := q
    exact ⟨vs, by rw [upd_ne (ne_of_none e1 n)]; exact e1, RDs.mono (KP.new n) ds vs q⟩
  | hid =>
    obtain ⟨u, e1⟩ := q
    exact ⟨u, by rw [upd_ne (ne_of_none e1 n)]; exact e1⟩
/-- a new own list -/
theorem KP.newL {h : DH} {H : Hp} {p : Addr} {o : HO} {u : DO} (n : H p = none) : KP h H (put h p u) (upd H p o) := fun a v _ e =>
  ⟨put_ne (ne_of_none e n), by rw [upd_ne (ne_of_none e n)]; exact e⟩
theorem HR.newL {h : DH} {H : Hp} {p : Addr} {ds : List D} {vs : List V} (r : HR K h H) (n : H p = none) (q : RDs K h H ds vs) : HR K (put h p (.lst ds)) (upd H p (.lst vs)) := fun a u e => by
  by_cases ea : a = p
  · subst ea
    rw [put_same] at e
    cases e
    exact ⟨vs, upd_same, RDs.mono (KP.newL n) ds vs q⟩
  · rw [put_ne ea] at e
    have q := r a u e
    cases u with
    | lst ds =>
      obtain ⟨vs, e1, q⟩ := q
      exact ⟨vs, by rw [upd_ne ea]; exact e1, RDs.mono (KP.newL n) ds vs q⟩
    | hid =>
      obtain ⟨u, e1⟩ := q
      exact ⟨u, by rw [upd_ne ea]; exact e1⟩
/-- a place that nobody touches, made -/
theorem HR.newH {h : DH} {H : Hp} {p : Addr} {o : HO} (r : HR K h H) (n : H p = none) : HR K (put h p .hid) (upd H p o) := fun a u e => by
  by_cases ea : a = p
  · subst ea
    rw [put_same] at e
    cases e
    exact ⟨_, upd_same⟩
  · rw [put_ne ea] at e
    have q := r a u e
    cases u with
    | lst ds =>
      obtain ⟨vs, e1, q⟩ := q
      exact ⟨vs, by rw [upd_ne ea]; exact e1, RDs.mono (KP.newL n) ds vs q⟩
    | hid =>
      obtain ⟨u, e1⟩ := q
      exact ⟨u, by rw [upd_ne ea]; exact e1⟩
/-- an own list is written -/
theorem KP.wr {h : DH} {H : Hp} {p : Addr} {o : HO} {u : DO} {ds : List D} (e : h p = some (.lst ds)) : KP h H (put h p u) (upd H p o) := fun a v s ea => by
  have ne : a ≠ p := fun z => by rw [z, e] at s; cases s
  exact ⟨put_ne ne, by rw [upd_ne ne]; exact ea⟩
theorem HR.wr {h : DH} {H : Hp} {p : Addr} {ds es : List D} {vs : List V} (r : HR K h H) (e : h p = some (.lst ds)) (q : RDs K h H es vs) : HR K (put h p (.lst es)) (upd H p (.lst vs)) := fun a u ea => by
  by_cases eq : a = p
  · subst eq
    rw [put_same] at ea
    cases ea
    exact ⟨vs, upd_same, RDs.mono (KP.wr e) es vs q⟩
  · rw [put_ne eq] at ea
    have q := r a u ea
    cases u with
    | lst ds =>
      obtain ⟨vs, e1, q⟩ := q
      exact ⟨vs, by rw [upd_ne eq]; exact e1, RDs.mono (KP.wr e) ds vs q⟩
    | hid =>
      obtain ⟨u, e1⟩ := q
      exact ⟨u, by rw [upd_ne eq]; exact e1⟩
/-- forgetting: h2 says less than h1 -/
def Sub (h2 h1 : DH) : Prop := ∀ a, h2 a = h1 a ∨ (h2 a = none ∧ ∃ ds, h1 a = some (.lst ds))
theorem Sub.refl {h : DH} : Sub h h := fun _ => .inl rfl
theorem Sub.del {h : DH} {a : Addr} {ds : List D} (n : h a = some (.lst ds)) : Sub (del h a) h := fun b => by
  by_cases e : b = a
  · exact .inr (by rw [e]; exact ⟨del_same, ds, n⟩)
  · exact .inl (del_ne e)
theorem Sub.trans {h1 h2 h3 : DH} (a : Sub h3 h2) (b : Sub h2 h1) : Sub h3 h1 := fun c => by
  rcases a c with e | ⟨e, ds, e2⟩
  · rcases b c with f | ⟨f, ds, f2⟩
    · exact .inl (e.trans f)
    · exact .inr ⟨e.trans f, ds, f2⟩
  · rcases b c with f | ⟨f, es, f2⟩
    · exact .inr ⟨e, ds, f ▸ e2⟩
    · exact .inr ⟨e, es, f2⟩
theorem Sub.none {h h2 : DH} {a : Addr} (s : Sub h2 h) (n : h a = Option.none) : h2 a = Option.none := by
  rcases s a with z | ⟨z, _⟩
  · exact z.trans n
  · exact z
theorem Sub.put {h h' : DH} {p : Addr} {ds : List D} (s : Sub h' h) (n : h' p = Option.none) : Sub h' (DL.put h p (.lst ds)) := fun a => by
  by_cases e : a = p
  · exact .inr (by rw [e]; exact ⟨n, ds, put_same⟩)
  · rw [put_ne e]; exact s a
theorem Sub.put2 {h h' : DH} {p : Addr} {o : DO} (s : Sub h' h) : Sub (DL.put h' p o) (DL.put h p o) := fun a => by
  by_cases e : a = p
  · rw [e, put_same, put_same]; exact .inl rfl
  · rw [put_ne e, put_ne e]; exact s a
mutual
theorem RD.sub {h h2 : DH} {H : Hp} (s : Sub h2 h) : ∀ (d : D) (v : V), RD K h H d v → RD K h2 H d v
  | .non, _, r => r
  | .bl _, _, r => r
  | .int _, _, r => r
  | .str _, _, r => r
  | .ref _, _, r => r
  | .ty _, _, r => r
  | .tup ds, v, ⟨a, vs, e, t, q⟩ => ⟨a, vs, e, t.elim (fun w => .inl ⟨s.none w.1, w.2⟩) .inr, RDs.sub s ds vs q⟩
  | .scr ns, v, ⟨a, e, t⟩ => ⟨a, e, t.elim (fun w => .inl ⟨s.none w.1, w.2⟩) .inr⟩
  | .lis ds, v, ⟨a, vs, e, n, t, q⟩ => ⟨a, vs, e, s.none n, t, RDs.sub s ds vs q⟩
theorem RDs.sub {h h2 : DH} {H : Hp} (s : Sub h2 h) : ∀ (ds : List D) (vs : List V), RDs K h H ds vs → RDs K h2 H ds vs
  | [], _, r => r
  | d :: ds, vs, ⟨v, w, e, q1, q2⟩ => ⟨v, w, e, RD.sub s d v q1, RDs.sub s ds w q2⟩
end
theorem HR.sub {h h2 : DH} {H : Hp} (s : Sub h2 h) (r : HR K h H) : HR K h2 H := fun a o e => by
  have e1 : h a = some o := by
    rcases s a with z | ⟨z, _⟩
    · rw [← z]; exact e
    · rw [z] at e; cases e
  have q := r a o e1
  cases o with
  | lst ds => obtain ⟨vs, e2, q⟩ := q; exact ⟨vs, e2, RDs.sub s ds vs q⟩
  | hid => exact q

theorem KP.sub {h h1 h2 : DH} {H H1 : Hp} (k : KP h H h1 H1) (s : Sub h2 h1) : KP h H h2 H1 := fun a o st e => by
  obtain ⟨e1, e2⟩ := k a o st e
  rcases s a with z | ⟨z, ds, z2⟩
  · exact ⟨z.trans e1, e2⟩
  · rw [e1] at z2
    rw [z2] at st
    cases st
/-! ### the lifts -/
abbrev St' := List (Option D)
abbrev VK' := D → DH → Prop
abbrev TE' := St' → DH → VK' → Prop
abbrev TT' := St' → DH → (Bool → DH → Prop) → Prop
abbrev TA' := St' → DH → (List D → DH → Prop) → Prop
structure Ends' where
  nx : St' → DH → Prop
  rt : VK'
  bk : St' → DH → Prop := fun _ _ => False
  ct : St' → DH → Prop := fun _ _ => False
abbrev TS' := Ends' → St' → DH → Prop

def SR (K : PySem.W.Frag) (h : DH) (H : Hp) (σ : L2.St) (τ : St') : Prop := ∀ (i : Nat) (d : D), τ[i]? = some (some d) → ∃ v, σ[i]? = some (some v) ∧ RD K h H d v
theorem SR.mono {h h' : DH} {H H' : Hp} {σ : L2.St} {τ : St'} (k : KP h H h' H') (r : SR K h H σ τ) : SR K h' H' σ τ := fun i d e => by
  obtain ⟨v, e1, q⟩ := r i d e
  exact ⟨v, e1, RD.mono k d v q⟩
theorem SR.sub {h h2 : DH} {H : Hp} {σ : L2.St} {τ : St'} (s : Sub h2 h) (r : SR K h H σ τ) : SR K h2 H σ τ := fun i d e => by
  obtain ⟨v, e1, q⟩ := r i d e
  exact ⟨v, e1, RD.sub s d v q⟩
theorem SR.set {h : DH} {H : Hp} {σ : L2.St} {τ : St'} {i : Nat} {d : D} {v : V} (r : SR K h H σ τ) (hl : τ.length = σ.length) (q : RD K h H d v) : SR K h H (σ.set i (some v)) (τ.set i (some d)) := fun j e ej => by
  by_cases hij : i = j
  · subst hij
    by_cases hi : i < τ.length
    · rw [List.getElem?_set_self hi] at ej
      cases ej
      exact ⟨v, List.getElem?_set_self (by omega), q⟩
    · rw [List.getElem?_eq_none (by rw [List.length_set]; omega)] at ej
      cases ej
  · rw [List.getElem?_set_ne hij] at ej
    obtain ⟨u, e1, q1⟩ := r j e ej
    exact ⟨u, by rw [List.getElem?_set_ne hij]; exact e1, q1⟩

def Fin (K : PySem.W.Frag) (h : DH) (H : Hp) (Q' : VK') (Q : VK) : Prop := ∀ d h' v H', KP h H h' H' → HR K h' H' → RD K h' H' d v → Q' d h' → Q v H'
def FinT (K : PySem.W.Frag) (h : DH) (H : Hp) (Q' : Bool → DH → Prop) (Q : Bool → Hp → Prop) : Prop := ∀ b h' H', KP h H h' H' → HR K h' H' → Q' b h' → Q b H'
def FinA (K : PySem.W.Frag) (h : DH) (H : Hp) (Q' : List D → DH → Prop) (Q : List V → Hp → Prop) : Prop := ∀ ds h' vs H', KP h H h' H' → HR K h' H' → RDs K h' H' ds vs → Q' ds h' → Q vs H'
def FinN (K : PySem.W.Frag) (h : DH) (H : Hp) (Q' : St' → DH → Prop) (Q : L2.St → Hp → Prop) : Prop := ∀ τ h' σ H', KP h H h' H' → HR K h' H' → τ.length = σ.length → SR K h' H' σ τ → Q' τ h' → Q σ H'
theorem Fin.after {h h1 : DH} {H H1 : Hp} {Q' : VK'} {Q : VK} (k : KP h H h1 H1) (f : Fin K h H Q' Q) : Fin K h1 H1 Q' Q := fun d h' v H' k' => f d h' v H' (k.trans k')
theorem FinT.after {h h1 : DH} {H H1 : Hp} {Q' : Bool → DH → Prop} {Q : Bool → Hp → Prop} (k : KP h H h1 H1) (f : FinT K h H Q' Q) : FinT K h1 H1 Q' Q := fun d h' H' k' => f d h' H' (k.trans k')
theorem FinA.after {h h1 : DH} {H H1 : Hp} {Q' : List D → DH → Prop} {Q : List V → Hp → Prop} (k : KP h H h1 H1) (f : FinA K h H Q' Q) : FinA K h1 H1 Q' Q := fun d h' v H' k' => f d h' v H' (k.trans k')
theorem FinN.after {h h1 : DH} {H H1 : Hp} {Q' : St' → DH → Prop} {Q : L2.St → Hp → Prop} (k : KP h H h1 H1) (f : FinN K h H Q' Q) : FinN K h1 H1 Q' Q := fun d h' v H' k' => f d h' v H' (k.trans k')
structure FinS (K : PySem.W.Frag) (h : DH) (H : Hp) (D' : Ends') (D : Ends) : Prop where
  nx : FinN K h H D'.nx D.nx
  rt : Fin K h H D'.rt D.rt
  bk : FinN K h H D'.bk D.bk
  ct : FinN K h H D'.ct D.ct
theorem FinS.after {h h1 : DH} {H H1 : Hp} {D' : Ends'} {D : Ends} (k : KP h H h1 H1) (f : FinS K h H D' D) : FinS K h1 H1 D' D := ⟨f.nx.after k, f.rt.after k, f.bk.after k, f.ct.after k⟩

/-- an exception that leaves: its class, the heap -/
abbrev XK' := Value → DH → Prop
def FinX (K : PySem.W.Frag) (h : DH) (H : Hp) (E' : XK') (E : XK) : Prop := ∀ c h' H', KP h H h' H' → HR K h' H' → E' c h' → E c none H'
theorem FinX.after {h h1 : DH} {H H1 : Hp} {E' : XK'} {E : XK} (k : KP h H h1 H1) (f : FinX K h H E' E) : FinX K h1 H1 E' E := fun c h' H' k' => f c h' H' (k.trans k')
/-- what the def lets out -/
structure Wsh where
  d : XK'
  v : XK
/-- where one stands: slots and heaps -/
structure At (K : PySem.W.Frag) (Y : Wsh) (h : DH) (H : Hp) (σ : L2.St) (τ : St') : Prop where
  len : τ.length = σ.length
  sr : SR K h H σ τ
  hr : HR K h H
  fx : FinX K h H Y.d Y.v
theorem At.after {Y : Wsh} {h h1 : DH} {H H1 : Hp} {σ : L2.St} {τ : St'} (a : At K Y h H σ τ) (k : KP h H h1 H1) (r : HR K h1 H1) : At K Y h1 H1 σ τ := ⟨a.len, a.sr.mono k, r, a.fx.after k⟩
theorem At.next {Y : Wsh} {h h1 : DH} {H H1 : Hp} {σ σ1 : L2.St} {τ τ1 : St'} (a : At K Y h H σ τ) (k : KP h H h1 H1) (r : HR K h1 H1) (l : τ1.length = σ1.length) (s : SR K h1 H1 σ1 τ1) : At K Y h1 H1 σ1 τ1 := ⟨l, s, r, a.fx.after k⟩

def lE (K : PySem.W.Frag) (Y : Wsh) (t : TE') : TE := fun σ H Q => ∃ τ h Q', At K Y h H σ τ ∧ t τ h Q' ∧ Fin K h H Q' Q
def lT (K : PySem.W.Frag) (Y : Wsh) (t : TT') : TT := fun σ H Q => ∃ τ h Q', At K Y h H σ τ ∧ t τ h Q' ∧ FinT K h H Q' Q
def lA (K : PySem.W.Frag) (Y : Wsh) (t : TA') : TA := fun σ H Q => ∃ τ h Q', At K Y h H σ τ ∧ t τ h Q' ∧ FinA K h H Q' Q
def lS (K : PySem.W.Frag) (Y : Wsh) (t : TS') : TS := fun D σ H => ∃ τ h D', At K Y h H σ τ ∧ t D' τ h ∧ FinS K h H D' D
/-- a target, filled with d -/
abbrev TG' := D → St' → DH → (St' → DH → Prop) → Prop
def lG (K : PySem.W.Frag) (Y : Wsh) (t : TG') : TG := fun v σ H Q => ∃ d τ h Q', At K Y h H σ τ ∧ RD K h H d v ∧ t d τ h Q' ∧ FinN K h H Q' Q
abbrev TGs' := List D → St' → DH → (St' → DH → Prop) → Prop
def lGs (K : PySem.W.Frag) (Y : Wsh) (t : TGs') : TGs := fun vs σ H Q => ∃ ds τ h Q', At K Y h H σ τ ∧ RDs K h H ds vs ∧ t ds τ h Q' ∧ FinN K h H Q' Q
def DG (X : Cx) (Y : Wsh) (e : Expr) (t : TG') : Prop := PG X e (lG X.K Y t)
def DGs (X : Cx) (Y : Wsh) (es : List Expr) (t : TGs') : Prop := PGs X es (lGs X.K Y t)
def DE (X : Cx) (Y : Wsh) (e : Expr) (t : TE') : Prop := PE X e (lE X.K Y t)
def DT (X : Cx) (Y : Wsh) (e : Expr) (t : TT') : Prop := PT X e (lT X.K Y t)
def DW (X : Cx) (Y : Wsh) (e : Expr) (t : TT') : Prop := PW X e (lT X.K Y t)
def DA (X : Cx) (Y : Wsh) (es : List Expr) (t : TA') : Prop := PA X es (lA X.K Y t)
def DS (X : Cx) (Y : Wsh) (st : Stmt) (t : TS') : Prop := PS X st (lS X.K Y t)
def DSs (X : Cx) (Y : Wsh) (st : List Stmt) (t : TS') : Prop := PSs X st (lS X.K Y t)

theorem _root_.L2.PE.imp {X : Cx} {e : Expr} {t u : TE} (p : PE X e t) (h : ∀ σ H Q, u σ H Q → t σ H Q) : PE X e u := ⟨fun pins s σ H Q I q => p.run pins s σ H Q I (h σ H Q q)⟩
theorem _root_.L2.PT.imp {X : Cx} {e : Expr} {t u : TT} (p : PT X e t) (h : ∀ σ H Q, u σ H Q → t σ H Q) : PT X e u := ⟨fun pins s σ H Q I q => p.run pins s σ H Q I (h σ H Q q)⟩
theorem _root_.L2.PW.imp {X : Cx} {e : Expr} {t u : TT} (p : PW X e t) (h : ∀ σ H Q, u σ H Q → t σ H Q) : PW X e u := ⟨fun wh pins s σ H Q I q => p.run wh pins s σ H Q I (h σ H Q q)⟩
theorem _root_.L2.PA.imp {X : Cx} {es : List Expr} {t u : TA} (p : PA X es t) (h : ∀ σ H Q, u σ H Q → t σ H Q) : PA X es u := ⟨fun pos pins s σ H Q I q => p.run pos pins s σ H Q I (h σ H Q q)⟩
theorem _root_.L2.PS.imp {X : Cx} {st : Stmt} {t u : TS} (p : PS X st t) (h : ∀ D σ H, u D σ H → t D σ H) : PS X st u := ⟨fun pins s σ H D I q => p.run pins s σ H D I (h D σ H q)⟩
theorem _root_.L2.PG.imp {X : Cx} {e : Expr} {t u : TG} (p : PG X e t) (h : ∀ v σ H Q, u v σ H Q → t v σ H Q) : PG X e u := ⟨fun pins s σ H v w Q I r q => p.run pins s σ H v w Q I r (h v σ H Q q)⟩
theorem _root_.L2.PGs.imp {X : Cx} {es : List Expr} {t u : TGs} (p : PGs X es t) (h : ∀ v σ H Q, u v σ H Q → t v σ H Q) : PGs X es u := ⟨fun pins s σ H v w Q I r q => p.run pins s σ H v w Q I r (h v σ H Q q)⟩
theorem _root_.L2.PSs.imp {X : Cx} {st : List Stmt} {t u : TS} (p : PSs X st t) (h : ∀ D σ H, u D σ H → t D σ H) : PSs X st u := ⟨fun pins s σ H D I q => p.run pins s σ H D I (h D σ H q)⟩
end DL

set_option Elab.async false
set_option linter.all false
set_option maxRecDepth 100000
/-! DL2: the rules of expressions, over data. -/
namespace DL
open PySem PySem.Spec PyProof.Rows L2
section
variable {X : Cx} {Y : Wsh} {K : PySem.W.Frag} {pos : Pos}

/-! ### names, constants -/
def tv (i : Nat) : TE' := fun τ h Q => ∃ d, τ[i]? = some (some d) ∧ Q d h
def tc (d : D) : TE' := fun _ h Q => Q d h
theorem de_var (i : Nat) {x : Str} (hN : X.N[i]? = some x := by rfl) (hv : Vis X.env.scope x := by first | exact Or.inl rfl | exact Or.inr (Or.inl rfl) | exact Or.inr (Or.inr rfl)) (hd : (x == ("__debug__" : Str)) = false := by decide)
    (hcd : (x == ("__classdict__" : Str)) = false := by decide) : DE X Y (.Name x pos) (tv i) := (pe_var hN hv hd hcd).imp fun σ H Q ⟨τ, h, Q', a, ⟨d, e, q⟩, f⟩ => by
  obtain ⟨v, e1, r⟩ := a.sr i d e
  exact ⟨v, e1, f d h v H .refl a.hr r q⟩
theorem de_c {e : Expr} {d : D} {v : V} (p : PE X e (tC v)) (r : ∀ h H, RD X.K h H d v) : DE X Y e (tc d) := p.imp fun σ H Q ⟨τ, h, Q', a, q, f⟩ => f d h v H .refl a.hr (r h H) q
theorem de_int {i : Int} {j : Nat} : DE X Y (.Constant (.int i) j pos) (tc (.int i)) := de_c pe_int fun _ _ => rfl
theorem de_bl {b : Bool} {j : Nat} : DE X Y (.Constant (.bool b) j pos) (tc (.bl b)) := de_c pe_bl fun _ _ => rfl
theorem de_non {j : Nat} : DE X Y (.Constant .none j pos) (tc .non) := de_c pe_non fun _ _ => rfl
theorem de_str {x : Str} {j : Nat} : DE X Y (.Constant (.str x) j pos) (tc (.str x)) := de_c pe_str fun _ _ => rfl
theorem de_blt {x : Str} {n : String} (hg : Gl X x) (hm : X.mg x = none) (hv : bootBuiltins x = some (.type n)) (hn : x ≠ "__name__" := by decide) (hd : (x == ("__debug__" : Str)) = false := by decide) : DE X Y (.Name x pos) (tc (.ty n)) :=
  de_c (pe_bltn (v := .ty n) hg hm hv rfl hn hd) fun _ _ => rfl
theorem de_glob {x : Str} {a : Addr} (hg : Gl X x) (hm : X.mg x = some (.ref a)) (hd : (x == ("__debug__" : Str)) = false := by decide) : DE X Y (.Name x pos) (tc (.ref a)) :=
  de_c (pe_glob (v := .ref a) hg hm rfl hd) fun _ _ => rfl

/-! ### operators -/
abbrev DR2 := D → D → DH → VK' → Prop
abbrev DR1 := D → DH → VK' → Prop
def to (r : DR2) (ta tb : TE') : TE' := fun τ h Q => ta τ h fun x h1 => tb τ h1 fun y h2 => r x y h2 Q
def tu (r : DR1) (ta : TE') : TE' := fun τ h Q => ta τ h fun x h1 => r x h1 Q
def OpL (K : PySem.W.Frag) (r : R2) (r' : DR2) : Prop := ∀ x y v u h H Q' Q, RD K h H x v → RD K h H y u → HR K h H → r' x y h Q' → Fin K h H Q' Q → r v u H Q
def UnL (K : PySem.W.Frag) (r : V → Hp → VK → Prop) (r' : DR1) : Prop := ∀ x v h H Q' Q, RD K h H x v → HR K h H → r' x h Q' → Fin K h H Q' Q → r v H Q
def CallL (K : PySem.W.Frag) (r : List V → Hp → VK → Prop) (r' : List D → DH → VK' → Prop) : Prop := ∀ ds vs h H Q' Q, RDs K h H ds vs → HR K h H → r' ds h Q' → Fin K h H Q' Q → r vs H Q
theorem bin_imp {r : R2} {r' : DR2} {ta tb : TE'} (hl : OpL K r r') {σ : L2.St} {H : Hp} {Q : VK} (q : lE K Y (to r' ta tb) σ H Q) : tOp r (lE K Y ta) (lE K Y tb) σ H Q := by
  obtain ⟨τ, h, Q', a, q, f⟩ := q
  exact ⟨τ, h, fun x h1 => tb τ h1 fun y h2 => r' x y h2 Q', a, q, fun x h1 v H1 k1 hr1 rx q1 => ⟨τ, h1, fun y h2 => r' x y h2 Q', a.after k1 hr1, q1, fun y h2 u H2 k2 hr2 ry q2 =>
    hl x y v u h2 H2 Q' Q (RD.mono k2 _ _ rx) ry hr2 q2 (f.after (k1.trans k2))⟩⟩
theorem un_imp {r : V → Hp → VK → Prop} {r' : DR1} {ta : TE'} (hl : UnL K r r') {σ : L2.St} {H : Hp} {Q : VK} (q : lE K Y (tu r' ta) σ H Q) : tUn r (lE K Y ta) σ H Q := by
  obtain ⟨τ, h, Q', a, q, f⟩ := q
  exact ⟨τ, h, fun x h1 => r' x h1 Q', a, q, fun x h1 v H1 k1 hr1 rx q1 => hl x v h1 H1 Q' Q rx hr1 q1 (f.after k1)⟩
variable {a b c : Expr} {ta tb tc' : TE'}
theorem de_op {op : Operator} {r : R2} {r' : DR2} (ho : OpR X (binaryOp op) r) (hl : OpL X.K r r') (ha : DE X Y a ta) (hb : DE X Y b tb) : DE X Y (.BinOp a op b pos) (to r' ta tb) := (pe_op ho ha hb).imp fun _ _ _ q => bin_imp hl q
theorem de_un {op : UnaryOp} {r : V → Hp → VK → Prop} {r' : DR1} (ho : UnR X (unaryOp op) r) (hl : UnL X.K r r') (ha : DE X Y a ta) : DE X Y (.UnaryOp op a pos) (tu r' ta) := (pe_un ho ha).imp fun _ _ _ q => un_imp hl q
theorem de_cmp {op : CmpOp} {r : R2} {r' : DR2} (ho : OpR X (compareOp op) r) (hl : OpL X.K r r') (hm : behindInMarks op b = false) (ha : DE X Y a ta) (hb : DE X Y b tb) : DE X Y (.Compare a [op] [b] pos) (to r' ta tb) := (pe_cmpR ho ha hb hm).imp fun _ _ _ q => bin_imp hl q
/-- x, which must be a truth -/
def isB (x : D) (k : Bool → Prop) : Prop := match x with | .bl c => k c | _ => False
def tb' (t : TE') : TT' := fun τ h Q => t τ h fun x h1 => isB x fun c => Q c h1
theorem tb_imp {t : TE'} {σ : L2.St} {H : Hp} {Q : Bool → Hp → Prop} (q : lT K Y (tb' t) σ H Q) : tTest (lE K Y t) σ H Q := by
  obtain ⟨τ, h, Q', a, q, f⟩ := q
  refine ⟨τ, h, _, a, q, fun x h1 v H1 k1 hr1 rx q1 => ?_⟩
  cases x with
  | bl c => exact ⟨c, rx, f c h1 H1 k1 hr1 q1⟩
  | _ => exact q1.elim
theorem dt_cmp {op : CmpOp} {r : R2} {r' : DR2} (ho : OpR X (compareOp op) r) (hl : OpL X.K r r') (hm : behindInMarks op b = false) (ha : DE X Y a ta) (hb : DE X Y b tb) : DT X Y (.Compare a [op] [b] pos) (tb' (to r' ta tb)) :=
  (pt_cmpR ho ha hb hm).imp fun _ _ _ q => by
    obtain ⟨τ, h, Q', a, q, f⟩ := q
    refine bin_imp (Y := Y) hl ⟨τ, h, _, a, q, fun x h1 v H1 k1 hr1 rx q1 => ?_⟩
    cases x with
    | bl c => exact ⟨c, rx, f c h1 H1 k1 hr1 q1⟩
    | _ => exact q1.elim
/-- an expression that gives a truth, as a test -/
theorem dt_val {e : Expr} {t : TE'} (h : DE X Y e t) (he : ∀ whole, isTrue e X.env whole = (do let v ← whole; standAt e.pos; holding [v] (truthy v)) := by intro _; rfl) : DT X Y e (tb' t) :=
  (pt_val h he).imp fun _ _ _ q => tb_imp q
/-- a < b < c -/
def tch (r r' : DR2) (ta tb tc : TE') : TE' := fun τ h Q => ta τ h fun x h1 => tb τ h1 fun y h2 => r x y h2 fun z h3 => isB z fun k => if k = true then tc τ h3 fun w h4 => r' y w h4 Q else Q (.bl false) h3
theorem ch_imp {r r' : R2} {s s' : DR2} {tc : TE'} (hl : OpL K r s) (hl' : OpL K r' s') {σ : L2.St} {H : Hp} {Q : VK} (q : lE K Y (tch s s' ta tb tc) σ H Q) : tChain r r' (lE K Y ta) (lE K Y tb) (lE K Y tc) σ H Q := by
  obtain ⟨τ, h, Q', a, q, f⟩ := q
  refine ⟨τ, h, _, a, q, fun x h1 v H1 k1 hr1 rx q1 => ⟨τ, h1, _, a.after k1 hr1, q1, fun y h2 u H2 k2 hr2 ry q2 => ?_⟩⟩
  refine hl x y v u h2 H2 _ _ (RD.mono k2 _ _ rx) ry hr2 q2 fun z h3 w H3 k3 hr3 rz q3 => ?_
  cases z with
  | bl k =>
    refine ⟨k, rz, ?_⟩
    have q3 : if k = true then tc τ h3 fun w h4 => s' y w h4 Q' else Q' (.bl false) h3 := q3
    cases k with
    | true =>
      rw [if_pos rfl] at q3 ⊢
      exact ⟨τ, h3, _, (a.after k1 hr1).after (k2.trans k3) hr3, q3, fun w h4 z H4 k4 hr4 rw' q4 => hl' y w u z h4 H4 Q' Q (RD.mono (k3.trans k4) _ _ ry) rw' hr4 q4 (f.after (k1.trans (k2.trans (k3.trans k4))))⟩
    | false =>
      rw [if_neg Bool.false_ne_true] at q3 ⊢
      exact f (.bl false) h3 _ H3 (k1.trans (k2.trans k3)) hr3 rfl q3
  | _ => exact q3.elim
theorem de_chain {op op' : CmpOp} {r r' : R2} {s s' : DR2} {tc : TE'} (ho : OpR X (compareOp op) r) (hl : OpL X.K r s) (ho' : OpR X (compareOp op') r') (hl' : OpL X.K r' s') (ha : DE X Y a ta) (hb : DE X Y b tb) (hc : DE X Y c tc)
    (hm : lastMarks [op, op'] [b, c] = false := by with_unfolding_all rfl) : DE X Y (.Compare a [op, op'] [b, c] pos) (tch s s' ta tb tc) := (pe_chain ho ho' ha hb hc hm).imp fun _ _ _ q => ch_imp hl hl' q
theorem dt_chain {op op' : CmpOp} {r r' : R2} {s s' : DR2} {tc : TE'} (ho : OpR X (compareOp op) r) (hl : OpL X.K r s) (ho' : OpR X (compareOp op') r') (hl' : OpL X.K r' s') (ha : DE X Y a ta) (hb : DE X Y b tb) (hc : DE X Y c tc)
    (hm : lastMarks [op, op'] [b, c] = false := by with_unfolding_all rfl) : DT X Y (.Compare a [op, op'] [b, c] pos) (tb' (tch s s' ta tb tc)) := (pt_chain ho ho' ha hb hc hm).imp fun _ _ _ q => by
  obtain ⟨τ, h, Q', a, q, f⟩ := q
  refine ch_imp (Y := Y) hl hl' ⟨τ, h, _, a, q, fun x h1 v H1 k1 hr1 rx q1 => ?_⟩
  cases x with
  | bl c => exact ⟨c, rx, f c h1 H1 k1 hr1 q1⟩
  | _ => exact q1.elim

/-! ### and, or, not -/
def tand (t u : TT') : TT' := fun τ h Q => t τ h fun c h1 => if c = true then u τ h1 Q else Q false h1
def tor (t u : TT') : TT' := fun τ h Q => t τ h fun c h1 => if c = true then Q true h1 else u τ h1 Q
def tnot (t : TT') : TT' := fun τ h Q => t τ h fun c h1 => Q (!c) h1
variable {tA tB : TT'} {rest : List Expr}
theorem dw_and1 (ha : DT X Y a tA) : DW X Y (.BoolOp .And [a] pos) tA := pw_and1 ha
theorem dw_or1 (ha : DT X Y a tA) : DW X Y (.BoolOp .Or [a] pos) tA := pw_or1 ha
theorem dw_and (ha : DT X Y a tA) (hb : DW X Y (.BoolOp .And (b :: rest) pos) tB) : DW X Y (.BoolOp .And (a :: b :: rest) pos) (tand tA tB) := (pw_and ha hb).imp fun σ H Q ⟨τ, h, Q', at', q, f⟩ => by
  refine ⟨τ, h, _, at', q, fun c h1 H1 k1 hr1 q1 => ?_⟩
  cases c with
  | true => rw [if_pos rfl] at q1 ⊢; exact ⟨τ, h1, Q', at'.after k1 hr1, q1, f.after k1⟩
  | false => rw [if_neg Bool.false_ne_true] at q1 ⊢; exact f _ h1 H1 k1 hr1 q1
theorem dw_or (ha : DT X Y a tA) (hb : DW X Y (.BoolOp .Or (b :: rest) pos) tB) : DW X Y (.BoolOp .Or (a :: b :: rest) pos) (tor tA tB) := (pw_or ha hb).imp fun σ H Q ⟨τ, h, Q', at', q, f⟩ => by
  refine ⟨τ, h, _, at', q, fun c h1 H1 k1 hr1 q1 => ?_⟩
  cases c with
  | true => rw [if_pos rfl] at q1 ⊢; exact f _ h1 H1 k1 hr1 q1
  | false => rw [if_neg Bool.false_ne_true] at q1 ⊢; exact ⟨τ, h1, Q', at'.after k1 hr1, q1, f.after k1⟩
theorem dw_pt {e : Expr} {t : TT'} (h : DW X Y e t) : DT X Y e t := PW.pt h
theorem dt_not (ha : DT X Y a tA) : DT X Y (.UnaryOp .Not a pos) (tnot tA) := (pt_not ha).imp fun σ H Q ⟨τ, h, Q', at', q, f⟩ => ⟨τ, h, _, at', q, fun c h1 H1 k1 hr1 q1 => f _ h1 H1 k1 hr1 q1⟩
def tandv (ta tb : TE') : TE' := fun τ h Q => ta τ h fun x h1 => isB x fun c => if c = true then tb τ h1 Q else Q (.bl false) h1
def torv (ta tb : TE') : TE' := fun τ h Q => ta τ h fun x h1 => isB x fun c => if c = true then Q (.bl true) h1 else tb τ h1 Q
def tnotv (ta : TE') : TE' := fun τ h Q => ta τ h fun x h1 => isB x fun c => Q (.bl (!c)) h1
theorem de_one {op : BoolOp} {t : TE'} (h : DE X Y a t) : DE X Y (.BoolOp op [a] pos) t := pe_one h
theorem de_and (ha : DE X Y a ta) (hb : DE X Y (.BoolOp .And (b :: rest) pos) tb) : DE X Y (.BoolOp .And (a :: b :: rest) pos) (tandv ta tb) := (pe_and ha hb).imp fun σ H Q ⟨τ, h, Q', at', q, f⟩ => by
  refine ⟨τ, h, _, at', q, fun x h1 v H1 k1 hr1 rx q1 => ?_⟩
  cases x with
  | bl c =>
    refine ⟨c, rx, ?_⟩
    have q1 : if c = true then tb τ h1 Q' else Q' (.bl false) h1 := q1
    cases c with
    | true => rw [if_pos rfl] at q1 ⊢; exact ⟨τ, h1, Q', at'.after k1 hr1, q1, f.after k1⟩
    | false => rw [if_neg Bool.false_ne_true] at q1 ⊢; exact f (.bl false) h1 _ H1 k1 hr1 rfl q1
  | _ => exact q1.elim
theorem de_or (ha : DE X Y a ta) (hb : DE X Y (.BoolOp .Or (b :: rest) pos) tb) : DE X Y (.BoolOp .Or (a :: b :: rest) pos) (torv ta tb) := (pe_or ha hb).imp fun σ H Q ⟨τ, h, Q', at', q, f⟩ => by
  refine ⟨τ, h, _, at', q, fun x h1 v H1 k1 hr1 rx q1 => ?_⟩
  cases x with
  | bl c =>
    refine ⟨c, rx, ?_⟩
    have q1 : if c = true then Q' (.bl true) h1 else tb τ h1 Q' := q1
    cases c with
    | true => rw [if_pos rfl] at q1 ⊢; exact f (.bl true) h1 _ H1 k1 hr1 rfl q1
    | false => rw [if_neg Bool.false_ne_true] at q1 ⊢; exact ⟨τ, h1, Q', at'.after k1 hr1, q1, f.after k1⟩
  | _ => exact q1.elim
theorem de_not (ha : DE X Y a ta) : DE X Y (.UnaryOp .Not a pos) (tnotv ta) := (pe_not ha).imp fun σ H Q ⟨τ, h, Q', at', q, f⟩ => by
  refine ⟨τ, h, _, at', q, fun x h1 v H1 k1 hr1 rx q1 => ?_⟩
  cases x with
  | bl c => exact ⟨c, rx, f (.bl (!c)) h1 _ H1 k1 hr1 rfl q1⟩
  | _ => exact q1.elim
def tif (t : TT') (ta tb : TE') : TE' := fun τ h Q => t τ h fun c h1 => if c = true then ta τ h1 Q else tb τ h1 Q
theorem de_if (hc : DT X Y c tA) (ha : DE X Y a ta) (hb : DE X Y b tb) : DE X Y (.IfExp c a b pos) (tif tA ta tb) := (pe_ifExp hc ha hb).imp fun σ H Q ⟨τ, h, Q', at', q, f⟩ => by
  refine ⟨τ, h, _, at', q, fun c h1 H1 k1 hr1 q1 => ?_⟩
  cases c with
  | true => rw [if_pos rfl] at q1 ⊢; exact ⟨τ, h1, Q', at'.after k1 hr1, q1, f.after k1⟩
  | false => rw [if_neg Bool.false_ne_true] at q1 ⊢; exact ⟨τ, h1, Q', at'.after k1 hr1, q1, f.after k1⟩

/-! ### arguments, displays -/
def tan : TA' := fun _ h Q => Q [] h
def tac (ta : TE') (tr : TA') : TA' := fun τ h Q => ta τ h fun x h1 => tr τ h1 fun xs h2 => Q (x :: xs) h2
variable {es : List Expr} {tr : TA'}
theorem da_nil : DA X Y [] tan := pa_nil.imp fun σ H Q ⟨τ, h, Q', at', q, f⟩ => f [] h [] H .refl at'.hr rfl q
theorem da_cons (ha : DE X Y a ta) (hr : DA X Y es tr) (hs : starEach (a :: es) X.env = (false, eval a X.env) :: starEach es X.env := by rfl) : DA X Y (a :: es) (tac ta tr) := (pa_cons ha hr hs).imp fun σ H Q ⟨τ, h, Q', at', q, f⟩ =>
  ⟨τ, h, _, at', q, fun x h1 v H1 k1 hr1 rx q1 => ⟨τ, h1, _, at'.after k1 hr1, q1, fun xs h2 vs H2 k2 hr2 rs q2 => f _ h2 _ H2 (k1.trans k2) hr2 (.cons (RD.mono k2 _ _ rx) rs) q2⟩⟩
def ttup (t : TA') : TE' := fun τ h Q => t τ h fun xs h1 => xs.length ≤ sizeLine ∧ Q (.tup xs) h1
def tlis (t : TA') : TE' := fun τ h Q => t τ h fun xs h1 => xs.length ≤ sizeLine ∧ Q (.lis xs) h1
def town (t : TA') : TE' := fun τ h Q => t τ h fun xs h1 => xs.length ≤ sizeLine ∧ ∀ p, h1 p = none → Q (.ref p) (put h1 p (.lst xs))
theorem Fin.tup {h : DH} {H : Hp} {Q' : VK'} {Q : VK} (f : Fin K h H Q' Q) (r : HR K h H) {ds : List D} {vs : List V} (rs : RDs K h H ds vs) (q : Q' (.tup ds) h) : ∀ p, H p = none → Q (.ref p) (upd H p (.tup vs)) := fun p n =>
  f (.tup ds) h _ _ (KP.new n) (r.new n) ⟨p, vs, rfl, .inl ⟨r.fresh n, .inl upd_same⟩, RDs.mono (KP.new n) _ _ rs⟩ q
theorem Fin.lis {h : DH} {H : Hp} {Q' : VK'} {Q : VK} (f : Fin K h H Q' Q) (r : HR K h H) {ds : List D} {vs : List V} (rs : RDs K h H ds vs) (q : Q' (.lis ds) h) : ∀ p, H p = none → Q (.ref p) (upd H p (.lst vs)) := fun p n =>
  f (.lis ds) h _ _ (KP.new n) (r.new n) ⟨p, vs, rfl, r.fresh n, upd_same, RDs.mono (KP.new n) _ _ rs⟩ q
theorem Fin.own {h : DH} {H : Hp} {Q' : VK'} {Q : VK} (f : Fin K h H Q' Q) (r : HR K h H) {ds : List D} {vs : List V} (rs : RDs K h H ds vs) (q : ∀ p, h p = none → Q' (.ref p) (put h p (.lst ds))) : ∀ p, H p = none → Q (.ref p) (upd H p (.lst vs)) := fun p n =>
  f (.ref p) _ _ _ (KP.newL n) (r.newL n rs) rfl (q p (r.fresh n))
theorem de_tup {x1 : Nat} (p : DA X Y es tr) : DE X Y (.Tuple es x1 pos) (ttup tr) := (pe_tup p).imp fun σ H Q ⟨τ, h, Q', at', q, f⟩ => ⟨τ, h, _, at', q, fun xs h1 vs H1 k1 hr1 rs q1 => ⟨by rw [rs.length]; exact q1.1, (f.after k1).tup hr1 rs q1.2⟩⟩
theorem de_lis (p : DA X Y es tr) : DE X Y (.List es pos) (tlis tr) := (pe_lst p).imp fun σ H Q ⟨τ, h, Q', at', q, f⟩ => ⟨τ, h, _, at', q, fun xs h1 vs H1 k1 hr1 rs q1 => ⟨by rw [rs.length]; exact q1.1, (f.after k1).lis hr1 rs q1.2⟩⟩
theorem de_own (p : DA X Y es tr) : DE X Y (.List es pos) (town tr) := (pe_lst p).imp fun σ H Q ⟨τ, h, Q', at', q, f⟩ => ⟨τ, h, _, at', q, fun xs h1 vs H1 k1 hr1 rs q1 => ⟨by rw [rs.length]; exact q1.1, (f.after k1).own hr1 rs q1.2⟩⟩
/-- an own list that is settled from here on -/
def tset (t : TE') : TE' := fun τ h Q => t τ h fun x h1 => match x with | .ref p => ∃ ds, h1 p = some (.lst ds) ∧ Q (.lis ds) (del h1 p) | d => Q d h1
theorem KP.del {h : DH} {H : Hp} {p : Addr} {ds : List D} (e : h p = some (.lst ds)) : KP h H (del h p) H := fun a o s ea => by
  have ne : a ≠ p := fun z => by rw [z, e] at s; cases s
  exact ⟨del_ne ne, ea⟩
theorem de_set (ha : DE X Y a ta) : DE X Y a (tset ta) := PE.imp ha fun σ H Q ⟨τ, h, Q', at', q, f⟩ => ⟨τ, h, _, at', q, fun x h1 v H1 k1 hr1 rx q1 => by
  cases x with
  | ref p =>
    obtain ⟨ds, e, q1⟩ := q1
    obtain ⟨vs, e1, rs⟩ := hr1.lst e
    refine f _ _ _ H1 (k1.trans (KP.del e)) (hr1.sub (Sub.del e)) ?_ q1
    exact ⟨p, vs, rx, del_same, e1, RDs.sub (Sub.del e) _ _ rs⟩
  | _ => exact f _ h1 v H1 k1 hr1 rx q1⟩

/-! ### calls -/
abbrev Sp' := List D → DH → VK' → XK' → Prop
def lSp (K : PySem.W.Frag) (sp : Sp') : Sp := fun vs H Q E => ∃ ds h Q' E', RDs K h H ds vs ∧ HR K h H ∧ sp ds h Q' E' ∧ Fin K h H Q' Q ∧ FinX K h H E' E
def tcall (sp : Sp') (E : XK') (t : TA') : TE' := fun τ h Q => t τ h fun ds h1 => sp ds h1 Q E
abbrev FnD (P : Program) (w : World) (K : PySem.W.Frag) (mg : Str → Option Value) (base : Heap) (k : Nat) (f : Addr) (fd : FuncData) (ps : List Str) (sp : Sp') : Prop := FnOk P w K mg base (L2.CX P w) k f fd ps (lSp K sp)
theorem passN : Passes (L2.CX X.prog X.w) X (fun _ _ _ => False) := fun _ _ _ _ _ _ _ h => by
  obtain ⟨_, _, _, _, _, _, _, _, _, _, _, _, z⟩ := h
  exact z.elim
section
variable {k : Nat} {f : Addr} {fd : FuncData} {ps : List Str} {sp : Sp'} {x : Str} {p : Pos}
/-- f(..), which raises nothing -/
theorem de_call (F : FnD X.prog X.w X.K X.mg X.base k f fd ps sp) (hr : Room k X.A) (hg : Gl X x) (hm : X.mg x = some (.ref f)) (hk : PySem.W.keepIn X.K (.ref f) = true) (hb : Binds X.K fd ps [])
    (ha : DA X Y (a :: es) tr) (hdb : (x == ("__debug__" : Str)) = false := by decide) (he : starEach (a :: es) X.env = (false, eval a X.env) :: starEach es X.env := by rfl) (hpl : (backTo pos (starEach es X.env)).any (·.1) = false := by rfl) :
    DE X Y (.Call (.Name x p) (a :: es) [] pos) (tcall sp (fun _ _ => False) tr) := (pe_call F hr hg hm hk hb .nil passN ha hdb he hpl).imp fun σ H Q ⟨τ, h, Q', at', q, f⟩ =>
  ⟨τ, h, _, at', q, fun ds h1 vs H1 k1 hr1 rs q1 => ⟨ds, h1, Q', fun _ _ => False, by rw [List.append_nil]; exact rs, hr1, q1, f.after k1, fun _ _ _ _ _ z => z⟩⟩
/-- f(..), which may raise what the def lets out -/
theorem de_callX (F : FnD X.prog X.w X.K X.mg X.base k f fd ps sp) (hr : Room k X.A) (hg : Gl X x) (hm : X.mg x = some (.ref f)) (hk : PySem.W.keepIn X.K (.ref f) = true) (hb : Binds X.K fd ps []) (hx : Passes (L2.CX X.prog X.w) X Y.v)
    (ha : DA X Y (a :: es) tr) (hdb : (x == ("__debug__" : Str)) = false := by decide) (he : starEach (a :: es) X.env = (false, eval a X.env) :: starEach es X.env := by rfl) (hpl : (backTo pos (starEach es X.env)).any (·.1) = false := by rfl) :
    DE X Y (.Call (.Name x p) (a :: es) [] pos) (tcall sp Y.d tr) := (pe_call F hr hg hm hk hb .nil hx ha hdb he hpl).imp fun σ H Q ⟨τ, h, Q', at', q, f⟩ =>
  ⟨τ, h, _, at', q, fun ds h1 vs H1 k1 hr1 rs q1 => ⟨ds, h1, Q', Y.d, by rw [List.append_nil]; exact rs, hr1, q1, f.after k1, at'.fx.after k1⟩⟩
end
def tcb (r : List D → DH → VK' → Prop) (t : TA') : TE' := fun τ h Q => t τ h fun ds h1 => r ds h1 Q
section
variable {r : List V → Hp → VK → Prop} {r' : List D → DH → VK' → Prop} {x : Str} {p : Pos} {id T : String}
theorem cb_imp (hl : CallL K r r') {σ : L2.St} {H : Hp} {Q : VK} (q : lE K Y (tcb r' tr) σ H Q) : tCB r (lA K Y tr) σ H Q := by
  obtain ⟨τ, h, Q', at', q, f⟩ := q
  exact ⟨τ, h, _, at', q, fun ds h1 vs H1 k1 hr1 rs q1 => hl ds vs h1 H1 Q' Q rs hr1 q1 (f.after k1)⟩
theorem de_callB (hc : CallR X (.builtin id) r) (hl : CallL X.K r r') (hg : Gl X x) (hm : X.mg x = none) (hv : bootBuiltins x = some (.builtin id)) (ha : DA X Y (a :: es) tr) (hn : x ≠ "__name__" := by decide) (hdb : (x == ("__debug__" : Str)) = false := by decide)
    (he : starEach (a :: es) X.env = (false, eval a X.env) :: starEach es X.env := by rfl) (hpl : (backTo pos (starEach es X.env)).any (·.1) = false := by rfl) : DE X Y (.Call (.Name x p) (a :: es) [] pos) (tcb r' tr) :=
  (pe_callB hc hg hm hv ha hn hdb he hpl).imp fun _ _ _ q => cb_imp hl q
theorem de_callTy (hc : CallR X (.type T) r) (hl : CallL X.K r r') (hg : Gl X x) (hm : X.mg x = none) (hv : bootBuiltins x = some (.type T)) (ha : DA X Y (a :: es) tr) (hn : x ≠ "__name__" := by decide) (hdb : (x == ("__debug__" : Str)) = false := by decide)
    (he : starEach (a :: es) X.env = (false, eval a X.env) :: starEach es X.env := by rfl) (hpl : (backTo pos (starEach es X.env)).any (·.1) = false := by rfl) : DE X Y (.Call (.Name x p) (a :: es) [] pos) (tcb r' tr) :=
  (pe_callTy hc hg hm hv ha hn hdb he hpl).imp fun _ _ _ q => cb_imp hl q
end
/-! ### x[i] -/
theorem de_ix {r : R2} {r' : DR2} (hr : IxR X r) (hl : OpL X.K r r') (hs : PlainIx b) (ha : DE X Y a ta) (hb : DE X Y b tb) : DE X Y (.Subscript a b pos) (to r' ta tb) := (pe_ix hr ha hb hs).imp fun _ _ _ q => bin_imp hl q
end
end DL

set_option Elab.async false
set_option linter.all false
set_option maxRecDepth 100000
/-! DL3: operators, comparisons, subscripts, built-in calls, over data. -/
namespace DL
open PySem PySem.Spec PyProof.Rows L2
section
variable {X : Cx} {Y : Wsh} {K : PySem.W.Frag}

abbrev rOr (r s : R2) : R2 := fun x y H Q => r x y H Q ∨ s x y H Q
/-! ### arithmetic -/
def opAdd : DR2 := fun x y h Q => match x, y with
  | .int i, .int j => Q (.int (i + j)) h
  | .int i, .bl b => Q (.int (i + b2i b)) h
  | .str a, .str b => a.length + b.length ≤ sizeLine ∧ Q (.str (a ++ b)) h
  | .tup a, .tup b => a.length + b.length ≤ sizeLine ∧ Q (.tup (a ++ b)) h
  | .lis a, .lis b => a.length + b.length ≤ sizeLine ∧ Q (.lis (a ++ b)) h
  | _, _ => False
/-- t + u of tuples: an empty one gives the other -/
def rTT (K : PySem.W.Frag) : R2 := fun x y H Q => ∃ a b xs ys, x = .ref a ∧ y = .ref b ∧ SqT K H a xs ∧ SqT K H b ys ∧ xs.length + ys.length ≤ sizeLine ∧
  (xs = [] → Q (.ref b) H) ∧ (ys = [] → Q (.ref a) H) ∧ (∀ p, H p = none → Q (.ref p) (upd H p (.tup (xs ++ ys))))
theorem op_TT : OpR X (binaryOp .Add) (rTT X.K) := by
  intro pins s σ H x y v u Q I rx ry h
  obtain ⟨a, b, xs, ys, rfl, rfl, ha, hb, hz, q0, q1, q2⟩ := h
  by_cases hx : xs = []
  · cases rx
    cases ry
    obtain ⟨its, r1, p1, _⟩ := I.tuple ha
    obtain ⟨its2, r2, p2, _⟩ := I.tuple hb
    obtain ⟨⟨c1, d1, t1, l1⟩, g1, e1, n1, w1⟩ := id p1
    obtain ⟨⟨c2, d2, t2, l2⟩, g2, e2, n2, w2⟩ := id p2
    simp only at e1 w1 e2 w2
    subst e1 w1 e2 w2
    have hi : its = [] := r1.nil_iff.mpr hx
    exact concat_meets ⟨_, g1, rfl⟩ ⟨_, g2, rfl⟩ noFill_tuple_add seq_tuple_add F.slot_tuple_add
      F.entry_tuple_add (F.args_tuple_add_2 _ _)
      (tuple_addW0 a b its.toArray its2.toArray n1 n2 d1 d2 l1 l2 (by simp [hi]))
      ⟨g1, g2, V.ref b, H, I, rfl, q0 hx⟩
  · exact op_catT pins s σ H _ _ v u Q I rx ry ⟨a, b, xs, ys, rfl, rfl, ha, hb, hx, hz, q1, fun _ => q2⟩
def rAdd (K : PySem.W.Frag) : R2 := rOr (rI0 fun i j => .int (i + j)) (rOr (fun x y H Q => ∃ i j, x = .str i ∧ y = .str j ∧ i.length + j.length ≤ sizeLine ∧ Q (.str (i ++ j)) H) (rOr (rTT K) (rOr rCat fun x y H Q => ∃ i k, x = .int i ∧ y = .bl k ∧ Q (.int (i + b2i k)) H)))
theorem opr_add : OpR X (binaryOp .Add) (rAdd X.K) := op_add.or (op_add_str.or (op_TT.or (op_cat.or op_add_ib)))
theorem opl_add : OpL K (rAdd K) opAdd := by
  intro x y v u h H Q' Q rx ry hr q f
  unfold opAdd at q
  split at q
  · exact .inl ⟨_, _, rx, ry, f (.int _) h _ H .refl hr rfl q⟩
  · exact .inr (.inr (.inr (.inr ⟨_, _, rx, ry, f (.int _) h _ H .refl hr rfl q⟩)))
  · exact .inr (.inl ⟨_, _, rx, ry, q.1, f (.str _) h _ H .refl hr rfl q.2⟩)
  · rename_i xs ys
    have rx' := rx
    have ry' := ry
    obtain ⟨a, vs, e1, t1, r1⟩ := rx
    obtain ⟨b, ws, e2, t2, r2⟩ := ry
    refine .inr (.inr (.inl ⟨a, b, vs, ws, e1, e2, t1.sq, t2.sq, by rw [r1.length, r2.length]; exact q.1, fun z => ?_, fun z => ?_, f.tup hr (r1.append r2) q.2⟩))
    · have e : xs = [] := List.length_eq_zero_iff.mp (by rw [← r1.length, z]; rfl)
      exact f (.tup (xs ++ ys)) h _ H .refl hr (by rw [e]; exact e2 ▸ ry') q.2
    · have e : ys = [] := List.length_eq_zero_iff.mp (by rw [← r2.length, z]; rfl)
      exact f (.tup (xs ++ ys)) h _ H .refl hr (by rw [e, List.append_nil]; exact e1 ▸ rx') q.2
  · obtain ⟨a, vs, e1, n1, t1, r1⟩ := rx
    obtain ⟨b, ws, e2, n2, t2, r2⟩ := ry
    exact .inr (.inr (.inr (.inl ⟨a, b, vs, ws, e1, e2, t1, t2, by rw [r1.length, r2.length]; exact q.1, f.lis hr (r1.append r2) q.2⟩)))
  · exact q.elim
/-- two ints -/
def opI2 (C : Int → Int → Prop) (g : Int → Int → D) : DR2 := fun x y h Q => match x, y with
  | .int i, .int j => C i j ∧ Q (g i j) h
  | _, _ => False
theorem opl_I {C C' : Int → Int → Prop} {g : Int → Int → V} {g' : Int → Int → D} (hC : ∀ i j, C' i j → C i j) (hg : ∀ h H i j, C' i j → RD K h H (g' i j) (g i j)) : OpL K (rI C g) (opI2 C' g') := by
  intro x y v u h H Q' Q rx ry hr q f
  unfold opI2 at q
  split at q
  · exact ⟨_, _, rx, ry, hC _ _ q.1, f _ h _ H .refl hr (hg h H _ _ q.1) q.2⟩
  · exact q.elim
theorem opl_I0 {g : Int → Int → V} {g' : Int → Int → D} (hg : ∀ h H i j, RD K h H (g' i j) (g i j)) : OpL K (rI0 g) (opI2 (fun _ _ => True) g') := by
  intro x y v u h H Q' Q rx ry hr q f
  unfold opI2 at q
  split at q
  · exact ⟨_, _, rx, ry, f _ h _ H .refl hr (hg h H _ _) q.2⟩
  · exact q.elim
abbrev opSub : DR2 := opI2 (fun _ _ => True) fun i j => .int (i - j)
theorem opl_sub : OpL K (rI0 fun i j => .int (i - j)) opSub := opl_I0 fun _ _ _ _ => rfl
/-- the bound of a factor: 2 ^ 64 -/
def mulOk (i j : Int) : Prop := (-18446744073709551616 < i ∧ i < 18446744073709551616) ∨ (-18446744073709551616 < j ∧ j < 18446744073709551616)
abbrev opMul : DR2 := opI2 mulOk fun i j => .int (i * j)
theorem opl_mul : OpL K (rI CMul fun i j => .int (i * j)) opMul := opl_I (fun i j h => by
  have e : (2 : Int) ^ 64 = 18446744073709551616 := by decide
  unfold CMul
  rw [e]
  exact h) fun _ _ _ _ _ => rfl
/-- a divisor below 2 ^ 200 -/
abbrev opDiv : DR2 := opI2 (fun _ j => 0 < j ∧ j < 1606938044258990275541962092341162602522202993782792835301376) fun i j => .int (i / j)
theorem opl_div : OpL K (rI CDivW fun i j => .int (i / j)) opDiv := opl_I (fun i j h => wide_div (b := 200) h.1 (by
  have e : (2 : Nat) ^ 200 = 1606938044258990275541962092341162602522202993782792835301376 := by decide +kernel
  rw [e]
  have := h.1
  have := h.2
  omega) (by decide) (by decide)) fun _ _ _ _ _ => rfl
abbrev opMod : DR2 := opI2 (fun _ j => 0 < j) fun i j => .int (i % j)
theorem opl_mod : OpL K (rI (fun _ j => 0 < j) fun i j => .int (i % j)) opMod := opl_I (fun _ _ h => h) fun _ _ _ _ _ => rfl
abbrev opPow : DR2 := opI2 (fun i j => 0 ≤ j ∧ j ≤ 1000000 ∧ -18446744073709551616 < i ∧ i < 18446744073709551616) fun i j => .int (i ^ j.toNat)
theorem opl_pow : OpL K (rI CPow fun i j => .int (i ^ j.toNat)) opPow := opl_I (fun i j h => by
  have e : (2 : Nat) ^ 64 = 18446744073709551616 := by decide
  unfold CPow
  rw [e]
  exact ⟨h.1, h.2.1, by omega⟩) fun _ _ _ _ _ => rfl
def unNeg : DR1 := fun x h Q => match x with | .int i => Q (.int (-i)) h | _ => False
theorem unl_neg : UnL K (rU fun i => .int (-i)) unNeg := by
  intro x v h H Q' Q rx hr q f
  cases x with
  | int i => exact ⟨i, rx, f (.int (-i)) h _ H .refl hr rfl q⟩
  | _ => exact q.elim

/-! ### comparisons of ints -/
abbrev opLt : DR2 := opI2 (fun _ _ => True) fun i j => .bl (decide (i < j))
abbrev opLe : DR2 := opI2 (fun _ _ => True) fun i j => .bl (decide (i ≤ j))
abbrev opGt : DR2 := opI2 (fun _ _ => True) fun i j => .bl (decide (j < i))
abbrev opGe : DR2 := opI2 (fun _ _ => True) fun i j => .bl (decide (j ≤ i))
theorem opl_lt : OpL K (rI0 fun i j => .bl (decide (i < j))) opLt := opl_I0 fun _ _ _ _ => rfl
theorem opl_le : OpL K (rI0 fun i j => .bl (decide (i ≤ j))) opLe := opl_I0 fun _ _ _ _ => rfl
theorem opl_gt : OpL K (rI0 fun i j => .bl (decide (j < i))) opGt := opl_I0 fun _ _ _ _ => rfl
theorem opl_ge : OpL K (rI0 fun i j => .bl (decide (j ≤ i))) opGe := opl_I0 fun _ _ _ _ => rfl

/-! ### equality -/
mutual
def toPy : D → Option PyData
  | .non => some .none
  | .bl b => some (.bool b)
  | .int i => some (.int i)
  | .str x => some (.str x)
  | .tup xs => (toPys xs).map .tuple
  | .lis xs => (toPys xs).map .list
  | .scr _ => none
  | .ref _ => none
  | .ty _ => none
def toPys : List D → Option (List PyData)
  | [] => some []
  | x :: xs => match toPy x, toPys xs with
    | some a, some b => some (a :: b)
    | _, _ => none
end
mutual
theorem dp_of {h : DH} {H : Hp} : ∀ (d : D) (p : PyData) (v : V), toPy d = some p → RD K h H d v → Dp K H v p
  | .non, p, v, e, r => by cases e; cases (show v = .non from r); exact .non
  | .bl b, p, v, e, r => by cases e; cases (show v = .bl b from r); exact .bl b
  | .int i, p, v, e, r => by cases e; cases (show v = .int i from r); exact .int i
  | .str x, p, v, e, r => by cases e; cases (show v = .str x from r); exact .str x
  | .tup xs, p, v, e, r => by
    obtain ⟨a, vs, rfl, t, q⟩ := r
    unfold toPy at e
    cases ep : toPys xs with
    | none => rw [ep] at e; cases e
    | some ps => rw [ep] at e; cases e; exact .tup t.sq (dps_of xs ps vs ep q)
  | .lis xs, p, v, e, r => by
    obtain ⟨a, vs, rfl, n, t, q⟩ := r
    unfold toPy at e
    cases ep : toPys xs with
    | none => rw [ep] at e; cases e
    | some ps => rw [ep] at e; cases e; exact .lst (SqL.of t) (dps_of xs ps vs ep q)
  | .scr _, p, v, e, r => by cases e
  | .ref _, p, v, e, r => by cases e
  | .ty _, p, v, e, r => by cases e
theorem dps_of {h : DH} {H : Hp} : ∀ (ds : List D) (ps : List PyData) (vs : List V), toPys ds = some ps → RDs K h H ds vs → DpAll K H vs ps
  | [], ps, vs, e, r => by cases e; cases (show vs = [] from r); exact .nil
  | d :: ds, ps, vs, e, r => by
    obtain ⟨v, w, rfl, r1, r2⟩ := r
    unfold toPys at e
    cases e1 : toPy d with
    | none => rw [e1] at e; cases e
    | some a =>
      cases e2 : toPys ds with
      | none => rw [e1, e2] at e; cases e
      | some b => rw [e1, e2] at e; cases e; exact .cons (dp_of d a v e1 r1) (dps_of ds b w e2 r2)
end
/-- == of data -/
def deq (x y : D) : Bool := match toPy x, toPy y with
  | some a, some b => PyData.eqv a b
  | _, _ => false
/-- what == may be asked of: data no deeper than 64 -/
def dOk (x : D) : Prop := match toPy x with
  | some a => SeqAt.shaped a = true
  | none => False
/-- == of scalars -/
def sc : D → D → Option Bool
  | .int i, .int j => some (decide (i = j))
  | .str a, .str b => some (decide (a = b))
  | .bl a, .bl b => some (decide (a = b))
  | .non, .non => some true
  | .non, .int _ => some false
  | .non, .bl _ => some false
  | .non, .str _ => some false
  | .int _, .non => some false
  | .bl _, .non => some false
  | .str _, .non => some false
  | .int _, .str _ => some false
  | .str _, .int _ => some false
  | .bl _, .str _ => some false
  | .str _, .bl _ => some false
  | _, _ => none
def opEq : DR2 := fun x y h Q => match sc x y with
  | some b => Q (.bl b) h
  | none => dOk x ∧ dOk y ∧ Q (.bl (deq x y)) h
def opNe : DR2 := fun x y h Q => match sc x y with
  | some b => Q (.bl (!b)) h
  | none => dOk x ∧ dOk y ∧ Q (.bl (!deq x y)) h
theorem sc_of {h : DH} {H : Hp} {x y : D} {v u : V} {b : Bool} (e : sc x y = some b) (rx : RD K h H x v) (ry : RD K h H y u) : scal v u = true ∧ decide (v = u) = b := by
  cases x <;> cases y <;> first
    | cases (show none = some b from e)
    | (have e' := Option.some.inj e
       subst e'
       simp only [RD] at rx ry
       subst rx ry
       exact ⟨rfl, by simp⟩)
theorem opr_eq (hu : X.A.units + 64 < cLine) : OpR X (compareOp .Eq) (rOr rEq (rEqD X.K)) := op_eq.or (op_eqD hu)
theorem opr_ne (hu : X.A.units + 64 < cLine) : OpR X (compareOp .NotEq) (rOr rNe (rNeD X.K)) := op_ne.or (op_neD hu)
theorem dok_get {x : D} (q : dOk x) : ∃ a, toPy x = some a ∧ SeqAt.shaped a = true := by
  unfold dOk at q
  cases e : toPy x with
  | none => rw [e] at q; exact q.elim
  | some a => rw [e] at q; exact ⟨a, rfl, q⟩
theorem deq_of {x y : D} {a b : PyData} (ea : toPy x = some a) (eb : toPy y = some b) : deq x y = PyData.eqv a b := by
  unfold deq; rw [ea, eb]
theorem opl_eq : OpL K (rOr rEq (rEqD K)) opEq := by
  intro x y v u h H Q' Q rx ry hr q f
  unfold opEq at q
  split at q
  · rename_i b e
    obtain ⟨e1, e2⟩ := sc_of e rx ry
    exact .inl ⟨e1, f (.bl b) h _ H .refl hr (show _ = _ by rw [e2]) q⟩
  · obtain ⟨a, ea, sa⟩ := dok_get q.1
    obtain ⟨b, eb, sb⟩ := dok_get q.2.1
    exact .inr ⟨a, b, dp_of _ _ _ ea rx, dp_of _ _ _ eb ry, sa, sb, f (.bl _) h _ H .refl hr (show _ = _ by rw [deq_of ea eb]) q.2.2⟩
theorem opl_ne : OpL K (rOr rNe (rNeD K)) opNe := by
  intro x y v u h H Q' Q rx ry hr q f
  unfold opNe at q
  split at q
  · rename_i b e
    obtain ⟨e1, e2⟩ := sc_of e rx ry
    exact .inl ⟨e1, f (.bl (!b)) h _ H .refl hr (show _ = _ by rw [e2]) q⟩
  · obtain ⟨a, ea, sa⟩ := dok_get q.1
    obtain ⟨b, eb, sb⟩ := dok_get q.2.1
    exact .inr ⟨a, b, dp_of _ _ _ ea rx, dp_of _ _ _ eb ry, sa, sb, f (.bl _) h _ H .refl hr (show _ = _ by rw [deq_of ea eb]) q.2.2⟩

/-! ### in -/
def toV : D → V
  | .bl b => .bl b
  | .int i => .int i
  | .str x => .str x
  | _ => .non
def flatD : D → Bool
  | .non => true | .bl _ => true | .int _ => true | .str _ => true | _ => false
theorem flat_v {h : DH} {H : Hp} {d : D} {v : V} (r : RD K h H d v) (f : flatD d = true) : v = toV d ∧ flatV v = true := by
  cases d with
  | non => cases (show v = .non from r); exact ⟨rfl, rfl⟩
  | bl b => cases (show v = .bl b from r); exact ⟨rfl, rfl⟩
  | int b => cases (show v = .int b from r); exact ⟨rfl, rfl⟩
  | str b => cases (show v = .str b from r); exact ⟨rfl, rfl⟩
  | _ => cases f
theorem flat_vs {h : DH} {H : Hp} : ∀ {ds : List D} {vs : List V}, RDs K h H ds vs → ds.all flatD = true → vs = ds.map toV ∧ vs.all flatV = true
  | [], vs, r, _ => by cases (show vs = [] from r); exact ⟨rfl, rfl⟩
  | d :: ds, vs, r, f => by
    obtain ⟨v, w, rfl, r1, r2⟩ := r
    rw [List.all_cons, Bool.and_eq_true] at f
    obtain ⟨e1, f1⟩ := flat_v r1 f.1
    obtain ⟨e2, f2⟩ := flat_vs r2 f.2
    exact ⟨by rw [e1, e2]; rfl, by rw [List.all_cons, f1, f2]; rfl⟩
/-- x stands among flat data -/
def inD (x : D) (ds : List D) : Bool := inV (toV x) (ds.map toV)
def opIn (neg : Bool) : DR2 := fun x y h Q => match y with
  | .tup ds => flatD x = true ∧ ds.all flatD = true ∧ Q (.bl (if neg then !inD x ds else inD x ds)) h
  | .lis ds => flatD x = true ∧ ds.all flatD = true ∧ Q (.bl (if neg then !inD x ds else inD x ds)) h
  | .ref a => ∃ ds, h a = some (.lst ds) ∧ flatD x = true ∧ ds.all flatD = true ∧ Q (.bl (if neg then !inD x ds else inD x ds)) h
  | _ => False
theorem opl_in {neg : Bool} : OpL K (rIn K neg) (opIn neg) := by
  intro x y v u h H Q' Q rx ry hr q f
  cases y with
  | tup ds =>
    obtain ⟨f1, f2, q⟩ := q
    obtain ⟨a, vs, e, t, r⟩ := ry
    obtain ⟨e1, g1⟩ := flat_v rx f1
    obtain ⟨e2, g2⟩ := flat_vs r f2
    exact ⟨a, vs, e, .inr t.sq, g1, g2, f (.bl _) h _ H .refl hr (by subst e1 e2; rfl) q⟩
  | lis ds =>
    obtain ⟨f1, f2, q⟩ := q
    obtain ⟨a, vs, e, n, t, r⟩ := ry
    obtain ⟨e1, g1⟩ := flat_v rx f1
    obtain ⟨e2, g2⟩ := flat_vs r f2
    exact ⟨a, vs, e, .inl (SqL.of t), g1, g2, f (.bl _) h _ H .refl hr (by subst e1 e2; rfl) q⟩
  | ref a =>
    obtain ⟨ds, e, f1, f2, q⟩ := q
    obtain ⟨vs, t, r⟩ := hr.lst e
    obtain ⟨e1, g1⟩ := flat_v rx f1
    obtain ⟨e2, g2⟩ := flat_vs r f2
    exact ⟨a, vs, ry, .inl (SqL.of t), g1, g2, f (.bl _) h _ H .refl hr (by subst e1 e2; rfl) q⟩
  | _ => exact q.elim
/-- is None -/
def isNon : D → Bool | .non => true | _ => false
theorem isNon_v {h : DH} {H : Hp} {d : D} {v : V} (r : RD K h H d v) : decide (v = .non) = isNon d := by
  cases d with
  | non => cases (show v = .non from r); rfl
  | bl b => cases (show v = .bl b from r); rfl
  | int b => cases (show v = .int b from r); rfl
  | str b => cases (show v = .str b from r); rfl
  | ref b => cases (show v = .ref b from r); rfl
  | ty b => cases (show v = .ty b from r); rfl
  | tup b => obtain ⟨a, vs, e, _⟩ := r; cases e; rfl
  | lis b => obtain ⟨a, vs, e, _⟩ := r; cases e; rfl
  | scr b => obtain ⟨a, e, _⟩ := r; cases e; rfl
def opIsN (neg : Bool) : DR2 := fun x y h Q => match y with
  | .non => Q (.bl (if neg then !isNon x else isNon x)) h
  | _ => False
theorem opl_isN : OpL K (fun x y H Q => y = .non ∧ Q (.bl (decide (x = .non))) H) (opIsN false) := by
  intro x y v u h H Q' Q rx ry hr q f
  cases y with
  | non => exact ⟨ry, f (.bl _) h _ H .refl hr (show _ = _ by rw [isNon_v rx]; rfl) q⟩
  | _ => exact q.elim
theorem opl_notN : OpL K (fun x y H Q => y = .non ∧ Q (.bl (!decide (x = .non))) H) (opIsN true) := by
  intro x y v u h H Q' Q rx ry hr q f
  cases y with
  | non => exact ⟨ry, f (.bl _) h _ H .refl hr (show _ = _ by rw [isNon_v rx]; rfl) q⟩
  | _ => exact q.elim

/-! ### x[i] -/
theorem atI_RD {h : DH} {H : Hp} {ds : List D} {vs : List V} {i : Int} {d : D} (r : RDs K h H ds vs) (e : atI ds i = some d) : ∃ v, atI vs i = some v ∧ RD K h H d v := by
  unfold atI at e ⊢
  rw [r.length]
  cases ej : ixN ds.length i with
  | none => rw [ej] at e; cases e
  | some j =>
    rw [ej] at e
    exact r.get (i := j) e
theorem atI_map {α β : Type} (g : α → β) {xs : List α} {i : Int} {x : α} (e : atI xs i = some x) : atI (xs.map g) i = some (g x) := by
  unfold atI at e ⊢
  rw [List.length_map]
  cases ej : ixN xs.length i with
  | none => rw [ej] at e; cases e
  | some j =>
    rw [ej] at e
    have e : xs[j]? = some x := e
    show (xs.map g)[j]? = some (g x)
    rw [List.getElem?_map, e]
    rfl
def opIx : DR2 := fun x y h Q => match y with
  | .int i => match x with
    | .tup ds => ∃ d, atI ds i = some d ∧ Q d h
    | .lis ds => ∃ d, atI ds i = some d ∧ Q d h
    | .scr ns => ∃ n, atI ns i = some n ∧ Q (.int n) h
    | .ref a => ∃ ds, h a = some (.lst ds) ∧ ∃ d, atI ds i = some d ∧ Q d h
    | .str z => z.length ≤ sizeLine ∧ ∃ c, atI z.cps.toList i = some c ∧ Q (.str ⟨#[c]⟩) h
    | _ => False
  | _ => False
theorem opl_ix : OpL K (rIx K) opIx := by
  intro x y v u h H Q' Q rx ry hr q f
  cases y with
  | int i =>
    cases x with
    | tup ds =>
      obtain ⟨d, e, q⟩ := q
      obtain ⟨a, vs, e1, t, r⟩ := rx
      obtain ⟨w, e2, rd⟩ := atI_RD r e
      exact .inr (.inl ⟨a, vs, i, w, e1, ry, t.sq, e2, f d h w H .refl hr rd q⟩)
    | lis ds =>
      obtain ⟨d, e, q⟩ := q
      obtain ⟨a, vs, e1, n, t, r⟩ := rx
      obtain ⟨w, e2, rd⟩ := atI_RD r e
      exact .inl ⟨a, vs, i, w, e1, ry, SqL.of t, e2, f d h w H .refl hr rd q⟩
    | scr ns =>
      obtain ⟨d, e, q⟩ := q
      obtain ⟨a, e1, t⟩ := rx
      exact .inl ⟨a, _, i, _, e1, ry, t.sq, atI_map V.int e, f (.int d) h _ H .refl hr rfl q⟩
    | ref a =>
      obtain ⟨ds, e0, d, e, q⟩ := q
      obtain ⟨vs, t, r⟩ := hr.lst e0
      obtain ⟨w, e2, rd⟩ := atI_RD r e
      exact .inl ⟨a, vs, i, w, rx, ry, SqL.of t, e2, f d h w H .refl hr rd q⟩
    | str z =>
      obtain ⟨hz, c, e, q⟩ := q
      exact .inr (.inr ⟨z, i, c, rx, ry, hz, e, f (.str _) h _ H .refl hr rfl q⟩)
    | _ => exact q.elim
  | _ => exact q.elim

/-! ### built-in calls -/
def caLen : List D → DH → VK' → Prop := fun ds h Q => match ds with
  | [.tup xs] => Q (.int xs.length) h
  | [.lis xs] => Q (.int xs.length) h
  | [.scr xs] => Q (.int xs.length) h
  | [.ref a] => ∃ xs, h a = some (.lst xs) ∧ Q (.int xs.length) h
  | [.str z] => z.length ≤ sizeLine ∧ Q (.int z.length) h
  | _ => False
def rLen (K : PySem.W.Frag) : List V → Hp → VK → Prop := fun xs H Q => (∃ p ys, xs = [.ref p] ∧ (SqL K H p ys ∨ SqT K H p ys) ∧ Q (.int ys.length) H) ∨ ∃ z, xs = [.str z] ∧ z.length ≤ sizeLine ∧ Q (.int z.length) H
theorem cr_len : CallR X (.builtin "len") (rLen X.K) := call_len_seq.or call_len_str
theorem RDs.one {h : DH} {H : Hp} {d : D} {vs : List V} (r : RDs K h H [d] vs) : ∃ v, vs = [v] ∧ RD K h H d v := by
  obtain ⟨v, w, e, q, z⟩ := r
  cases (show w = [] from z)
  exact ⟨v, e, q⟩
theorem RDs.two {h : DH} {H : Hp} {d e : D} {vs : List V} (r : RDs K h H [d, e] vs) : ∃ v u, vs = [v, u] ∧ RD K h H d v ∧ RD K h H e u := by
  obtain ⟨v, w, e1, q, z⟩ := r
  obtain ⟨u, e2, q2⟩ := z.one
  exact ⟨v, u, by rw [e1, e2], q, q2⟩
theorem cl_len : CallL K (rLen K) caLen := by
  intro ds vs h H Q' Q r hr q f
  unfold caLen at q
  split at q
  · obtain ⟨v, rfl, a, ws, rfl, t, rs⟩ := r.one
    exact .inl ⟨a, ws, rfl, .inr t.sq, f (.int _) h _ H .refl hr (show _ = _ by rw [rs.length]) q⟩
  · obtain ⟨v, rfl, a, ws, rfl, n, t, rs⟩ := r.one
    exact .inl ⟨a, ws, rfl, .inl (SqL.of t), f (.int _) h _ H .refl hr (show _ = _ by rw [rs.length]) q⟩
  · obtain ⟨v, rfl, a, rfl, t⟩ := r.one
    exact .inl ⟨a, _, rfl, .inl t.sq, f (.int _) h _ H .refl hr (show _ = _ by rw [List.length_map]) q⟩
  · obtain ⟨v, rfl, r1⟩ := r.one
    obtain ⟨xs, e, q⟩ := q
    obtain ⟨ws, t, rs⟩ := hr.lst e
    exact .inl ⟨_, ws, by rw [show v = _ from r1], .inl (SqL.of t), f (.int _) h _ H .refl hr (show _ = _ by rw [rs.length]) q⟩
  · obtain ⟨v, rfl, r1⟩ := r.one
    exact .inr ⟨_, by rw [show v = _ from r1], q.1, f (.int _) h _ H .refl hr rfl q.2⟩
  · exact q.elim
/-- isinstance against a built-in class -/
def instD (x : D) (n : String) : Bool := match x with
  | .non => false
  | .bl _ => n == "bool" || n == "int"
  | .int _ => n == "int"
  | .str _ => n == "str"
  | .tup _ => n == "tuple"
  | .lis _ => n == "list"
  | _ => false
def isTy (n : String) : Bool := n == "int" || n == "bool" || n == "str" || n == "tuple" || n == "list"
def plainD : D → Bool | .non => true | .bl _ => true | .int _ => true | .str _ => true | .tup _ => true | .lis _ => true | _ => false
def caIs : List D → DH → VK' → Prop := fun ds h Q => match ds with
  | [x, .ty n] => isTy n = true ∧ plainD x = true ∧ Q (.bl (instD x n)) h
  | _ => False
theorem kit_all {n : String} (t : isTy n = true) : (PySem.W.kitOne K (.type "NoneType") (.type n) = some false) ∧ (PySem.W.kitOne K (.type "bool") (.type n) = some (n == "bool" || n == "int")) ∧ (PySem.W.kitOne K (.type "int") (.type n) = some (n == "int")) ∧
    (PySem.W.kitOne K (.type "str") (.type n) = some (n == "str")) ∧ (PySem.W.kitOne K (.type "tuple") (.type n) = some (n == "tuple")) ∧ (PySem.W.kitOne K (.type "list") (.type n) = some (n == "list")) := by
  simp only [isTy, Bool.or_eq_true, beq_iff_eq] at t
  rcases t with (((rfl | rfl) | rfl) | rfl) | rfl <;>
    exact ⟨kit_ty (by decide +kernel), kit_ty (by decide +kernel), kit_ty (by decide +kernel), kit_ty (by decide +kernel), kit_ty (by decide +kernel), kit_ty (by decide +kernel)⟩
theorem cl_is : CallL K (rIsi K) caIs := by
  intro ds vs h H Q' Q r hr q f
  unfold caIs at q
  split at q
  · rename_i x n
    obtain ⟨v, u, rfl, r1, r2⟩ := r.two
    cases (show u = .ty n from r2)
    obtain ⟨t, p, q⟩ := q
    obtain ⟨k1, k2, k3, k4, k5, k6⟩ := kit_all (K := K) t
    have fin : ∀ b, b = instD x n → Q (.bl b) H := fun b e => f (.bl _) h _ H .refl hr (show _ = _ by rw [e]) q
    cases x with
    | non => cases (show v = .non from r1); exact ⟨_, _, _, _, _, rfl, .ty n, .base .non, k1, fin _ rfl⟩
    | bl b => cases (show v = .bl b from r1); exact ⟨_, _, _, _, _, rfl, .ty n, .base (.bl b), k2, fin _ rfl⟩
    | int b => cases (show v = .int b from r1); exact ⟨_, _, _, _, _, rfl, .ty n, .base (.int b), k3, fin _ rfl⟩
    | str b => cases (show v = .str b from r1); exact ⟨_, _, _, _, _, rfl, .ty n, .base (.str b), k4, fin _ rfl⟩
    | tup b =>
      obtain ⟨a, ws, rfl, t, rs⟩ := r1
      refine ⟨_, _, _, _, _, rfl, .ty n, ?_, k5, fin _ rfl⟩
      rcases t with ⟨_, t | ⟨o, t⟩⟩ | ⟨o, its, m, e, c, _⟩
      · exact .base (.tup t)
      · exact .fTuple t
      · exact .kTuple e c
    | lis b =>
      obtain ⟨a, ws, rfl, _, t, rs⟩ := r1
      exact ⟨_, _, _, _, _, rfl, .ty n, .base (.lst t), k6, fin _ rfl⟩
    | _ => cases p
  · exact q.elim
def caInt : List D → DH → VK' → Prop := fun ds h Q => match ds with
  | [.int i] => Q (.int i) h
  | [.bl b] => Q (.int (if b then 1 else 0)) h
  | _ => False
theorem cl_int : CallL K (fun xs H Q => (∃ i, xs = [.int i] ∧ Q (.int i) H) ∨ ∃ k, xs = [.bl k] ∧ Q (.int (if k then 1 else 0)) H) caInt := by
  intro ds vs h H Q' Q r hr q f
  unfold caInt at q
  split at q
  · obtain ⟨v, rfl, r1⟩ := r.one
    exact .inl ⟨_, by rw [show v = _ from r1], f (.int _) h _ H .refl hr rfl q⟩
  · obtain ⟨v, rfl, r1⟩ := r.one
    exact .inr ⟨_, by rw [show v = _ from r1], f (.int _) h _ H .refl hr rfl q⟩
  · exact q.elim
def caAbs : List D → DH → VK' → Prop := fun ds h Q => match ds with
  | [.int i] => Q (.int (i.natAbs : Int)) h
  | _ => False
theorem cl_abs : CallL K (fun xs H Q => ∃ i, xs = [.int i] ∧ Q (.int (if i < 0 then -i else i)) H) caAbs := by
  intro ds vs h H Q' Q r hr q f
  unfold caAbs at q
  split at q
  · rename_i i
    obtain ⟨v, rfl, r1⟩ := r.one
    have e : (if i < 0 then -i else i) = (i.natAbs : Int) := by split <;> omega
    exact ⟨i, by rw [show v = _ from r1], by rw [e]; exact f (.int _) h _ H .refl hr rfl q⟩
  · exact q.elim
def caMax : List D → DH → VK' → Prop := fun ds h Q => match ds with
  | [.int i, .int j] => Q (.int (max i j)) h
  | _ => False
theorem cl_max : CallL K (fun xs H Q => ∃ i j, xs = [.int i, .int j] ∧ Q (.int (if j > i then j else i)) H) caMax := by
  intro ds vs h H Q' Q r hr q f
  unfold caMax at q
  split at q
  · rename_i i j
    obtain ⟨v, u, rfl, r1, r2⟩ := r.two
    have e : (if j > i then j else i) = max i j := by split <;> omega
    exact ⟨i, j, by rw [show v = _ from r1, show u = _ from r2], by rw [e]; exact f (.int _) h _ H .refl hr rfl q⟩
  · exact q.elim
def caMin : List D → DH → VK' → Prop := fun ds h Q => match ds with
  | [.int i, .int j] => Q (.int (min i j)) h
  | _ => False
theorem cl_min : CallL K (fun xs H Q => ∃ i j, xs = [.int i, .int j] ∧ Q (.int (if j < i then j else i)) H) caMin := by
  intro ds vs h H Q' Q r hr q f
  unfold caMin at q
  split at q
  · rename_i i j
    obtain ⟨v, u, rfl, r1, r2⟩ := r.two
    have e : (if j < i then j else i) = min i j := by split <;> omega
    exact ⟨i, j, by rw [show v = _ from r1, show u = _ from r2], by rw [e]; exact f (.int _) h _ H .refl hr rfl q⟩
  · exact q.elim
/-- the items of a list, a tuple -/
def itemsK (h : DH) (x : D) (k : List D → Prop) : Prop := match x with
  | .tup xs => k xs
  | .lis xs => k xs
  | .scr ns => k (ns.map .int)
  | .ref a => ∃ xs, h a = some (.lst xs) ∧ k xs
  | _ => False
theorem rds_ints {h : DH} {H : Hp} : ∀ ns : List Int, RDs K h H (ns.map D.int) (ns.map V.int)
  | [] => rfl
  | n :: ns => ⟨.int n, _, rfl, rfl, rds_ints ns⟩
theorem items_of {h : DH} {H : Hp} {x : D} {v : V} {k : List D → Prop} (r : RD K h H x v) (hr : HR K h H) (q : itemsK h x k) : ∃ a ds vs, v = .ref a ∧ (SqL K H a vs ∨ SqT K H a vs) ∧ RDs K h H ds vs ∧ k ds := by
  cases x with
  | tup xs =>
    obtain ⟨a, vs, e, t, rs⟩ := r
    exact ⟨a, xs, vs, e, .inr t.sq, rs, q⟩
  | lis xs =>
    obtain ⟨a, vs, e, n, t, rs⟩ := r
    exact ⟨a, xs, vs, e, .inl (SqL.of t), rs, q⟩
  | scr ns =>
    obtain ⟨a, e, t⟩ := r
    exact ⟨a, _, _, e, .inl t.sq, rds_ints ns, q⟩
  | ref a =>
    obtain ⟨xs, e, q⟩ := q
    obtain ⟨vs, t, rs⟩ := hr.lst e
    exact ⟨a, xs, vs, r, .inl (SqL.of t), rs, q⟩
  | _ => exact q.elim
def caList : List D → DH → VK' → Prop := fun ds h Q => match ds with
  | [x] => itemsK h x fun xs => Q (.lis xs) h
  | _ => False
def caListO : List D → DH → VK' → Prop := fun ds h Q => match ds with
  | [x] => itemsK h x fun xs => ∀ p, h p = none → Q (.ref p) (put h p (.lst xs))
  | _ => False
def rListOf (K : PySem.W.Frag) : List V → Hp → VK → Prop := fun xs H Q => ∃ p ys, xs = [.ref p] ∧ (SqL K H p ys ∨ SqT K H p ys) ∧ ∀ l, H l = none → Q (.ref l) (upd H l (.lst ys))
theorem cl_list : CallL K (rListOf K) caList := by
  intro ds vs h H Q' Q r hr q f
  unfold caList at q
  split at q
  · obtain ⟨v, rfl, r1⟩ := r.one
    obtain ⟨a, xs, ws, rfl, t, rs, q⟩ := items_of r1 hr q
    exact ⟨a, ws, rfl, t, f.lis hr rs q⟩
  · exact q.elim
theorem cl_listO : CallL K (rListOf K) caListO := by
  intro ds vs h H Q' Q r hr q f
  unfold caListO at q
  split at q
  · obtain ⟨v, rfl, r1⟩ := r.one
    obtain ⟨a, xs, ws, rfl, t, rs, q⟩ := items_of r1 hr q
    exact ⟨a, ws, rfl, t, f.own hr rs q⟩
  · exact q.elim
def caTup : List D → DH → VK' → Prop := fun ds h Q => match ds with
  | [x] => itemsK h x fun xs => Q (.tup xs) h
  | _ => False
def rTupOf (K : PySem.W.Frag) : List V → Hp → VK → Prop := fun xs H Q => ∃ p ys, xs = [.ref p] ∧ ((SqL K H p ys ∧ ∀ l, H l = none → Q (.ref l) (upd H l (.tup ys))) ∨ (SqT K H p ys ∧ Q (.ref p) H))
theorem cl_tup : CallL K (rTupOf K) caTup := by
  intro ds vs h H Q' Q r hr q f
  unfold caTup at q
  split at q
  · rename_i x
    obtain ⟨v, rfl, r1⟩ := r.one
    cases x with
    | tup xs =>
      have r2 := r1
      obtain ⟨a, ws, rfl, t, rs⟩ := r1
      exact ⟨a, ws, rfl, .inr ⟨t.sq, f (.tup xs) h _ H .refl hr r2 q⟩⟩
    | lis xs =>
      obtain ⟨a, ws, rfl, n, t, rs⟩ := r1
      exact ⟨a, ws, rfl, .inl ⟨SqL.of t, f.tup hr rs q⟩⟩
    | scr ns =>
      obtain ⟨a, rfl, t⟩ := r1
      exact ⟨a, _, rfl, .inl ⟨t.sq, f.tup hr (rds_ints ns) q⟩⟩
    | ref a =>
      obtain ⟨xs, e, q⟩ := q
      obtain ⟨ws, t, rs⟩ := hr.lst e
      exact ⟨a, ws, by rw [show v = _ from r1], .inl ⟨SqL.of t, f.tup hr rs q⟩⟩
    | _ => exact q.elim
  · exact q.elim
/-- sum of a list of ints -/
def caSum : List D → DH → VK' → Prop := fun ds h Q => match ds with
  | [.lis xs] => ∃ ns : List Int, xs = ns.map .int ∧ Q (.int ns.sum) h
  | _ => False
theorem rds_ints_inv {h : DH} {H : Hp} : ∀ {ns : List Int} {vs : List V}, RDs K h H (ns.map D.int) vs → vs = ns.map V.int
  | [], vs, r => r
  | n :: ns, vs, r => by
    obtain ⟨v, w, rfl, r1, r2⟩ := r
    rw [show v = .int n from r1, rds_ints_inv r2]
    rfl
theorem cl_sum : CallL K (rSum K) caSum := by
  intro ds vs h H Q' Q r hr q f
  unfold caSum at q
  split at q
  · obtain ⟨ns, rfl, q⟩ := q
    obtain ⟨v, rfl, a, ws, rfl, n, t, rs⟩ := r.one
    cases rds_ints_inv rs
    exact ⟨a, ns, rfl, SqL.of t, f (.int _) h _ H .refl hr rfl q⟩
  · exact q.elim
end
end DL

set_option Elab.async false
set_option linter.all false
set_option maxRecDepth 100000
/-! DL4: slices, statements, loops, comprehensions, defs, over data. -/
namespace DL
open PySem PySem.Spec PyProof.Rows L2
/-! ### slices -/
section
variable {prog : Program} {w : World} {A : Around} {E : Value → Shared → Prop} {s : Shared}
/-- the whole tuple is itself -/
theorem tuple_whole {t sl : Addr} {items : Array Value} {vl vu : Value} {lo hi : Option Int} {Q : Value → Shared → Prop}
    (ht : IsTup s.heap t items) (hs : s.heap.IsSliceOf sl vl vu .none) (pl : IsPart vl lo) (pu : IsPart vu hi)
    (w1 : HT.sIx items.size 0 lo = 0) (w2 : HT.sIx items.size items.size hi = items.size)
    (h : Q (.ref t) s) : wpAny (model prog w) A (getItem (.ref t) (.ref sl)) Q E s := by
  obtain ⟨os, hos, hcs, hds⟩ := id hs
  have tS : s.TypeIs (.ref sl) "slice" := ⟨os, hos, hcs⟩
  unfold getItem
  try with_reducible refine wpAny_holding ?_
  first
    | refine wpAny_bind (wpAny_pure ?_)
    | skip
  refine wpAny_bind (wpAny_sequenceKey ht.typeIs
    (by decide) ?_)
  refine wpAny_bind (wpAny_callSpecial?_slot
    (name := Str.ofString "__getitem__") ht.typeIs slot_tuple_getitem
    (wpAny_call_entry slot_tuple_getitem ht.typeIs
      entry_tuple_getitem ?_ (args_tuple_getitem _ _)))
  show wpAny _ _ (Builtin.Tuple.tupleItemsOf (.ref t)
    >>= _) _ _ s
  refine wpAny_bind (tupleItemsOf_ ht
    ?_)
  refine wpAny_bind (wpAny_typeOf tS ?_)
  rw [if_pos (by
    decide)]
  refine wpAny_bind (HT.sliceApplied_gen hs pl pu ?_)
  rw [w1, w2]
  have yes : ((((0 : Nat) : Int) == 0 && (1 : Int) == 1 && (items.size - 0) == items.size) = true) := by simp
  show wpAny _ _ (if ((((0 : Nat) : Int) == 0 && (1 : Int) == 1 && (items.size - 0) == items.size) = true) then _ else _) _ _ s
  rw [if_pos yes]
  refine wpAny_bind ?_
  unfold Builtin.Tuple.tupleIsExact
  refine wpAny_bind (wpAny_typeOf ht.typeIs (wpAny_pure ?_))
  rw [if_pos (by decide)]
  exact wpAny_bind (wpAny_rule (wpAny_pure ⟨_, rfl, wpAny_pure h⟩))
end
section
variable {X : Cx} {Y : Wsh} {K : PySem.W.Frag} {pos : Pos}
def rSlW (K : PySem.W.Frag) : V → Option Int → Option Int → Hp → VK → Prop := fun x lo hi H Q => ∃ a xs, x = .ref a ∧ SqT K H a xs ∧
  (HT.sIx xs.length 0 lo = 0 ∧ HT.sIx xs.length xs.length hi = xs.length → Q (.ref a) H) ∧ ∀ p, H p = none → Q (.ref p) (upd H p (.tup (cutV xs lo hi)))
theorem sl_W : SlR X (rSlW X.K) := by
  intro pins s σ H x v vl vu lo hi sl Q I rx hs pl pu h
  obtain ⟨a, xs, rfl, hx, q1, q2⟩ := h
  by_cases hw : HT.sIx xs.length 0 lo = 0 ∧ HT.sIx xs.length xs.length hi = xs.length
  · cases rx
    obtain ⟨its, r, ht, hz⟩ := I.tuple hx
    have hlen : its.toArray.size = xs.length := by rw [List.size_toArray]; exact r.length.symm
    refine ⟨"tuple", _, slot_tuple_getitem.lookup, ht.typeIs, ?_⟩
    exact tuple_whole ht hs pl pu (by rw [hlen]; exact hw.1) (by rw [hlen]; exact hw.2) ⟨.ref a, H, I, rfl, q1 hw⟩
  · exact sl_tup pins s σ H _ v vl vu lo hi sl Q I rx hs pl pu ⟨a, xs, rfl, hx, hw, q2⟩
abbrev TO' := St' → DH → (Option Int → DH → Prop) → Prop
def lO (K : PySem.W.Frag) (Y : Wsh) (t : TO') : TO := fun σ H Q => ∃ τ h Q', At K Y h H σ τ ∧ t τ h Q' ∧ ∀ o h' H', KP h H h' H' → HR K h' H' → Q' o h' → Q o H'
def DO' (X : Cx) (Y : Wsh) (e : Option Expr) (t : TO') : Prop := PO X e (lO X.K Y t)
def tpn : TO' := fun _ h Q => Q none h
def isI (x : D) (k : Int → Prop) : Prop := match x with | .int i => k i | _ => False
def tpe (t : TE') : TO' := fun τ h Q => t τ h fun x h1 => isI x fun i => Q (some i) h1
theorem PO.imp {e : Option Expr} {t u : TO} (p : PO X e t) (h : ∀ σ H Q, u σ H Q → t σ H Q) : PO X e u := ⟨fun pins s σ H Q I q => p.run pins s σ H Q I (h σ H Q q)⟩
theorem do_none : DO' X Y none tpn := PO.imp po_none fun σ H Q ⟨τ, h, Q', at', q, f⟩ => f none h H .refl at'.hr q
theorem do_some {e : Expr} {te : TE'} (p : DE X Y e te) : DO' X Y (some e) (tpe te) := PO.imp (po_some p) fun σ H Q ⟨τ, h, Q', at', q, f⟩ => ⟨τ, h, _, at', q, fun x h1 v H1 k1 hr1 rx q1 => by
  cases x with
  | int i => exact ⟨i, rx, f (some i) h1 H1 k1 hr1 q1⟩
  | _ => exact q1.elim⟩
def cutD (xs : List D) (lo hi : Option Int) : List D := (xs.drop (HT.sIx xs.length 0 lo)).take (HT.sIx xs.length xs.length hi - HT.sIx xs.length 0 lo)
theorem RDs.cut {h : DH} {H : Hp} {ds : List D} {vs : List V} (r : RDs K h H ds vs) (lo hi : Option Int) : RDs K h H (cutD ds lo hi) (cutV vs lo hi) := by
  unfold cutD cutV
  rw [r.length]
  exact RDs.take _ (RDs.drop _ r)
theorem cutD_all {xs : List D} {lo hi : Option Int} (h : HT.sIx xs.length 0 lo = 0 ∧ HT.sIx xs.length xs.length hi = xs.length) : cutD xs lo hi = xs := by
  unfold cutD
  rw [h.1, h.2]
  simp
/-- x[lo:hi] -/
def slD (x : D) (lo hi : Option Int) (h : DH) (Q : VK') : Prop := match x with
  | .tup ds => Q (.tup (cutD ds lo hi)) h
  | .lis ds => Q (.lis (cutD ds lo hi)) h
  | .ref a => ∃ ds, h a = some (.lst ds) ∧ Q (.lis (cutD ds lo hi)) h
  | _ => False
def rSlA (K : PySem.W.Frag) : V → Option Int → Option Int → Hp → VK → Prop := fun x lo hi H Q => rSlW K x lo hi H Q ∨ rSlL K x lo hi H Q
theorem sl_A : SlR X (rSlA X.K) := sl_W.or sl_list
def tsl (te : TE') (tl th : TO') : TE' := fun τ h Q => te τ h fun x h1 => tl τ h1 fun l h2 => th τ h2 fun u h3 => slD x l u h3 Q
theorem de_slice {e : Expr} {lo hi : Option Expr} {te : TE'} {tl th : TO'} {p2 : Pos} (he : DE X Y e te) (hl : DO' X Y lo tl) (hu : DO' X Y hi th) : DE X Y (.Subscript e (.Slice lo hi none p2) pos) (tsl te tl th) :=
  (pe_slice sl_A he hl hu).imp fun σ H Q ⟨τ, h, Q', at', q, f⟩ => ⟨τ, h, _, at', q, fun x h1 v H1 k1 hr1 rx q1 => ⟨τ, h1, _, at'.after k1 hr1, q1, fun l h2 H2 k2 hr2 q2 => ⟨τ, h2, _, at'.after (k1.trans k2) hr2, q2, fun u h3 H3 k3 hr3 q3 => by
    have f3 := f.after (k1.trans (k2.trans k3))
    have rx3 := RD.mono (k2.trans k3) _ _ rx
    cases x with
    | tup ds =>
      have r0 := rx3
      obtain ⟨a, vs, rfl, t, r⟩ := rx3
      refine .inl ⟨a, vs, rfl, t.sq, fun z => ?_, f3.tup hr3 (r.cut l u) q3⟩
      rw [r.length] at z
      exact f3 (.tup (cutD ds l u)) h3 _ H3 .refl hr3 (by rw [cutD_all z]; exact r0) q3
    | lis ds =>
      obtain ⟨a, vs, rfl, n, t, r⟩ := rx3
      exact .inr ⟨a, vs, rfl, SqL.of t, f3.lis hr3 (r.cut l u) q3⟩
    | ref a =>
      obtain ⟨ds, e, q3⟩ := q3
      obtain ⟨vs, t, r⟩ := hr3.lst e
      exact .inr ⟨a, vs, rx3, SqL.of t, f3.lis hr3 (r.cut l u) q3⟩
    | _ => exact q3.elim⟩⟩⟩

/-! ### statements -/
variable {st : Stmt} {rest : List Stmt} {t u : TS'} {e : Expr} {te : TE'}
def tnx : TS' := fun D τ h => D.nx τ h
def tseq (t u : TS') : TS' := fun D τ h => t { D with nx := u D } τ h
theorem dss_nil : DSs X Y [] tnx := pss_nil.imp fun D σ H ⟨τ, h, D', at', q, f⟩ => f.nx τ h σ H .refl at'.hr at'.len at'.sr q
theorem dss_cons (h1 : DS X Y st t) (h2 : DSs X Y rest u) : DSs X Y (st :: rest) (tseq t u) := (pss_cons h1 h2).imp fun D σ H ⟨τ, h, D', at', q, f⟩ =>
  ⟨τ, h, { D' with nx := u D' }, at', q, ⟨fun τ2 h2 σ2 H2 k2 hr2 l2 s2 q2 => ⟨τ2, h2, D', at'.next k2 hr2 l2 s2, q2, f.after k2⟩, f.rt, f.bk, f.ct⟩⟩
theorem dss_one (h1 : DS X Y st t) : DSs X Y [st] t := pss_one h1
theorem ds_pass : DS X Y (.Pass pos) tnx := ps_pass.imp fun D σ H ⟨τ, h, D', at', q, f⟩ => f.nx τ h σ H .refl at'.hr at'.len at'.sr q
def tbr : TS' := fun D τ h => D.bk τ h
def tct : TS' := fun D τ h => D.ct τ h
theorem ds_break : DS X Y (.Break pos) tbr := ps_break.imp fun D σ H ⟨τ, h, D', at', q, f⟩ => f.bk τ h σ H .refl at'.hr at'.len at'.sr q
theorem ds_continue : DS X Y (.Continue pos) tct := ps_continue.imp fun D σ H ⟨τ, h, D', at', q, f⟩ => f.ct τ h σ H .refl at'.hr at'.len at'.sr q
def tdrop (te : TE') : TS' := fun D τ h => te τ h fun _ h1 => D.nx τ h1
theorem ds_expr (he : DE X Y e te) (hs : swapsWith e none pos.line X.env = pure false := by rfl) : DS X Y (.Expr e pos) (tdrop te) := (ps_expr he hs).imp fun D σ H ⟨τ, h, D', at', q, f⟩ =>
  ⟨τ, h, _, at', q, fun _ h1 _ H1 k1 hr1 _ q1 => f.nx τ h1 σ H1 k1 hr1 at'.len (at'.sr.mono k1) q1⟩
def tret (te : TE') : TS' := fun D τ h => te τ h D.rt
theorem ds_ret (he : DE X Y e te) : DS X Y (.Return (some e) pos) (tret te) := (ps_ret he).imp fun D σ H ⟨τ, h, D', at', q, f⟩ => ⟨τ, h, _, at', q, f.rt⟩
def tretn : TS' := fun D _ h => D.rt .non h
theorem ds_retn : DS X Y (.Return none pos) tretn := ps_retN.imp fun D σ H ⟨τ, h, D', at', q, f⟩ => f.rt .non h _ H .refl at'.hr rfl q
def tifs (c : TT') (t u : TS') : TS' := fun D τ h => c τ h fun b h1 => if b = true then t D τ h1 else u D τ h1
theorem ds_if {c : Expr} {a b : List Stmt} {tc : TT'} (hc : DT X Y c tc) (ha : DSs X Y a t) (hb : DSs X Y b u) : DS X Y (.If c a b pos) (tifs tc t u) := (ps_if hc ha hb).imp fun D σ H ⟨τ, h, D', at', q, f⟩ =>
  ⟨τ, h, _, at', q, fun b h1 H1 k1 hr1 q1 => by
    cases b with
    | true => rw [if_pos rfl] at q1 ⊢; exact ⟨τ, h1, D', at'.after k1 hr1, q1, f.after k1⟩
    | false => rw [if_neg Bool.false_ne_true] at q1 ⊢; exact ⟨τ, h1, D', at'.after k1 hr1, q1, f.after k1⟩⟩
/-! or of tests that change nothing -/
def PuE (t : TE') : Prop := ∀ τ h Q, t τ h Q → ∃ d, Q d h
def PuT (t : TT') : Prop := ∀ τ h R, t τ h R → ∃ d, R d h
def PuR (r : DR2) : Prop := ∀ x y h Q, r x y h Q → ∃ d, Q d h
theorem pu_tv {i : Nat} : PuE (tv i) := fun _ _ _ ⟨d, _, q⟩ => ⟨d, q⟩
theorem pu_tc {d : D} : PuE (tc d) := fun _ _ _ q => ⟨d, q⟩
theorem pu_to {r : DR2} {ta tb : TE'} (hr : PuR r) (ha : PuE ta) (hb : PuE tb) : PuE (to r ta tb) := fun τ h Q q => by
  obtain ⟨x, q⟩ := ha τ h _ q
  obtain ⟨y, q⟩ := hb τ h _ q
  exact hr x y h _ q
theorem pu_I2 {C : Int → Int → Prop} {g : Int → Int → D} : PuR (opI2 C g) := fun x y h Q q => by
  unfold opI2 at q
  split at q
  · exact ⟨_, q.2⟩
  · exact q.elim
theorem pu_eq : PuR opEq := fun x y h Q q => by
  unfold opEq at q
  split at q
  · exact ⟨_, q⟩
  · exact ⟨_, q.2.2⟩
theorem pu_ne : PuR opNe := fun x y h Q q => by
  unfold opNe at q
  split at q
  · exact ⟨_, q⟩
  · exact ⟨_, q.2.2⟩
theorem pu_tb {t : TE'} (h : PuE t) : PuT (tb' t) := fun τ g R q => by
  obtain ⟨x, q⟩ := h τ g _ q
  cases x with
  | bl c => exact ⟨c, q⟩
  | _ => exact q.elim
def torp (t u : TT') : TT' := fun τ h R => t τ h fun c h1 => u τ h1 fun d h2 => R (c || d) h2
theorem pu_orp {t u : TT'} (ht : PuT t) (hu : PuT u) : PuT (torp t u) := fun τ h R q => by
  obtain ⟨c, q⟩ := ht τ h _ q
  obtain ⟨d, q⟩ := hu τ h _ q
  exact ⟨_, q⟩
theorem dw_orp {a b : Expr} {rs : List Expr} {tA tB : TT'} (pu : PuT tB) (ha : DT X Y a tA) (hb : DW X Y (.BoolOp .Or (b :: rs) pos) tB) : DW X Y (.BoolOp .Or (a :: b :: rs) pos) (torp tA tB) := L2.PW.imp (pw_or ha hb) fun σ H Q ⟨τ, h, Q', at', q, f⟩ => by
  refine ⟨τ, h, _, at', q, fun c h1 H1 k1 hr1 q1 => ?_⟩
  cases c with
  | true =>
    rw [if_pos rfl]
    obtain ⟨d, q2⟩ := pu τ h1 _ q1
    exact f _ h1 H1 k1 hr1 q2
  | false =>
    rw [if_neg Bool.false_ne_true]
    exact ⟨τ, h1, _, at'.after k1 hr1, q1, fun d h2 H2 k2 hr2 q2 => f _ h2 H2 (k1.trans k2) hr2 (by rw [Bool.false_or] at q2; exact q2)⟩
/-- where ways meet again -/
def tmid (t : TS') : TS' := fun D τ h => ∃ M : St' → DH → Prop, t { D with nx := M } τ h ∧ ∀ τ' h', M τ' h' → D.nx τ' h'
theorem ds_mid (p : DS X Y st t) : DS X Y st (tmid t) := L2.PS.imp p fun D σ H ⟨τ, h, E, at', ⟨M, q, m⟩, f⟩ =>
  ⟨τ, h, { E with nx := M }, at', q, ⟨fun τ2 h2 σ2 H2 k2 hr2 l2 s2 q2 => f.nx τ2 h2 σ2 H2 k2 hr2 l2 s2 (m τ2 h2 q2), f.rt, f.bk, f.ct⟩⟩
def tnever : TS' := fun _ _ _ => False
theorem dss_never {sts : List Stmt} : DSs X Y sts tnever := pss_never.imp fun _ _ _ ⟨_, _, _, _, q, _⟩ => q.elim

/-! ### targets, assignments -/
def gn (i : Nat) : TG' := fun d τ h Q => Q (τ.set i (some d)) h
theorem dg_name {i : Nat} {x : Str} (hN : X.N.Nodup) (hi : X.N[i]? = some x) (hx : Loc X.env.scope x) (hf : X.fn x = true ∨ X.env.scope.names.lookup x = some .local := by first | exact .inl rfl | exact .inr rfl | assumption) : DG X Y (.Name x pos) (gn i) :=
  (pg_name hN hi hx hf).imp fun v σ H Q ⟨d, τ, h, Q', at', r, q, f⟩ => f _ h _ H .refl at'.hr (by rw [List.length_set, List.length_set]; exact at'.len) (at'.sr.set at'.len r) q
def gni : TGs' := fun ds τ h Q => ds = [] ∧ Q τ h
def gco (t : TG') (u : TGs') : TGs' := fun ds τ h Q => ∃ d r, ds = d :: r ∧ t d τ h fun τ1 h1 => u r τ1 h1 Q
theorem dgs_nil : DGs X Y [] gni := pgs_nil.imp fun v σ H Q ⟨ds, τ, h, Q', at', r, ⟨e, q⟩, f⟩ => by
  subst e
  cases (show v = [] from r)
  exact ⟨rfl, f τ h σ H .refl at'.hr at'.len at'.sr q⟩
theorem dgs_cons {e : Expr} {es : List Expr} {t : TG'} {u : TGs'} (h1 : DG X Y e t) (h2 : DGs X Y es u) (hs : (assignEach (e :: es) X.env).map (·.2) = assign e X.env :: (assignEach es X.env).map (·.2) := by rfl) : DGs X Y (e :: es) (gco t u) :=
  (pgs_cons h1 h2 hs).imp fun vs σ H Q ⟨ds, τ, h, Q', at', r, ⟨d, ds', e, q⟩, f⟩ => by
    subst e
    obtain ⟨v, ws, rfl, r1, r2⟩ := r
    exact ⟨v, ws, rfl, d, τ, h, _, at', r1, q, fun τ1 h1 σ1 H1 k1 hr1 l1 s1 q1 => ⟨ds', τ1, h1, Q', at'.next k1 hr1 l1 s1, RDs.mono k1 _ _ r2, q1, f.after k1⟩⟩
/-- a, b = a tuple of that length -/
def gtup (n : Nat) (t : TGs') : TG' := fun d τ h Q => match d with | .tup ds => ds.length = n ∧ t ds τ h Q | _ => False
theorem dg_tup {es : List Expr} {k : Nat} {t : TGs'} {n : Nat} (hc : X.calm = true) (p : DGs X Y es t) (hn : (assignEach es X.env).length = n := by rfl) (hst : (assignEach es X.env).findIdx? (·.1) = none := by rfl) : DG X Y (.Tuple es k pos) (gtup n t) :=
  (pg_tup hc p hn hst).imp fun v σ H Q ⟨d, τ, h, Q', at', r, q, f⟩ => by
    cases d with
    | tup ds =>
      obtain ⟨a, vs, rfl, t, rs⟩ := r
      exact ⟨a, vs, rfl, t.sq, by rw [rs.length]; exact q.1, ds, τ, h, Q', at', rs, q.2, f⟩
    | _ => exact q.elim
/-- o[i] = d of an own list -/
def setD (o i d : D) (h : DH) (Q : DH → Prop) : Prop := match o with
  | .ref a => isI i fun k => ∃ ds, h a = some (.lst ds) ∧ ∃ j, ixN ds.length k = some j ∧ Q (put h a (.lst (ds.set j d)))
  | _ => False
def gsub (to ti : TE') : TG' := fun d τ h Q => to τ h fun o h1 => ti τ h1 fun i h2 => setD o i d h2 fun h3 => Q τ h3
theorem dg_sub {o i : Expr} {to ti : TE'} (ho : DE X Y o to) (hi : DE X Y i ti) (ha : ∀ v, assign (.Subscript o i pos) X.env v = (do
      let ov ← holding [v] (eval o X.env)
      let iv ← holding [v, ov] (eval i X.env)
      standAt pos
      holding [v, ov, iv] (setItem ov iv v)
      release [v, ov, iv] []) := by intro _; rfl) : DG X Y (.Subscript o i pos) (gsub to ti) :=
  (pg_sub ho hi set_list ha).imp fun v σ H Q ⟨d, τ, h, Q', at', r, q, f⟩ => ⟨τ, h, _, at', q, fun x h1 xv H1 k1 hr1 rx q1 => ⟨τ, h1, _, at'.after k1 hr1, q1, fun y h2 yv H2 k2 hr2 ry q2 => by
    cases x with
    | ref a =>
      cases y with
      | int k =>
        obtain ⟨ds, e, j, ej, q2⟩ := q2
        obtain ⟨vs, t, rs⟩ := hr2.lst e
        have r2 := RD.mono (k1.trans k2) _ _ r
        have kw : KP h2 H2 (put h2 a (.lst (ds.set j d))) (upd H2 a (.lst (vs.set j v))) := KP.wr e
        refine ⟨a, vs, k, j, rx, ry, t, by rw [rs.length]; exact ej, ?_⟩
        exact f τ _ σ _ (k1.trans (k2.trans kw)) (hr2.wr e (rs.set r2 j)) at'.len (at'.sr.mono (k1.trans (k2.trans kw))) q2
      | _ => exact q2.elim
    | _ => exact q2.elim⟩⟩
def tasg (te : TE') (g : TG') : TS' := fun D τ h => te τ h fun x h1 => g x τ h1 D.nx
theorem asg_imp {g : TG'} {D : Ends} {σ : L2.St} {H : Hp} (q : lS K Y (tasg te g) D σ H) : tAsg (lE K Y te) (lG K Y g) D σ H := by
  obtain ⟨τ, h, D', at', q, f⟩ := q
  exact ⟨τ, h, _, at', q, fun x h1 v H1 k1 hr1 rx q1 => ⟨x, τ, h1, _, at'.after k1 hr1, rx, q1, f.nx.after k1⟩⟩
theorem ds_asg {tg e : Expr} {g : TG'} (he : DE X Y e te) (hg : DG X Y tg g) (hs : swapsWithSole [tg] e pos.line X.env = pure false := by rfl) (hw : swappedStores [tg] e X.env = pure none := by rfl)
    (h1 : (assignEach [tg] X.env).map (·.2) = [assign tg X.env] := by rfl) : DS X Y (.Assign [tg] e pos) (tasg te g) := (ps_asg he hg hs hw h1).imp fun _ _ _ q => asg_imp q
theorem ds_set {i : Nat} {x : Str} {e : Expr} {pos' : Pos} (hN : X.N.Nodup) (hi : X.N[i]? = some x) (hx : Loc X.env.scope x) (he : DE X Y e te) (hs : swapsWith e (some (.Name x pos')) pos.line X.env = pure false := by rfl) (hf : X.fn x = true ∨ X.env.scope.names.lookup x = some .local := by first | exact .inl rfl | exact .inr rfl | assumption) :
    DS X Y (.Assign [.Name x pos'] e pos) (tasg te (gn i)) := (ps_set hN hi hx he hs hf).imp fun D σ H ⟨τ, h, D', at', q, f⟩ =>
  ⟨τ, h, _, at', q, fun x h1 v H1 k1 hr1 rx q1 => f.nx _ h1 _ H1 k1 hr1 (by rw [List.length_set, List.length_set]; exact at'.len) ((at'.sr.mono k1).set at'.len rx) q1⟩
/-- xs.append(d) of an own list -/
def tapp (ta tb : TE') : TE' := fun τ h Q => ta τ h fun x h1 => match x with
  | .ref a => (∃ es, h1 a = some (.lst es)) ∧ tb τ h1 fun y h2 => ∃ ds, h2 a = some (.lst ds) ∧ ds.length < sizeLine ∧ Q .non (put h2 a (.lst (ds ++ [y])))
  | _ => False
end
end DL

set_option Elab.async false
set_option linter.all false
set_option maxRecDepth 100000
/-! DL5: methods of lists, loops, comprehensions, defs, the law's end, over data. -/
namespace DL
open PySem PySem.Spec PyProof.Rows L2
section
variable {X : Cx} {Y : Wsh} {K : PySem.W.Frag} {pos : Pos}
/-! ### methods of built-in types -/
abbrev DM := D → List D → DH → VK' → Prop
def MtL (K : PySem.W.Frag) (r : V → List V → Hp → VK → Prop) (r' : DM) : Prop := ∀ x ds v vs h H Q' Q, RD K h H x v → RDs K h H ds vs → HR K h H → r' x ds h Q' → Fin K h H Q' Q → r v vs H Q
def TyL (K : PySem.W.Frag) (T : String) (t : D → DH → Prop) : Prop := ∀ x v h H, RD K h H x v → HR K h H → t x h → tyV K T v H
def tbm (t : D → DH → Prop) (r : DM) (to : TE') (ta : TA') : TE' := fun τ h Q => to τ h fun x h1 => t x h1 ∧ ta τ h1 fun ds h2 => r x ds h2 Q
def isLs (x : D) (h : DH) : Prop := match x with | .ref a => ∃ ds, h a = some (.lst ds) | .lis _ => True | .scr _ => True | _ => False
theorem ty_lst : TyL K "list" isLs := by
  intro x v h H r hr t
  cases x with
  | ref a =>
    obtain ⟨ds, e⟩ := t
    obtain ⟨vs, e2, _⟩ := hr.lst e
    cases (show v = .ref a from r)
    exact .inl ⟨rfl, vs, SqL.of e2⟩
  | lis ds => obtain ⟨a, vs, rfl, n, e, _⟩ := r; exact .inl ⟨rfl, vs, SqL.of e⟩
  | scr ns => obtain ⟨a, rfl, e⟩ := r; exact .inl ⟨rfl, _, e.sq⟩
  | _ => exact t.elim
def isSt (x : D) (_ : DH) : Prop := match x with | .str _ => True | _ => False
theorem ty_str : TyL K "str" isSt := by
  intro x v h H r hr t
  cases x with
  | str s => cases (show v = .str s from r); rfl
  | _ => exact t.elim
theorem bm_imp {T : String} {t : D → DH → Prop} {r : V → List V → Hp → VK → Prop} {r' : DM} {to : TE'} {ta : TA'} (hT : TyL K T t) (hl : MtL K r r') {σ : L2.St} {H : Hp} {Q : VK} (q : lE K Y (tbm t r' to ta) σ H Q) : tBM K T r (lE K Y to) (lA K Y ta) σ H Q := by
  obtain ⟨τ, h, Q', at', q, f⟩ := q
  exact ⟨τ, h, _, at', q, fun x h1 v H1 k1 hr1 rx q1 => ⟨hT x v h1 H1 rx hr1 q1.1, τ, h1, _, at'.after k1 hr1, q1.2, fun ds h2 vs H2 k2 hr2 rs q2 => hl x ds v vs h2 H2 Q' Q (RD.mono k2 _ _ rx) rs hr2 q2 (f.after (k1.trans k2))⟩⟩
def mApp : DM := fun x ds h Q => match x, ds with
  | .ref a, [y] => ∃ xs, h a = some (.lst xs) ∧ xs.length < sizeLine ∧ Q .non (put h a (.lst (xs ++ [y])))
  | _, _ => False
theorem ml_app : MtL K rAppend mApp := by
  intro x ds v vs h H Q' Q rx rs hr q f
  unfold mApp at q
  split at q
  · obtain ⟨xs, e, z, q⟩ := q
    obtain ⟨w, rfl, r1⟩ := rs.one
    obtain ⟨ws, t, r⟩ := hr.lst e
    exact ⟨_, ws, w, rx, rfl, t, by rw [r.length]; exact z, f .non _ _ _ (KP.wr e) (hr.wr e (r.append (.cons r1 .nil))) rfl q⟩
  · exact q.elim
def mExt : DM := fun x ds h Q => match x, ds with
  | .ref a, [.lis ys] => ∃ xs, h a = some (.lst xs) ∧ xs.length + ys.length ≤ sizeLine ∧ Q .non (put h a (.lst (xs ++ ys)))
  | .ref a, [.ref b] => ∃ xs ys, h a = some (.lst xs) ∧ h b = some (.lst ys) ∧ xs.length + ys.length ≤ sizeLine ∧ Q .non (put h a (.lst (xs ++ ys)))
  | _, _ => False
theorem ml_ext : MtL K rExtend mExt := by
  intro x ds v vs h H Q' Q rx rs hr q f
  unfold mExt at q
  split at q
  · obtain ⟨xs, e, z, q⟩ := q
    obtain ⟨w, rfl, b, zs, rfl, n, t2, r2⟩ := rs.one
    obtain ⟨ws, t, r⟩ := hr.lst e
    exact ⟨_, b, ws, zs, rx, rfl, t, t2, by rw [r.length, r2.length]; exact z, f .non _ _ _ (KP.wr e) (hr.wr e (r.append r2)) rfl q⟩
  · obtain ⟨xs, ys, e, e2, z, q⟩ := q
    obtain ⟨w, rfl, r1⟩ := rs.one
    obtain ⟨ws, t, r⟩ := hr.lst e
    obtain ⟨zs, t2, r2⟩ := hr.lst e2
    exact ⟨_, _, ws, zs, rx, by rw [show w = _ from r1], t, t2, by rw [r.length, r2.length]; exact z, f .non _ _ _ (KP.wr e) (hr.wr e (r.append r2)) rfl q⟩
  · exact q.elim
section
variable {o e : Expr} {es : List Expr} {to' : TE'} {ta : TA'} {nm : Str} {T id : String} {r : V → List V → Hp → VK → Prop} {r' : DM} {t : D → DH → Prop} {ap : Pos}
end

/-! ### what a for walks -/
structure WalksD (K : PySem.W.Frag) (J : It) (xs : List D) (C : DH → Prop) (h1 : DH) (H1 : Hp) : Prop where
  stop : ∀ h H, KP h1 H1 h H → HR K h H → C h → J.stop xs.length H
  go : ∀ h H (i : Nat) d, KP h1 H1 h H → HR K h H → C h → xs[i]? = some d → J.go i H
  yld : ∀ h H (i : Nat) d x H', KP h1 H1 h H → HR K h H → C h → xs[i]? = some d → J.yld i H x H' → KP h H h H' ∧ HR K h H' ∧ RD K h H' d x
abbrev TI' := St' → DH → (List D → (DH → Prop) → DH → Prop) → Prop
def lI (K : PySem.W.Frag) (Y : Wsh) (t : TI') : TI := fun σ H R => ∃ τ h Q', At K Y h H σ τ ∧ t τ h Q' ∧ ∀ xs C h1 H1 J, KP h H h1 H1 → HR K h1 H1 → WalksD K J xs C h1 H1 → Q' xs C h1 → R J H1
def DI (X : Cx) (Y : Wsh) (tg iter : Expr) (t : TI') : Prop := PI X tg iter (lI X.K Y t)
theorem PI.imp {tg iter : Expr} {t u : TI} (p : PI X tg iter t) (h : ∀ σ H R, u σ H R → t σ H R) : PI X tg iter u := ⟨fun pins s σ H R I q => p.run pins s σ H R I (h σ H R q)⟩
/-- a list or a tuple -/
def iSeq (K : PySem.W.Frag) (tl : TE) : TI := fun σ H R => tl σ H fun x H1 => (∃ a, x = .ref a ∧ (∃ xs, SqL K H1 a xs) ∧ R (Itl K a) H1) ∨ (∃ a, x = .ref a ∧ (∃ xs, SqT K H1 a xs) ∧ R (Itt K a) H1)
theorem pi_seq {tg l : Expr} {tl : TE} (hl : PE X l tl) : PI X tg l (iSeq X.K tl) := by
  refine ⟨fun pins s σ H R I h => ?_⟩
  refine thn (hl.run pins s σ H _ I h) fun v s1 ⟨x, H1, I1, r1, q1⟩ => ?_
  have fp : ∀ b ∈ [s1.heap.objs.size], FpOk X pins H1 b := fun b hb => by
    cases (show b = s1.heap.objs.size by simpa using hb)
    exact I1.fpOk (Nat.le_refl _) (I1.hok.fresh (Nat.le_refl _))
  rcases q1 with ⟨a, rfl, ⟨xs, hq⟩, q⟩ | ⟨a, rfl, ⟨xs, hq⟩, q⟩
  · cases r1
    obtain ⟨its, rv, p, hz⟩ := I1.list hq
    refine wpAny_pyIter_list p.isList ⟨s1.heap.objs.size, [s1.heap.objs.size], _, _, H1, rfl, ?_,
      turn_list a _, ⟨_, Heap.get?_push_size _ rfl, rfl, rfl⟩, fp, q⟩
    exact I1.kept (t' := s1.toks) fun b o e => Heap.get?_push_of_some _ e
  · cases r1
    obtain ⟨its, rv, p, hz⟩ := I1.tuple hq
    refine wpAny_pyIter_tuple (show s1.heap.IsTuple a its.toArray from p) ⟨s1.heap.objs.size, [s1.heap.objs.size], _, _, H1, rfl, ?_,
      turn_tuple a _, ⟨_, Heap.get?_push_size _ rfl, rfl, rfl⟩, fp, q⟩
    exact I1.kept (t' := s1.toks) fun b o e => Heap.get?_push_of_some _ e
def tse (t : TE') : TI' := fun τ h Q => t τ h fun x h1 => match x with
  | .tup xs => Q xs (fun _ => True) h1
  | .lis xs => Q xs (fun _ => True) h1
  | .scr ns => Q (ns.map .int) (fun _ => True) h1
  | .ref a => ∃ xs, h1 a = some (.lst xs) ∧ Q xs (fun h => h a = some (.lst xs)) h1
  | _ => False
theorem get_lt {α : Type} {xs : List α} {i : Nat} {d : α} (e : xs[i]? = some d) : i < xs.length := (List.getElem?_eq_some_iff.mp e).1
/-- a list that reads so at each turn -/
theorem walks_list {a : Addr} {xs : List D} {C : DH → Prop} {h1 : DH} {H1 : Hp} (c : ∀ h H, KP h1 H1 h H → HR K h H → C h → ∃ vs, SqL K H a vs ∧ RDs K h H xs vs) : WalksD K (Itl K a) xs C h1 H1 where
  stop := fun h H k hr hc => by
    obtain ⟨vs, s, r⟩ := c h H k hr hc
    exact ⟨vs, s, by rw [r.length]; exact Nat.le_refl _⟩
  go := fun h H i d k hr hc e => by
    obtain ⟨vs, s, r⟩ := c h H k hr hc
    obtain ⟨v, ev, _⟩ := r.get e
    exact ⟨vs, v, s, ev⟩
  yld := fun h H i d x H' k hr hc e y => by
    obtain ⟨vs, s, r⟩ := c h H k hr hc
    obtain ⟨v, ev, rv⟩ := r.get e
    obtain ⟨rfl, y2⟩ := y
    have := y2 vs s
    rw [ev] at this
    cases this
    exact ⟨.refl, hr, rv⟩
theorem walks_tup {a : Addr} {xs : List D} {h1 : DH} {H1 : Hp} {vs : List V} (t : TupAt K h1 H1 a vs) (r1 : RDs K h1 H1 xs vs) : WalksD K (Itt K a) xs (fun _ => True) h1 H1 where
  stop := fun h H k hr hc => ⟨vs, (k.tup t).sq, by rw [r1.length]; exact Nat.le_refl _⟩
  go := fun h H i d k hr hc e => by
    obtain ⟨v, ev, _⟩ := r1.get e
    exact ⟨vs, v, (k.tup t).sq, ev⟩
  yld := fun h H i d x H' k hr hc e y => by
    obtain ⟨v, ev, rv⟩ := r1.get e
    obtain ⟨rfl, y2⟩ := y
    have := y2 vs (k.tup t).sq
    rw [ev] at this
    cases this
    exact ⟨.refl, hr, RD.mono k _ _ rv⟩
theorem di_seq {tg l : Expr} {tl : TE'} (p : DE X Y l tl) : DI X Y tg l (tse tl) := PI.imp (pi_seq p) fun σ H R ⟨τ, h, Q', at', q, f⟩ => ⟨τ, h, _, at', q, fun x h1 v H1 k1 hr1 rx q1 => by
  cases x with
  | tup xs =>
    obtain ⟨a, vs, e, t, r⟩ := rx
    exact .inr ⟨a, e, ⟨vs, t.sq⟩, f _ _ _ _ _ k1 hr1 (walks_tup t r) q1⟩
  | lis xs =>
    obtain ⟨a, vs, e, n, t, r⟩ := rx
    exact .inl ⟨a, e, ⟨vs, SqL.of t⟩, f _ _ _ _ _ k1 hr1 (walks_list fun h2 H2 k2 hr2 _ => ⟨vs, SqL.of (k2 a _ (by rw [n]; rfl) t).2, RDs.mono k2 _ _ r⟩) q1⟩
  | scr ns =>
    obtain ⟨a, e, t⟩ := rx
    exact .inl ⟨a, e, ⟨_, t.sq⟩, f _ _ _ _ _ k1 hr1 (walks_list fun h2 H2 k2 hr2 _ => ⟨_, (k2.scr t).sq, rds_ints ns⟩) q1⟩
  | ref a =>
    obtain ⟨xs, e, q1⟩ := q1
    obtain ⟨vs, t, r⟩ := hr1.lst e
    exact .inl ⟨a, rx, ⟨vs, SqL.of t⟩, f _ _ _ _ _ k1 hr1 (walks_list fun h2 H2 k2 hr2 c => by
      obtain ⟨ws, t2, r2⟩ := hr2.lst c
      exact ⟨ws, SqL.of t2, r2⟩) q1⟩
  | _ => exact q1.elim⟩
/-- lo, lo + 1, .. (n of them) -/
def rngD (lo : Int) (n : Nat) : List D := (List.range n).map fun (i : Nat) => D.int (lo + i)
theorem walks_range {lo : Int} {n : Nat} {h1 : DH} {H1 : Hp} : WalksD K (Itr lo n) (rngD lo n) (fun _ => True) h1 H1 := by
  have len : (rngD lo n).length = n := by unfold rngD; rw [List.length_map, List.length_range]
  have get : ∀ (i : Nat) d, (rngD lo n)[i]? = some d → i < n ∧ d = .int (lo + i) := fun i d e => by
    have hi := get_lt e
    rw [len] at hi
    refine ⟨hi, ?_⟩
    unfold rngD at e
    rw [List.getElem?_map, List.getElem?_range hi] at e
    exact (Option.some.inj e).symm
  refine ⟨fun h H k hr hc => by rw [len]; exact Nat.le_refl _, fun h H i d k hr hc e => (get i d e).1, fun h H i d x H' k hr hc e y => ?_⟩
  obtain ⟨rfl, rfl⟩ := y
  rw [(get i d e).2]
  exact ⟨.refl, hr, rfl⟩
def trg1 (ta : TA') : TI' := fun τ h Q => ta τ h fun ds h1 => match ds with
  | [.int j] => -4611686018427387904 ≤ j ∧ j < 4611686018427387904 ∧ Q (rngD 0 j.toNat) (fun _ => True) h1
  | _ => False
theorem di_rng1 {tg a : Expr} {ta : TA'} {p : Pos} (hg : Gl X "range") (hm : X.mg "range" = none) (ha : DA X Y [a] ta) (hs : starEach [a] X.env = [(false, eval a X.env)] := by rfl) : DI X Y tg (.Call (.Name "range" p) [a] [] pos) (trg1 ta) :=
  PI.imp (pi_range1 hg hm ha hs) fun σ H R ⟨τ, h, Q', at', q, f⟩ => ⟨τ, h, _, at', q, fun ds h1 vs H1 k1 hr1 rs q1 => by
    split at q1
    · obtain ⟨v, rfl, r1⟩ := rs.one
      cases (show v = _ from r1)
      have e : (2 : Int) ^ 62 = 4611686018427387904 := by decide
      exact ⟨_, rfl, by rw [e]; exact q1.1, by rw [e]; exact q1.2.1, f _ _ _ _ _ k1 hr1 walks_range q1.2.2⟩
    · exact q1.elim⟩
def trg2 (ta : TA') : TI' := fun τ h Q => ta τ h fun ds h1 => match ds with
  | [.int i, .int j] => (-4611686018427387904 ≤ i ∧ i < 4611686018427387904 ∧ -4611686018427387904 ≤ j ∧ j < 4611686018427387904) ∧ Q (rngD i (j - i).toNat) (fun _ => True) h1
  | _ => False
theorem di_rng2 {tg a b : Expr} {ta : TA'} {p : Pos} (hg : Gl X "range") (hm : X.mg "range" = none) (ha : DA X Y [a, b] ta) (hs : starEach [a, b] X.env = [(false, eval a X.env), (false, eval b X.env)] := by rfl) (hs2 : starEach [b] X.env = [(false, eval b X.env)] := by rfl) : DI X Y tg (.Call (.Name "range" p) [a, b] [] pos) (trg2 ta) :=
  PI.imp (pi_range2 hg hm ha hs hs2) fun σ H R ⟨τ, h, Q', at', q, f⟩ => ⟨τ, h, _, at', q, fun ds h1 vs H1 k1 hr1 rs q1 => by
    split at q1
    · obtain ⟨v, u, rfl, r1, r2⟩ := rs.two
      cases (show v = _ from r1)
      cases (show u = _ from r2)
      have e : (2 : Int) ^ 62 = 4611686018427387904 := by decide
      exact ⟨_, _, rfl, by rw [e]; exact q1.1, f _ _ _ _ _ k1 hr1 walks_range q1.2⟩
    · exact q1.elim⟩

/-! ### for -/
def forS (g : TG') (tb : TS') (C : DH → Prop) (E : Ends') : List D → St' → DH → Prop
  | [], τ, h => C h ∧ E.nx τ h
  | x :: xs, τ, h => C h ∧ g x τ h fun τ1 h1 => tb { nx := fun τ2 h2 => forS g tb C E xs τ2 h2, rt := E.rt, bk := E.nx, ct := fun τ2 h2 => forS g tb C E xs τ2 h2 } τ1 h1
def tfor (ti : TI') (g : TG') (tb : TS') : TS' := fun E τ h => ti τ h fun xs C h1 => forS g tb C E xs τ h1
theorem drop_cons {α : Type} {xs r : List α} {i : Nat} {x : α} (e : xs.drop i = x :: r) : xs[i]? = some x ∧ xs.drop (i + 1) = r ∧ i < xs.length := by
  have h0 : (xs.drop i)[0]? = some x := by rw [e]; rfl
  rw [List.getElem?_drop] at h0
  refine ⟨h0, ?_, get_lt h0⟩
  rw [← List.tail_drop, e]
  rfl
theorem ds_for {tg iter : Expr} {body : List Stmt} {ti : TI'} {g : TG'} {tb : TS'} (hp : PassesOwn (model X.prog X.w) X.A X.env X.xe) (hc : X.calm = true) (hi : DI X Y tg iter ti) (hg : DG X Y tg g) (hb : DSs X Y body tb)
    (hs : ∀ x, foldedSetIterable iter X.env x = pure x := by intro _; rfl) : DS X Y (.For tg iter body [] pos) (tfor ti g tb) := (ps_for hp hc hi hg hb hs).imp fun D0 σ H ⟨τ, h, E, at', q, f⟩ => by
  refine ⟨τ, h, _, at', q, fun xs C h1 H1 J k1 hr1 wd q1 => ?_⟩
  refine ⟨fun i m σ2 H2 => ∃ τ2 h2, KP h H h2 H2 ∧ KP h1 H1 h2 H2 ∧ HR X.K h2 H2 ∧ τ2.length = σ2.length ∧ SR X.K h2 H2 σ2 τ2 ∧ i + m = xs.length ∧ forS g tb C E (xs.drop i) τ2 h2,
    ⟨xs.length, τ, h1, k1, .refl, hr1, at'.len, at'.sr.mono k1, Nat.zero_add _, q1⟩, fun i m σ2 H2 hW => ?_⟩
  obtain ⟨τ2, h2, k2, kk, hr2, l2, s2, em, q2⟩ := hW
  cases ed : xs.drop i with
  | nil =>
    rw [ed] at q2
    have hl : xs.length ≤ i := by
      have := congrArg List.length ed
      rw [List.length_drop] at this
      simp only [List.length_nil] at this
      omega
    have hi : i = xs.length := by omega
    rw [hi]
    exact .inl ⟨wd.stop h2 H2 kk hr2 q2.1, f.nx τ2 h2 σ2 H2 k2 hr2 l2 s2 q2.2⟩
  | cons x r =>
    rw [ed] at q2
    obtain ⟨ex, er, hlt⟩ := drop_cons ed
    refine .inr ⟨wd.go h2 H2 i x kk hr2 q2.1 ex, fun σ' H' => ∃ τ' h', KP h H h' H' ∧ KP h1 H1 h' H' ∧ HR X.K h' H' ∧ τ'.length = σ'.length ∧ SR X.K h' H' σ' τ' ∧ forS g tb C E (xs.drop (i + 1)) τ' h',
      fun σ' H' ⟨τ', h', a1, a2, a3, a4, a5, a6⟩ => ⟨m - 1, by omega, τ', h', a1, a2, a3, a4, a5, by omega, a6⟩, fun v H3 hy => ?_⟩
    obtain ⟨k3, hr3, rv⟩ := wd.yld h2 H2 i x v H3 kk hr2 q2.1 ex hy
    refine ⟨x, τ2, h2, _, at'.next (k2.trans k3) hr3 l2 (s2.mono k3), rv, q2.2, fun τ4 h4 σ4 H4 k4 hr4 l4 s4 q4 => ?_⟩
    have kb : KP h H h4 H4 := (k2.trans k3).trans k4
    have kc : KP h1 H1 h4 H4 := (kk.trans k3).trans k4
    refine ⟨τ4, h4, _, at'.next kb hr4 l4 s4, q4, ?_⟩
    have again : FinN X.K h4 H4 (fun τ2 h2 => forS g tb C E r τ2 h2) fun σ' H' => ∃ τ' h', KP h H h' H' ∧ KP h1 H1 h' H' ∧ HR X.K h' H' ∧ τ'.length = σ'.length ∧ SR X.K h' H' σ' τ' ∧ forS g tb C E (xs.drop (i + 1)) τ' h' :=
      fun τ5 h5 σ5 H5 k5 hr5 l5 s5 q5 => ⟨τ5, h5, kb.trans k5, kc.trans k5, hr5, l5, s5, by rw [er]; exact q5⟩
    exact ⟨again, f.rt.after kb, f.nx.after kb, again⟩

/-! ### while -/
def twhile (c : TT') (tb : TS') : TS' := fun E τ h => ∃ W : Nat → St' → DH → Prop, (∃ m, W m τ h) ∧ ∀ m τ h, W m τ h →
  c τ h fun b h1 => if b = true then tb { nx := fun τ' h' => ∃ m', m' < m ∧ W m' τ' h', ct := fun τ' h' => ∃ m', m' < m ∧ W m' τ' h', bk := E.nx, rt := E.rt } τ h1 else E.nx τ h1
theorem ds_while {c : Expr} {body : List Stmt} {tc : TT'} {tb : TS'} (hp : PassesOwn (model X.prog X.w) X.A X.env X.xe) (hc : DT X Y c tc) (hb : DSs X Y body tb) : DS X Y (.While c body [] pos) (twhile tc tb) := (ps_while hp hc hb).imp fun D0 σ H ⟨τ, h, E, at', ⟨W, ⟨m0, w0⟩, turn⟩, f⟩ => by
  refine ⟨fun m σ2 H2 => ∃ τ2 h2, KP h H h2 H2 ∧ HR X.K h2 H2 ∧ τ2.length = σ2.length ∧ SR X.K h2 H2 σ2 τ2 ∧ W m τ2 h2, ⟨m0, τ, h, .refl, at'.hr, at'.len, at'.sr, w0⟩, fun m σ2 H2 hW => ?_⟩
  obtain ⟨τ2, h2, k2, hr2, l2, s2, w2⟩ := hW
  refine ⟨τ2, h2, _, at'.next k2 hr2 l2 s2, turn m τ2 h2 w2, fun b h3 H3 k3 hr3 q3 => ?_⟩
  have kb : KP h H h3 H3 := k2.trans k3
  cases b with
  | true =>
    rw [if_pos rfl] at q3
    have again : FinN X.K h3 H3 (fun τ' h' => ∃ m', m' < m ∧ W m' τ' h') fun σ' H' => ∃ τ' h', KP h H h' H' ∧ HR X.K h' H' ∧ τ'.length = σ'.length ∧ SR X.K h' H' σ' τ' ∧ ∃ m', m' < m ∧ W m' τ' h' :=
      fun τ5 h5 σ5 H5 k5 hr5 l5 s5 q5 => ⟨τ5, h5, kb.trans k5, hr5, l5, s5, q5⟩
    refine iteT ⟨fun σ' H' => ∃ τ' h', KP h H h' H' ∧ HR X.K h' H' ∧ τ'.length = σ'.length ∧ SR X.K h' H' σ' τ' ∧ ∃ m', m' < m ∧ W m' τ' h', fun σ' H' ⟨τ', h', a1, a2, a3, a4, m', lt, a5⟩ => ⟨m', lt, τ', h', a1, a2, a3, a4, a5⟩,
      τ2, h3, _, at'.next kb hr3 l2 (s2.mono k3), q3, ⟨again, f.rt.after kb, f.nx.after kb, again⟩⟩
  | false =>
    rw [if_neg Bool.false_ne_true] at q3
    exact iteF (f.nx τ2 h3 σ2 H3 kb hr3 l2 (s2.mono k3) q3)
end
end DL

set_option Elab.async false
set_option linter.all false
set_option maxRecDepth 100000
/-! DL6: method calls, comprehensions, defs, the law's end, over data. -/
namespace DL
open PySem PySem.Spec PyProof.Rows L2
section
variable {X : Cx} {Y : Wsh} {K : PySem.W.Frag} {pos : Pos}
theorem de_bm {o e : Expr} {es : List Expr} {to' : TE'} {ta : TA'} {name : Str} {T id : String} {r : V → List V → Hp → VK → Prop} {r' : DM} {t : D → DH → Prop} {apos cpos : Pos}
    (pa : PlainAttrs T) (slot : Slot T name id) (hty : typeOf (.builtin id) = pure (.type "method_descriptor")) (hm : MtR X id r) (hl : MtL X.K r r') (hT : TyL X.K T t) (ho : DE X Y o to') (ha : DA X Y (e :: es) ta)
    (hbase : attributeBase o name X.env (eval o X.env) = eval o X.env := by rfl)
    (hfew : ((backTo cpos (starEach (e :: es) X.env)).all (fun x => !x.1) && (backToKw cpos (keywordEach [] X.env)).all (fun x => x.1.isSome) && decide ((e :: es).length + ([] : List Keyword).length + (if ([] : List Keyword).isEmpty then 0 else 1) < 30)) = true := by rfl)
    (hline : (apos.endLine == cpos.line) = true := by rfl) (hs : starEach (e :: es) X.env = (false, eval e X.env) :: starEach es X.env := by rfl) (hplain : (backTo cpos (starEach es X.env)).any (·.1) = false := by rfl) :
    DE X Y (.Call (.Attribute o name apos) (e :: es) [] cpos) (tbm t r' to' ta) := (pe_bm pa slot hty hm ho ha hbase hfew hline hs hplain).imp fun _ _ _ q => bm_imp hT hl q
theorem de_append {o e : Expr} {to' : TE'} {ta : TA'} {apos cpos : Pos} (ho : DE X Y o to') (ha : DA X Y [e] ta)
    (hbase : attributeBase o "append" X.env (eval o X.env) = eval o X.env := by rfl)
    (hfew : ((backTo cpos (starEach [e] X.env)).all (fun x => !x.1) && (backToKw cpos (keywordEach [] X.env)).all (fun x => x.1.isSome) && decide (([e] : List Expr).length + ([] : List Keyword).length + (if ([] : List Keyword).isEmpty then 0 else 1) < 30)) = true := by rfl)
    (hline : (apos.endLine == cpos.line) = true := by rfl) (hs : starEach [e] X.env = (false, eval e X.env) :: starEach [] X.env := by rfl) (hplain : (backTo cpos (starEach [] X.env)).any (·.1) = false := by rfl) :
    DE X Y (.Call (.Attribute o "append" apos) [e] [] cpos) (tbm isLs mApp to' ta) := de_bm F.plainAttrs_list F.slot_list_append F.type_list_append mt_append ml_app ty_lst ho ha hbase hfew hline hs hplain

/-! ### comprehensions: one clause, a name -/
def lcS (i : Nat) (tt : TT') (te : TE') (C : DH → Prop) (τ : St') (Q : List D → DH → Prop) : List D → List D → DH → Prop
  | [], acc, h => C h ∧ Q acc h
  | x :: xs, acc, h => C h ∧ tt (τ.set i (some x)) h fun b h1 => if b = true then te (τ.set i (some x)) h1 fun y h2 => acc.length < sizeLine ∧ lcS i tt te C τ Q xs (acc ++ [y]) h2 else lcS i tt te C τ Q xs acc h1
def tlc (ti : TI') (i : Nat) (tt : TT') (te : TE') : TE' := fun τ h Q => ti τ h fun xs C h1 => ∀ p, h1 p = none → lcS i tt te C τ (fun ds h2 => Q (.lis ds) (del h2 p)) xs [] (put h1 p .hid)
def tyes : TT' := fun _ h Q => Q true h
def DTs (X : Cx) (Y : Wsh) (es : List Expr) (t : TT') : Prop := PTs X es (lT X.K Y t)
theorem dts_nil : DTs X Y [] tyes := ⟨fun pins s σ H Q I ⟨τ, h, Q', at', q, f⟩ => pts_nil.run pins s σ H Q I (f true h H .refl at'.hr q)⟩
theorem dts_one {c : Expr} {t : TT'} (p : DT X Y c t) : DTs X Y [c] t := pts_one p
theorem wipe1 (σ : L2.St) (i : Nat) : wipe σ [i] = σ.set i none := rfl
theorem sr_wipe {h : DH} {H : Hp} {σ : L2.St} {τ : St'} {i : Nat} {d : D} {v : V} (r : SR K h H σ τ) (l : τ.length = σ.length) (q : RD K h H d v) : SR K h H ((wipe σ [i]).set i (some v)) (τ.set i (some d)) := by
  rw [wipe1, List.set_set]
  exact r.set l q
theorem lc_imp {ti : TI'} {i : Nat} {tt : TT'} {te : TE'} {σ : L2.St} {H : Hp} {Q : VK} (q : lE K Y (tlc ti i tt te) σ H Q) : tLc (lI K Y ti) (gName i) (lT K Y tt) (lE K Y te) [i] σ H Q := by
  obtain ⟨τ, h, Q', at', q, f⟩ := q
  refine ⟨τ, h, _, at', q, fun xs C h1 H1 J k1 hr1 wd q1 p np => ?_⟩
  have np' : h1 p = none := hr1.fresh np
  have q1 := q1 p np'
  refine ⟨fun j m H2 => ∃ h2 acc accV, KP h1 H1 h2 H2 ∧ HR K h2 H2 ∧ h2 p = some .hid ∧ H2 p = some (.lst accV) ∧ RDs K h2 H2 acc accV ∧ j + m = xs.length ∧ lcS i tt te C τ (fun ds h2 => Q' (.lis ds) (del h2 p)) (xs.drop j) acc h2,
    ⟨xs.length, put h1 p .hid, [], [], KP.newL np, hr1.newH np, put_same, upd_same, rfl, Nat.zero_add _, q1⟩, fun j m H2 hW => ?_⟩
  obtain ⟨h2, acc, accV, k2, hr2, hp, Hp2, ra, em, q2⟩ := hW
  cases ed : xs.drop j with
  | nil =>
    rw [ed] at q2
    have hl : xs.length ≤ j := by
      have := congrArg List.length ed
      rw [List.length_drop] at this
      simp only [List.length_nil] at this
      omega
    have hj : j = xs.length := by omega
    rw [hj]
    refine .inl ⟨wd.stop h2 H2 k2 hr2 q2.1, f (.lis acc) (del h2 p) (.ref p) H2 (fun a o st e => ?_) (fun a o e => ?_) ?_ q2.2⟩
    · obtain ⟨e1, e2⟩ := (k1.trans k2) a o st e
      obtain ⟨_, e3⟩ := k1 a o st e
      have ne : a ≠ p := fun z => by rw [z, np] at e3; cases e3
      exact ⟨by rw [del_ne ne]; exact e1, e2⟩
    · have ne : a ≠ p := fun z => by rw [z, del_same] at e; cases e
      rw [del_ne ne] at e
      have q := hr2 a o e
      cases o with
      | lst ds =>
        obtain ⟨vs, e1, r⟩ := q
        exact ⟨vs, e1, RDs.monoN (fun b u nb eb => ⟨by by_cases z : b = p; rw [z]; exact del_same; rw [del_ne z]; exact nb, eb⟩) _ _ r⟩
      | hid => exact q
    · exact ⟨p, accV, rfl, del_same, Hp2, RDs.monoN (fun b u nb eb => ⟨by by_cases z : b = p; rw [z]; exact del_same; rw [del_ne z]; exact nb, eb⟩) _ _ ra⟩
  | cons x r =>
    rw [ed] at q2
    obtain ⟨ex, er, hlt⟩ := drop_cons ed
    refine .inr ⟨wd.go h2 H2 j x k2 hr2 q2.1 ex, fun H' => ∃ h2 acc accV, KP h1 H1 h2 H' ∧ HR K h2 H' ∧ h2 p = some .hid ∧ H' p = some (.lst accV) ∧ RDs K h2 H' acc accV ∧ lcS i tt te C τ (fun ds h2 => Q' (.lis ds) (del h2 p)) r acc h2,
      fun H' ⟨h', a', v', a1, a2, a3, a4, a5, a6⟩ => ⟨m - 1, by omega, h', a', v', a1, a2, a3, a4, a5, by omega, by rw [er]; exact a6⟩, fun v H3 hy => ?_⟩
    obtain ⟨k3, hr3, rv⟩ := wd.yld h2 H2 j x v H3 k2 hr2 q2.1 ex hy
    have pst : still (h2 p) = true := by rw [hp]; rfl
    have Hp3 := (k3 p _ pst Hp2).2
    have kk := k2.trans k3
    have ra3 := RDs.mono k3 _ _ ra
    refine ⟨by simp only [wipe1, List.set_set], τ.set i (some x), h2, _, at'.next (k1.trans kk) hr3 (by rw [List.length_set, List.length_set, wipe_length]; exact at'.len) (sr_wipe (at'.sr.mono (k1.trans kk)) at'.len rv), q2.2, fun b h4 H4 k4 hr4 q4 => ?_⟩
    have e4 := k4 p _ pst Hp3
    have k14 := kk.trans k4
    have ra4 := RDs.mono k4 _ _ ra3
    cases b with
    | false =>
      rw [if_neg Bool.false_ne_true] at q4
      exact iteF ⟨h4, acc, accV, k14, hr4, e4.1.trans hp, e4.2, ra4, q4⟩
    | true =>
      rw [if_pos rfl] at q4
      refine iteT ⟨τ.set i (some x), h4, _, at'.next (k1.trans k14) hr4 (by rw [List.length_set, List.length_set, wipe_length]; exact at'.len) (sr_wipe (at'.sr.mono (k1.trans k14)) at'.len (RD.mono k4 _ _ rv)), q4, fun y h5 u H5 k5 hr5 ry q5 => ?_⟩
      have pst4 : still (h4 p) = true := by rw [e4.1, hp]; rfl
      have e5 := k5 p _ pst4 e4.2
      have hp5 : h5 p = some .hid := e5.1.trans (e4.1.trans hp)
      have kn : KN h5 H5 h5 (upd H5 p (.lst (accV ++ [u]))) := fun b o nb eb => by
        have ne : b ≠ p := fun z => by rw [z, hp5] at nb; cases nb
        exact ⟨nb, by rw [upd_ne ne]; exact eb⟩
      refine ⟨accV, e5.2, by rw [ra.length]; exact q5.1, h5, acc ++ [y], accV ++ [u], fun a o st e => ?_, fun a o e => ?_, hp5, upd_same, ?_, q5.2⟩
      · obtain ⟨z1, z2⟩ := (k14.trans k5) a o st e
        have ne : a ≠ p := fun z => by rw [z, np] at e; cases e
        exact ⟨z1, by rw [upd_ne ne]; exact z2⟩
      · have q := hr5 a o e
        cases o with
        | lst ds =>
          have ne : a ≠ p := fun z => by rw [z, hp5] at e; cases e
          obtain ⟨vs, e1, r⟩ := q
          exact ⟨vs, by rw [upd_ne ne]; exact e1, RDs.monoN kn _ _ r⟩
        | hid =>
          by_cases z : a = p
          · rw [z]; exact ⟨_, upd_same⟩
          · obtain ⟨u, e1⟩ := q
            exact ⟨u, by rw [upd_ne z]; exact e1⟩
      · exact RDs.monoN kn _ _ ((RDs.mono k5 _ _ ra4).append (.cons ry .nil))
section
variable {elt iter : Expr} {x : Str} {px : Pos} {ifs : List Expr} {scope : Scope} {i : Nat} {ti : TI'} {tt : TT'} {te : TE'}
theorem de_lc (hc : X.calm = true) (hN : X.N.Nodup) (hi : DI X Y (.Name x px) iter ti) (ok : BlkOk X.N X.env.scope scope [(x, i)])
    (hg : ∀ (s : Shared) (H : Hp) (C : Addr) (cl : List (Str × Addr)) (fp : List Addr), PG (X.blk s H scope (compEnvC scope cl C X.env) fp) (.Name x px) (gName i))
    (ht : ∀ (s : Shared) (H : Hp) (C : Addr) (cl : List (Str × Addr)) (fp : List Addr), DTs (X.blk s H scope (compEnvC scope cl C X.env) fp) Y ifs tt)
    (he : ∀ (s : Shared) (H : Hp) (C : Addr) (cl : List (Str × Addr)) (fp : List Addr), DE (X.blk s H scope (compEnvC scope cl C X.env) fp) Y elt te) (hs : ∀ x, foldedSetIterable iter X.env x = pure x := by intro _; rfl) :
    DE X Y (.ListComp elt [⟨.Name x px, iter, ifs, 0⟩] scope pos) (tlc ti i tt te) := (pe_lc (own := [(x, i)]) (g := gName i) (tt := lT X.K Y tt) (te := lE X.K Y te) hc hN hi ok hg ht he hs).imp fun _ _ _ q => lc_imp q
theorem ds_setlc {j : Nat} {y : Str} {py spos : Pos} (hc : X.calm = true) (hN : X.N.Nodup) (hy : X.N[j]? = some y) (hyl : X.env.scope.names.lookup y = some .local)
    (hsw : swapsWith (.ListComp elt [⟨.Name x px, iter, ifs, 0⟩] scope pos) (some (.Name y py)) spos.line X.env = pure true) (hi : DI X Y (.Name x px) iter ti) (ok : BlkOk X.N X.env.scope scope [(x, i)])
    (hg : ∀ (s : Shared) (H : Hp) (C : Addr) (cl : List (Str × Addr)) (fp : List Addr), PG (X.blk s H scope (compEnvC scope cl C X.env) fp) (.Name x px) (gName i))
    (ht : ∀ (s : Shared) (H : Hp) (C : Addr) (cl : List (Str × Addr)) (fp : List Addr), DTs (X.blk s H scope (compEnvC scope cl C X.env) fp) Y ifs tt)
    (he : ∀ (s : Shared) (H : Hp) (C : Addr) (cl : List (Str × Addr)) (fp : List Addr), DE (X.blk s H scope (compEnvC scope cl C X.env) fp) Y elt te) (hs : ∀ x, foldedSetIterable iter X.env x = pure x := by intro _; rfl) :
    DS X Y (.Assign [.Name y py] (.ListComp elt [⟨.Name x px, iter, ifs, 0⟩] scope pos) spos) (tasg (tlc ti i tt te) (gn j)) :=
  (ps_setLc (own := [(x, i)]) (g := gName i) (tt := lT X.K Y tt) (te := lE X.K Y te) hc hN hy hyl hsw hi ok hg ht he hs).imp fun D σ H ⟨τ, h, D', at', q, f⟩ => lc_imp (Y := Y) ⟨τ, h, _, at', q, fun x h1 v H1 k1 hr1 rx q1 => f.nx _ h1 _ H1 k1 hr1 (by rw [List.length_set, List.length_set]; exact at'.len) ((at'.sr.mono k1).set at'.len rx) q1⟩
end
end

/-! ### a def -/
section
variable {P : Program} {w : World} {K : PySem.W.Frag} {mg : Str → Option Value} {base : Heap}
/-- behind the body: what is left over may be forgotten -/
def ends (Q : VK') : Ends' where
  nx := fun _ h => ∃ h2, Sub h2 h ∧ Q .non h2
  rt := fun d h => ∃ h2, Sub h2 h ∧ Q d h2
def slots (N : List Str) (ds : List D) : St' := ds.map some ++ List.replicate (N.length - ds.length) none
abbrev cxD (P : Program) (w : World) (K : PySem.W.Frag) (mg : Str → Option Value) (base : Heap) (N : List Str) (qual : Str) (st : Stmt) (f : Addr) (cdv : Value) (A : Around) (outer : List Env) (s : Shared) (H : Hp) (E : XK) : Cx :=
  cxOf (L2.CX P w) P w K mg base N qual (defScope st) f cdv A outer s H E
theorem fnD {x qual : Str} {st : Stmt} {f : Addr} {fd : FuncData} {N ps : List Str} {k : Nat} {sp : Sp'} (F : Fun K x qual st f fd) (S : FnScope N ps (defScope st)) (len : ∀ ds h Q E, sp ds h Q E → ds.length = ps.length)
    (hb : ∀ (cdv : Value) (A : Around) (outer : List Env) (s : Shared) (H : Hp) (E : XK), Room k (A.deeper (envOfC qual (defScope st) s.heap.objs.size f cdv)) → ∀ E' : XK',
      ∃ t, DSs (cxD P w K mg base N qual st f cdv A outer s H E) ⟨E', E⟩ (defBody st) t ∧ ∀ ds h Q, sp ds h Q E' → t (ends Q) (slots N ds) h) : FnD P w K mg base (k + 1) f fd ps sp := by
  refine F.okX S (fun vs H Q E h => ?_) fun cdv A outer s H vs Q E hr h => ?_
  · obtain ⟨ds, h, Q', E', rs, _, q, _⟩ := h
    rw [rs.length]
    exact len ds h Q' E' q
  · obtain ⟨ds, h, Q', E', rs, hr', q, fn, fx⟩ := h
    obtain ⟨t, ht, hq⟩ := hb cdv A outer s H E hr E'
    refine ⟨_, ht, slots N ds, h, ends Q', ⟨?_, ?_, hr', fx⟩, hq ds h Q' q, ?_⟩
    · unfold slots L2.start
      rw [List.length_append, List.length_append, List.length_map, List.length_map, List.length_replicate, List.length_replicate, rs.length]
    · intro i d e
      unfold slots at e
      unfold L2.start
      by_cases hi : i < ds.length
      · rw [List.getElem?_append_left (by rw [List.length_map]; exact hi), List.getElem?_map] at e
        cases ed : ds[i]? with
        | none => rw [ed] at e; cases e
        | some d' =>
          rw [ed] at e
          cases e
          obtain ⟨v, ev, rv⟩ := rs.get ed
          refine ⟨v, ?_, rv⟩
          rw [List.getElem?_append_left (by rw [List.length_map, rs.length]; exact hi), List.getElem?_map, ev]
          rfl
      · rw [List.getElem?_append_right (by rw [List.length_map]; omega), List.getElem?_replicate] at e
        split at e <;> cases e
    · refine ⟨fun τ h' σ H' k' hr2 _ _ q2 => ?_, fun d h' v H' k' hr2 rd q2 => ?_, fun _ _ _ _ _ _ _ _ z => z, fun _ _ _ _ _ _ _ _ z => z⟩
      · obtain ⟨h2, sb, q2⟩ := q2
        exact fn .non h2 .non H' (k'.sub sb) (hr2.sub sb) rfl q2
      · obtain ⟨h2, sb, q2⟩ := q2
        exact fn d h2 v H' (k'.sub sb) (hr2.sub sb) (RD.sub sb _ _ rd) q2
theorem FnD.mono {j k : Nat} {f : Addr} {fd : FuncData} {ps : List Str} {sp : Sp'} (F : FnD P w K mg base j f fd ps sp) (h : j ≤ k) : FnD P w K mg base k f fd ps sp := FnOk.mono F h
/-- a weaker promise -/
theorem FnD.imp {k : Nat} {f : Addr} {fd : FuncData} {ps : List Str} {sp sp' : Sp'} (F : FnD P w K mg base k f fd ps sp) (h : ∀ ds g Q E, sp' ds g Q E → sp ds g Q E) : FnD P w K mg base k f fd ps sp' :=
  FnOk.imp F fun vs H Q E ⟨ds, g, Q', E', a, b, c, d⟩ => ⟨ds, g, Q', E', a, b, h _ _ _ _ c, d⟩
/-- no call is left -/
theorem FnD.none {f : Addr} {fd : FuncData} {ps : List Str} {k : Nat} {sp : Sp'} (no : ∀ ds h Q E, ¬ sp ds h Q E) : FnD P w K mg base k f fd ps sp :=
  ⟨fun vs H Q E ⟨ds, g, Q', E', _, _, c, _⟩ => (no _ _ _ _ c).elim, fun _ _ _ _ _ _ _ _ _ _ _ _ _ ⟨ds, g, Q', E', _, _, c, _⟩ => (no _ _ _ _ c).elim⟩
end
/-- what the law promises: True for at most 63 ints -/
def spLaw : Sp' := fun ds h Q _ => ∃ ns : List Int, ds = [.scr ns] ∧ ns.length ≤ 63 ∧ (∀ a, h a = none) ∧ ∀ h', Q (.bl true) h'
end DL
namespace DL
open PySem
theorem boot'_len : bootBuiltins "len" = some (.builtin "len") := by first | exact PySem.boot_len | exact PyProof.Rows.boot_len | decide +kernel
theorem boot'_isinstance : bootBuiltins "isinstance" = some (.builtin "isinstance") := by first | exact PySem.boot_isinstance | exact PyProof.Rows.boot_isinstance | decide +kernel
theorem boot'_abs : bootBuiltins "abs" = some (.builtin "abs") := by first | exact PySem.boot_abs | exact PyProof.Rows.boot_abs | decide +kernel
theorem boot'_max : bootBuiltins "max" = some (.builtin "max") := by first | exact PySem.boot_max | exact PyProof.Rows.boot_max | decide +kernel
theorem boot'_min : bootBuiltins "min" = some (.builtin "min") := by first | exact PySem.boot_min | exact PyProof.Rows.boot_min | decide +kernel
theorem boot'_sum : bootBuiltins "sum" = some (.builtin "sum") := by first | exact PySem.boot_sum | exact PyProof.Rows.boot_sum | decide +kernel
theorem boot'_int : bootBuiltins "int" = some (.type "int") := by first | exact PySem.boot_int | exact PyProof.Rows.boot_int | decide +kernel
theorem boot'_bool : bootBuiltins "bool" = some (.type "bool") := by first | exact PySem.boot_bool | exact PyProof.Rows.boot_bool | decide +kernel
theorem boot'_str : bootBuiltins "str" = some (.type "str") := by first | exact PySem.boot_str | exact PyProof.Rows.boot_str | decide +kernel
theorem boot'_tuple : bootBuiltins "tuple" = some (.type "tuple") := by first | exact PySem.boot_tuple | exact PyProof.Rows.boot_tuple | decide +kernel
theorem boot'_list : bootBuiltins "list" = some (.type "list") := by first | exact PySem.boot_list | exact PyProof.Rows.boot_list | decide +kernel
end DL

set_option Elab.async false
set_option linter.all false
set_option maxRecDepth 100000
/-! DL7: rewriting rules for the readings (head first), and the tactic walk_at "dl". Printed in part by mkdl7.py. -/
namespace DL
open PySem PySem.Spec PyProof.Rows L2
/-- if, whose ways are left alone -/
structure Tag (A B : Prop) : Type where
def sif (c : Bool) (A B : Prop) (_ : Tag A B) : Prop := if c = true then A else B
structure TagQ (Q : VK') : Type where
/-- a call, whose sequel is left alone -/
def pcall (sp : Sp') (ds : List D) (h : DH) (Q : VK') (E : XK') (_ : TagQ Q) : Prop := sp ds h Q E
theorem sif_t {A B : Prop} : sif true A B ⟨⟩ = A := if_pos rfl
theorem sif_f {A B : Prop} : sif false A B ⟨⟩ = B := if_neg Bool.false_ne_true
theorem sif_i {c : Bool} {A B : Prop} (h1 : c = true → A) (h2 : c = false → B) : sif c A B ⟨⟩ := by
  cases c with
  | true => exact h1 rfl
  | false => exact h2 rfl
section
variable {D' : Ends'} {τ : St'} {h : DH} {Q : VK'} {R : Bool → DH → Prop} {S : List D → DH → Prop} {N : St' → DH → Prop} {d x y : D} {i j : Int} {a : Addr}
theorem q_nx : tnx D' τ h = D'.nx τ h := id rfl
theorem q_seq {t u : TS'} : tseq t u D' τ h = t { D' with nx := u D' } τ h := id rfl
theorem q_br : tbr D' τ h = D'.bk τ h := id rfl
theorem q_ct : tct D' τ h = D'.ct τ h := id rfl
theorem q_drop {te : TE'} : tdrop te D' τ h = te τ h fun _ h1 => D'.nx τ h1 := id rfl
theorem q_ret {te : TE'} : tret te D' τ h = te τ h D'.rt := id rfl
theorem q_retn : tretn D' τ h = D'.rt .non h := id rfl
theorem q_ifs {c : TT'} {t u : TS'} : tifs c t u D' τ h = c τ h fun b h1 => sif b (t D' τ h1) (u D' τ h1) ⟨⟩ := id rfl
theorem q_asg {te : TE'} {g : TG'} : tasg te g D' τ h = te τ h fun x h1 => g x τ h1 D'.nx := id rfl
theorem q_gn {n : Nat} : gn n d τ h N = N (τ.set n (some d)) h := id rfl
theorem q_gsub {to ti : TE'} : gsub to ti d τ h N = to τ h fun o h1 => ti τ h1 fun i h2 => setD o i d h2 fun h3 => N τ h3 := id rfl
theorem q_gtup {n : Nat} {t : TGs'} {ds : List D} : gtup n t (.tup ds) τ h N = (ds.length = n ∧ t ds τ h N) := id rfl
theorem q_gco {t : TG'} {u : TGs'} {ds : List D} : gco t u (d :: ds) τ h N ↔ t d τ h fun τ1 h1 => u ds τ1 h1 N :=
  ⟨fun ⟨_, _, e, q⟩ => by cases e; exact q, fun q => ⟨_, _, rfl, q⟩⟩
theorem q_gni : gni [] τ h N ↔ N τ h := ⟨fun q => q.2, fun q => ⟨rfl, q⟩⟩
theorem q_for {ti : TI'} {g : TG'} {tb : TS'} : tfor ti g tb D' τ h = ti τ h fun xs C h1 => forS g tb C D' xs τ h1 := id rfl
theorem q_fnil {g : TG'} {tb : TS'} {C : DH → Prop} : forS g tb C D' [] τ h = (C h ∧ D'.nx τ h) := id rfl
theorem q_fcons {g : TG'} {tb : TS'} {C : DH → Prop} {xs : List D} : forS g tb C D' (x :: xs) τ h = (C h ∧ g x τ h fun τ1 h1 =>
  tb { nx := fun τ2 h2 => forS g tb C D' xs τ2 h2, rt := D'.rt, bk := D'.nx, ct := fun τ2 h2 => forS g tb C D' xs τ2 h2 } τ1 h1) := id rfl
theorem q_seqit {tl : TE'} {T : List D → (DH → Prop) → DH → Prop} : tse tl τ h T = tl τ h fun x h1 => match x with
  | .tup xs => T xs (fun _ => True) h1
  | .lis xs => T xs (fun _ => True) h1
  | .scr ns => T (ns.map .int) (fun _ => True) h1
  | .ref a => ∃ xs, h1 a = some (.lst xs) ∧ T xs (fun h => h a = some (.lst xs)) h1
  | _ => False := id rfl
theorem q_rg1 {ta : TA'} {T : List D → (DH → Prop) → DH → Prop} : trg1 ta τ h T = ta τ h fun ds h1 => match ds with
  | [.int j] => -4611686018427387904 ≤ j ∧ j < 4611686018427387904 ∧ T (rngD 0 j.toNat) (fun _ => True) h1
  | _ => False := id rfl
theorem q_lc {ti : TI'} {n : Nat} {tt : TT'} {te : TE'} : tlc ti n tt te τ h Q = ti τ h fun xs C h1 => ∀ p, h1 p = none → lcS n tt te C τ (fun ds h2 => Q (.lis ds) (del h2 p)) xs [] (put h1 p .hid) := id rfl
theorem q_lnil {n : Nat} {tt : TT'} {te : TE'} {C : DH → Prop} {acc : List D} : lcS n tt te C τ S [] acc h = (C h ∧ S acc h) := id rfl
theorem q_lcons {n : Nat} {tt : TT'} {te : TE'} {C : DH → Prop} {acc xs : List D} : lcS n tt te C τ S (x :: xs) acc h = (C h ∧ tt (τ.set n (some x)) h fun b h1 =>
  sif b (te (τ.set n (some x)) h1 fun y h2 => acc.length < sizeLine ∧ lcS n tt te C τ S xs (acc ++ [y]) h2) (lcS n tt te C τ S xs acc h1) ⟨⟩) := id rfl
theorem q_yes : tyes τ h R = R true h := id rfl
theorem q_c : tc d τ h Q = Q d h := id rfl
theorem q_to {r : DR2} {ta tb : TE'} : to r ta tb τ h Q = ta τ h fun x h1 => tb τ h1 fun y h2 => r x y h2 Q := id rfl
theorem q_tu {r : DR1} {ta : TE'} : tu r ta τ h Q = ta τ h fun x h1 => r x h1 Q := id rfl
theorem q_tb {t : TE'} : tb' t τ h R = t τ h fun x h1 => isB x fun c => R c h1 := id rfl
theorem q_isB {c : Bool} {k : Bool → Prop} : isB (.bl c) k = k c := id rfl
theorem q_isI {k : Int → Prop} : isI (.int i) k = k i := id rfl
theorem q_ch {r r' : DR2} {ta tb tc : TE'} : tch r r' ta tb tc τ h Q = ta τ h fun x h1 => tb τ h1 fun y h2 => r x y h2 fun z h3 => isB z fun k => sif k (tc τ h3 fun w h4 => r' y w h4 Q) (Q (.bl false) h3) ⟨⟩ := id rfl
theorem q_and {t u : TT'} : tand t u τ h R = t τ h fun c h1 => sif c (u τ h1 R) (R false h1) ⟨⟩ := id rfl
theorem q_or {t u : TT'} : tor t u τ h R = t τ h fun c h1 => sif c (R true h1) (u τ h1 R) ⟨⟩ := id rfl
theorem q_orp {t u : TT'} : torp t u τ h R = t τ h fun c h1 => u τ h1 fun d h2 => R (c || d) h2 := id rfl
theorem q_not {t : TT'} : tnot t τ h R = t τ h fun c h1 => R (!c) h1 := id rfl
theorem q_andv {ta tb : TE'} : tandv ta tb τ h Q = ta τ h fun x h1 => isB x fun c => sif c (tb τ h1 Q) (Q (.bl false) h1) ⟨⟩ := id rfl
theorem q_orv {ta tb : TE'} : torv ta tb τ h Q = ta τ h fun x h1 => isB x fun c => sif c (Q (.bl true) h1) (tb τ h1 Q) ⟨⟩ := id rfl
theorem q_notv {ta : TE'} : tnotv ta τ h Q = ta τ h fun x h1 => isB x fun c => Q (.bl (!c)) h1 := id rfl
theorem q_if {t : TT'} {ta tb : TE'} : tif t ta tb τ h Q = t τ h fun c h1 => sif c (ta τ h1 Q) (tb τ h1 Q) ⟨⟩ := id rfl
theorem q_an : tan τ h S = S [] h := id rfl
theorem q_ac {ta : TE'} {tr : TA'} : tac ta tr τ h S = ta τ h fun x h1 => tr τ h1 fun xs h2 => S (x :: xs) h2 := id rfl
theorem q_tup {t : TA'} : ttup t τ h Q = t τ h fun xs h1 => xs.length ≤ sizeLine ∧ Q (.tup xs) h1 := id rfl
theorem q_lis {t : TA'} : tlis t τ h Q = t τ h fun xs h1 => xs.length ≤ sizeLine ∧ Q (.lis xs) h1 := id rfl
theorem q_own {t : TA'} : town t τ h Q = t τ h fun xs h1 => xs.length ≤ sizeLine ∧ ∀ p, h1 p = none → Q (.ref p) (put h1 p (.lst xs)) := id rfl
theorem q_call {sp : Sp'} {E : XK'} {t : TA'} : tcall sp E t τ h Q = t τ h fun ds h1 => pcall sp ds h1 Q E ⟨⟩ := id rfl
theorem q_cb {r : List D → DH → VK' → Prop} {t : TA'} : tcb r t τ h Q = t τ h fun ds h1 => r ds h1 Q := id rfl
theorem q_bm {t : D → DH → Prop} {r : DM} {to : TE'} {ta : TA'} : tbm t r to ta τ h Q = to τ h fun x h1 => t x h1 ∧ ta τ h1 fun ds h2 => r x ds h2 Q := id rfl
theorem q_sl {te : TE'} {tl th : TO'} : tsl te tl th τ h Q = te τ h fun x h1 => tl τ h1 fun l h2 => th τ h2 fun u h3 => slD x l u h3 Q := id rfl
theorem q_slt {ds : List D} {lo hi : Option Int} : slD (.tup ds) lo hi h Q = Q (.tup (cutD ds lo hi)) h := id rfl
theorem q_sll {ds : List D} {lo hi : Option Int} : slD (.lis ds) lo hi h Q = Q (.lis (cutD ds lo hi)) h := id rfl
theorem q_pn {T : Option Int → DH → Prop} : tpn τ h T = T none h := id rfl
theorem q_pe {t : TE'} {T : Option Int → DH → Prop} : tpe t τ h T = t τ h fun x h1 => isI x fun i => T (some i) h1 := id rfl
theorem q_rt : (ends Q).rt d h = ∃ h2, Sub h2 h ∧ Q d h2 := id rfl
theorem q_enx : (ends Q).nx τ h = ∃ h2, Sub h2 h ∧ Q .non h2 := id rfl
/-! operators at their forms -/
theorem q_addi : opAdd (.int i) (.int j) h Q = Q (.int (i + j)) h := id rfl
theorem q_adds {u v : Str} : opAdd (.str u) (.str v) h Q = (u.length + v.length ≤ sizeLine ∧ Q (.str (u ++ v)) h) := id rfl
theorem q_addt {u v : List D} : opAdd (.tup u) (.tup v) h Q = (u.length + v.length ≤ sizeLine ∧ Q (.tup (u ++ v)) h) := id rfl
theorem q_addl {u v : List D} : opAdd (.lis u) (.lis v) h Q = (u.length + v.length ≤ sizeLine ∧ Q (.lis (u ++ v)) h) := id rfl
theorem q_I2 {C : Int → Int → Prop} {g : Int → Int → D} : opI2 C g (.int i) (.int j) h Q = (C i j ∧ Q (g i j) h) := id rfl
theorem q_neg : unNeg (.int i) h Q = Q (.int (-i)) h := id rfl
theorem q_eqi : opEq (.int i) (.int j) h Q = Q (.bl (decide (i = j))) h := id rfl
theorem q_eqs {u v : Str} : opEq (.str u) (.str v) h Q = Q (.bl (decide (u = v))) h := id rfl
theorem q_eqb {b c : Bool} : opEq (.bl b) (.bl c) h Q = Q (.bl (decide (b = c))) h := id rfl
theorem q_neb {b c : Bool} : opNe (.bl b) (.bl c) h Q = Q (.bl (!decide (b = c))) h := id rfl
theorem q_nei : opNe (.int i) (.int j) h Q = Q (.bl (!decide (i = j))) h := id rfl
theorem q_nes {u v : Str} : opNe (.str u) (.str v) h Q = Q (.bl (!decide (u = v))) h := id rfl
theorem q_eq_non_int : opEq .non (.int i) h Q = Q (.bl false) h := id rfl
theorem q_ne_non_int : opNe .non (.int i) h Q = Q (.bl true) h := id rfl
theorem q_eq_non_bl {b : Bool} : opEq .non (.bl b) h Q = Q (.bl false) h := id rfl
theorem q_ne_non_bl {b : Bool} : opNe .non (.bl b) h Q = Q (.bl true) h := id rfl
theorem q_eq_non_str {u : Str} : opEq .non (.str u) h Q = Q (.bl false) h := id rfl
theorem q_ne_non_str {u : Str} : opNe .non (.str u) h Q = Q (.bl true) h := id rfl
theorem q_eq_int_non : opEq (.int i) .non h Q = Q (.bl false) h := id rfl
theorem q_ne_int_non : opNe (.int i) .non h Q = Q (.bl true) h := id rfl
theorem q_eq_bl_non {b : Bool} : opEq (.bl b) .non h Q = Q (.bl false) h := id rfl
theorem q_ne_bl_non {b : Bool} : opNe (.bl b) .non h Q = Q (.bl true) h := id rfl
theorem q_eq_str_non {u : Str} : opEq (.str u) .non h Q = Q (.bl false) h := id rfl
theorem q_ne_str_non {u : Str} : opNe (.str u) .non h Q = Q (.bl true) h := id rfl
theorem q_eq_int_str {u : Str} : opEq (.int i) (.str u) h Q = Q (.bl false) h := id rfl
theorem q_ne_int_str {u : Str} : opNe (.int i) (.str u) h Q = Q (.bl true) h := id rfl
theorem q_eq_str_int {u : Str} : opEq (.str u) (.int i) h Q = Q (.bl false) h := id rfl
theorem q_ne_str_int {u : Str} : opNe (.str u) (.int i) h Q = Q (.bl true) h := id rfl
theorem q_eq_bl_str {u : Str} {b : Bool} : opEq (.bl b) (.str u) h Q = Q (.bl false) h := id rfl
theorem q_ne_bl_str {u : Str} {b : Bool} : opNe (.bl b) (.str u) h Q = Q (.bl true) h := id rfl
theorem q_eq_str_bl {u : Str} {b : Bool} : opEq (.str u) (.bl b) h Q = Q (.bl false) h := id rfl
theorem q_ne_str_bl {u : Str} {b : Bool} : opNe (.str u) (.bl b) h Q = Q (.bl true) h := id rfl
theorem q_eq_non_non : opEq .non .non h Q = Q (.bl true) h := id rfl
theorem q_ne_non_non : opNe .non .non h Q = Q (.bl false) h := id rfl
theorem q_isnon_bl {b : Bool} : isNon (.bl b) = false := by rfl
theorem q_isnon_int : isNon (.int i) = false := by rfl
theorem q_isnon_str {s : Str} : isNon (.str s) = false := by rfl
theorem q_isnon_tup {l : List D} : isNon (.tup l) = false := by rfl
theorem q_isnon_lis {l : List D} : isNon (.lis l) = false := by rfl
theorem q_isnon_non : isNon .non = true := by rfl
theorem q_int {n : Bool} {ds : List D} : opIn n x (.tup ds) h Q = (flatD x = true ∧ ds.all flatD = true ∧ Q (.bl (if n then !inD x ds else inD x ds)) h) := id rfl
theorem q_inl {n : Bool} {ds : List D} : opIn n x (.lis ds) h Q = (flatD x = true ∧ ds.all flatD = true ∧ Q (.bl (if n then !inD x ds else inD x ds)) h) := id rfl
theorem q_inr {n : Bool} : opIn n x (.ref a) h Q = ∃ ds, h a = some (.lst ds) ∧ flatD x = true ∧ ds.all flatD = true ∧ Q (.bl (if n then !inD x ds else inD x ds)) h := id rfl
theorem q_isn {n : Bool} : opIsN n x .non h Q = Q (.bl (if n then !isNon x else isNon x)) h := id rfl
theorem q_ixt {ds : List D} : opIx (.tup ds) (.int i) h Q = ∃ d, atI ds i = some d ∧ Q d h := id rfl
theorem q_ixl {ds : List D} : opIx (.lis ds) (.int i) h Q = ∃ d, atI ds i = some d ∧ Q d h := id rfl
theorem q_ixr : opIx (.ref a) (.int i) h Q = ∃ ds, h a = some (.lst ds) ∧ ∃ d, atI ds i = some d ∧ Q d h := id rfl
theorem q_ixs {z : Str} : opIx (.str z) (.int i) h Q = (z.length ≤ sizeLine ∧ ∃ c, atI z.cps.toList i = some c ∧ Q (.str ⟨#[c]⟩) h) := id rfl
theorem q_ixc {ns : List Int} : opIx (.scr ns) (.int i) h Q = ∃ n, atI ns i = some n ∧ Q (.int n) h := id rfl
theorem q_lent {xs : List D} : caLen [.tup xs] h Q = Q (.int xs.length) h := id rfl
theorem q_lenl {xs : List D} : caLen [.lis xs] h Q = Q (.int xs.length) h := id rfl
theorem q_lenc {xs : List Int} : caLen [.scr xs] h Q = Q (.int xs.length) h := id rfl
theorem q_lenr : caLen [.ref a] h Q = ∃ xs, h a = some (.lst xs) ∧ Q (.int xs.length) h := id rfl
theorem q_lens {z : Str} : caLen [.str z] h Q = (z.length ≤ sizeLine ∧ Q (.int z.length) h) := id rfl
theorem q_is {n : String} : caIs [x, .ty n] h Q = (isTy n = true ∧ plainD x = true ∧ Q (.bl (instD x n)) h) := id rfl
theorem q_toi : caInt [.int i] h Q = Q (.int i) h := id rfl
theorem q_tob {b : Bool} : caInt [.bl b] h Q = Q (.int (if b then 1 else 0)) h := id rfl
theorem q_abs : caAbs [.int i] h Q = Q (.int (i.natAbs : Int)) h := id rfl
theorem q_max : caMax [.int i, .int j] h Q = Q (.int (max i j)) h := id rfl
theorem q_min : caMin [.int i, .int j] h Q = Q (.int (min i j)) h := id rfl
theorem q_list : caList [x] h Q = itemsK h x fun xs => Q (.lis xs) h := id rfl
theorem q_listo : caListO [x] h Q = itemsK h x fun xs => ∀ p, h p = none → Q (.ref p) (put h p (.lst xs)) := id rfl
theorem q_tuple : caTup [x] h Q = itemsK h x fun xs => Q (.tup xs) h := id rfl
theorem q_sum {xs : List D} : caSum [.lis xs] h Q = ∃ ns : List Int, xs = ns.map .int ∧ Q (.int ns.sum) h := id rfl
theorem q_kt {xs : List D} {k : List D → Prop} : itemsK h (.tup xs) k = k xs := id rfl
theorem q_kl {xs : List D} {k : List D → Prop} : itemsK h (.lis xs) k = k xs := id rfl
theorem q_kc {xs : List Int} {k : List D → Prop} : itemsK h (.scr xs) k = k (xs.map .int) := id rfl
theorem q_kr {k : List D → Prop} : itemsK h (.ref a) k = ∃ xs, h a = some (.lst xs) ∧ k xs := id rfl
theorem q_app : mApp (.ref a) [y] h Q = ∃ xs, h a = some (.lst xs) ∧ xs.length < sizeLine ∧ Q .non (put h a (.lst (xs ++ [y]))) := id rfl
theorem q_lsr : isLs (.ref a) h = ∃ ds, h a = some (.lst ds) := id rfl
theorem q_setD {T : DH → Prop} : setD (.ref a) (.int i) d h T = ∃ ds, h a = some (.lst ds) ∧ ∃ j, ixN ds.length i = some j ∧ T (put h a (.lst (ds.set j d))) := id rfl

theorem q_tv0 {l : St'} : tv 0 (some d :: l) h Q ↔ Q d h := ⟨fun ⟨_, e, q⟩ => by cases e; exact q, fun q => ⟨d, rfl, q⟩⟩
theorem q_st0 {z0 : Option D} {o : Option D} {l : St'} : (z0 :: l).set 0 o = o :: l := id rfl
theorem q_tv1 {z0 : Option D} {l : St'} : tv 1 (z0 :: some d :: l) h Q ↔ Q d h := ⟨fun ⟨_, e, q⟩ => by cases e; exact q, fun q => ⟨d, rfl, q⟩⟩
theorem q_st1 {z0 z1 : Option D} {o : Option D} {l : St'} : (z0 :: z1 :: l).set 1 o = z0 :: o :: l := id rfl
theorem q_tv2 {z0 z1 : Option D} {l : St'} : tv 2 (z0 :: z1 :: some d :: l) h Q ↔ Q d h := ⟨fun ⟨_, e, q⟩ => by cases e; exact q, fun q => ⟨d, rfl, q⟩⟩
theorem q_st2 {z0 z1 z2 : Option D} {o : Option D} {l : St'} : (z0 :: z1 :: z2 :: l).set 2 o = z0 :: z1 :: o :: l := id rfl
theorem q_tv3 {z0 z1 z2 : Option D} {l : St'} : tv 3 (z0 :: z1 :: z2 :: some d :: l) h Q ↔ Q d h := ⟨fun ⟨_, e, q⟩ => by cases e; exact q, fun q => ⟨d, rfl, q⟩⟩
theorem q_st3 {z0 z1 z2 z3 : Option D} {o : Option D} {l : St'} : (z0 :: z1 :: z2 :: z3 :: l).set 3 o = z0 :: z1 :: z2 :: o :: l := id rfl
theorem q_tv4 {z0 z1 z2 z3 : Option D} {l : St'} : tv 4 (z0 :: z1 :: z2 :: z3 :: some d :: l) h Q ↔ Q d h := ⟨fun ⟨_, e, q⟩ => by cases e; exact q, fun q => ⟨d, rfl, q⟩⟩
theorem q_st4 {z0 z1 z2 z3 z4 : Option D} {o : Option D} {l : St'} : (z0 :: z1 :: z2 :: z3 :: z4 :: l).set 4 o = z0 :: z1 :: z2 :: z3 :: o :: l := id rfl
theorem q_tv5 {z0 z1 z2 z3 z4 : Option D} {l : St'} : tv 5 (z0 :: z1 :: z2 :: z3 :: z4 :: some d :: l) h Q ↔ Q d h := ⟨fun ⟨_, e, q⟩ => by cases e; exact q, fun q => ⟨d, rfl, q⟩⟩
theorem q_st5 {z0 z1 z2 z3 z4 z5 : Option D} {o : Option D} {l : St'} : (z0 :: z1 :: z2 :: z3 :: z4 :: z5 :: l).set 5 o = z0 :: z1 :: z2 :: z3 :: z4 :: o :: l := id rfl
theorem q_tv6 {z0 z1 z2 z3 z4 z5 : Option D} {l : St'} : tv 6 (z0 :: z1 :: z2 :: z3 :: z4 :: z5 :: some d :: l) h Q ↔ Q d h := ⟨fun ⟨_, e, q⟩ => by cases e; exact q, fun q => ⟨d, rfl, q⟩⟩
theorem q_st6 {z0 z1 z2 z3 z4 z5 z6 : Option D} {o : Option D} {l : St'} : (z0 :: z1 :: z2 :: z3 :: z4 :: z5 :: z6 :: l).set 6 o = z0 :: z1 :: z2 :: z3 :: z4 :: z5 :: o :: l := id rfl
theorem q_tv7 {z0 z1 z2 z3 z4 z5 z6 : Option D} {l : St'} : tv 7 (z0 :: z1 :: z2 :: z3 :: z4 :: z5 :: z6 :: some d :: l) h Q ↔ Q d h := ⟨fun ⟨_, e, q⟩ => by cases e; exact q, fun q => ⟨d, rfl, q⟩⟩
theorem q_st7 {z0 z1 z2 z3 z4 z5 z6 z7 : Option D} {o : Option D} {l : St'} : (z0 :: z1 :: z2 :: z3 :: z4 :: z5 :: z6 :: z7 :: l).set 7 o = z0 :: z1 :: z2 :: z3 :: z4 :: z5 :: z6 :: o :: l := id rfl
theorem q_tv8 {z0 z1 z2 z3 z4 z5 z6 z7 : Option D} {l : St'} : tv 8 (z0 :: z1 :: z2 :: z3 :: z4 :: z5 :: z6 :: z7 :: some d :: l) h Q ↔ Q d h := ⟨fun ⟨_, e, q⟩ => by cases e; exact q, fun q => ⟨d, rfl, q⟩⟩
theorem q_st8 {z0 z1 z2 z3 z4 z5 z6 z7 z8 : Option D} {o : Option D} {l : St'} : (z0 :: z1 :: z2 :: z3 :: z4 :: z5 :: z6 :: z7 :: z8 :: l).set 8 o = z0 :: z1 :: z2 :: z3 :: z4 :: z5 :: z6 :: z7 :: o :: l := id rfl
theorem q_tv9 {z0 z1 z2 z3 z4 z5 z6 z7 z8 : Option D} {l : St'} : tv 9 (z0 :: z1 :: z2 :: z3 :: z4 :: z5 :: z6 :: z7 :: z8 :: some d :: l) h Q ↔ Q d h := ⟨fun ⟨_, e, q⟩ => by cases e; exact q, fun q => ⟨d, rfl, q⟩⟩
theorem q_st9 {z0 z1 z2 z3 z4 z5 z6 z7 z8 z9 : Option D} {o : Option D} {l : St'} : (z0 :: z1 :: z2 :: z3 :: z4 :: z5 :: z6 :: z7 :: z8 :: z9 :: l).set 9 o = z0 :: z1 :: z2 :: z3 :: z4 :: z5 :: z6 :: z7 :: z8 :: o :: l := id rfl
theorem q_tv10 {z0 z1 z2 z3 z4 z5 z6 z7 z8 z9 : Option D} {l : St'} : tv 10 (z0 :: z1 :: z2 :: z3 :: z4 :: z5 :: z6 :: z7 :: z8 :: z9 :: some d :: l) h Q ↔ Q d h := ⟨fun ⟨_, e, q⟩ => by cases e; exact q, fun q => ⟨d, rfl, q⟩⟩
theorem q_st10 {z0 z1 z2 z3 z4 z5 z6 z7 z8 z9 z10 : Option D} {o : Option D} {l : St'} : (z0 :: z1 :: z2 :: z3 :: z4 :: z5 :: z6 :: z7 :: z8 :: z9 :: z10 :: l).set 10 o = z0 :: z1 :: z2 :: z3 :: z4 :: z5 :: z6 :: z7 :: z8 :: z9 :: o :: l := id rfl
theorem q_tv11 {z0 z1 z2 z3 z4 z5 z6 z7 z8 z9 z10 : Option D} {l : St'} : tv 11 (z0 :: z1 :: z2 :: z3 :: z4 :: z5 :: z6 :: z7 :: z8 :: z9 :: z10 :: some d :: l) h Q ↔ Q d h := ⟨fun ⟨_, e, q⟩ => by cases e; exact q, fun q => ⟨d, rfl, q⟩⟩
theorem q_st11 {z0 z1 z2 z3 z4 z5 z6 z7 z8 z9 z10 z11 : Option D} {o : Option D} {l : St'} : (z0 :: z1 :: z2 :: z3 :: z4 :: z5 :: z6 :: z7 :: z8 :: z9 :: z10 :: z11 :: l).set 11 o = z0 :: z1 :: z2 :: z3 :: z4 :: z5 :: z6 :: z7 :: z8 :: z9 :: z10 :: o :: l := id rfl
theorem q_tv12 {z0 z1 z2 z3 z4 z5 z6 z7 z8 z9 z10 z11 : Option D} {l : St'} : tv 12 (z0 :: z1 :: z2 :: z3 :: z4 :: z5 :: z6 :: z7 :: z8 :: z9 :: z10 :: z11 :: some d :: l) h Q ↔ Q d h := ⟨fun ⟨_, e, q⟩ => by cases e; exact q, fun q => ⟨d, rfl, q⟩⟩
theorem q_st12 {z0 z1 z2 z3 z4 z5 z6 z7 z8 z9 z10 z11 z12 : Option D} {o : Option D} {l : St'} : (z0 :: z1 :: z2 :: z3 :: z4 :: z5 :: z6 :: z7 :: z8 :: z9 :: z10 :: z11 :: z12 :: l).set 12 o = z0 :: z1 :: z2 :: z3 :: z4 :: z5 :: z6 :: z7 :: z8 :: z9 :: z10 :: z11 :: o :: l := id rfl
theorem q_tv13 {z0 z1 z2 z3 z4 z5 z6 z7 z8 z9 z10 z11 z12 : Option D} {l : St'} : tv 13 (z0 :: z1 :: z2 :: z3 :: z4 :: z5 :: z6 :: z7 :: z8 :: z9 :: z10 :: z11 :: z12 :: some d :: l) h Q ↔ Q d h := ⟨fun ⟨_, e, q⟩ => by cases e; exact q, fun q => ⟨d, rfl, q⟩⟩
theorem q_st13 {z0 z1 z2 z3 z4 z5 z6 z7 z8 z9 z10 z11 z12 z13 : Option D} {o : Option D} {l : St'} : (z0 :: z1 :: z2 :: z3 :: z4 :: z5 :: z6 :: z7 :: z8 :: z9 :: z10 :: z11 :: z12 :: z13 :: l).set 13 o = z0 :: z1 :: z2 :: z3 :: z4 :: z5 :: z6 :: z7 :: z8 :: z9 :: z10 :: z11 :: z12 :: o :: l := id rfl
theorem q_tv14 {z0 z1 z2 z3 z4 z5 z6 z7 z8 z9 z10 z11 z12 z13 : Option D} {l : St'} : tv 14 (z0 :: z1 :: z2 :: z3 :: z4 :: z5 :: z6 :: z7 :: z8 :: z9 :: z10 :: z11 :: z12 :: z13 :: some d :: l) h Q ↔ Q d h := ⟨fun ⟨_, e, q⟩ => by cases e; exact q, fun q => ⟨d, rfl, q⟩⟩
theorem q_st14 {z0 z1 z2 z3 z4 z5 z6 z7 z8 z9 z10 z11 z12 z13 z14 : Option D} {o : Option D} {l : St'} : (z0 :: z1 :: z2 :: z3 :: z4 :: z5 :: z6 :: z7 :: z8 :: z9 :: z10 :: z11 :: z12 :: z13 :: z14 :: l).set 14 o = z0 :: z1 :: z2 :: z3 :: z4 :: z5 :: z6 :: z7 :: z8 :: z9 :: z10 :: z11 :: z12 :: z13 :: o :: l := id rfl
theorem q_tv15 {z0 z1 z2 z3 z4 z5 z6 z7 z8 z9 z10 z11 z12 z13 z14 : Option D} {l : St'} : tv 15 (z0 :: z1 :: z2 :: z3 :: z4 :: z5 :: z6 :: z7 :: z8 :: z9 :: z10 :: z11 :: z12 :: z13 :: z14 :: some d :: l) h Q ↔ Q d h := ⟨fun ⟨_, e, q⟩ => by cases e; exact q, fun q => ⟨d, rfl, q⟩⟩
theorem q_st15 {z0 z1 z2 z3 z4 z5 z6 z7 z8 z9 z10 z11 z12 z13 z14 z15 : Option D} {o : Option D} {l : St'} : (z0 :: z1 :: z2 :: z3 :: z4 :: z5 :: z6 :: z7 :: z8 :: z9 :: z10 :: z11 :: z12 :: z13 :: z14 :: z15 :: l).set 15 o = z0 :: z1 :: z2 :: z3 :: z4 :: z5 :: z6 :: z7 :: z8 :: z9 :: z10 :: z11 :: z12 :: z13 :: z14 :: o :: l := id rfl
theorem q_ixt0 {l : List D} : opIx (.tup (d :: l)) (.int 0) h Q ↔ Q d h := by
  have e : atI (d :: l) 0 = some d := atI_nat (j := 0) rfl
  exact ⟨fun ⟨_, e2, q⟩ => by rw [e] at e2; cases e2; exact q, fun q => ⟨d, e, q⟩⟩
theorem q_ixl0 {l : List D} : opIx (.lis (d :: l)) (.int 0) h Q ↔ Q d h := by
  have e : atI (d :: l) 0 = some d := atI_nat (j := 0) rfl
  exact ⟨fun ⟨_, e2, q⟩ => by rw [e] at e2; cases e2; exact q, fun q => ⟨d, e, q⟩⟩
theorem q_ixt1 {z0 : D} {l : List D} : opIx (.tup (z0 :: d :: l)) (.int 1) h Q ↔ Q d h := by
  have e : atI (z0 :: d :: l) 1 = some d := atI_nat (j := 1) rfl
  exact ⟨fun ⟨_, e2, q⟩ => by rw [e] at e2; cases e2; exact q, fun q => ⟨d, e, q⟩⟩
theorem q_ixl1 {z0 : D} {l : List D} : opIx (.lis (z0 :: d :: l)) (.int 1) h Q ↔ Q d h := by
  have e : atI (z0 :: d :: l) 1 = some d := atI_nat (j := 1) rfl
  exact ⟨fun ⟨_, e2, q⟩ => by rw [e] at e2; cases e2; exact q, fun q => ⟨d, e, q⟩⟩
theorem q_ixt2 {z0 z1 : D} {l : List D} : opIx (.tup (z0 :: z1 :: d :: l)) (.int 2) h Q ↔ Q d h := by
  have e : atI (z0 :: z1 :: d :: l) 2 = some d := atI_nat (j := 2) rfl
  exact ⟨fun ⟨_, e2, q⟩ => by rw [e] at e2; cases e2; exact q, fun q => ⟨d, e, q⟩⟩
theorem q_ixl2 {z0 z1 : D} {l : List D} : opIx (.lis (z0 :: z1 :: d :: l)) (.int 2) h Q ↔ Q d h := by
  have e : atI (z0 :: z1 :: d :: l) 2 = some d := atI_nat (j := 2) rfl
  exact ⟨fun ⟨_, e2, q⟩ => by rw [e] at e2; cases e2; exact q, fun q => ⟨d, e, q⟩⟩
theorem q_ixt3 {z0 z1 z2 : D} {l : List D} : opIx (.tup (z0 :: z1 :: z2 :: d :: l)) (.int 3) h Q ↔ Q d h := by
  have e : atI (z0 :: z1 :: z2 :: d :: l) 3 = some d := atI_nat (j := 3) rfl
  exact ⟨fun ⟨_, e2, q⟩ => by rw [e] at e2; cases e2; exact q, fun q => ⟨d, e, q⟩⟩
theorem q_ixl3 {z0 z1 z2 : D} {l : List D} : opIx (.lis (z0 :: z1 :: z2 :: d :: l)) (.int 3) h Q ↔ Q d h := by
  have e : atI (z0 :: z1 :: z2 :: d :: l) 3 = some d := atI_nat (j := 3) rfl
  exact ⟨fun ⟨_, e2, q⟩ => by rw [e] at e2; cases e2; exact q, fun q => ⟨d, e, q⟩⟩
theorem q_ixt4 {z0 z1 z2 z3 : D} {l : List D} : opIx (.tup (z0 :: z1 :: z2 :: z3 :: d :: l)) (.int 4) h Q ↔ Q d h := by
  have e : atI (z0 :: z1 :: z2 :: z3 :: d :: l) 4 = some d := atI_nat (j := 4) rfl
  exact ⟨fun ⟨_, e2, q⟩ => by rw [e] at e2; cases e2; exact q, fun q => ⟨d, e, q⟩⟩
theorem q_ixl4 {z0 z1 z2 z3 : D} {l : List D} : opIx (.lis (z0 :: z1 :: z2 :: z3 :: d :: l)) (.int 4) h Q ↔ Q d h := by
  have e : atI (z0 :: z1 :: z2 :: z3 :: d :: l) 4 = some d := atI_nat (j := 4) rfl
  exact ⟨fun ⟨_, e2, q⟩ => by rw [e] at e2; cases e2; exact q, fun q => ⟨d, e, q⟩⟩

def isStr (x : D) (s : Str) : Bool := match x with | .str a => decide (a = s) | _ => false
theorem eqx {s : Str} (hx : dOk x) (hs : dOk (.str s)) : opEq x (.str s) h Q = Q (.bl (isStr x s)) h := by
  have key : ∀ y : D, sc y (.str s) = none → dOk y → deq y (.str s) = false → opEq y (.str s) h Q = Q (.bl false) h := fun y e h1 h2 => by
    unfold opEq
    rw [e, h2]
    exact propext ⟨fun q => q.2.2, fun q => ⟨h1, hs, q⟩⟩
  cases x with
  | tup xs =>
    refine key _ rfl hx ?_
    unfold deq
    cases e : toPy (.tup xs) with
    | none => rfl
    | some p =>
      simp only [toPy] at e
      cases e2 : toPys xs with
      | none => rw [e2] at e; cases e
      | some ps => rw [e2] at e; cases e; rfl
  | lis xs =>
    refine key _ rfl hx ?_
    unfold deq
    cases e : toPy (.lis xs) with
    | none => rfl
    | some p =>
      simp only [toPy] at e
      cases e2 : toPys xs with
      | none => rw [e2] at e; cases e
      | some ps => rw [e2] at e; cases e; rfl
  | scr _ => exact hx.elim
  | ref _ => exact hx.elim
  | ty _ => exact hx.elim
  | _ => rfl
theorem nex {s : Str} (hx : dOk x) (hs : dOk (.str s)) : opNe x (.str s) h Q = Q (.bl (!isStr x s)) h := by
  have e := @eqx h (fun d g => Q (match d with | .bl b => .bl (!b) | d => d) g) x s hx hs
  unfold opEq at e
  unfold opNe
  cases e2 : sc x (.str s) with
  | none => rw [e2] at e; exact e
  | some b => rw [e2] at e; exact e
theorem dok_str {s : Str} : dOk (.str s) ↔ PyData.strOk s = true := by
  show SeqAt.shaped (.str s) = true ↔ _
  unfold SeqAt.shaped
  simp [PyData.canLay0, PyData.depth]
/-! own lists -/
def ownK (h : DH) (a : Addr) (k : List D → Prop) : Prop := match h a with | some (.lst ds) => k ds | _ => False
theorem own_iff {k : List D → Prop} : (∃ ds, h a = some (.lst ds) ∧ k ds) ↔ ownK h a k := by
  unfold ownK
  constructor
  · rintro ⟨ds, e, q⟩
    rw [e]
    exact q
  · intro q
    split at q
    · exact ⟨_, by assumption, q⟩
    · exact q.elim
theorem q_oixr : opIx (.ref a) (.int i) h Q ↔ ownK h a fun ds => opIx (.lis ds) (.int i) h Q := by rw [← own_iff]; exact Iff.rfl
theorem q_oinr {n : Bool} : opIn n x (.ref a) h Q ↔ ownK h a fun ds => opIn n x (.lis ds) h Q := by rw [← own_iff]; exact Iff.rfl
theorem q_olen : caLen [.ref a] h Q ↔ ownK h a fun ds => Q (.int ds.length) h := by rw [← own_iff]; exact Iff.rfl
theorem q_okr {k : List D → Prop} : itemsK h (.ref a) k ↔ ownK h a k := by rw [← own_iff]; exact Iff.rfl
theorem q_oapp : mApp (.ref a) [y] h Q ↔ ownK h a fun xs => xs.length < sizeLine ∧ Q .non (put h a (.lst (xs ++ [y]))) := by rw [← own_iff]; exact Iff.rfl
theorem q_olsr : isLs (.ref a) h ↔ ownK h a fun _ => True := by rw [← own_iff]; exact ⟨fun ⟨ds, e⟩ => ⟨ds, e, trivial⟩, fun ⟨ds, e, _⟩ => ⟨ds, e⟩⟩
def setL (ds : List D) (i : Int) (d : D) (k : List D → Prop) : Prop := ∃ j, ixN ds.length i = some j ∧ k (ds.set j d)
theorem q_osetD {T : DH → Prop} : setD (.ref a) (.int i) d h T ↔ ownK h a fun ds => setL ds i d fun es => T (put h a (.lst es)) := by rw [← own_iff]; exact Iff.rfl
theorem q_ln0 : ((([] : List D).length : Nat) : Int) = 0 := id rfl
theorem q_sz0 : (0 ≤ sizeLine) = True := eq_true (by decide)
theorem q_ln1 {z0 : D} : (([z0].length : Nat) : Int) = 1 := id rfl
theorem q_sz1 : (1 ≤ sizeLine) = True := eq_true (by decide)
theorem q_ln2 {z0 z1 : D} : (([z0, z1].length : Nat) : Int) = 2 := id rfl
theorem q_sz2 : (2 ≤ sizeLine) = True := eq_true (by decide)
theorem q_ln3 {z0 z1 z2 : D} : (([z0, z1, z2].length : Nat) : Int) = 3 := id rfl
theorem q_sz3 : (3 ≤ sizeLine) = True := eq_true (by decide)
theorem q_ln4 {z0 z1 z2 z3 : D} : (([z0, z1, z2, z3].length : Nat) : Int) = 4 := id rfl
theorem q_sz4 : (4 ≤ sizeLine) = True := eq_true (by decide)
theorem q_ln5 {z0 z1 z2 z3 z4 : D} : (([z0, z1, z2, z3, z4].length : Nat) : Int) = 5 := id rfl
theorem q_sz5 : (5 ≤ sizeLine) = True := eq_true (by decide)
theorem q_ln6 {z0 z1 z2 z3 z4 z5 : D} : (([z0, z1, z2, z3, z4, z5].length : Nat) : Int) = 6 := id rfl
theorem q_sz6 : (6 ≤ sizeLine) = True := eq_true (by decide)
theorem q_ln7 {z0 z1 z2 z3 z4 z5 z6 : D} : (([z0, z1, z2, z3, z4, z5, z6].length : Nat) : Int) = 7 := id rfl
theorem q_sz7 : (7 ≤ sizeLine) = True := eq_true (by decide)
theorem q_ln8 {z0 z1 z2 z3 z4 z5 z6 z7 : D} : (([z0, z1, z2, z3, z4, z5, z6, z7].length : Nat) : Int) = 8 := id rfl
theorem q_sz8 : (8 ≤ sizeLine) = True := eq_true (by decide)
def walkD (x : D) (h : DH) (T : List D → (DH → Prop) → DH → Prop) : Prop := match x with
  | .tup xs => T xs (fun _ => True) h
  | .lis xs => T xs (fun _ => True) h
  | .scr ns => T (ns.map .int) (fun _ => True) h
  | .ref a => ∃ xs, h a = some (.lst xs) ∧ T xs (fun h => h a = some (.lst xs)) h
  | _ => False
theorem q_wseq {tl : TE'} {T : List D → (DH → Prop) → DH → Prop} : tse tl τ h T = tl τ h fun x h1 => walkD x h1 T := id rfl
theorem q_wt {xs : List D} {T : List D → (DH → Prop) → DH → Prop} : walkD (.tup xs) h T = T xs (fun _ => True) h := id rfl
theorem q_wl {xs : List D} {T : List D → (DH → Prop) → DH → Prop} : walkD (.lis xs) h T = T xs (fun _ => True) h := id rfl
theorem q_wc {xs : List Int} {T : List D → (DH → Prop) → DH → Prop} : walkD (.scr xs) h T = T (xs.map .int) (fun _ => True) h := id rfl
theorem q_wr {T : List D → (DH → Prop) → DH → Prop} : walkD (.ref a) h T ↔ ownK h a fun xs => T xs (fun h => h a = some (.lst xs)) h := by rw [← own_iff]; exact Iff.rfl
def rngK (ds : List D) (h : DH) (T : List D → (DH → Prop) → DH → Prop) : Prop := match ds with
  | [.int j] => -4611686018427387904 ≤ j ∧ j < 4611686018427387904 ∧ T (rngD 0 j.toNat) (fun _ => True) h
  | _ => False
theorem q_wr1 {ta : TA'} {T : List D → (DH → Prop) → DH → Prop} : trg1 ta τ h T = ta τ h fun ds h1 => rngK ds h1 T := id rfl
theorem q_wr1' {T : List D → (DH → Prop) → DH → Prop} : rngK [.int j] h T = (-4611686018427387904 ≤ j ∧ j < 4611686018427387904 ∧ T (rngD 0 j.toNat) (fun _ => True) h) := id rfl
theorem q_setL0 {z0 : D} {l : List D} {k : List D → Prop} : setL (z0 :: l) 0 d k ↔ k (d :: l) := by
  have e : ixN (z0 :: l).length 0 = some 0 := by
    unfold ixN
    rw [if_pos (by decide), if_pos (by simp only [List.length_cons]; omega)]
    rfl
  exact ⟨fun ⟨_, e2, q⟩ => by rw [e] at e2; cases e2; exact q, fun q => ⟨0, e, q⟩⟩
theorem q_setL1 {z0 z1 : D} {l : List D} {k : List D → Prop} : setL (z0 :: z1 :: l) 1 d k ↔ k (z0 :: d :: l) := by
  have e : ixN (z0 :: z1 :: l).length 1 = some 1 := by
    unfold ixN
    rw [if_pos (by decide), if_pos (by simp only [List.length_cons]; omega)]
    rfl
  exact ⟨fun ⟨_, e2, q⟩ => by rw [e] at e2; cases e2; exact q, fun q => ⟨1, e, q⟩⟩
theorem q_setL2 {z0 z1 z2 : D} {l : List D} {k : List D → Prop} : setL (z0 :: z1 :: z2 :: l) 2 d k ↔ k (z0 :: z1 :: d :: l) := by
  have e : ixN (z0 :: z1 :: z2 :: l).length 2 = some 2 := by
    unfold ixN
    rw [if_pos (by decide), if_pos (by simp only [List.length_cons]; omega)]
    rfl
  exact ⟨fun ⟨_, e2, q⟩ => by rw [e] at e2; cases e2; exact q, fun q => ⟨2, e, q⟩⟩
theorem q_setL3 {z0 z1 z2 z3 : D} {l : List D} {k : List D → Prop} : setL (z0 :: z1 :: z2 :: z3 :: l) 3 d k ↔ k (z0 :: z1 :: z2 :: d :: l) := by
  have e : ixN (z0 :: z1 :: z2 :: z3 :: l).length 3 = some 3 := by
    unfold ixN
    rw [if_pos (by decide), if_pos (by simp only [List.length_cons]; omega)]
    rfl
  exact ⟨fun ⟨_, e2, q⟩ => by rw [e] at e2; cases e2; exact q, fun q => ⟨3, e, q⟩⟩
theorem q_setL4 {z0 z1 z2 z3 z4 : D} {l : List D} {k : List D → Prop} : setL (z0 :: z1 :: z2 :: z3 :: z4 :: l) 4 d k ↔ k (z0 :: z1 :: z2 :: z3 :: d :: l) := by
  have e : ixN (z0 :: z1 :: z2 :: z3 :: z4 :: l).length 4 = some 4 := by
    unfold ixN
    rw [if_pos (by decide), if_pos (by simp only [List.length_cons]; omega)]
    rfl
  exact ⟨fun ⟨_, e2, q⟩ => by rw [e] at e2; cases e2; exact q, fun q => ⟨4, e, q⟩⟩
theorem q_pl_non : (plainD .non = true) = True := eq_true rfl
theorem q_in_non_int : instD .non "int" = false := by rfl
theorem q_in_non_bool : instD .non "bool" = false := by rfl
theorem q_in_non_str : instD .non "str" = false := by rfl
theorem q_in_non_tuple : instD .non "tuple" = false := by rfl
theorem q_in_non_list : instD .non "list" = false := by rfl
theorem q_pl_bl {b : Bool} : (plainD (.bl b) = true) = True := eq_true rfl
theorem q_in_bl_int {b : Bool} : instD (.bl b) "int" = true := by rfl
theorem q_in_bl_bool {b : Bool} : instD (.bl b) "bool" = true := by rfl
theorem q_in_bl_str {b : Bool} : instD (.bl b) "str" = false := by rfl
theorem q_in_bl_tuple {b : Bool} : instD (.bl b) "tuple" = false := by rfl
theorem q_in_bl_list {b : Bool} : instD (.bl b) "list" = false := by rfl
theorem q_pl_int : (plainD (.int i) = true) = True := eq_true rfl
theorem q_in_int_int : instD (.int i) "int" = true := by rfl
theorem q_in_int_bool : instD (.int i) "bool" = false := by rfl
theorem q_in_int_str : instD (.int i) "str" = false := by rfl
theorem q_in_int_tuple : instD (.int i) "tuple" = false := by rfl
theorem q_in_int_list : instD (.int i) "list" = false := by rfl
theorem q_pl_str {s : Str} : (plainD (.str s) = true) = True := eq_true rfl
theorem q_in_str_int {s : Str} : instD (.str s) "int" = false := by rfl
theorem q_in_str_bool {s : Str} : instD (.str s) "bool" = false := by rfl
theorem q_in_str_str {s : Str} : instD (.str s) "str" = true := by rfl
theorem q_in_str_tuple {s : Str} : instD (.str s) "tuple" = false := by rfl
theorem q_in_str_list {s : Str} : instD (.str s) "list" = false := by rfl
theorem q_pl_tup {l : List D} : (plainD (.tup l) = true) = True := eq_true rfl
theorem q_in_tup_int {l : List D} : instD (.tup l) "int" = false := by rfl
theorem q_in_tup_bool {l : List D} : instD (.tup l) "bool" = false := by rfl
theorem q_in_tup_str {l : List D} : instD (.tup l) "str" = false := by rfl
theorem q_in_tup_tuple {l : List D} : instD (.tup l) "tuple" = true := by rfl
theorem q_in_tup_list {l : List D} : instD (.tup l) "list" = false := by rfl
theorem q_pl_lis {l : List D} : (plainD (.lis l) = true) = True := eq_true rfl
theorem q_in_lis_int {l : List D} : instD (.lis l) "int" = false := by rfl
theorem q_in_lis_bool {l : List D} : instD (.lis l) "bool" = false := by rfl
theorem q_in_lis_str {l : List D} : instD (.lis l) "str" = false := by rfl
theorem q_in_lis_tuple {l : List D} : instD (.lis l) "tuple" = false := by rfl
theorem q_in_lis_list {l : List D} : instD (.lis l) "list" = true := by rfl
theorem q_ty_int : (isTy "int" = true) = True := eq_true rfl
theorem q_ty_bool : (isTy "bool" = true) = True := eq_true rfl
theorem q_ty_str : (isTy "str" = true) = True := eq_true rfl
theorem q_ty_tuple : (isTy "tuple" = true) = True := eq_true rfl
theorem q_ty_list : (isTy "list" = true) = True := eq_true rfl
end
theorem ofStr_inj {a b : String} : (Str.ofString a = Str.ofString b) ↔ a = b := by
  constructor
  · intro e
    rw [Str.ofString_eq_toList, Str.ofString_eq_toList] at e
    have e1 : a.toList.map Char.toNat = b.toList.map Char.toNat := by
      have := congrArg (fun s : Str => s.cps.toList) e
      simpa using this
    have inj : ∀ (l m : List Char), l.map Char.toNat = m.map Char.toNat → l = m := by
      intro l
      induction l with
      | nil => intro m h; cases m with
        | nil => rfl
        | cons c m => simp at h
      | cons c l ih => intro m h; cases m with
        | nil => simp at h
        | cons c' m =>
          simp only [List.map_cons, List.cons.injEq] at h
          rw [ih m h.2, Char.toNat_inj.mp h.1]
    exact String.toList_inj.mp (inj _ _ e1)
  · intro e; rw [e]

theorem sok_of (s : String) : PyData.strOk (Str.ofString s) = true := by
  rw [Str.ofString_eq_toList]
  show (List.map Char.toNat s.toList).toArray.all (fun a => decide (a < 1114112)) = true
  rw [List.all_toArray, List.all_map, List.all_eq_true]
  intro c _
  refine decide_eq_true ?_
  have v := c.valid
  show _ < 1114112
  rcases v with v | v
  · exact Nat.lt_trans v (by decide)
  · exact v.2
theorem eqS {x : D} {h : DH} {Q : VK'} (hx : dOk x) {s : String} : opEq x (.str (Str.ofString s)) h Q = Q (.bl (isStr x (Str.ofString s))) h := eqx hx (dok_str.mpr (sok_of s))
theorem neS {x : D} {h : DH} {Q : VK'} (hx : dOk x) {s : String} : opNe x (.str (Str.ofString s)) h Q = Q (.bl (!isStr x (Str.ofString s))) h := nex hx (dok_str.mpr (sok_of s))
end DL

set_option Elab.async false
set_option linter.all false
set_option maxRecDepth 100000
/-! DK: kinds, letters, plain values; no program in sight. -/
namespace DL
open PySem PySem.Spec PyProof.Rows L2
/-! ### plain values: no deeper than n -/
mutual
def val : D → Nat → Bool
  | .non, _ => true
  | .bl _, _ => true
  | .int _, _ => true
  | .str x, _ => PyData.strOk x
  | .tup xs, n + 1 => vals xs n
  | _, _ => false
def vals : List D → Nat → Bool
  | [], _ => true
  | x :: xs, n => val x n && vals xs n
end
mutual
theorem val_py : ∀ (d : D) (n : Nat), val d n = true → ∃ p, toPy d = some p ∧ p.canLay0 = true ∧ p.depth ≤ n
  | .non, n, _ => ⟨.none, rfl, by simp [PyData.canLay0], by simp [PyData.depth]⟩
  | .bl b, n, _ => ⟨.bool b, rfl, by simp [PyData.canLay0], by simp [PyData.depth]⟩
  | .int i, n, _ => ⟨.int i, rfl, by simp [PyData.canLay0], by simp [PyData.depth]⟩
  | .str x, n, h => ⟨.str x, rfl, by simpa [PyData.canLay0, val] using h, by simp [PyData.depth]⟩
  | .tup xs, 0, h => by simp [val] at h
  | .tup xs, n + 1, h => by
    obtain ⟨ps, e, c, d⟩ := vals_py xs n (by simpa [val] using h)
    exact ⟨.tuple ps, by simp only [toPy, e, Option.map_some], by simpa [PyData.canLay0] using c, by simp only [PyData.depth]; omega⟩
  | .lis _, n, h => by simp [val] at h
  | .scr _, n, h => by simp [val] at h
  | .ref _, n, h => by simp [val] at h
  | .ty _, n, h => by simp [val] at h
theorem vals_py : ∀ (ds : List D) (n : Nat), vals ds n = true → ∃ ps, toPys ds = some ps ∧ PyData.canLayAll0 ps = true ∧ PyData.depthAll ps ≤ n
  | [], n, _ => ⟨[], rfl, by simp [PyData.canLayAll0], by simp [PyData.depthAll]⟩
  | d :: ds, n, h => by
    simp only [vals, Bool.and_eq_true] at h
    obtain ⟨p, e1, c1, d1⟩ := val_py d n h.1
    obtain ⟨ps, e2, c2, d2⟩ := vals_py ds n h.2
    exact ⟨p :: ps, by simp only [toPys, e1, e2], by simp only [PyData.canLayAll0, c1, c2, Bool.and_self], by simp only [PyData.depthAll]; omega⟩
end
theorem val_ok {d : D} {n : Nat} (h : val d n = true) (hn : n ≤ 64 := by decide) : dOk d := by
  obtain ⟨p, e, c, dp⟩ := val_py d n h
  unfold dOk
  rw [e]
  show SeqAt.shaped p = true
  unfold SeqAt.shaped
  rw [c, decide_eq_true (by omega)]
  rfl
theorem val_plain {d : D} {n : Nat} (h : val d n = true) : plainD d = true := by
  cases d <;> first | rfl | (simp [val] at h)
theorem vals_mem {xs : List D} {n : Nat} : vals xs n = true ↔ ∀ x ∈ xs, val x n = true := by
  induction xs with
  | nil => simp [vals]
  | cons x xs ih => simp [vals, ih]
mutual
theorem val_mono : ∀ (d : D) (n m : Nat), n ≤ m → val d n = true → val d m = true
  | .non, _, _, _, _ => rfl
  | .bl _, _, _, _, _ => rfl
  | .int _, _, _, _, _ => rfl
  | .str x, _, _, _, h => by simpa [val] using h
  | .tup xs, 0, _, _, h => by simp [val] at h
  | .tup xs, n + 1, 0, hm, h => by omega
  | .tup xs, n + 1, m + 1, hm, h => by
    simp only [val] at h ⊢
    exact vals_mono xs n m (by omega) h
  | .lis _, _, _, _, h => by simp [val] at h
  | .scr _, _, _, _, h => by simp [val] at h
  | .ref _, _, _, _, h => by simp [val] at h
  | .ty _, _, _, _, h => by simp [val] at h
theorem vals_mono : ∀ (ds : List D) (n m : Nat), n ≤ m → vals ds n = true → vals ds m = true
  | [], _, _, _, _ => rfl
  | d :: ds, n, m, hm, h => by
    simp only [vals, Bool.and_eq_true] at h ⊢
    exact ⟨val_mono d n m hm h.1, vals_mono ds n m hm h.2⟩
end
/-! ### no tuple is longer than w -/
mutual
def wid : D → Nat → Bool
  | .tup xs, w => decide (xs.length ≤ w) && wids xs w
  | _, _ => true
def wids : List D → Nat → Bool
  | [], _ => true
  | x :: xs, w => wid x w && wids xs w
end
theorem wids_mem {xs : List D} {n : Nat} : wids xs n = true ↔ ∀ x ∈ xs, wid x n = true := by
  induction xs with
  | nil => simp [wids]
  | cons x xs ih => simp [wids, ih]
mutual
theorem wid_mono : ∀ (d : D) (n m : Nat), n ≤ m → wid d n = true → wid d m = true
  | .tup xs, n, m, hm, h => by
    simp only [wid, Bool.and_eq_true, decide_eq_true_eq] at h ⊢
    exact ⟨by omega, wids_mono xs n m hm h.2⟩
  | .non, _, _, _, _ => rfl
  | .bl _, _, _, _, _ => rfl
  | .int _, _, _, _, _ => rfl
  | .str _, _, _, _, _ => rfl
  | .lis _, _, _, _, _ => rfl
  | .scr _, _, _, _, _ => rfl
  | .ref _, _, _, _, _ => rfl
  | .ty _, _, _, _, _ => rfl
theorem wids_mono : ∀ (ds : List D) (n m : Nat), n ≤ m → wids ds n = true → wids ds m = true
  | [], _, _, _, _ => rfl
  | d :: ds, n, m, hm, h => by
    simp only [wids, Bool.and_eq_true] at h ⊢
    exact ⟨wid_mono d n m hm h.1, wids_mono ds n m hm h.2⟩
end
/-! ### kinds -/
inductive Kd where
  | nm (ns : List Str) | it | pr (a b : Kd) | ei (ks : List Kd) | mb (k : Kd)
mutual
def kD : Kd → D
  | .nm ns => .tup [.str "names", .tup (ns.map .str)]
  | .it => .tup [.str "integers"]
  | .pr a b => .tup [.str "pair", kD a, kD b]
  | .ei ks => .tup [.str "either", .tup (kDs ks)]
  | .mb k => .tup [.str "maybe", kD k]
def kDs : List Kd → List D
  | [] => []
  | k :: ks => kD k :: kDs ks
end
theorem kDs_map : ∀ ks : List Kd, kDs ks = ks.map kD
  | [] => rfl
  | k :: ks => by rw [kDs, kDs_map ks]; rfl
mutual
def Kd.depth : Kd → Nat
  | .nm _ => 1
  | .it => 1
  | .pr a b => 1 + max a.depth b.depth
  | .ei ks => 1 + Kd.depths ks
  | .mb k => 1 + k.depth
def Kd.depths : List Kd → Nat
  | [] => 0
  | k :: ks => max k.depth (Kd.depths ks)
end
mutual
/-- how many kinds are in it -/
def Kd.cnt : Kd → Nat
  | .nm _ => 1
  | .it => 1
  | .pr a b => 1 + a.cnt + b.cnt
  | .ei ks => 1 + Kd.cnts ks
  | .mb k => 1 + k.cnt
def Kd.cnts : List Kd → Nat
  | [] => 0
  | k :: ks => k.cnt + Kd.cnts ks
end
theorem Kd.depth_pos (k : Kd) : 1 ≤ k.depth := by cases k <;> simp only [Kd.depth] <;> omega
theorem Kd.cnt_pos (k : Kd) : 1 ≤ k.cnt := by cases k <;> simp only [Kd.cnt] <;> omega
theorem Kd.depth_mem {ks : List Kd} {k : Kd} (h : k ∈ ks) : k.depth ≤ Kd.depths ks := by
  induction ks with
  | nil => cases h
  | cons x xs ih =>
    simp only [Kd.depths]
    rcases List.mem_cons.mp h with rfl | h
    · omega
    · have := ih h; omega
theorem Kd.cnt_mem {ks : List Kd} {k : Kd} (h : k ∈ ks) : k.cnt ≤ Kd.cnts ks := by
  induction ks with
  | nil => cases h
  | cons x xs ih =>
    simp only [Kd.cnts]
    rcases List.mem_cons.mp h with rfl | h
    · omega
    · have := ih h; omega
theorem Kd.cnts_app (xs ys : List Kd) : Kd.cnts (xs ++ ys) = Kd.cnts xs + Kd.cnts ys := by
  induction xs with
  | nil => simp [Kd.cnts]
  | cons x xs ih => simp only [List.cons_append, Kd.cnts, ih]; omega
theorem Kd.depths_app (xs ys : List Kd) : Kd.depths (xs ++ ys) = max (Kd.depths xs) (Kd.depths ys) := by
  induction xs with
  | nil => simp [Kd.depths]
  | cons x xs ih => simp only [List.cons_append, Kd.depths, ih]; omega
theorem kDs_app (xs ys : List Kd) : kDs (xs ++ ys) = kDs xs ++ kDs ys := by rw [kDs_map, kDs_map, kDs_map, List.map_append]
theorem Kd.len_cnts (ks : List Kd) : ks.length ≤ Kd.cnts ks := by
  induction ks with
  | nil => simp
  | cons x xs ih => simp only [List.length_cons, Kd.cnts]; have := x.cnt_pos; omega
/-- a kind's names -/
def namesOk (ns : List Str) : Prop := 1 ≤ ns.length ∧ ns.length ≤ 4 ∧ ∀ x ∈ ns, PyData.strOk x = true
mutual
def Kd.ok : Kd → Prop
  | .nm ns => namesOk ns
  | .it => True
  | .pr a b => a.ok ∧ b.ok
  | .ei ks => 1 ≤ ks.length ∧ Kd.oks ks
  | .mb k => k.ok
def Kd.oks : List Kd → Prop
  | [] => True
  | k :: ks => k.ok ∧ Kd.oks ks
end
theorem Kd.oks_mem {ks : List Kd} : Kd.oks ks ↔ ∀ k ∈ ks, k.ok := by
  induction ks with
  | nil => simp [Kd.oks]
  | cons x xs ih => simp [Kd.oks, ih]
mutual
/-- whether a value is a letter -/
def isL : Kd → D → Bool
  | .nm ns, .str x => ns.contains x
  | .nm _, _ => false
  | .it, .int _ => true
  | .it, _ => false
  | .pr a b, .tup [t, x, y] => isStr t "pair" && isL a x && isL b y
  | .pr _ _, _ => false
  | .ei ks, .tup [t, .int i, x] => isStr t "case" && (decide (0 ≤ i) && isLn ks i.toNat x)
  | .ei _, _ => false
  | .mb _, .tup [t] => isStr t "none"
  | .mb k, .tup [t, x] => isStr t "some" && isL k x
  | .mb _, _ => false
def isLn : List Kd → Nat → D → Bool
  | [], _, _ => false
  | k :: _, 0, x => isL k x
  | _ :: ks, n + 1, x => isLn ks n x
end
theorem isL_pr {a b : Kd} {xs : List D} (h : xs.length ≠ 3) : isL (.pr a b) (.tup xs) = false := by
  unfold isL; split <;> simp_all
theorem isL_ei {ks : List Kd} {xs : List D} (h : xs.length ≠ 3) : isL (.ei ks) (.tup xs) = false := by
  unfold isL; split <;> simp_all
theorem isL_mb {k : Kd} {xs : List D} (h : xs.length ≠ 1) (h2 : xs.length ≠ 2) : isL (.mb k) (.tup xs) = false := by
  unfold isL; split <;> simp_all
theorem isLn_get : ∀ (ks : List Kd) (i : Nat) (x : D), isLn ks i x = match ks[i]? with | some k => isL k x | none => false
  | [], i, x => by simp [isLn]
  | k :: ks, 0, x => by simp [isLn]
  | k :: ks, i + 1, x => by rw [isLn, isLn_get ks i x]; simp
theorem inD_str (x : Str) (ns : List Str) : inD (.str x) (ns.map .str) = ns.contains x := by
  unfold inD inV
  induction ns with
  | nil => rfl
  | cons n ns ih =>
    simp only [List.map_cons, List.any_cons, List.contains_cons]
    rw [ih]
    show (n == x || _) = (x == n || _)
    rw [BEq.comm]
theorem flat_str (ns : List Str) : (ns.map D.str).all flatD = true := by
  induction ns with
  | nil => rfl
  | cons n ns ih => simpa [flatD] using ih
theorem len_kDs (ks : List Kd) : (kDs ks).length = ks.length := by rw [kDs_map, List.length_map]
theorem atI_kDs {ks : List Kd} {i : Int} {k : Kd} (h0 : 0 ≤ i) (e : ks[i.toNat]? = some k) : atI (kDs ks) i = some (kD k) := by
  have q : atI (kDs ks) ((i.toNat : Nat) : Int) = some (kD k) := atI_nat (by rw [kDs_map, List.getElem?_map, e]; rfl)
  rwa [show ((i.toNat : Nat) : Int) = i by omega] at q
end DL

set_option Elab.async false
set_option linter.all false
set_option maxRecDepth 100000
/-! DT: the laws' tape. -/
namespace DL
open PySem PySem.Spec PyProof.Rows L2
theorem fin {Q : VK'} {d : D} {h : DH} (q : Q d h) : (ends Q).rt d h := ⟨h, Sub.refl, q⟩
/-- a loop by an invariant over what is left -/
theorem for_ind {g : TG'} {tb : TS'} {C : DH → Prop} {E : Ends'} (I : List D → St' → DH → Prop) (done : ∀ τ h, I [] τ h → forS g tb C E [] τ h)
    (step : ∀ x xs, (∀ τ h, I xs τ h → forS g tb C E xs τ h) → ∀ τ h, I (x :: xs) τ h → forS g tb C E (x :: xs) τ h) : ∀ xs τ h, I xs τ h → forS g tb C E xs τ h := by
  intro xs
  induction xs with
  | nil => exact done
  | cons x xs ih => exact step x xs ih
theorem lc_ind {n : Nat} {tt : TT'} {te : TE'} {C : DH → Prop} {τ : St'} {Q : List D → DH → Prop} (I : List D → List D → DH → Prop) (done : ∀ acc h, I [] acc h → lcS n tt te C τ Q [] acc h)
    (step : ∀ x xs, (∀ acc h, I xs acc h → lcS n tt te C τ Q xs acc h) → ∀ acc h, I (x :: xs) acc h → lcS n tt te C τ Q (x :: xs) acc h) : ∀ xs acc h, I xs acc h → lcS n tt te C τ Q xs acc h := by
  intro xs
  induction xs with
  | nil => exact done
  | cons x xs ih => exact step x xs ih
/-- a tape -/
def tapeO (ns : List Int) (p n m : Int) : DO := .lst [.lis (ns.map .int), .int p, .int n, .int m]
def TOk (t : DO) : Prop := ∃ ns p n m, t = tapeO ns p n m ∧ 0 ≤ p ∧ 0 ≤ n ∧ 0 ≤ m
/-- a tape stands at a -/
def Tp (h : DH) (a : Addr) : Prop := ∃ t, h a = some t ∧ TOk t
theorem tp_put {h : DH} {a : Addr} {t : DO} (o : TOk t) : Tp (put h a t) a := ⟨t, put_same, o⟩
/-- _law_tape(script) -/
def spTape : Sp' := fun ds h Q _ => ∃ ns, ds = [.scr ns] ∧ ∀ p t, h p = none → TOk t → Q (.ref p) (put h p t)
/-- _law_draw(tape, many) -/
def spDraw : Sp' := fun ds h Q _ => ∃ a k, ds = [.ref a, .int k] ∧ Tp h a ∧ k < 1606938044258990275541962092341162602522202993782792835301376 ∧ ∀ (r : Int) t, 0 ≤ r → r < max k 1 → TOk t → Q (.int r) (put h a t)
end DL

set_option Elab.async false
set_option linter.all false
set_option maxRecDepth 100000
/-! DU: drawing: items at a drawn place, names. -/
namespace DL
open PySem PySem.Spec PyProof.Rows L2
theorem drw {a : Addr} {k : Int} {h : DH} {Q : VK'} {E : XK'} (tp : Tp h a) (q : ∀ (r : Int) t, 0 ≤ r → r < max k 1 → TOk t → Q (.int r) (put h a t)) (hk : k < 1606938044258990275541962092341162602522202993782792835301376 := by decide) : spDraw [.ref a, .int k] h Q E :=
  ⟨a, k, rfl, tp, hk, q⟩
/-- an item at a place -/
theorem pick {α : Type} {xs : List α} {r : Int} (h0 : 0 ≤ r) (h1 : r < (xs.length : Int)) : ∃ d, atI xs r = some d ∧ d ∈ xs := by
  have hi : r.toNat < xs.length := by omega
  have z : atI xs ((r.toNat : Nat) : Int) = some xs[r.toNat] := atI_nat (List.getElem?_eq_getElem hi)
  rw [show ((r.toNat : Nat) : Int) = r by omega] at z
  exact ⟨_, z, List.getElem_mem hi⟩
theorem put3 {h : DH} {a p : Addr} {t u o : DO} (e : p ≠ a) : put (put (put h a t) p o) a u = put (put h a u) p o := by
  rw [put_comm e, put_put]
theorem tp_under {h : DH} {a p : Addr} {t o : DO} (e : p ≠ a) (ot : TOk t) : Tp (put (put h a t) p o) a := ⟨t, by rw [put_ne (Ne.symm e), put_same], ot⟩
theorem ne_put {h : DH} {a p : Addr} {t : DO} (n : put h a t p = none) : p ≠ a := fun e => by rw [e, put_same] at n; cases n
theorem free_put {h : DH} {a p : Addr} {t : DO} (n : put h a t p = none) : h p = none := by rwa [put_ne (ne_put n)] at n
theorem drwU {h : DH} {a p : Addr} {t o : DO} {k : Int} {Q : VK'} {E : XK'} (e : p ≠ a) (ot : TOk t) (q : ∀ (r : Int) t', 0 ≤ r → r < max k 1 → TOk t' → Q (.int r) (put (put h a t') p o)) (hk : k < 1606938044258990275541962092341162602522202993782792835301376 := by decide) : spDraw [.ref a, .int k] (put (put h a t) p o) Q E :=
  drw (tp_under e ot) (fun r t' a b c => by rw [put3 e]; exact q r t' a b c) hk
theorem rngD_zero {lo : Int} : rngD lo 0 = [] := rfl
theorem rngD_succ {lo : Int} {n : Nat} : rngD lo (n + 1) = .int lo :: rngD (lo + 1) n := by
  unfold rngD
  rw [List.range_succ_eq_map, List.map_cons, List.map_map]
  congr 1
  · simp
  · apply List.map_congr_left
    intro i _
    show D.int _ = D.int _
    congr 1
    simp only [Nat.succ_eq_add_one]
    omega
theorem cut_take {xs : List D} {r : Int} (h0 : 0 ≤ r) (h1 : r ≤ (xs.length : Int)) : cutD xs none (some r) = xs.take r.toNat := by
  unfold cutD
  have e : HT.sIx xs.length xs.length (some r) = r.toNat := by
    unfold HT.sIx
    simp only [show ¬ r < 0 by omega, if_false]
    omega
  rw [e, HT.sIx_none]
  rfl
theorem cut_drop {xs : List D} {r : Int} (h0 : 0 ≤ r) (h1 : r ≤ (xs.length : Int)) : cutD xs (some r) none = xs.drop r.toNat := by
  unfold cutD
  have e : HT.sIx xs.length 0 (some r) = r.toNat := by
    unfold HT.sIx
    simp only [show ¬ r < 0 by omega, if_false]
    omega
  rw [e, HT.sIx_none]
  apply List.take_of_length_le
  rw [List.length_drop]
  omega
/-- texts -/
theorem str_len (u v : Str) : (u ++ v).length = u.length + v.length := by
  show (u.cps ++ v.cps).size = _
  rw [Array.size_append]; rfl
theorem str_ok {u v : Str} (a : PyData.strOk u = true) (b : PyData.strOk v = true) : PyData.strOk (u ++ v) = true := by
  show (u.cps ++ v.cps).all _ = true
  rw [Array.all_append, Bool.and_eq_true]
  exact ⟨a, b⟩
theorem sign_ok {z : Str} {c : Nat} (a : PyData.strOk z = true) (m : c ∈ z.cps.toList) : PyData.strOk ⟨#[c]⟩ = true := by
  have a : z.cps.all _ = true := a
  rw [← Array.all_toList, List.all_eq_true] at a
  have := a c m
  show (#[c] : Array Nat).all _ = true
  simpa using this
end DL

set_option Elab.async false
set_option linter.all false
namespace K00
open PySem PySem.Spec PyProof.Rows L2 DL
abbrev n_is_integer : List Str := ["value"]
def t_is_integer  : TS' :=
    (tret (tandv (tcb caIs (tac (tv 0) (tac (tc (.ty "int")) tan))) (tnotv (tcb caIs (tac (tv 0) (tac (tc (.ty "bool")) tan))))))
abbrev n_is_letter : List Str := ["kind", "value", "shape"]
def t_is_letter (sp_is_integer : Sp') (sp_is_letter : Sp') : TS' :=
    (tseq (tasg (to opIx (tv 0) (tc (.int 0))) (gn 2))
    (tseq (tifs (tb' (to opEq (tv 2) (tc (.str "names")))) (tret (tandv (tcb caIs (tac (tv 1) (tac (tc (.ty "str")) tan))) (to (opIn false) (tv 1) (to opIx (tv 0) (tc (.int 1)))))) tnx)
    (tseq (tifs (tb' (to opEq (tv 2) (tc (.str "integers")))) (tret (tcall sp_is_integer (fun _ _ => False) (tac (tv 1) tan))) tnx)
    (tseq (tifs (tnot (tb' (tcb caIs (tac (tv 1) (tac (tc (.ty "tuple")) tan))))) (tret (tc (.bl false))) tnx)
    (tseq (tifs (tb' (to opEq (tv 2) (tc (.str "pair")))) (tret (tandv (to opEq (tcb caLen (tac (tv 1) tan)) (tc (.int 3))) (tandv (to opEq (to opIx (tv 1) (tc (.int 0))) (tc (.str "pair"))) (tandv (tcall sp_is_letter (fun _ _ => False) (tac (to opIx (tv 0) (tc (.int 1))) (tac (to opIx (tv 1) (tc (.int 1))) tan))) (tcall sp_is_letter (fun _ _ => False) (tac (to opIx (tv 0) (tc (.int 2))) (tac (to opIx (tv 1) (tc (.int 2))) tan))))))) tnx)
    (tseq (tifs (tb' (to opEq (tv 2) (tc (.str "either")))) (tseq (tifs (tor (tb' (to opNe (tcb caLen (tac (tv 1) tan)) (tc (.int 3)))) (tor (tb' (to opNe (to opIx (tv 1) (tc (.int 0))) (tc (.str "case")))) (tnot (tb' (tcall sp_is_integer (fun _ _ => False) (tac (to opIx (tv 1) (tc (.int 1))) tan)))))) (tret (tc (.bl false))) tnx)
    (tret (tandv (tch opLe opLt (tc (.int 0)) (to opIx (tv 1) (tc (.int 1))) (tcb caLen (tac (to opIx (tv 0) (tc (.int 1))) tan))) (tcall sp_is_letter (fun _ _ => False) (tac (to opIx (to opIx (tv 0) (tc (.int 1))) (to opIx (tv 1) (tc (.int 1)))) (tac (to opIx (tv 1) (tc (.int 2))) tan)))))) tnx)
    (tret (torv (to opEq (tv 1) (ttup (tac (tc (.str "none")) tan))) (tandv (to opEq (tcb caLen (tac (tv 1) tan)) (tc (.int 2))) (tandv (to opEq (to opIx (tv 1) (tc (.int 0))) (tc (.str "some"))) (tcall sp_is_letter (fun _ _ => False) (tac (to opIx (tv 0) (tc (.int 1))) (tac (to opIx (tv 1) (tc (.int 1))) tan)))))))))))))
abbrev n__law_tape : List Str := ["script", "mixed", "cell"]
def t__law_tape  : TS' :=
    (tseq (tasg (tc (.int 7)) (gn 1))
    (tseq (tfor (tse (tv 0)) (gn 2) (tasg (to opMod (tcb caInt (tac (to opAdd (to opMul (tv 1) (tc (.int 31))) (tcb caAbs (tac (tcb caInt (tac (tv 2) tan)) tan))) tan)) (tc (.int 2147483647))) (gn 1)))
    (tret (town (tac (tcb caList (tac (tv 0) tan)) (tac (tc (.int 0)) (tac (tc (.int 0)) (tac (tv 1) tan))))))))
abbrev n__law_draw : List Str := ["tape", "many", "place", "number"]
def t__law_draw  : TS' :=
    (tseq (tmid (tifs (tb' (to opEq (to opIx (tv 0) (tc (.int 2))) (tc (.int 0)))) (tseq (tasg (to opIx (tv 0) (tc (.int 1))) (gn 2))
    (tseq (tasg (tc (.int 0)) (gn 3))
    (tseq (tmid (tifs (tb' (to opLt (tv 2) (tcb caLen (tac (to opIx (tv 0) (tc (.int 0))) tan)))) (tasg (tcb caAbs (tac (tcb caInt (tac (to opIx (to opIx (tv 0) (tc (.int 0))) (tv 2)) tan)) tan)) (gn 3)) (tseq (tasg (to opMod (tcb caInt (tac (to opAdd (to opAdd (to opMul (to opIx (tv 0) (tc (.int 3))) (tc (.int 48271))) (tv 2)) (tc (.int 1))) tan)) (tc (.int 2147483647))) (gsub (tv 0) (tc (.int 3))))
    (tasg (to opIx (tv 0) (tc (.int 3))) (gn 3)))))
    (tseq (tasg (to opAdd (tv 2) (tc (.int 1))) (gsub (tv 0) (tc (.int 1))))
    (tseq (tifs (tb' (to opLt (tv 3) (to opPow (tc (.int 10)) (tc (.int 18))))) (tseq (tasg (to opMod (tcb caInt (tac (to opAdd (to opAdd (to opMul (tv 3) (tc (.int 48271))) (to opMul (tv 2) (tc (.int 69621)))) (tc (.int 5))) tan)) (tc (.int 2147483647))) (gn 3))
    (tseq (tasg (to opMod (tcb caInt (tac (to opMul (tv 3) (tc (.int 69621))) tan)) (tc (.int 2147483629))) (gn 3))
    (tret (to opMod (tcb caInt (tac (tv 3) tan)) (tcb caMax (tac (tv 1) (tac (tc (.int 1)) tan))))))) tnx)
    (tasg (tv 3) (gsub (tv 0) (tc (.int 2))))))))) tnx))
    (tseq (tasg (to opIx (tv 0) (tc (.int 2))) (gn 3))
    (tseq (tasg (to opDiv (tv 3) (tcb caMax (tac (tv 1) (tac (tc (.int 2)) tan)))) (gsub (tv 0) (tc (.int 2))))
    (tret (to opMod (tcb caInt (tac (tv 3) tan)) (tcb caMax (tac (tv 1) (tac (tc (.int 1)) tan))))))))
abbrev n__law_whole : List Str := ["told"]
def t__law_whole  : TS' :=
    (tret (tandv (tcb caIs (tac (tv 0) (tac (tc (.ty "int")) tan))) (tnotv (tcb caIs (tac (tv 0) (tac (tc (.ty "bool")) tan))))))
abbrev n__law_names : List Str := ["tape", "signs", "fixed", "stem", "names", "k", "name"]
def t__law_names (sp__law_draw : Sp') : TS' :=
    (tseq (tasg (tc (.str "abcdexyzABZ0189 !\"#$&'()*+,-./:;<=>?\x40[\\]^_{|}~")) (gn 1))
    (tseq (tasg (tlis (tac (tc (.str "none")) (tac (tc (.str "pair")) (tac (tc (.str "case")) (tac (tc (.str "some")) (tac (tc (.str "true")) (tac (tc (.str "0")) tan))))))) (gn 2))
    (tseq (tasg (to opIx (tlis (tac (tc (.str "")) (tac (tc (.str "")) (tac (tc (.str "")) (tac (tc (.str "case")) (tac (tc (.str "a ,")) tan)))))) (tcall sp__law_draw (fun _ _ => False) (tac (tv 0) (tac (tc (.int 5)) tan)))) (gn 3))
    (tseq (tasg (town tan) (gn 4))
    (tseq (tfor (trg1 (tac (to opIx (tlis (tac (tc (.int 1)) (tac (tc (.int 2)) (tac (tc (.int 2)) (tac (tc (.int 3)) (tac (tc (.int 3)) (tac (tc (.int 4)) tan))))))) (tcall sp__law_draw (fun _ _ => False) (tac (tv 0) (tac (tc (.int 6)) tan)))) tan)) (gn 5) (tseq (tasg (to opAdd (tv 3) (to opIx (tv 1) (tcall sp__law_draw (fun _ _ => False) (tac (tv 0) (tac (tcb caLen (tac (tv 1) tan)) tan))))) (gn 6))
    (tseq (tmid (tifs (tb' (to opEq (tcall sp__law_draw (fun _ _ => False) (tac (tv 0) (tac (tc (.int 3)) tan))) (tc (.int 0)))) (tasg (to opAdd (tv 6) (to opIx (tv 1) (tcall sp__law_draw (fun _ _ => False) (tac (tv 0) (tac (tcb caLen (tac (tv 1) tan)) tan))))) (gn 6)) tnx))
    (tseq (tmid (tifs (tb' (to opEq (tcall sp__law_draw (fun _ _ => False) (tac (tv 0) (tac (tc (.int 8)) tan))) (tc (.int 0)))) (tasg (to opIx (tv 2) (tcall sp__law_draw (fun _ _ => False) (tac (tv 0) (tac (tc (.int 6)) tan)))) (gn 6)) tnx))
    (tmid (tifs (tb' (to (opIn true) (tv 6) (tv 4))) (tdrop (tbm isLs mApp (tv 4) (tac (tv 6) tan))) tnx))))))
    (tret (tcb caTup (tac (tv 4) tan))))))))
abbrev n__law_kinds : List Str := ["kind", "piece"]
def t__law_kinds (sp__law_kinds : Sp') : TS' :=
    (tseq (tifs (tb' (to opEq (to opIx (tv 0) (tc (.int 0))) (tc (.str "pair")))) (tret (to opAdd (to opAdd (tc (.int 1)) (tcall sp__law_kinds (fun _ _ => False) (tac (to opIx (tv 0) (tc (.int 1))) tan))) (tcall sp__law_kinds (fun _ _ => False) (tac (to opIx (tv 0) (tc (.int 2))) tan)))) tnx)
    (tseq (tifs (tb' (to opEq (to opIx (tv 0) (tc (.int 0))) (tc (.str "either")))) (tret (to opAdd (tc (.int 1)) (tcb caSum (tac (tlc (tse (to opIx (tv 0) (tc (.int 1)))) 1 tyes (tcall sp__law_kinds (fun _ _ => False) (tac (tv 1) tan))) tan)))) tnx)
    (tseq (tifs (tb' (to opEq (to opIx (tv 0) (tc (.int 0))) (tc (.str "maybe")))) (tret (to opAdd (tc (.int 1)) (tcall sp__law_kinds (fun _ _ => False) (tac (to opIx (tv 0) (tc (.int 1))) tan)))) tnx)
    (tret (tc (.int 1))))))
abbrev n__law_kind : List Str := ["tape", "depth", "many", "choice", "first", "left", "parts", "kinds", "k", "piece"]
def t__law_kind (sp__law_draw : Sp') (sp__law_names : Sp') (sp__law_kind : Sp') (sp__law_kinds : Sp') : TS' :=
    (tseq (tasg (tcall sp__law_draw (fun _ _ => False) (tac (tv 0) (tac (tc (.int 8)) tan))) (gn 3))
    (tseq (tifs (torp (tb' (to opEq (tv 1) (tc (.int 1)))) (torp (tb' (to opEq (tv 2) (tc (.int 1)))) (tb' (to opLt (tv 3) (tc (.int 2)))))) (tseq (tifs (tb' (to opEq (tcall sp__law_draw (fun _ _ => False) (tac (tv 0) (tac (tc (.int 3)) tan))) (tc (.int 0)))) (tret (ttup (tac (tc (.str "names")) (tac (tcall sp__law_names (fun _ _ => False) (tac (tv 0) tan)) tan)))) tnx)
    (tret (ttup (tac (tc (.str "integers")) tan)))) tnx)
    (tseq (tifs (torp (tb' (to opEq (tv 2) (tc (.int 2)))) (tb' (to opEq (tv 3) (tc (.int 2))))) (tret (ttup (tac (tc (.str "maybe")) (tac (tcall sp__law_kind (fun _ _ => False) (tac (tv 0) (tac (to opSub (tv 1) (tc (.int 1))) (tac (to opSub (tv 2) (tc (.int 1))) tan)))) tan)))) tnx)
    (tseq (tifs (tb' (to opLt (tv 3) (tc (.int 6)))) (tseq (tasg (tcall sp__law_kind (fun _ _ => False) (tac (tv 0) (tac (to opSub (tv 1) (tc (.int 1))) (tac (to opSub (tv 2) (tc (.int 2))) tan)))) (gn 4))
    (tret (ttup (tac (tc (.str "pair")) (tac (tv 4) (tac (tcall sp__law_kind (fun _ _ => False) (tac (tv 0) (tac (to opSub (tv 1) (tc (.int 1))) (tac (to opSub (to opSub (tv 2) (tc (.int 1))) (tcall sp__law_kinds (fun _ _ => False) (tac (tv 4) tan))) tan)))) tan)))))) tnx)
    (tseq (tasg (to opSub (tv 2) (tc (.int 1))) (gn 5))
    (tseq (tasg (to opAdd (tc (.int 1)) (tcall sp__law_draw (fun _ _ => False) (tac (tv 0) (tac (tcb caMin (tac (tc (.int 3)) (tac (tv 5) tan))) tan)))) (gn 6))
    (tseq (tasg (town tan) (gn 7))
    (tseq (tfor (trg1 (tac (tv 6) tan)) (gn 8) (tseq (tasg (tcall sp__law_kind (fun _ _ => False) (tac (tv 0) (tac (to opSub (tv 1) (tc (.int 1))) (tac (to opSub (tv 5) (to opSub (to opSub (tv 6) (tc (.int 1))) (tv 8))) tan)))) (gn 9))
    (tseq (tdrop (tbm isLs mApp (tv 7) (tac (tv 9) tan)))
    (tasg (to opSub (tv 5) (tcall sp__law_kinds (fun _ _ => False) (tac (tv 9) tan))) (gn 5)))))
    (tret (ttup (tac (tc (.str "either")) (tac (tcb caTup (tac (tv 7) tan)) tan))))))))))))
abbrev n__law_integer : List Str := ["tape", "top", "choice", "number"]
def t__law_integer (sp__law_draw : Sp') : TS' :=
    (tseq (tasg (tcall sp__law_draw (fun _ _ => False) (tac (tv 0) (tac (tc (.int 5)) tan))) (gn 2))
    (tseq (tasg (tcall sp__law_draw (fun _ _ => False) (tac (tv 0) (tac (to opIx (tlis (tac (tc (.int 2)) (tac (to opAdd (tv 1) (tc (.int 1))) (tac (to opAdd (tv 1) (tc (.int 14))) (tac (to opPow (tc (.int 10)) (tc (.int 9))) (tac (to opSub (to opPow (tc (.int 10)) (tc (.int 30))) (tc (.int 99))) tan)))))) (tv 2)) tan))) (gn 3))
    (tseq (tmid (tifs (tb' (to opEq (tv 2) (tc (.int 3)))) (tasg (to opAdd (to opMul (tv 3) (to opPow (tc (.int 10)) (tc (.int 21)))) (tcall sp__law_draw (fun _ _ => False) (tac (tv 0) (tac (to opPow (tc (.int 10)) (tc (.int 9))) tan)))) (gn 3)) tnx))
    (tret (to opIx (tlis (tac (tv 3) (tac (tu unNeg (tv 3)) tan))) (tcall sp__law_draw (fun _ _ => False) (tac (tv 0) (tac (tc (.int 2)) tan))))))))
abbrev n__law_letter : List Str := ["tape", "kind", "theory", "first", "i"]
def t__law_letter (sp__law_draw : Sp') (sp__law_integer : Sp') (sp__law_letter : Sp') : TS' :=
    (tseq (tifs (tb' (to opEq (to opIx (tv 1) (tc (.int 0))) (tc (.str "names")))) (tret (to opIx (to opIx (tv 1) (tc (.int 1))) (tcall sp__law_draw (fun _ _ => False) (tac (tv 0) (tac (tcb caLen (tac (to opIx (tv 1) (tc (.int 1))) tan)) tan))))) tnx)
    (tseq (tifs (tb' (to opEq (to opIx (tv 1) (tc (.int 0))) (tc (.str "integers")))) (tret (tcall sp__law_integer (fun _ _ => False) (tac (tv 0) (tac (to opIx (tv 2) (tc (.int 0))) tan)))) tnx)
    (tseq (tifs (tb' (to opEq (to opIx (tv 1) (tc (.int 0))) (tc (.str "pair")))) (tseq (tasg (tcall sp__law_letter (fun _ _ => False) (tac (tv 0) (tac (to opIx (tv 1) (tc (.int 1))) (tac (tv 2) tan)))) (gn 3))
    (tret (ttup (tac (tc (.str "pair")) (tac (tv 3) (tac (tcall sp__law_letter (fun _ _ => False) (tac (tv 0) (tac (to opIx (tv 1) (tc (.int 2))) (tac (tv 2) tan)))) tan)))))) tnx)
    (tseq (tifs (tb' (to opEq (to opIx (tv 1) (tc (.int 0))) (tc (.str "either")))) (tseq (tasg (tcall sp__law_draw (fun _ _ => False) (tac (tv 0) (tac (tcb caLen (tac (to opIx (tv 1) (tc (.int 1))) tan)) tan))) (gn 4))
    (tret (ttup (tac (tc (.str "case")) (tac (tv 4) (tac (tcall sp__law_letter (fun _ _ => False) (tac (tv 0) (tac (to opIx (to opIx (tv 1) (tc (.int 1))) (tv 4)) (tac (tv 2) tan)))) tan)))))) tnx)
    (tseq (tifs (tb' (to opEq (tcall sp__law_draw (fun _ _ => False) (tac (tv 0) (tac (tc (.int 3)) tan))) (tc (.int 0)))) (tret (ttup (tac (tc (.str "none")) tan))) tnx)
    (tret (ttup (tac (tc (.str "some")) (tac (tcall sp__law_letter (fun _ _ => False) (tac (tv 0) (tac (to opIx (tv 1) (tc (.int 1))) (tac (tv 2) tan)))) tan)))))))))
abbrev n__law_is_letter : List Str := ["kind", "told"]
def t__law_is_letter (sp__law_whole : Sp') (sp__law_is_letter : Sp') : TS' :=
    (tseq (tifs (tb' (to opEq (to opIx (tv 0) (tc (.int 0))) (tc (.str "names")))) (tret (tandv (tcb caIs (tac (tv 1) (tac (tc (.ty "str")) tan))) (to (opIn false) (tv 1) (to opIx (tv 0) (tc (.int 1)))))) tnx)
    (tseq (tifs (tb' (to opEq (to opIx (tv 0) (tc (.int 0))) (tc (.str "integers")))) (tret (tcall sp__law_whole (fun _ _ => False) (tac (tv 1) tan))) tnx)
    (tseq (tifs (tor (tnot (tb' (tcb caIs (tac (tv 1) (tac (tc (.ty "tuple")) tan))))) (tor (tb' (to opEq (tcb caLen (tac (tv 1) tan)) (tc (.int 0)))) (tnot (tb' (tcb caIs (tac (to opIx (tv 1) (tc (.int 0))) (tac (tc (.ty "str")) tan))))))) (tret (tc (.bl false))) tnx)
    (tseq (tifs (tb' (to opEq (to opIx (tv 0) (tc (.int 0))) (tc (.str "pair")))) (tseq (tifs (tor (tb' (to opNe (to opIx (tv 1) (tc (.int 0))) (tc (.str "pair")))) (tb' (to opNe (tcb caLen (tac (tv 1) tan)) (tc (.int 3))))) (tret (tc (.bl false))) tnx)
    (tret (tandv (tcall sp__law_is_letter (fun _ _ => False) (tac (to opIx (tv 0) (tc (.int 1))) (tac (to opIx (tv 1) (tc (.int 1))) tan))) (tcall sp__law_is_letter (fun _ _ => False) (tac (to opIx (tv 0) (tc (.int 2))) (tac (to opIx (tv 1) (tc (.int 2))) tan)))))) tnx)
    (tseq (tifs (tb' (to opEq (to opIx (tv 0) (tc (.int 0))) (tc (.str "either")))) (tseq (tifs (tor (tb' (to opNe (to opIx (tv 1) (tc (.int 0))) (tc (.str "case")))) (tor (tb' (to opNe (tcb caLen (tac (tv 1) tan)) (tc (.int 3)))) (tnot (tb' (tcall sp__law_whole (fun _ _ => False) (tac (to opIx (tv 1) (tc (.int 1))) tan)))))) (tret (tc (.bl false))) tnx)
    (tseq (tifs (tor (tb' (to opLt (to opIx (tv 1) (tc (.int 1))) (tc (.int 0)))) (tb' (to opGe (to opIx (tv 1) (tc (.int 1))) (tcb caLen (tac (to opIx (tv 0) (tc (.int 1))) tan))))) (tret (tc (.bl false))) tnx)
    (tret (tcall sp__law_is_letter (fun _ _ => False) (tac (to opIx (to opIx (tv 0) (tc (.int 1))) (to opIx (tv 1) (tc (.int 1)))) (tac (to opIx (tv 1) (tc (.int 2))) tan)))))) tnx)
    (tseq (tifs (tb' (to opEq (to opIx (tv 1) (tc (.int 0))) (tc (.str "none")))) (tret (to opEq (tcb caLen (tac (tv 1) tan)) (tc (.int 1)))) tnx)
    (tret (tandv (to opEq (to opIx (tv 1) (tc (.int 0))) (tc (.str "some"))) (tandv (to opEq (tcb caLen (tac (tv 1) tan)) (tc (.int 2))) (tcall sp__law_is_letter (fun _ _ => False) (tac (to opIx (tv 0) (tc (.int 1))) (tac (to opIx (tv 1) (tc (.int 1))) tan))))))))))))
abbrev n__law_wild : List Str := ["tape", "depth", "choice", "k"]
def t__law_wild (sp__law_draw : Sp') (sp__law_integer : Sp') (sp__law_wild : Sp') : TS' :=
    (tseq (tasg (tcall sp__law_draw (fun _ _ => False) (tac (tv 0) (tac (tc (.int 9)) tan))) (gn 2))
    (tseq (tifs (tb' (to opEq (tv 2) (tc (.int 0)))) (tret (to opIx (tlis (tac (tc (.bl true)) (tac (tc (.bl false)) (tac (tc .non) tan)))) (tcall sp__law_draw (fun _ _ => False) (tac (tv 0) (tac (tc (.int 3)) tan))))) tnx)
    (tseq (tifs (tb' (to opLt (tv 2) (tc (.int 3)))) (tret (to opIx (tlis (tac (tc (.int 0)) (tac (tc (.int 1)) (tac (tc (.int 2)) (tac (tu unNeg (tc (.int 1))) (tac (tcall sp__law_integer (fun _ _ => False) (tac (tv 0) (tac (tc (.int 20)) tan))) tan)))))) (tcall sp__law_draw (fun _ _ => False) (tac (tv 0) (tac (tc (.int 5)) tan))))) tnx)
    (tseq (tifs (torp (tb' (to opLt (tv 2) (tc (.int 6)))) (tb' (to opEq (tv 1) (tc (.int 0))))) (tret (to opIx (tlis (tac (tc (.str "pair")) (tac (tc (.str "case")) (tac (tc (.str "some")) (tac (tc (.str "none")) (tac (tc (.str "a")) (tac (tc (.str "")) tan))))))) (tcall sp__law_draw (fun _ _ => False) (tac (tv 0) (tac (tc (.int 6)) tan))))) tnx)
    (tret (tcb caTup (tac (tlc (trg1 (tac (tcall sp__law_draw (fun _ _ => False) (tac (tv 0) (tac (tc (.int 4)) tan))) tan)) 3 tyes (tcall sp__law_wild (fun _ _ => False) (tac (tv 0) (tac (to opSub (tv 1) (tc (.int 1))) tan)))) tan)))))))
abbrev n__law_spoilt : List Str := ["tape", "value", "choice", "k"]
def t__law_spoilt (sp__law_draw : Sp') (sp__law_spoilt : Sp') (sp__law_whole : Sp') (sp__law_wild : Sp') : TS' :=
    (tseq (tasg (tcall sp__law_draw (fun _ _ => False) (tac (tv 0) (tac (tc (.int 6)) tan))) (gn 2))
    (tseq (tifs (tand (tb' (tcb caIs (tac (tv 1) (tac (tc (.ty "tuple")) tan)))) (tand (tb' (to opGt (tcb caLen (tac (tv 1) tan)) (tc (.int 0)))) (tb' (to opLt (tv 2) (tc (.int 5)))))) (tseq (tasg (tcall sp__law_draw (fun _ _ => False) (tac (tv 0) (tac (tcb caLen (tac (tv 1) tan)) tan))) (gn 3))
    (tseq (tifs (tb' (to opLt (tv 2) (tc (.int 3)))) (tret (to opAdd (to opAdd (tsl (tv 1) tpn (tpe (tv 3))) (ttup (tac (tcall sp__law_spoilt (fun _ _ => False) (tac (tv 0) (tac (to opIx (tv 1) (tv 3)) tan))) tan))) (tsl (tv 1) (tpe (to opAdd (tv 3) (tc (.int 1)))) tpn))) tnx)
    (tseq (tifs (tb' (to opEq (tv 2) (tc (.int 3)))) (tret (to opAdd (tsl (tv 1) tpn (tpe (tv 3))) (tsl (tv 1) (tpe (to opAdd (tv 3) (tc (.int 1)))) tpn))) tnx)
    (tret (to opAdd (tv 1) (ttup (tac (tc (.int 0)) tan))))))) tnx)
    (tseq (tifs (tand (tb' (tcall sp__law_whole (fun _ _ => False) (tac (tv 1) tan))) (tand (tb' (to opLe (tc (.int 0)) (tv 1))) (tand (tb' (to opLe (tv 1) (tc (.int 2)))) (tb' (to opLt (tv 2) (tc (.int 5))))))) (tret (to opIx (tlis (tac (to opEq (tv 1) (tc (.int 1))) (tac (to opEq (tv 1) (tc (.int 1))) (tac (tu unNeg (tc (.int 1))) (tac (to opSub (tv 1) (tc (.int 3))) (tac (to opAdd (tv 1) (tc (.int 1))) tan)))))) (tv 2))) tnx)
    (tret (tcall sp__law_wild (fun _ _ => False) (tac (tv 0) (tac (tc (.int 1)) tan)))))))
abbrev n_law : List Str := ["script", "tape", "kind", "other", "letter", "spoilt", "values", "value", "asked", "told"]
def t_law (sp__law_tape : Sp') (sp__law_kind : Sp') (sp__law_letter : Sp') (sp__law_spoilt : Sp') (sp__law_wild : Sp') (sp__law_draw : Sp') (sp_is_letter : Sp') (sp__law_is_letter : Sp') : TS' :=
    (tseq (tasg (tcall sp__law_tape (fun _ _ => False) (tac (tv 0) tan)) (gn 1))
    (tseq (tasg (tcall sp__law_kind (fun _ _ => False) (tac (tv 1) (tac (tc (.int 3)) (tac (tc (.int 6)) tan)))) (gn 2))
    (tseq (tasg (tcall sp__law_kind (fun _ _ => False) (tac (tv 1) (tac (tc (.int 3)) (tac (tc (.int 6)) tan)))) (gn 3))
    (tseq (tasg (tcall sp__law_letter (fun _ _ => False) (tac (tv 1) (tac (tv 2) (tac (ttup (tac (tc (.int 20)) (tac (tc (.int 12)) tan))) tan)))) (gn 4))
    (tseq (tasg (tcall sp__law_spoilt (fun _ _ => False) (tac (tv 1) (tac (tv 4) tan))) (gn 5))
    (tseq (tasg (tlis (tac (tv 4) (tac (tv 5) (tac (tcall sp__law_spoilt (fun _ _ => False) (tac (tv 1) (tac (tv 5) tan))) (tac (tcall sp__law_letter (fun _ _ => False) (tac (tv 1) (tac (tv 3) (tac (ttup (tac (tc (.int 20)) (tac (tc (.int 12)) tan))) tan)))) (tac (tcall sp__law_wild (fun _ _ => False) (tac (tv 1) (tac (tc (.int 2)) tan))) tan)))))) (gn 6))
    (tseq (tasg (to opAdd (tv 6) (tlis (tac (to opIx (tlis (tac (tc (.bl true)) (tac (tc (.bl false)) (tac (tc .non) tan)))) (tcall sp__law_draw (fun _ _ => False) (tac (tv 1) (tac (tc (.int 3)) tan)))) (tac (tv 4) tan)))) (gn 6))
    (tseq (tfor (tse (tv 6)) (gn 7) (tfor (tse (tlis (tac (tv 2) (tac (tv 3) (tac (tv 2) tan))))) (gn 8) (tseq (tasg (tcall sp_is_letter (fun _ _ => False) (tac (tv 8) (tac (tv 7) tan))) (gn 9))
    (tifs (tor (tnot (tb' (tcb caIs (tac (tv 9) (tac (tc (.ty "bool")) tan))))) (tb' (to opNe (tv 9) (tcall sp__law_is_letter (fun _ _ => False) (tac (tv 8) (tac (tv 7) tan)))))) (tret (tc (.bl false))) tnx))))
    (tret (tc (.bl true)))))))))))
end K00

set_option Elab.async false
set_option linter.all false
set_option maxRecDepth 100000
set_option maxHeartbeats 1000000
local macro_rules | `(tactic| walk_at "dl7") => `(tactic| (try simp only [↓DL.q_nx, ↓DL.q_seq, ↓DL.q_br, ↓DL.q_ct, ↓DL.q_drop, ↓DL.q_ret, ↓DL.q_retn, ↓DL.q_ifs, ↓DL.q_asg, ↓DL.q_gn, ↓DL.q_gsub, ↓DL.q_gtup, ↓DL.q_gco, ↓DL.q_gni, ↓DL.q_for, ↓DL.q_yes, ↓DL.q_c, ↓DL.q_to, ↓DL.q_tu, ↓DL.q_tb, ↓DL.q_isB, ↓DL.q_isI, ↓DL.q_ch, ↓DL.q_and, ↓DL.q_or, ↓DL.q_orp, ↓DL.q_not, ↓DL.q_andv, ↓DL.q_orv, ↓DL.q_notv, ↓DL.q_if, ↓DL.q_an, ↓DL.q_ac, ↓DL.q_tup, ↓DL.q_lis, ↓DL.q_own, ↓DL.q_call, ↓DL.q_cb, ↓DL.q_bm, ↓DL.q_sl, ↓DL.q_slt, ↓DL.q_sll, ↓DL.q_pn, ↓DL.q_pe, ↓DL.q_addi, ↓DL.q_adds, ↓DL.q_addt, ↓DL.q_addl, ↓DL.q_I2, ↓DL.q_neg, ↓DL.q_eqi, ↓DL.q_eqs, ↓DL.q_eqb, ↓DL.q_neb, ↓DL.q_nei, ↓DL.q_nes, ↓DL.q_eq_non_int, ↓DL.q_ne_non_int, ↓DL.q_eq_non_bl, ↓DL.q_ne_non_bl, ↓DL.q_eq_non_str, ↓DL.q_ne_non_str, ↓DL.q_eq_int_non, ↓DL.q_ne_int_non, ↓DL.q_eq_bl_non, ↓DL.q_ne_bl_non, ↓DL.q_eq_str_non, ↓DL.q_ne_str_non, ↓DL.q_eq_int_str, ↓DL.q_ne_int_str, ↓DL.q_eq_str_int, ↓DL.q_ne_str_int, ↓DL.q_eq_bl_str, ↓DL.q_ne_bl_str, ↓DL.q_eq_str_bl, ↓DL.q_ne_str_bl, ↓DL.q_eq_non_non, ↓DL.q_ne_non_non, ↓DL.q_isnon_bl, ↓DL.q_isnon_int, ↓DL.q_isnon_str, ↓DL.q_isnon_tup, ↓DL.q_isnon_lis, ↓DL.q_isnon_non, ↓DL.q_int, ↓DL.q_inl, ↓DL.q_isn, ↓DL.q_ixc, ↓DL.q_lent, ↓DL.q_lenl, ↓DL.q_lenc, ↓DL.q_lens, ↓DL.q_is, ↓DL.q_toi, ↓DL.q_tob, ↓DL.q_abs, ↓DL.q_max, ↓DL.q_min, ↓DL.q_list, ↓DL.q_listo, ↓DL.q_tuple, ↓DL.q_sum, ↓DL.q_kt, ↓DL.q_kl, ↓DL.q_kc, ↓DL.q_tv0, ↓DL.q_st0, ↓DL.q_tv1, ↓DL.q_st1, ↓DL.q_tv2, ↓DL.q_st2, ↓DL.q_tv3, ↓DL.q_st3, ↓DL.q_tv4, ↓DL.q_st4, ↓DL.q_tv5, ↓DL.q_st5, ↓DL.q_tv6, ↓DL.q_st6, ↓DL.q_tv7, ↓DL.q_st7, ↓DL.q_tv8, ↓DL.q_st8, ↓DL.q_tv9, ↓DL.q_st9, ↓DL.q_tv10, ↓DL.q_st10, ↓DL.q_tv11, ↓DL.q_st11, ↓DL.q_tv12, ↓DL.q_st12, ↓DL.q_tv13, ↓DL.q_st13, ↓DL.q_tv14, ↓DL.q_st14, ↓DL.q_tv15, ↓DL.q_st15, ↓DL.q_ixt0, ↓DL.q_ixl0, ↓DL.q_ixt1, ↓DL.q_ixl1, ↓DL.q_ixt2, ↓DL.q_ixl2, ↓DL.q_ixt3, ↓DL.q_ixl3, ↓DL.q_ixt4, ↓DL.q_ixl4, ↓DL.q_oixr, ↓DL.q_oinr, ↓DL.q_olen, ↓DL.q_okr, ↓DL.q_oapp, ↓DL.q_olsr, ↓DL.q_osetD, ↓DL.q_ln0, ↓DL.q_sz0, ↓DL.q_ln1, ↓DL.q_sz1, ↓DL.q_ln2, ↓DL.q_sz2, ↓DL.q_ln3, ↓DL.q_sz3, ↓DL.q_ln4, ↓DL.q_sz4, ↓DL.q_ln5, ↓DL.q_sz5, ↓DL.q_ln6, ↓DL.q_sz6, ↓DL.q_ln7, ↓DL.q_sz7, ↓DL.q_ln8, ↓DL.q_sz8, ↓DL.q_wseq, ↓DL.q_wt, ↓DL.q_wl, ↓DL.q_wc, ↓DL.q_wr, ↓DL.q_wr1, ↓DL.q_wr1', ↓DL.q_setL0, ↓DL.q_setL1, ↓DL.q_setL2, ↓DL.q_setL3, ↓DL.q_setL4, ↓DL.q_pl_non, ↓DL.q_in_non_int, ↓DL.q_in_non_bool, ↓DL.q_in_non_str, ↓DL.q_in_non_tuple, ↓DL.q_in_non_list, ↓DL.q_pl_bl, ↓DL.q_in_bl_int, ↓DL.q_in_bl_bool, ↓DL.q_in_bl_str, ↓DL.q_in_bl_tuple, ↓DL.q_in_bl_list, ↓DL.q_pl_int, ↓DL.q_in_int_int, ↓DL.q_in_int_bool, ↓DL.q_in_int_str, ↓DL.q_in_int_tuple, ↓DL.q_in_int_list, ↓DL.q_pl_str, ↓DL.q_in_str_int, ↓DL.q_in_str_bool, ↓DL.q_in_str_str, ↓DL.q_in_str_tuple, ↓DL.q_in_str_list, ↓DL.q_pl_tup, ↓DL.q_in_tup_int, ↓DL.q_in_tup_bool, ↓DL.q_in_tup_str, ↓DL.q_in_tup_tuple, ↓DL.q_in_tup_list, ↓DL.q_pl_lis, ↓DL.q_in_lis_int, ↓DL.q_in_lis_bool, ↓DL.q_in_lis_str, ↓DL.q_in_lis_tuple, ↓DL.q_in_lis_list, ↓DL.q_ty_int, ↓DL.q_ty_bool, ↓DL.q_ty_str, ↓DL.q_ty_tuple, ↓DL.q_ty_list, DL.sif_t, DL.sif_f, DL.ofStr_inj, String.reduceEq, decide_true, decide_false, Bool.not_true, Bool.not_false, true_and, and_true, List.length_cons, List.length_nil, Int.reduceAdd, Int.reduceMul, Int.reduceNeg, Int.reduceSub, Nat.reduceAdd, if_true, if_false, Bool.false_eq_true, Int.reduceEq, Int.reduceLT, Int.reduceLE, eq_self, not_false_eq_true, DL.mulOk, or_true, true_or, and_self, Int.reduceToNat, Nat.reduceLT, Int.reducePow, DL.put_same, DL.put_put]))
namespace K00
open PySem PySem.Spec PyProof.Rows L2 DL
theorem sok {s : Str} (h : PyData.strOk s = true := by decide) : dOk (.str s) := dok_str.mpr h
def isInt (v : D) : Bool := match v with | .int _ => true | _ => false
def sp_is_integer : Sp' := fun ds h Q _ => ∃ v, ds = [v] ∧ plainD v = true ∧ Q (.bl (isInt v)) h
theorem rd_is_integer (ds : List D) (h : DH) (Q : VK') (E' : XK') (q : sp_is_integer ds h Q E') : t_is_integer (ends Q) (slots n_is_integer ds) h := by
  obtain ⟨v, rfl, hv, q⟩ := q
  show t_is_integer (ends Q) [some v] h
  unfold t_is_integer
  cases v with
  | scr _ => cases hv
  | ref _ => cases hv
  | ty _ => cases hv
  | _ => walk_at "dl7"; exact fin q
/-- ("none",) -/
def isL1 (xs : List D) : Bool := match xs with | [t] => isStr t "none" | _ => false
theorem isL1_get {xs : List D} (c : isL1 xs = true) : ∃ t, xs = [t] ∧ isStr t "none" = true := by
  unfold isL1 at c
  split at c
  · exact ⟨_, rfl, c⟩
  · cases c
theorem deq_none {xs : List D} {n : Nat} (hv : val (.tup xs) n = true) : deq (.tup xs) (.tup [.str "none"]) = isL1 xs := by
  obtain ⟨p, e, _, _⟩ := val_py _ _ hv
  have eb : toPy (.tup [.str "none"]) = some (.tuple [.str "none"]) := rfl
  rw [deq_of e eb]
  simp only [toPy] at e
  cases es : toPys xs with
  | none => rw [es] at e; cases e
  | some ps =>
    rw [es] at e
    cases e
    match xs, es with
    | [], es => cases es; simp [PyData.eqv, PyData.eqvAll, isL1]
    | [t], es =>
      simp only [toPys] at es
      cases et : toPy t with
      | none => rw [et] at es; cases es
      | some a =>
        rw [et] at es
        cases es
        simp only [PyData.eqv, PyData.eqvAll, isL1, Bool.and_true]
        cases t with
        | str s =>
          cases et
          simp only [PyData.eqv, isStr]
          exact Bool.beq_eq_decide_eq _ _
        | tup l =>
          simp only [toPy] at et
          cases ez : toPys l with
          | none => rw [ez] at et; cases et
          | some ps => rw [ez] at et; cases et; rfl
        | lis l =>
          simp only [toPy] at et
          cases ez : toPys l with
          | none => rw [ez] at et; cases et
          | some ps => rw [ez] at et; cases et; rfl
        | scr _ => cases et
        | ref _ => cases et
        | ty _ => cases et
        | _ => cases et; rfl
    | t :: u :: r, es =>
      simp only [toPys] at es
      cases et : toPy t with
      | none => rw [et] at es; cases es
      | some a =>
        cases eu : toPy u with
        | none => rw [et, eu] at es; cases es
        | some b =>
          cases er : toPys r with
          | none => rw [et, eu, er] at es; cases es
          | some c => rw [et, eu, er] at es; cases es; simp [PyData.eqv, PyData.eqvAll, isL1]
theorem eqT {xs ys : List D} {n : Nat} {h : DH} {Q : VK'} (hv : val (.tup xs) n = true) (hn : n ≤ 64 := by decide) (hy : vals ys 63 = true := by simp only [vals, val, sok_of, Bool.and_self]) : opEq (.tup xs) (.tup ys) h Q = Q (.bl (deq (.tup xs) (.tup ys))) h := by
  show (dOk (.tup xs) ∧ dOk (.tup ys) ∧ _) = _
  exact propext ⟨fun q => q.2.2, fun q => ⟨val_ok hv hn, val_ok (n := 64) (by simpa [val] using hy) (by decide), q⟩⟩
def sp_is_letter (n : Nat) : Sp' := fun ds h Q _ => ∃ k v, ds = [kD k, v] ∧ k.depth ≤ n ∧ val v 40 = true ∧ Q (.bl (isL k v)) h
theorem rd_is_letter (n : Nat) (ds : List D) (h : DH) (Q : VK') (E' : XK') (q : sp_is_letter (n + 1) ds h Q E') : t_is_letter sp_is_integer (sp_is_letter n) (ends Q) (slots n_is_letter ds) h := by
  obtain ⟨k, v, rfl, hk, hv, q⟩ := q
  show t_is_letter _ _ (ends Q) [some (kD k), some v, none] h
  unfold t_is_letter
  have pv := val_plain hv
  cases k with
  | nm ns =>
    simp only [kD]
    cases v with
    | str x =>
      ((walk_at "dl7"); repeat (simp only [flat_str, inD_str]; (walk_at "dl7")))
      exact ⟨rfl, fin q⟩
    | scr _ => cases pv
    | ref _ => cases pv
    | ty _ => cases pv
    | _ => walk_at "dl7"; exact fin q
  | it =>
    simp only [kD]
    walk_at "dl7"
    refine ⟨v, rfl, pv, fin ?_⟩
    cases v <;> exact q
  | pr a b =>
    simp only [kD]
    have hd : a.depth ≤ n ∧ b.depth ≤ n := by simp only [Kd.depth] at hk; omega
    cases v with
    | tup xs =>
      by_cases hl : xs.length = 3
      · obtain ⟨t, x, y, rfl⟩ : ∃ t x y, xs = [t, x, y] := by
          match xs, hl with
          | [t, x, y], _ => exact ⟨t, x, y, rfl⟩
        simp only [val, vals, Bool.and_eq_true] at hv
        ((walk_at "dl7"); repeat (simp only [eqS (val_ok hv.1)]; (walk_at "dl7")))
        refine sif_i (fun c => ?_) (fun c => ?_)
        · walk_at "dl7"
          refine ⟨a, x, rfl, hd.1, val_mono _ _ _ (by decide) hv.2.1, ?_⟩
          walk_at "dl7"
          refine sif_i (fun c2 => ?_) (fun c2 => ?_)
          · walk_at "dl7"
            refine ⟨b, y, rfl, hd.2, val_mono _ _ _ (by decide) hv.2.2.1, fin ?_⟩
            simp only [isL, c, c2, Bool.true_and] at q
            exact q
          · simp only [isL, c, c2, Bool.true_and, Bool.false_and] at q
            exact fin q
        · simp only [isL, c, Bool.false_and] at q
          exact fin q
      · have e : decide ((xs.length : Int) = 3) = false := decide_eq_false (by omega)
        ((walk_at "dl7"); repeat (simp only [e]; (walk_at "dl7")))
        rw [isL_pr hl] at q
        exact fin q
    | scr _ => cases pv
    | ref _ => cases pv
    | ty _ => cases pv
    | _ => walk_at "dl7"; exact fin q
  | ei ks =>
    simp only [kD]
    have hd : Kd.depths ks ≤ n := by simp only [Kd.depth] at hk; omega
    cases v with
    | tup xs =>
      by_cases hl : xs.length = 3
      · obtain ⟨t, x, y, rfl⟩ : ∃ t x y, xs = [t, x, y] := by
          match xs, hl with
          | [t, x, y], _ => exact ⟨t, x, y, rfl⟩
        simp only [val, vals, Bool.and_eq_true] at hv
        ((walk_at "dl7"); repeat (simp only [neS (val_ok hv.1)]; (walk_at "dl7")))
        refine sif_i (fun c => ?_) (fun c => ?_)
        · rw [Bool.not_eq_true'] at c
          have z : isL (.ei ks) (.tup [t, x, y]) = false := by
            cases x <;> first | rfl | (simp only [isL, c, Bool.false_and])
          rw [z] at q
          walk_at "dl7"
          exact fin q
        · rw [Bool.not_eq_false'] at c
          walk_at "dl7"
          refine ⟨x, rfl, val_plain hv.2.1, ?_⟩
          cases x with
          | int i =>
            ((walk_at "dl7"); repeat (simp only [isInt, len_kDs]; (walk_at "dl7")))
            by_cases h0 : 0 ≤ i
            · ((walk_at "dl7"); repeat (simp only [h0, len_kDs]; (walk_at "dl7")))
              by_cases h1 : i < (ks.length : Int)
              · ((walk_at "dl7"); repeat (simp only [h1]; (walk_at "dl7")))
                have hi : i.toNat < ks.length := by omega
                have eg := List.getElem?_eq_getElem hi
                rw [q_ixt]
                refine ⟨_, atI_kDs h0 eg, ?_⟩
                refine ⟨_, y, rfl, Nat.le_trans (Kd.depth_mem (List.getElem_mem hi)) hd, val_mono _ _ _ (by decide) hv.2.2.1, fin ?_⟩
                simp only [isL, c, isLn_get, eg, Bool.true_and, decide_eq_true h0] at q
                exact q
              · ((walk_at "dl7"); repeat (simp only [h1]; (walk_at "dl7")))
                simp only [isL, c, isLn_get, Bool.true_and, decide_eq_true h0, List.getElem?_eq_none (show ks.length ≤ i.toNat by omega)] at q
                exact fin q
            · ((walk_at "dl7"); repeat (simp only [h0]; (walk_at "dl7")))
              simp only [isL, decide_eq_false h0, Bool.false_and, Bool.and_false] at q
              exact fin q
          | _ => ((walk_at "dl7"); repeat (simp only [isInt]; (walk_at "dl7"))); exact fin q
      · have e : decide ((xs.length : Int) = 3) = false := decide_eq_false (by omega)
        ((walk_at "dl7"); repeat (simp only [e]; (walk_at "dl7")))
        rw [isL_ei hl] at q
        exact fin q
    | scr _ => cases pv
    | ref _ => cases pv
    | ty _ => cases pv
    | _ => walk_at "dl7"; exact fin q
  | mb k =>
    simp only [kD]
    have hd : k.depth ≤ n := by simp only [Kd.depth] at hk; omega
    cases v with
    | tup xs =>
      have hn : deq (.tup xs) (.tup [.str "none"]) = isL1 xs := deq_none hv
      ((walk_at "dl7"); repeat (simp only [eqT (ys := [.str "none"]) hv, hn]; (walk_at "dl7")))
      refine sif_i (fun c => ?_) (fun c => ?_)
      · obtain ⟨t, rfl, e⟩ := isL1_get c
        simp only [isL, e] at q
        exact fin q
      · walk_at "dl7"
        by_cases hl : xs.length = 2
        · obtain ⟨t, x, rfl⟩ : ∃ t x, xs = [t, x] := by
            match xs, hl with
            | [t, x], _ => exact ⟨t, x, rfl⟩
          simp only [val, vals, Bool.and_eq_true] at hv
          ((walk_at "dl7"); repeat (simp only [eqS (val_ok hv.1)]; (walk_at "dl7")))
          refine sif_i (fun c => ?_) (fun c => ?_)
          · walk_at "dl7"
            refine ⟨k, x, rfl, hd, val_mono _ _ _ (by decide) hv.2.1, fin ?_⟩
            simp only [isL, c, Bool.true_and] at q
            exact q
          · simp only [isL, c, Bool.false_and] at q
            exact fin q
        · have e : decide ((xs.length : Int) = 2) = false := decide_eq_false (by omega)
          ((walk_at "dl7"); repeat (simp only [e]; (walk_at "dl7")))
          have z : isL (.mb k) (.tup xs) = false := by
            by_cases h1 : xs.length = 1
            · obtain ⟨t, rfl⟩ : ∃ t, xs = [t] := by
                match xs, h1 with
                | [t], _ => exact ⟨t, rfl⟩
              simp only [isL]
              exact c
            · exact isL_mb h1 hl
          rw [z] at q
          exact fin q
    | scr _ => cases pv
    | ref _ => cases pv
    | ty _ => cases pv
    | _ => walk_at "dl7"; exact fin q
theorem rd__law_whole (ds : List D) (h : DH) (Q : VK') (E' : XK') (q : sp_is_integer ds h Q E') : t__law_whole (ends Q) (slots n__law_whole ds) h := by
  obtain ⟨v, rfl, hv, q⟩ := q
  show t__law_whole (ends Q) [some v] h
  unfold t__law_whole
  cases v with
  | scr _ => cases hv
  | ref _ => cases hv
  | ty _ => cases hv
  | _ => walk_at "dl7"; exact fin q
theorem rd__law_tape (ds : List D) (h : DH) (Q : VK') (E' : XK') (q : spTape ds h Q E') : t__law_tape (ends Q) (slots n__law_tape ds) h := by
  obtain ⟨ns, rfl, q⟩ := q
  show t__law_tape (ends Q) [some (.scr ns), none, none] h
  unfold t__law_tape
  walk_at "dl7"
  refine for_ind (fun xs τ g => ∃ (ms : List Int) (c : Option D) (m : Int), xs = ms.map .int ∧ τ = [some (.scr ns), some (.int m), c] ∧ 0 ≤ m ∧ g = h) ?_ ?_ _ _ _ ⟨ns, none, 7, rfl, rfl, by decide, rfl⟩
  · rintro τ g ⟨ms, c, m, e, rfl, hm, rfl⟩
    rw [q_fnil]
    walk_at "dl7"
    intro p np
    exact fin (q p _ np ⟨ns, 0, 0, m, rfl, by omega, by omega, hm⟩)
  · rintro x xs ih τ g ⟨ms, c, m, e, rfl, hm, rfl⟩
    cases ms with
    | nil => cases e
    | cons n ms =>
      cases e
      rw [q_fcons]
      walk_at "dl7"
      exact ih _ _ ⟨ms, _, _, rfl, rfl, Int.emod_nonneg _ (by decide), rfl⟩
theorem rd__law_draw (ds : List D) (h : DH) (Q : VK') (E' : XK') (q : spDraw ds h Q E') : t__law_draw (ends Q) (slots n__law_draw ds) h := by
  obtain ⟨a, k, rfl, ⟨t, ea, ns, p, n, m, rfl, hp, hn, hm⟩, hk, q⟩ := q
  show t__law_draw (ends Q) [some (.ref a), some (.int k), none, none] h
  unfold t__law_draw
  unfold tapeO at ea
  have km : (0 : Int) < max k 1 := by omega
  have k2 : (0 : Int) < max k 2 ∧ max k 2 < 1606938044258990275541962092341162602522202993782792835301376 := by omega
  have out : ∀ (x p' n' m' : Int), 0 ≤ p' → 0 ≤ n' → 0 ≤ m' → Q (.int (x % max k 1)) (put h a (.lst [.lis (ns.map .int), .int p', .int n', .int m'])) := fun x p' n' m' h1 h2 h3 =>
    q _ _ (Int.emod_nonneg _ (show max k 1 ≠ 0 by omega)) (Int.emod_lt_of_pos _ km) ⟨ns, p', n', m', rfl, h1, h2, h3⟩
  walk_at "dl7"
  -- behind the first draw of a number: n' is the number
  refine ⟨fun τ g => ∃ (x y : Option D) (p' n' m' : Int), τ = [some (.ref a), some (.int k), x, y] ∧ 0 ≤ p' ∧ 0 ≤ n' ∧ 0 ≤ m' ∧ g = put h a (.lst [.lis (ns.map .int), .int p', .int n', .int m']), ?_, ?_⟩
  · ((walk_at "dl7"); repeat (simp only [ownK, ea]; (walk_at "dl7")))
    refine sif_i (fun c => ?_) (fun c => ?_)
    · have c := of_decide_eq_true c
      subst c
      ((walk_at "dl7"); repeat (simp only [ownK, ea]; (walk_at "dl7")))
      refine ⟨fun τ g => ∃ (u m' : Int), τ = [some (.ref a), some (.int k), some (.int p), some (.int u)] ∧ 0 ≤ u ∧ 0 ≤ m' ∧ g = put h a (.lst [.lis (ns.map .int), .int p, .int 0, .int m']), ?_, ?_⟩
      · ((walk_at "dl7"); repeat (simp only [ownK, ea, List.length_map]; (walk_at "dl7")))
        refine sif_i (fun c => ?_) (fun c => ?_)
        · have c := of_decide_eq_true c
          have hp2 : p.toNat < ns.length := by omega
          have e : atI (ns.map D.int) p = some (.int ns[p.toNat]) := by
            have z : atI (ns.map D.int) ((p.toNat : Nat) : Int) = some (.int ns[p.toNat]) := atI_nat (by rw [List.getElem?_map, List.getElem?_eq_getElem hp2]; rfl)
            rwa [show ((p.toNat : Nat) : Int) = p by omega] at z
          ((walk_at "dl7"); repeat (simp only [ownK, ea]; (walk_at "dl7")))
          rw [q_ixl]
          refine ⟨_, e, ?_⟩
          walk_at "dl7"
          exact ⟨_, m, rfl, by omega, hm, by rw [put_get ea]⟩
        · ((walk_at "dl7"); repeat (simp only [ownK, ea]; (walk_at "dl7")))
          exact ⟨_, _, rfl, Int.emod_nonneg _ (by decide), Int.emod_nonneg _ (by decide), rfl⟩
      · rintro τ g ⟨u, m', rfl, hu, hm', rfl⟩
        ((walk_at "dl7"); repeat (simp only [ownK]; (walk_at "dl7")))
        refine sif_i ?_ ?_
        · intro c
          ((walk_at "dl7"); repeat (simp only [km]; (walk_at "dl7")))
          exact fin (out _ _ _ _ (by omega) (by omega) hm')
        · intro c
          ((walk_at "dl7"); repeat (simp only [ownK]; (walk_at "dl7")))
          exact ⟨_, _, _, _, _, rfl, by omega, hu, hm', rfl⟩
    · walk_at "dl7"
      exact ⟨_, _, p, n, m, rfl, hp, hn, hm, by rw [put_get ea]⟩
  · rintro τ g ⟨x, y, p', n', m', rfl, hp', hn', hm', rfl⟩
    ((walk_at "dl7"); repeat (simp only [ownK, km, k2]; (walk_at "dl7")))
    exact fin (out _ _ _ _ hp' (Int.ediv_nonneg hn' (by omega)) hm')
end K00

set_option Elab.async false
set_option linter.all false
set_option maxRecDepth 100000
set_option maxHeartbeats 1000000
namespace K00
open PySem PySem.Spec PyProof.Rows L2 DL
def spNames : Sp' := fun ds h Q _ => ∃ a, ds = [.ref a] ∧ Tp h a ∧ ∀ ns t, namesOk ns → TOk t → Q (.tup (ns.map .str)) (put h a t)
def Sg (d : D) : Prop := ∃ s : Str, d = .str s ∧ PyData.strOk s = true ∧ s.length ≤ 6
theorem rd__law_names (ds : List D) (h : DH) (Q : VK') (E' : XK') (q : spNames ds h Q E') : t__law_names spDraw (ends Q) (slots n__law_names ds) h := by
  obtain ⟨a, rfl, tp, q⟩ := q
  show t__law_names _ (ends Q) [some (.ref a), none, none, none, none, none, none] h
  unfold t__law_names
  walk_at "dl7"
  refine drw tp fun r t r0 r1 ot => ?_
  rw [q_ixl]
  obtain ⟨d, e, m⟩ := pick (xs := [D.str "", .str "", .str "", .str "case", .str "a ,"]) r0 (by simp only [List.length_cons, List.length_nil]; omega)
  refine ⟨d, e, ?_⟩
  have hd : Sg d := by
    simp only [List.mem_cons, List.not_mem_nil, or_false] at m
    rcases m with rfl | rfl | rfl | rfl | rfl <;> exact ⟨_, rfl, sok_of _, by decide⟩
  obtain ⟨stem, rfl, so, sl⟩ := hd
  walk_at "dl7"
  intro p np
  have pa := ne_put np
  have nh := free_put np
  refine drwU pa ot fun r t r0 r1 ot => ?_
  walk_at "dl7"
  rw [q_ixl]
  obtain ⟨d, e, m⟩ := pick (xs := [D.int 1, .int 2, .int 2, .int 3, .int 3, .int 4]) r0 (by simp only [List.length_cons, List.length_nil]; omega)
  refine ⟨d, e, ?_⟩
  obtain ⟨j, rfl, j1, j4⟩ : ∃ j : Int, d = .int j ∧ 1 ≤ j ∧ j ≤ 4 := by
    simp only [List.mem_cons, List.not_mem_nil, or_false] at m
    rcases m with rfl | rfl | rfl | rfl | rfl | rfl <;> exact ⟨_, rfl, by decide, by decide⟩
  walk_at "dl7"
  refine ⟨by omega, by omega, ?_⟩
  have lz : (Str.ofString "abcdexyzABZ0189 !\"#$&'()*+,-./:;<=>?\x40[\\]^_{|}~").length = 46 := by decide +kernel
  have oz : PyData.strOk (Str.ofString "abcdexyzABZ0189 !\"#$&'()*+,-./:;<=>?\x40[\\]^_{|}~") = true := sok_of _
  generalize (Str.ofString "abcdexyzABZ0189 !\"#$&'()*+,-./:;<=>?\x40[\\]^_{|}~") = z at lz oz ⊢
  have hl : (rngD 0 j.toNat).length = j.toNat := by unfold rngD; rw [List.length_map, List.length_range]
  refine for_ind (fun xs τ g => ∃ (ns : List Str) (k name : Option D) (t : DO), τ = [some (.ref a), some (.str z), some (.lis [.str "none", .str "pair", .str "case", .str "some", .str "true", .str "0"]), some (.str stem), some (.ref p), k, name] ∧
    TOk t ∧ g = put (put h a t) p (.lst (ns.map .str)) ∧ ns.length + xs.length ≤ 4 ∧ (1 ≤ ns.length ∨ xs ≠ []) ∧ ∀ x ∈ ns, PyData.strOk x = true) ?_ ?_ _ _ _ ⟨[], none, none, t, rfl, ot, rfl, by rw [hl]; simp only [List.length_nil]; omega, ?_, by simp⟩
  · rintro τ g ⟨ns, k, name, t, rfl, ot, rfl, l4, l1, ho⟩
    rw [q_fnil]
    ((walk_at "dl7"); repeat (simp only [ownK]; (walk_at "dl7")))
    refine ⟨put h a t, Sub.put Sub.refl ?_, q ns t ⟨?_, ?_, ho⟩ ot⟩
    · rw [put_ne pa]; exact nh
    · rcases l1 with l1 | l1
      · exact l1
      · exact absurd rfl l1
    · simp only [List.length_nil] at l4; omega
  · rintro x xs ih τ g ⟨ns, k, name, t, rfl, ot, rfl, l4, l1, ho⟩
    rw [q_fcons]
    walk_at "dl7"
    have sz : z.length ≤ sizeLine := by rw [lz]; decide
    refine ⟨sz, ?_⟩
    have sg : ∀ {r : Int}, 0 ≤ r → r < max (z.length : Int) 1 → ∃ c, atI z.cps.toList r = some c ∧ PyData.strOk ⟨#[c]⟩ = true := fun {r} h0 h1 => by
      obtain ⟨c, e, m⟩ := pick (xs := z.cps.toList) h0 (by
        have : z.cps.toList.length = 46 := by rw [Array.length_toList]; exact lz
        rw [this]
        rw [lz] at h1
        omega)
      exact ⟨c, e, sign_ok oz m⟩
    refine drwU pa ot (fun r t r0 r1 ot => ?_) (by rw [lz]; decide)
    walk_at "dl7"
    rw [q_ixs]
    obtain ⟨c, ec, oc⟩ := sg r0 r1
    refine ⟨sz, c, ec, ?_⟩
    have small : ∀ {n : Nat}, n ≤ 20 → n ≤ sizeLine := fun h => Nat.le_trans h (by decide)
    walk_at "dl7"
    have c1 : (⟨#[c]⟩ : Str).length = 1 := rfl
    refine ⟨small (by omega), ?_⟩
    let M : St' → DH → Prop := fun τ g => ∃ (nm : Str) (t : DO), τ = [some (.ref a), some (.str z), some (.lis [.str "none", .str "pair", .str "case", .str "some", .str "true", .str "0"]), some (.str stem), some (.ref p), some x, some (.str nm)] ∧
      PyData.strOk nm = true ∧ nm.length ≤ 8 ∧ TOk t ∧ g = put (put h a t) p (.lst (ns.map .str))
    refine ⟨M, ?_, ?_⟩
    · walk_at "dl7"
      refine drwU pa ot (fun r t r0 r1 ot => ?_)
      walk_at "dl7"
      refine sif_i (fun c => ?_) (fun c => ?_)
      · walk_at "dl7"
        refine ⟨sz, ?_⟩
        refine drwU pa ot (fun r t r0 r1 ot => ?_) (by rw [lz]; decide)
        walk_at "dl7"
        rw [q_ixs]
        obtain ⟨c', ec', oc'⟩ := sg r0 r1
        refine ⟨sz, c', ec', ?_⟩
        have c2 : (⟨#[c']⟩ : Str).length = 1 := rfl
        walk_at "dl7"
        exact ⟨small (by rw [str_len]; omega), _, _, rfl, str_ok (str_ok so oc) oc', by rw [str_len, str_len]; omega, ot, rfl⟩
      · walk_at "dl7"
        exact ⟨_, _, rfl, str_ok so oc, by rw [str_len]; omega, ot, rfl⟩
    · rintro τ g ⟨nm, t, rfl, on, ln, ot, rfl⟩
      walk_at "dl7"
      refine ⟨M, ?_, ?_⟩
      · walk_at "dl7"
        refine drwU pa ot (fun r t r0 r1 ot => ?_)
        walk_at "dl7"
        refine sif_i (fun c => ?_) (fun c => ?_)
        · walk_at "dl7"
          refine drwU pa ot (fun r t r0 r1 ot => ?_)
          walk_at "dl7"
          rw [q_ixl]
          obtain ⟨d, e, m⟩ := pick (xs := [D.str "none", .str "pair", .str "case", .str "some", .str "true", .str "0"]) r0 (by simp only [List.length_cons, List.length_nil]; omega)
          refine ⟨d, e, ?_⟩
          have hd : Sg d := by
            simp only [List.mem_cons, List.not_mem_nil, or_false] at m
            rcases m with rfl | rfl | rfl | rfl | rfl | rfl <;> exact ⟨_, rfl, sok_of _, by decide⟩
          obtain ⟨nm, rfl, on, ln⟩ := hd
          walk_at "dl7"
          exact ⟨_, _, rfl, on, by omega, ot, rfl⟩
        · walk_at "dl7"
          exact ⟨_, _, rfl, on, ln, ot, rfl⟩
      · rintro τ g ⟨nm, t, rfl, on, ln, ot, rfl⟩
        refine ⟨_, ?_, fun _ _ q => q⟩
        ((walk_at "dl7"); repeat (simp only [ownK, flat_str, inD_str]; (walk_at "dl7")))
        simp only [List.length_cons] at l4
        refine ⟨rfl, sif_i (fun c => ?_) (fun c => ?_)⟩
        · ((walk_at "dl7"); repeat (simp only [ownK]; (walk_at "dl7")))
          refine ⟨by rw [List.length_map]; exact Nat.lt_of_le_of_lt (show ns.length ≤ 4 by omega) (by decide), ?_⟩
          refine ih _ _ ⟨ns ++ [nm], _, _, t, rfl, ot, ?_, ?_, .inl ?_, ?_⟩
          · rw [List.map_append]; rfl
          · rw [List.length_append]; simp only [List.length_cons, List.length_nil]; omega
          · rw [List.length_append]; simp only [List.length_cons, List.length_nil]; omega
          · intro y hy
            rcases List.mem_append.mp hy with hy | hy
            · exact ho y hy
            · cases List.mem_singleton.mp hy; exact on
        · walk_at "dl7"
          refine ih _ _ ⟨ns, _, _, t, rfl, ot, rfl, by omega, .inl ?_, ho⟩
          cases ns with
          | nil => simp at c
          | cons n ns => simp only [List.length_cons]; omega
  · refine .inr fun e => ?_
    rw [e] at hl
    simp only [List.length_nil] at hl
    omega
end K00

set_option Elab.async false
set_option linter.all false
set_option maxRecDepth 100000
set_option maxHeartbeats 1000000
namespace K00
open PySem PySem.Spec PyProof.Rows L2 DL
def spKinds (n : Nat) : Sp' := fun ds h Q _ => ∃ k, ds = [kD k] ∧ k.depth ≤ n ∧ k.cnt ≤ 100 ∧ Q (.int k.cnt) h
theorem cnts_sum (ks : List Kd) : (ks.map fun k => (k.cnt : Int)).sum = (Kd.cnts ks : Int) := by
  induction ks with
  | nil => rfl
  | cons k ks ih => simp only [List.map_cons, List.sum_cons, ih, Kd.cnts]; omega
theorem rd__law_kinds (n : Nat) (ds : List D) (h : DH) (Q : VK') (E' : XK') (q : spKinds (n + 1) ds h Q E') : t__law_kinds (spKinds n) (ends Q) (slots n__law_kinds ds) h := by
  obtain ⟨k, rfl, hk, hc, q⟩ := q
  show t__law_kinds _ (ends Q) [some (kD k), none] h
  unfold t__law_kinds
  cases k with
  | nm ns =>
    simp only [kD]
    walk_at "dl7"
    exact fin q
  | it =>
    simp only [kD]
    walk_at "dl7"
    exact fin q
  | pr a b =>
    simp only [kD]
    simp only [Kd.depth] at hk
    simp only [Kd.cnt] at hc
    walk_at "dl7"
    refine ⟨a, rfl, by omega, by omega, ?_⟩
    walk_at "dl7"
    refine ⟨b, rfl, by omega, by omega, ?_⟩
    walk_at "dl7"
    simp only [Kd.cnt] at q
    exact fin (by
      have e : (1 + (a.cnt : Int) + (b.cnt : Int)) = ((1 + a.cnt + b.cnt : Nat) : Int) := by omega
      rw [e]; exact q)
  | ei ks =>
    simp only [kD]
    simp only [Kd.depth] at hk
    simp only [Kd.cnt] at hc
    walk_at "dl7"
    rw [q_lc]
    walk_at "dl7"
    intro p np
    refine lc_ind (fun xs acc g => ∃ d r, xs = kDs r ∧ acc = d.map (fun k : Kd => D.int k.cnt) ∧ d ++ r = ks ∧ g = put h p .hid) ?_ ?_ _ _ _ ⟨[], ks, rfl, rfl, rfl, rfl⟩
    · rintro acc g ⟨d, r, e, rfl, rfl, rfl⟩
      cases r with
      | cons _ _ => cases e
      | nil =>
        rw [q_lnil]
        walk_at "dl7"
        refine ⟨d.map fun k => (k.cnt : Int), by rw [List.map_map]; rfl, ?_⟩
        ((walk_at "dl7"); repeat (simp only [del_put np]; (walk_at "dl7")))
        simp only [Kd.cnt, List.append_nil] at q
        rw [cnts_sum]
        exact fin (by
          have e : (1 + (Kd.cnts d : Int)) = ((1 + Kd.cnts d : Nat) : Int) := by omega
          rw [e]; exact q)
    · rintro x xs ih acc g ⟨d, r, e, rfl, rfl, rfl⟩
      cases r with
      | nil => cases e
      | cons k r =>
        cases e
        rw [q_lcons]
        walk_at "dl7"
        have l1 := Kd.len_cnts (d ++ k :: r)
        have l2 := Kd.cnt_mem (ks := d ++ k :: r) (k := k) (by simp)
        have l3 := Kd.depth_mem (ks := d ++ k :: r) (k := k) (by simp)
        simp only [List.length_append, List.length_cons] at l1
        refine ⟨k, rfl, by omega, by omega, ?_⟩
        walk_at "dl7"
        refine ⟨Nat.lt_of_le_of_lt (show _ ≤ 100 by rw [List.length_map]; omega) (by decide), ih _ _ ⟨d ++ [k], r, rfl, by rw [List.map_append]; rfl, by rw [List.append_assoc]; rfl, rfl⟩⟩
  | mb k =>
    simp only [kD]
    simp only [Kd.depth] at hk
    simp only [Kd.cnt] at hc
    walk_at "dl7"
    refine ⟨k, rfl, by omega, by omega, ?_⟩
    walk_at "dl7"
    simp only [Kd.cnt] at q
    exact fin (by
      have e : (1 + (k.cnt : Int)) = ((1 + k.cnt : Nat) : Int) := by omega
      rw [e]; exact q)
/-- _law_integer(tape, top): an integer -/
def spInt : Sp' := fun ds h Q _ => ∃ a top, ds = [.ref a, .int top] ∧ 0 ≤ top ∧ top ≤ 1000000 ∧ Tp h a ∧ ∀ (r : Int) t, TOk t → Q (.int r) (put h a t)
theorem rd__law_integer (ds : List D) (h : DH) (Q : VK') (E' : XK') (q : spInt ds h Q E') : t__law_integer spDraw (ends Q) (slots n__law_integer ds) h := by
  obtain ⟨a, top, rfl, h0, h1, tp, q⟩ := q
  show t__law_integer _ (ends Q) [some (.ref a), some (.int top), none, none] h
  unfold t__law_integer
  walk_at "dl7"
  refine drw tp fun c t c0 c1 ot => ?_
  walk_at "dl7"
  rw [q_ixl]
  obtain ⟨d, e, m⟩ := pick (xs := [D.int 2, .int (top + 1), .int (top + 14), .int 1000000000, .int 999999999999999999999999999901]) c0 (by simp only [List.length_cons, List.length_nil]; omega)
  refine ⟨d, e, ?_⟩
  obtain ⟨j, rfl, j1, j2⟩ : ∃ j : Int, d = .int j ∧ 0 < j ∧ j < 1606938044258990275541962092341162602522202993782792835301376 := by
    simp only [List.mem_cons, List.not_mem_nil, or_false] at m
    rcases m with rfl | rfl | rfl | rfl | rfl
    · exact ⟨_, rfl, by decide, by decide⟩
    · exact ⟨_, rfl, by omega, by omega⟩
    · exact ⟨_, rfl, by omega, by omega⟩
    · exact ⟨_, rfl, by decide, by decide⟩
    · exact ⟨_, rfl, by decide, by decide⟩
  walk_at "dl7"
  refine drw (tp_put ot) (fun r t r0 r1 ot => ?_) j2
  walk_at "dl7"
  refine ⟨fun τ g => ∃ (u : Int) (t : DO), τ = [some (.ref a), some (.int top), some (.int c), some (.int u)] ∧ TOk t ∧ g = put h a t, ?_, ?_⟩
  · walk_at "dl7"
    refine sif_i (fun c3 => ?_) (fun c3 => ?_)
    · have c3 := of_decide_eq_true c3
      subst c3
      have e3 : atI [D.int 2, .int (top + 1), .int (top + 14), .int 1000000000, .int 999999999999999999999999999901] 3 = some (.int 1000000000) := rfl
      rw [e3] at e
      cases e
      walk_at "dl7"
      refine ⟨.inl ⟨by omega, by omega⟩, ?_⟩
      refine drw (tp_put ot) (fun r2 t r0 r1 ot => ?_)
      walk_at "dl7"
      exact ⟨_, _, rfl, ot, rfl⟩
    · walk_at "dl7"
      exact ⟨_, _, rfl, ot, rfl⟩
  · rintro τ g ⟨u, t, rfl, ot, rfl⟩
    walk_at "dl7"
    refine drw (tp_put ot) (fun r t r0 r1 ot => ?_)
    walk_at "dl7"
    rw [q_ixl]
    obtain ⟨d, e, m⟩ := pick (xs := [D.int u, .int (-u)]) r0 (by simp only [List.length_cons, List.length_nil]; omega)
    refine ⟨d, e, ?_⟩
    obtain ⟨v, rfl⟩ : ∃ v : Int, d = .int v := by
      simp only [List.mem_cons, List.not_mem_nil, or_false] at m
      rcases m with rfl | rfl <;> exact ⟨_, rfl⟩
    exact fin (q v t ot)
/-- _law_kind(tape, depth, many) -/
def spKind (n : Nat) : Sp' := fun ds h Q _ => ∃ (a : Addr) (d m : Int), ds = [.ref a, .int d, .int m] ∧ 1 ≤ d ∧ d ≤ n ∧ 1 ≤ m ∧ m ≤ 100 ∧ Tp h a ∧ ∀ k t, Kd.ok k → (k.depth : Int) ≤ d → (k.cnt : Int) ≤ m → TOk t → Q (kD k) (put h a t)
theorem rd__law_kind (n : Nat) (hn : n ≤ 50) (ds : List D) (h : DH) (Q : VK') (E' : XK') (q : spKind (n + 1) ds h Q E') : t__law_kind spDraw spNames (spKind n) (spKinds 50) (ends Q) (slots n__law_kind ds) h := by
  obtain ⟨a, d, m, rfl, d1, dn, m1, m9, tp, q⟩ := q
  show t__law_kind _ _ _ _ (ends Q) [some (.ref a), some (.int d), some (.int m), none, none, none, none, none, none, none] h
  unfold t__law_kind
  walk_at "dl7"
  refine drw tp fun c t c0 c1 ot => ?_
  walk_at "dl7"
  refine sif_i (fun b1 => ?_) (fun b1 => ?_)
  · walk_at "dl7"
    refine drw (tp_put ot) fun r t r0 r1 ot => ?_
    walk_at "dl7"
    refine sif_i (fun b2 => ?_) (fun b2 => ?_)
    · walk_at "dl7"
      refine ⟨a, rfl, tp_put ot, fun ns t hns ot => ?_⟩
      walk_at "dl7"
      exact fin (q (.nm ns) t hns (by simp only [Kd.depth]; omega) (by simp only [Kd.cnt]; omega) ot)
    · walk_at "dl7"
      exact fin (q .it t trivial (by simp only [Kd.depth]; omega) (by simp only [Kd.cnt]; omega) ot)
  · simp only [Bool.or_eq_false_iff, decide_eq_false_iff_not] at b1
    walk_at "dl7"
    refine sif_i (fun b2 => ?_) (fun b2 => ?_)
    · walk_at "dl7"
      refine ⟨a, d - 1, m - 1, rfl, by omega, by omega, by omega, by omega, tp_put ot, fun k t hk kd kc ot => ?_⟩
      walk_at "dl7"
      exact fin (q (.mb k) t hk (by simp only [Kd.depth]; omega) (by simp only [Kd.cnt]; omega) ot)
    · simp only [Bool.or_eq_false_iff, decide_eq_false_iff_not] at b2
      walk_at "dl7"
      refine sif_i (fun b3 => ?_) (fun b3 => ?_)
      · walk_at "dl7"
        refine ⟨a, d - 1, m - 2, rfl, by omega, by omega, by omega, by omega, tp_put ot, fun k t hk kd kc ot => ?_⟩
        walk_at "dl7"
        refine ⟨k, rfl, by omega, by omega, ?_⟩
        walk_at "dl7"
        refine ⟨a, d - 1, m - 1 - k.cnt, rfl, by omega, by omega, by omega, by omega, tp_put ot, fun k2 t hk2 kd2 kc2 ot => ?_⟩
        walk_at "dl7"
        exact fin (q (.pr k k2) t ⟨hk, hk2⟩ (by simp only [Kd.depth]; omega) (by simp only [Kd.cnt]; omega) ot)
      · walk_at "dl7"
        refine drw (tp_put ot) (fun r t r0 r1 ot => ?_) (by omega)
        walk_at "dl7"
        intro p np
        have pa := ne_put np
        have nh := free_put np
        refine ⟨by omega, by omega, ?_⟩
        refine for_ind (fun xs τ g => ∃ (i left : Int) (rem : Nat) (dn : List Kd) (t : DO) (x y : Option D), xs = rngD i rem ∧ τ = [some (.ref a), some (.int d), some (.int m), some (.int c), none, some (.int left), some (.int (1 + r)), some (.ref p), x, y] ∧
          1 + r = i + rem ∧ (rem : Int) ≤ left ∧ (Kd.cnts dn : Int) + left = m - 1 ∧ (dn.length : Int) = i ∧ (Kd.depths dn : Int) ≤ d - 1 ∧ Kd.oks dn ∧ g = put (put h a t) p (.lst (kDs dn)) ∧ TOk t) ?_ ?_ _ _ _
          ⟨0, m - 1, (1 + r).toNat, [], t, none, none, rfl, rfl, by omega, by omega, by simp [Kd.cnts], rfl, by simp only [Kd.depths]; omega, trivial, rfl, ot⟩
        · rintro τ g ⟨i, left, rem, dn, t, x, y, e, rfl, e1, e2, e3, e4, e5, e6, rfl, ot⟩
          rw [q_fnil]
          ((walk_at "dl7"); repeat (simp only [ownK]; (walk_at "dl7")))
          have e0 : rem = 0 := by
            cases rem with
            | zero => rfl
            | succ n => rw [rngD_succ] at e; cases e
          subst e0
          exact ⟨put h a t, Sub.put Sub.refl (by rw [put_ne pa]; exact nh), q (.ei dn) t ⟨by omega, e6⟩ (by simp only [Kd.depth]; omega) (by simp only [Kd.cnt]; omega) ot⟩
        · rintro x xs ih τ g ⟨i, left, rem, dn, t, u, v, e, rfl, e1, e2, e3, e4, e5, e6, rfl, ot⟩
          cases rem with
          | zero => cases e
          | succ rem =>
            rw [rngD_succ] at e
            cases e
            rw [q_fcons]
            walk_at "dl7"
            refine ⟨a, d - 1, left - (1 + r - 1 - i), rfl, by omega, by omega, by omega, by omega, tp_under pa ot, fun k t hk kd kc ot => ?_⟩
            rw [put3 pa]
            ((walk_at "dl7"); repeat (simp only [ownK]; (walk_at "dl7")))
            have ln := Kd.len_cnts dn
            refine ⟨Nat.lt_of_le_of_lt (show _ ≤ 100 by rw [len_kDs]; omega) (by decide), ?_⟩
            refine ⟨k, rfl, by omega, by omega, ?_⟩
            walk_at "dl7"
            refine ih _ _ ⟨i + 1, left - k.cnt, rem, dn ++ [k], t, _, _, rfl, rfl, by omega, by omega, ?_, ?_, ?_, ?_, ?_, ot⟩
            · rw [Kd.cnts_app]; simp only [Kd.cnts]; omega
            · rw [List.length_append]; simp only [List.length_cons, List.length_nil]; omega
            · rw [Kd.depths_app]; simp only [Kd.depths]; omega
            · rw [Kd.oks_mem] at e6 ⊢
              intro z hz
              rcases List.mem_append.mp hz with hz | hz
              · exact e6 z hz
              · cases List.mem_singleton.mp hz; exact hk
            · rw [kDs_app]; rfl
end K00

set_option Elab.async false
set_option linter.all false
set_option maxRecDepth 100000
set_option maxHeartbeats 1000000
namespace K00
open PySem PySem.Spec PyProof.Rows L2 DL
/-- a letter of the kind, with its bounds -/
def Let (k : Kd) (v : D) : Prop := isL k v = true ∧ val v k.depth = true ∧ wid v 3 = true
/-- _law_letter(tape, kind, theory) -/
def spLetter (n : Nat) : Sp' := fun ds h Q _ => ∃ (a : Addr) (k : Kd) (top : Int) (x : D), ds = [.ref a, kD k, .tup [.int top, x]] ∧ k.ok ∧ k.depth ≤ n ∧ k.cnt ≤ 100 ∧ 0 ≤ top ∧ top ≤ 1000000 ∧ Tp h a ∧ ∀ v t, Let k v → TOk t → Q v (put h a t)
theorem let_pr {a b : Kd} {x y : D} (p : Let a x) (q : Let b y) : Let (.pr a b) (.tup [.str "pair", x, y]) := by
  obtain ⟨p1, p2, p3⟩ := p
  obtain ⟨q1, q2, q3⟩ := q
  refine ⟨?_, ?_, ?_⟩
  · simp only [isL, isStr, decide_true, Bool.true_and, p1, q1]
  · show val _ (1 + max a.depth b.depth) = true
    rw [Nat.add_comm]
    simp only [val, vals, sok_of, Bool.true_and, Bool.and_true, Bool.and_eq_true]
    exact ⟨val_mono _ _ _ (by omega) p2, val_mono _ _ _ (by omega) q2⟩
  · simp only [wid, wids, p3, q3]; rfl
theorem let_ei {ks : List Kd} {k : Kd} {x : D} {i : Int} (h0 : 0 ≤ i) (e : ks[i.toNat]? = some k) (p : Let k x) : Let (.ei ks) (.tup [.str "case", .int i, x]) := by
  obtain ⟨p1, p2, p3⟩ := p
  have m := Kd.depth_mem (List.mem_of_getElem? e)
  refine ⟨?_, ?_, ?_⟩
  · simp only [isL, isStr, isLn_get, e, decide_true, Bool.true_and, p1, decide_eq_true h0]
  · show val _ (1 + Kd.depths ks) = true
    rw [Nat.add_comm]
    simp only [val, vals, sok_of, Bool.true_and, Bool.and_true]
    exact val_mono _ _ _ m p2
  · simp only [wid, wids, p3]; rfl
theorem let_mb {k : Kd} {x : D} (p : Let k x) : Let (.mb k) (.tup [.str "some", x]) := by
  obtain ⟨p1, p2, p3⟩ := p
  refine ⟨?_, ?_, ?_⟩
  · simp only [isL, isStr, decide_true, Bool.true_and, p1]
  · show val _ (1 + k.depth) = true
    rw [Nat.add_comm]
    simp only [val, vals, sok_of, Bool.true_and, Bool.and_true]
    exact p2
  · simp only [wid, wids, p3]; rfl
theorem let_no {k : Kd} : Let (.mb k) (.tup [.str "none"]) := by
  refine ⟨by simp only [isL, isStr, decide_true], ?_, rfl⟩
  show val _ (1 + k.depth) = true
  rw [Nat.add_comm]
  simp only [val, vals, sok_of, Bool.and_true]
theorem rd__law_letter (n : Nat) (ds : List D) (h : DH) (Q : VK') (E' : XK') (q : spLetter (n + 1) ds h Q E') : t__law_letter spDraw spInt (spLetter n) (ends Q) (slots n__law_letter ds) h := by
  obtain ⟨a, k, top, x, rfl, hk, hd, hc, t0, t1, tp, q⟩ := q
  show t__law_letter _ _ _ (ends Q) [some (.ref a), some (kD k), some (.tup [.int top, x]), none, none] h
  unfold t__law_letter
  cases k with
  | nm ns =>
    simp only [kD]
    obtain ⟨n1, n4, no⟩ := hk
    walk_at "dl7"
    refine drw tp (fun r t r0 r1 ot => ?_) (by rw [List.length_map]; omega)
    walk_at "dl7"
    rw [q_ixt]
    obtain ⟨d, e, m⟩ := pick (xs := ns.map D.str) r0 (by rw [List.length_map] at r1 ⊢; omega)
    obtain ⟨s, ms, rfl⟩ := List.mem_map.mp m
    exact ⟨_, e, fin (q (.str s) t ⟨by simpa [isL] using ms, no s ms, rfl⟩ ot)⟩
  | it =>
    simp only [kD]
    walk_at "dl7"
    exact ⟨a, top, rfl, t0, t1, tp, fun r t ot => fin (q (.int r) t ⟨rfl, rfl, rfl⟩ ot)⟩
  | pr k1 k2 =>
    simp only [kD]
    simp only [Kd.depth] at hd
    simp only [Kd.cnt] at hc
    walk_at "dl7"
    refine ⟨a, k1, top, x, rfl, hk.1, by omega, by omega, t0, t1, tp, fun u t lu ot => ?_⟩
    walk_at "dl7"
    refine ⟨a, k2, top, x, rfl, hk.2, by omega, by omega, t0, t1, tp_put ot, fun v t lv ot => ?_⟩
    walk_at "dl7"
    exact fin (q _ t (let_pr lu lv) ot)
  | ei ks =>
    simp only [kD]
    simp only [Kd.depth] at hd
    simp only [Kd.cnt] at hc
    have ln := Kd.len_cnts ks
    have l1 : 1 ≤ ks.length := hk.1
    walk_at "dl7"
    refine drw tp (fun r t r0 r1 ot => ?_) (by rw [len_kDs]; omega)
    rw [len_kDs] at r1
    have hr : r.toNat < ks.length := by omega
    have eg := List.getElem?_eq_getElem hr
    have mk := List.getElem_mem hr
    have m1 := Kd.depth_mem mk
    have m2 := Kd.cnt_mem mk
    walk_at "dl7"
    rw [q_ixt]
    refine ⟨_, atI_kDs r0 eg, ?_⟩
    refine ⟨a, ks[r.toNat], top, x, rfl, Kd.oks_mem.mp hk.2 _ mk, by omega, by omega, t0, t1, tp_put ot, fun v t lv ot => ?_⟩
    walk_at "dl7"
    exact fin (q _ t (let_ei r0 eg lv) ot)
  | mb k =>
    simp only [kD]
    simp only [Kd.depth] at hd
    simp only [Kd.cnt] at hc
    walk_at "dl7"
    refine drw tp (fun r t r0 r1 ot => ?_)
    walk_at "dl7"
    refine sif_i (fun c => ?_) (fun c => ?_)
    · walk_at "dl7"
      exact fin (q _ t let_no ot)
    · walk_at "dl7"
      refine ⟨a, k, top, x, rfl, hk, by omega, by omega, t0, t1, tp_put ot, fun v t lv ot => ?_⟩
      walk_at "dl7"
      exact fin (q _ t (let_mb lv) ot)
/-- _law_wild(tape, depth) -/
def spWild (n : Nat) : Sp' := fun ds h Q _ => ∃ (a : Addr) (d : Int), ds = [.ref a, .int d] ∧ 0 ≤ d ∧ d < n ∧ Tp h a ∧ ∀ v t, val v d.toNat = true → wid v 3 = true → TOk t → Q v (put h a t)
theorem rd__law_wild (n : Nat) (ds : List D) (h : DH) (Q : VK') (E' : XK') (q : spWild (n + 1) ds h Q E') : t__law_wild spDraw spInt (spWild n) (ends Q) (slots n__law_wild ds) h := by
  obtain ⟨a, d, rfl, h0, hd, tp, q⟩ := q
  show t__law_wild _ _ _ (ends Q) [some (.ref a), some (.int d), none, none] h
  unfold t__law_wild
  walk_at "dl7"
  refine drw tp (fun c t c0 c1 ot => ?_)
  walk_at "dl7"
  refine sif_i (fun b => ?_) (fun b => ?_)
  · walk_at "dl7"
    refine drw (tp_put ot) (fun r t r0 r1 ot => ?_)
    walk_at "dl7"
    rw [q_ixl]
    obtain ⟨v, e, m⟩ := pick (xs := [D.bl true, .bl false, .non]) r0 (by simp only [List.length_cons, List.length_nil]; omega)
    refine ⟨v, e, fin (q v t ?_ ?_ ot)⟩ <;> (simp only [List.mem_cons, List.not_mem_nil, or_false] at m; rcases m with rfl | rfl | rfl <;> rfl)
  · walk_at "dl7"
    refine sif_i (fun b2 => ?_) (fun b2 => ?_)
    · walk_at "dl7"
      refine ⟨a, 20, rfl, by decide, by decide, tp_put ot, fun u t ot => ?_⟩
      walk_at "dl7"
      refine drw (tp_put ot) (fun r t r0 r1 ot => ?_)
      walk_at "dl7"
      rw [q_ixl]
      obtain ⟨v, e, m⟩ := pick (xs := [D.int 0, .int 1, .int 2, .int (-1), .int u]) r0 (by simp only [List.length_cons, List.length_nil]; omega)
      refine ⟨v, e, fin (q v t ?_ ?_ ot)⟩ <;> (simp only [List.mem_cons, List.not_mem_nil, or_false] at m; rcases m with rfl | rfl | rfl | rfl | rfl <;> rfl)
    · walk_at "dl7"
      refine sif_i (fun b3 => ?_) (fun b3 => ?_)
      · walk_at "dl7"
        refine drw (tp_put ot) (fun r t r0 r1 ot => ?_)
        walk_at "dl7"
        rw [q_ixl]
        obtain ⟨v, e, m⟩ := pick (xs := [D.str "pair", .str "case", .str "some", .str "none", .str "a", .str ""]) r0 (by simp only [List.length_cons, List.length_nil]; omega)
        refine ⟨v, e, fin (q v t ?_ ?_ ot)⟩ <;> (simp only [List.mem_cons, List.not_mem_nil, or_false] at m; rcases m with rfl | rfl | rfl | rfl | rfl | rfl <;> first | exact sok_of _ | rfl)
      · simp only [Bool.or_eq_false_iff, decide_eq_false_iff_not] at b3
        walk_at "dl7"
        rw [q_lc]
        walk_at "dl7"
        refine drw (tp_put ot) (fun r t r0 r1 ot => ?_)
        walk_at "dl7"
        refine ⟨by omega, by omega, fun p np => ?_⟩
        have pa := ne_put np
        have nh := free_put np
        refine lc_ind (fun xs acc g => ∃ (i : Int) (rem : Nat) (t : DO), xs = rngD i rem ∧ acc.length + rem ≤ 3 ∧ (∀ v ∈ acc, val v (d - 1).toNat = true ∧ wid v 3 = true) ∧ g = put (put h a t) p .hid ∧ TOk t) ?_ ?_ _ _ _
          ⟨0, r.toNat, t, rfl, by simp only [List.length_nil]; omega, by simp, rfl, ot⟩
        · rintro acc g ⟨i, rem, t, e, hl, ha, rfl, ot⟩
          have e0 : rem = 0 := by
            cases rem with
            | zero => rfl
            | succ n => rw [rngD_succ] at e; cases e
          subst e0
          rw [q_lnil]
          walk_at "dl7"
          have npt : put h a t p = none := by rw [put_ne pa]; exact nh
          rw [del_put npt]
          refine fin (q (.tup acc) t ?_ ?_ ot)
          · rw [show d.toNat = (d - 1).toNat + 1 by omega]
            simp only [val]
            exact vals_mem.mpr fun x hx => (ha x hx).1
          · simp only [wid, Bool.and_eq_true, decide_eq_true_eq]
            exact ⟨by omega, wids_mem.mpr fun x hx => (ha x hx).2⟩
        · rintro x xs ih acc g ⟨i, rem, t, e, hl, ha, rfl, ot⟩
          cases rem with
          | zero => cases e
          | succ rem =>
            rw [rngD_succ] at e
            cases e
            rw [q_lcons]
            walk_at "dl7"
            refine ⟨a, d - 1, rfl, by omega, by omega, tp_under pa ot, fun v t hv hw ot => ?_⟩
            rw [put3 pa]
            refine ⟨Nat.lt_of_le_of_lt (show _ ≤ 3 by omega) (by decide), ih _ _ ⟨i + 1, rem, t, rfl, ?_, ?_, rfl, ot⟩⟩
            · rw [List.length_append]; simp only [List.length_cons, List.length_nil]; omega
            · intro y hy
              rcases List.mem_append.mp hy with hy | hy
              · exact ha y hy
              · cases List.mem_singleton.mp hy; exact ⟨hv, hw⟩
end K00

set_option Elab.async false
set_option linter.all false
set_option maxRecDepth 100000
set_option maxHeartbeats 1000000
namespace K00
open PySem PySem.Spec PyProof.Rows L2 DL
/-- _law_spoilt(tape, value) -/
def spSpoilt (n : Nat) : Sp' := fun ds h Q _ => ∃ (a : Addr) (v : D) (m w : Nat), ds = [.ref a, v] ∧ val v m = true ∧ m < n ∧ wid v w = true ∧ 3 ≤ w ∧ w ≤ 1000 ∧ Tp h a ∧ ∀ u t, val u (m + 1) = true → wid u (w + 1) = true → TOk t → Q u (put h a t)
theorem rd__law_spoilt (n : Nat) (ds : List D) (h : DH) (Q : VK') (E' : XK') (q : spSpoilt (n + 1) ds h Q E') : t__law_spoilt spDraw (spSpoilt n) sp_is_integer (spWild 5) (ends Q) (slots n__law_spoilt ds) h := by
  obtain ⟨a, v, m, w, rfl, hv, hm, hw, w3, w9, tp, q⟩ := q
  show t__law_spoilt _ _ _ _ (ends Q) [some (.ref a), some v, none, none] h
  unfold t__law_spoilt
  have small : ∀ {n : Nat}, n ≤ 2002 → n ≤ sizeLine := fun h => Nat.le_trans h (by decide)
  walk_at "dl7"
  refine drw tp (fun c t c0 c1 ot => ?_)
  walk_at "dl7"
  have wild : ∀ {t : DO} {E : XK'}, TOk t → spWild 5 [.ref a, .int 1] (put h a t) (ends Q).rt E := fun {t E} ot =>
    ⟨a, 1, rfl, by decide, by decide, tp_put ot, fun u t hu wu ot => by
      rw [put_put]
      exact fin (q u t (val_mono _ _ _ (by simp only [show Int.toNat 1 = 1 from rfl]; omega) hu) (wid_mono _ _ _ (by omega) wu) ot)⟩
  cases v with
  | scr _ => simp [val] at hv
  | ref _ => simp [val] at hv
  | ty _ => simp [val] at hv
  | lis _ => simp [val] at hv
  | tup xs =>
    simp only [wid, Bool.and_eq_true, decide_eq_true_eq] at hw
    obtain ⟨m', rfl, hv⟩ : ∃ m', m = m' + 1 ∧ vals xs m' = true := by
      cases m with
      | zero => simp [val] at hv
      | succ m => exact ⟨m, rfl, by simpa [val] using hv⟩
    have hv' := vals_mem.mp hv
    have hw' := wids_mem.mp hw.2
    -- what is left of the tuple, with something in it
    have res : ∀ (ys : List D) (t : DO), (∀ y ∈ ys, val y (m' + 1) = true ∧ wid y (w + 1) = true) → ys.length ≤ w + 1 → TOk t → Q (.tup ys) (put h a t) := fun ys t hy hl ot =>
      q (.tup ys) t (by simp only [val]; exact vals_mem.mpr fun y z => (hy y z).1) (by simp only [wid, Bool.and_eq_true, decide_eq_true_eq]; exact ⟨hl, wids_mem.mpr fun y z => (hy y z).2⟩) ot
    have old : ∀ y ∈ xs, val y (m' + 1) = true ∧ wid y (w + 1) = true := fun y hy => ⟨val_mono _ _ _ (by omega) (hv' y hy), wid_mono _ _ _ (by omega) (hw' y hy)⟩
    walk_at "dl7"
    refine sif_i (fun b => ?_) (fun b => ?_)
    · have b := of_decide_eq_true b
      walk_at "dl7"
      refine sif_i (fun b2 => ?_) (fun b2 => ?_)
      · walk_at "dl7"
        refine drw (tp_put ot) (fun r t r0 r1 ot => ?_) (by omega)
        have r1 : r < (xs.length : Int) := by omega
        have e1 : cutD xs none (some r) = xs.take r.toNat := cut_take r0 (by omega)
        have e2 : cutD xs (some (r + 1)) none = xs.drop (r + 1).toNat := cut_drop (by omega) (by omega)
        have l1 : (xs.take r.toNat).length = r.toNat := by rw [List.length_take]; omega
        have l2 : (xs.drop (r + 1).toNat).length + r.toNat + 1 = xs.length := by rw [List.length_drop]; omega
        walk_at "dl7"
        refine sif_i (fun b3 => ?_) (fun b3 => ?_)
        · walk_at "dl7"
          rw [q_ixt]
          obtain ⟨x, ex, mx⟩ := pick r0 r1
          refine ⟨x, ex, a, x, m', w, rfl, hv' x mx, by omega, hw' x mx, w3, w9, tp_put ot, fun u t hu wu ot => ?_⟩
          ((walk_at "dl7"); repeat (simp only [e1, e2, List.length_append]; (walk_at "dl7")))
          refine ⟨small (by omega), small (by omega), fin (res _ t ?_ ?_ ot)⟩
          · intro y hy
            simp only [List.mem_append, List.mem_cons, List.not_mem_nil, or_false] at hy
            rcases hy with (hy | rfl) | hy
            · exact old y (List.mem_of_mem_take hy)
            · exact ⟨hu, wu⟩
            · exact old y (List.mem_of_mem_drop hy)
          · simp only [List.length_append, List.length_cons, List.length_nil]; omega
        · walk_at "dl7"
          refine sif_i (fun b4 => ?_) (fun b4 => ?_)
          · ((walk_at "dl7"); repeat (simp only [e1, e2]; (walk_at "dl7")))
            refine ⟨small (by omega), fin (res _ t ?_ ?_ ot)⟩
            · intro y hy
              rcases List.mem_append.mp hy with hy | hy
              · exact old y (List.mem_of_mem_take hy)
              · exact old y (List.mem_of_mem_drop hy)
            · rw [List.length_append]; omega
          · walk_at "dl7"
            refine ⟨small (by omega), fin (res _ t ?_ ?_ ot)⟩
            · intro y hy
              rcases List.mem_append.mp hy with hy | hy
              · exact old y hy
              · cases List.mem_singleton.mp hy; exact ⟨rfl, rfl⟩
            · rw [List.length_append]; simp only [List.length_cons, List.length_nil]; omega
      · walk_at "dl7"
        refine ⟨_, rfl, rfl, ?_⟩
        ((walk_at "dl7"); repeat (simp only [isInt]; (walk_at "dl7")))
        exact wild ot
    · walk_at "dl7"
      refine ⟨_, rfl, rfl, ?_⟩
      ((walk_at "dl7"); repeat (simp only [isInt]; (walk_at "dl7")))
      exact wild ot
  | int i =>
    walk_at "dl7"
    refine ⟨.int i, rfl, rfl, ?_⟩
    ((walk_at "dl7"); repeat (simp only [isInt]; (walk_at "dl7")))
    refine sif_i (fun b => ?_) (fun b => ?_)
    · walk_at "dl7"
      refine sif_i (fun b2 => ?_) (fun b2 => ?_)
      · walk_at "dl7"
        refine sif_i (fun b3 => ?_) (fun b3 => ?_)
        · have b3 := of_decide_eq_true b3
          walk_at "dl7"
          rw [q_ixl]
          obtain ⟨v, e, m⟩ := pick (xs := [D.bl (decide (i = 1)), .bl (decide (i = 1)), .int (-1), .int (i - 3), .int (i + 1)]) c0 (by simp only [List.length_cons, List.length_nil]; omega)
          refine ⟨v, e, fin (q v t ?_ ?_ ot)⟩ <;> (simp only [List.mem_cons, List.not_mem_nil, or_false] at m; rcases m with rfl | rfl | rfl | rfl | rfl <;> rfl)
        · walk_at "dl7"
          exact wild ot
      · walk_at "dl7"
        exact wild ot
    · walk_at "dl7"
      exact wild ot
  | _ =>
    walk_at "dl7"
    refine ⟨_, rfl, rfl, ?_⟩
    ((walk_at "dl7"); repeat (simp only [isInt]; (walk_at "dl7")))
    exact wild ot
end K00

set_option Elab.async false
set_option linter.all false
set_option maxRecDepth 100000
set_option maxHeartbeats 1000000
namespace K00
open PySem PySem.Spec PyProof.Rows L2 DL
/-- a tuple that does not begin with a text is no letter -/
theorem isL_ns {k : Kd} {t : D} {xs : List D} (h : instD t "str" = false) (hk : (∃ a b, k = .pr a b) ∨ (∃ ks, k = .ei ks) ∨ ∃ k', k = .mb k') : isL k (.tup (t :: xs)) = false := by
  have z : ∀ s, isStr t s = false := fun s => by
    cases t with
    | str _ => simp [instD] at h
    | _ => rfl
  rcases hk with ⟨a, b, rfl⟩ | ⟨ks, rfl⟩ | ⟨k', rfl⟩
  · match xs with
    | [x, y] => simp only [isL, z, Bool.false_and]
    | [] => rfl
    | [_] => rfl
    | _ :: _ :: _ :: _ => rfl
  · by_cases hl : xs.length = 2
    · match xs, hl with
      | [x, y], _ =>
        cases x with
        | int i => simp only [isL, z, Bool.false_and]
        | _ => rfl
    · exact isL_ei (by simp only [List.length_cons]; omega)
  · match xs with
    | [] => simp only [isL, z]
    | [x] => simp only [isL, z, Bool.false_and]
    | _ :: _ :: _ => rfl
theorem rd__law_is_letter (n : Nat) (ds : List D) (h : DH) (Q : VK') (E' : XK') (q : sp_is_letter (n + 1) ds h Q E') : t__law_is_letter sp_is_integer (sp_is_letter n) (ends Q) (slots n__law_is_letter ds) h := by
  obtain ⟨k, v, rfl, hk, hv, q⟩ := q
  show t__law_is_letter _ _ (ends Q) [some (kD k), some v] h
  unfold t__law_is_letter
  have pv := val_plain hv
  cases k with
  | nm ns =>
    simp only [kD]
    cases v with
    | str x =>
      ((walk_at "dl7"); repeat (simp only [flat_str, inD_str]; (walk_at "dl7")))
      exact ⟨rfl, fin q⟩
    | scr _ => cases pv
    | ref _ => cases pv
    | ty _ => cases pv
    | _ => walk_at "dl7"; exact fin q
  | it =>
    simp only [kD]
    walk_at "dl7"
    refine ⟨v, rfl, pv, fin ?_⟩
    cases v <;> exact q
  | pr a b =>
    simp only [kD]
    have hd : a.depth ≤ n ∧ b.depth ≤ n := by simp only [Kd.depth] at hk; omega
    cases v with
    | tup xs =>
      cases xs with
      | nil => walk_at "dl7"; exact fin q
      | cons t xs =>
        have e0 : decide (((xs.length + 1 : Nat) : Int) = 0) = false := decide_eq_false (by omega)
        simp only [val, vals, Bool.and_eq_true] at hv
        ((walk_at "dl7"); repeat (simp only [e0, val_plain hv.1]; (walk_at "dl7")))
        cases ht : instD t "str" with
        | false =>
          walk_at "dl7"
          rw [isL_ns ht (.inl ⟨a, b, rfl⟩)] at q
          exact fin q
        | true =>
          ((walk_at "dl7"); repeat (simp only [neS (val_ok hv.1)]; (walk_at "dl7")))
          refine sif_i (fun c => ?_) (fun c => ?_)
          · rw [Bool.not_eq_true'] at c
            have z : isL (.pr a b) (.tup (t :: xs)) = false := by
              match xs with
              | [x, y] => simp only [isL, c, Bool.false_and]
              | [] => rfl
              | [_] => rfl
              | _ :: _ :: _ :: _ => rfl
            rw [z] at q
            walk_at "dl7"
            exact fin q
          · rw [Bool.not_eq_false'] at c
            by_cases hl : xs.length = 2
            · match xs, hl, hv, q with
              | [x, y], _, hv, q =>
                simp only [vals, Bool.and_eq_true] at hv
                walk_at "dl7"
                refine ⟨a, x, rfl, hd.1, val_mono _ _ _ (by decide) hv.2.1, ?_⟩
                walk_at "dl7"
                refine sif_i (fun c2 => ?_) (fun c2 => ?_)
                · walk_at "dl7"
                  refine ⟨b, y, rfl, hd.2, val_mono _ _ _ (by decide) hv.2.2.1, fin ?_⟩
                  simp only [isL, c, c2, Bool.true_and] at q
                  exact q
                · simp only [isL, c, c2, Bool.true_and, Bool.false_and] at q
                  exact fin q
            · have e3 : decide (((xs.length + 1 : Nat) : Int) = 3) = false := decide_eq_false (by omega)
              ((walk_at "dl7"); repeat (simp only [e3]; (walk_at "dl7")))
              rw [isL_pr (by simp only [List.length_cons]; omega)] at q
              exact fin q
    | scr _ => cases pv
    | ref _ => cases pv
    | ty _ => cases pv
    | _ => walk_at "dl7"; exact fin q
  | ei ks =>
    simp only [kD]
    have hd : Kd.depths ks ≤ n := by simp only [Kd.depth] at hk; omega
    cases v with
    | tup xs =>
      cases xs with
      | nil => walk_at "dl7"; exact fin q
      | cons t xs =>
        have e0 : decide (((xs.length + 1 : Nat) : Int) = 0) = false := decide_eq_false (by omega)
        simp only [val, vals, Bool.and_eq_true] at hv
        ((walk_at "dl7"); repeat (simp only [e0, val_plain hv.1]; (walk_at "dl7")))
        cases ht : instD t "str" with
        | false =>
          walk_at "dl7"
          rw [isL_ns ht (.inr (.inl ⟨ks, rfl⟩))] at q
          exact fin q
        | true =>
          ((walk_at "dl7"); repeat (simp only [neS (val_ok hv.1)]; (walk_at "dl7")))
          refine sif_i (fun c => ?_) (fun c => ?_)
          · rw [Bool.not_eq_true'] at c
            have z : isL (.ei ks) (.tup (t :: xs)) = false := by
              by_cases hl : xs.length = 2
              · match xs, hl with
                | [x, y], _ =>
                  cases x with
                  | int i => simp only [isL, c, Bool.false_and]
                  | _ => rfl
              · exact isL_ei (by simp only [List.length_cons]; omega)
            rw [z] at q
            walk_at "dl7"
            exact fin q
          · rw [Bool.not_eq_false'] at c
            by_cases hl : xs.length = 2
            · match xs, hl, hv, q with
              | [x, y], _, hv, q =>
                simp only [vals, Bool.and_eq_true] at hv
                walk_at "dl7"
                refine ⟨x, rfl, val_plain hv.2.1, ?_⟩
                cases x with
                | int i =>
                  ((walk_at "dl7"); repeat (simp only [isInt, len_kDs]; (walk_at "dl7")))
                  refine sif_i (fun b => ?_) (fun b => ?_)
                  · have b := of_decide_eq_true b
                    have z : isL (.ei ks) (.tup [t, .int i, y]) = false := by simp only [isL, decide_eq_false (show ¬ 0 ≤ i by omega), Bool.false_and, Bool.and_false]
                    rw [z] at q
                    walk_at "dl7"
                    exact fin q
                  · have b := of_decide_eq_false b
                    ((walk_at "dl7"); repeat (simp only [len_kDs]; (walk_at "dl7")))
                    refine sif_i (fun b2 => ?_) (fun b2 => ?_)
                    · have b2 := of_decide_eq_true b2
                      have z : isL (.ei ks) (.tup [t, .int i, y]) = false := by
                        simp only [isL, isLn_get, List.getElem?_eq_none (show ks.length ≤ i.toNat by omega), Bool.and_false]
                      rw [z] at q
                      walk_at "dl7"
                      exact fin q
                    · have b2 := of_decide_eq_false b2
                      have hi : i.toNat < ks.length := by omega
                      have eg := List.getElem?_eq_getElem hi
                      walk_at "dl7"
                      rw [q_ixt]
                      refine ⟨_, atI_kDs (by omega) eg, ?_⟩
                      refine ⟨_, y, rfl, Nat.le_trans (Kd.depth_mem (List.getElem_mem hi)) hd, val_mono _ _ _ (by decide) hv.2.2.1, fin ?_⟩
                      simp only [isL, c, isLn_get, eg, Bool.true_and, decide_eq_true (show 0 ≤ i by omega)] at q
                      exact q
                | _ => ((walk_at "dl7"); repeat (simp only [isInt]; (walk_at "dl7"))); exact fin q
            · have e3 : decide (((xs.length + 1 : Nat) : Int) = 3) = false := decide_eq_false (by omega)
              ((walk_at "dl7"); repeat (simp only [e3]; (walk_at "dl7")))
              rw [isL_ei (by simp only [List.length_cons]; omega)] at q
              exact fin q
    | scr _ => cases pv
    | ref _ => cases pv
    | ty _ => cases pv
    | _ => walk_at "dl7"; exact fin q
  | mb k =>
    simp only [kD]
    have hd : k.depth ≤ n := by simp only [Kd.depth] at hk; omega
    cases v with
    | tup xs =>
      cases xs with
      | nil => walk_at "dl7"; exact fin q
      | cons t xs =>
        have e0 : decide (((xs.length + 1 : Nat) : Int) = 0) = false := decide_eq_false (by omega)
        simp only [val, vals, Bool.and_eq_true] at hv
        ((walk_at "dl7"); repeat (simp only [e0, val_plain hv.1]; (walk_at "dl7")))
        cases ht : instD t "str" with
        | false =>
          walk_at "dl7"
          rw [isL_ns ht (.inr (.inr ⟨k, rfl⟩))] at q
          exact fin q
        | true =>
          ((walk_at "dl7"); repeat (simp only [eqS (val_ok hv.1)]; (walk_at "dl7")))
          refine sif_i (fun c => ?_) (fun c => ?_)
          · have z : isL (.mb k) (.tup (t :: xs)) = decide (((xs.length + 1 : Nat) : Int) = 1) := by
              match xs with
              | [] => simp only [isL, c]; rfl
              | [x] =>
                have e : isStr t "some" = false := by
                  cases t with
                  | str s =>
                    simp only [isStr, decide_eq_true_eq] at c
                    subst c
                    simp only [isStr, ofStr_inj, String.reduceEq, decide_false]
                  | _ => rfl
                simp only [isL, e, Bool.false_and]
                exact (decide_eq_false (by simp only [List.length_cons, List.length_nil]; omega)).symm
              | x :: y :: r => exact (isL_mb (by simp only [List.length_cons]; omega) (by simp only [List.length_cons]; omega)).trans (decide_eq_false (by simp only [List.length_cons]; omega)).symm
            rw [z] at q
            walk_at "dl7"
            exact fin q
          · ((walk_at "dl7"); repeat (simp only [eqS (val_ok hv.1)]; (walk_at "dl7")))
            refine sif_i (fun c2 => ?_) (fun c2 => ?_)
            · by_cases hl : xs.length = 1
              · match xs, hl, hv, q with
                | [x], _, hv, q =>
                  simp only [vals, Bool.and_eq_true] at hv
                  walk_at "dl7"
                  refine ⟨k, x, rfl, hd, val_mono _ _ _ (by decide) hv.2.1, fin ?_⟩
                  simp only [isL, c2, Bool.true_and] at q
                  exact q
              · have e3 : decide (((xs.length + 1 : Nat) : Int) = 2) = false := decide_eq_false (by omega)
                ((walk_at "dl7"); repeat (simp only [e3]; (walk_at "dl7")))
                have z : isL (.mb k) (.tup (t :: xs)) = false := by
                  match xs with
                  | [] => simp only [isL, c]
                  | [x] => exact absurd rfl hl
                  | x :: y :: r => exact isL_mb (by simp only [List.length_cons]; omega) (by simp only [List.length_cons]; omega)
                rw [z] at q
                exact fin q
            · have z : isL (.mb k) (.tup (t :: xs)) = false := by
                match xs with
                | [] => simp only [isL, c]
                | [x] => simp only [isL, c2, Bool.false_and]
                | x :: y :: r => exact isL_mb (by simp only [List.length_cons]; omega) (by simp only [List.length_cons]; omega)
              rw [z] at q
              exact fin q
    | scr _ => cases pv
    | ref _ => cases pv
    | ty _ => cases pv
    | _ => walk_at "dl7"; exact fin q
end K00

set_option Elab.async false
set_option linter.all false
set_option maxRecDepth 100000
set_option maxHeartbeats 1000000
namespace K00
open PySem PySem.Spec PyProof.Rows L2 DL
theorem rd_law (ds : List D) (h : DH) (Q : VK') (E' : XK') (q : spLaw ds h Q E') : t_law spTape (spKind 3) (spLetter 3) (spSpoilt 5) (spWild 5) spDraw (sp_is_letter 3) (sp_is_letter 3) (ends Q) (slots n_law ds) h := by
  obtain ⟨ns, rfl, hl, hn, q⟩ := q
  show t_law _ _ _ _ _ _ _ _ (ends Q) [some (.scr ns), none, none, none, none, none, none, none, none, none] h
  unfold t_law
  have done : ∀ h', (ends Q).rt (.bl true) h' := fun h' => fin (q h')
  walk_at "dl7"
  refine ⟨ns, rfl, fun a t na ot => ?_⟩
  walk_at "dl7"
  refine ⟨a, 3, 6, rfl, by decide, by decide, by decide, by decide, tp_put ot, fun k t hk kd kc ot => ?_⟩
  walk_at "dl7"
  refine ⟨a, 3, 6, rfl, by decide, by decide, by decide, by decide, tp_put ot, fun k2 t hk2 kd2 kc2 ot => ?_⟩
  walk_at "dl7"
  have kd : k.depth ≤ 3 := by omega
  have kd2 : k2.depth ≤ 3 := by omega
  refine ⟨a, k, 20, .int 12, rfl, hk, kd, by omega, by decide, by decide, tp_put ot, fun l t ⟨_, lv, lw⟩ ot => ?_⟩
  walk_at "dl7"
  refine ⟨a, l, 3, 3, rfl, val_mono _ _ _ kd lv, by decide, lw, by decide, by decide, tp_put ot, fun s t sv sw ot => ?_⟩
  walk_at "dl7"
  refine ⟨a, s, 4, 4, rfl, sv, by decide, sw, by decide, by decide, tp_put ot, fun s2 t sv2 sw2 ot => ?_⟩
  walk_at "dl7"
  refine ⟨a, k2, 20, .int 12, rfl, hk2, kd2, by omega, by decide, by decide, tp_put ot, fun l2 t ⟨_, lv2, lw2⟩ ot => ?_⟩
  walk_at "dl7"
  refine ⟨a, 2, rfl, by decide, by decide, tp_put ot, fun w t wv ww ot => ?_⟩
  walk_at "dl7"
  refine drw (tp_put ot) (fun r t r0 r1 ot => ?_)
  walk_at "dl7"
  rw [q_ixl]
  obtain ⟨b, e, m⟩ := pick (xs := [D.bl true, .bl false, .non]) r0 (by simp only [List.length_cons, List.length_nil]; omega)
  refine ⟨b, e, ?_⟩
  have bv : val b 40 = true := by
    simp only [List.mem_cons, List.not_mem_nil, or_false] at m
    rcases m with rfl | rfl | rfl <;> rfl
  walk_at "dl7"
  have vs : ∀ x ∈ [l, s, s2, l2, w] ++ [b, l], val x 40 = true := by
    intro x hx
    simp only [List.cons_append, List.nil_append, List.mem_cons, List.not_mem_nil, or_false] at hx
    rcases hx with rfl | rfl | rfl | rfl | rfl | rfl | rfl
    · exact val_mono _ _ _ (by omega) lv
    · exact val_mono _ _ _ (by omega) sv
    · exact val_mono _ _ _ (by omega) sv2
    · exact val_mono _ _ _ (by omega) lv2
    · exact val_mono _ _ _ (by simp only [show Int.toNat 2 = 2 from rfl]; omega) wv
    · exact bv
    · exact val_mono _ _ _ (by omega) lv
  have check : ∀ (x : D), val x 40 = true → ∀ (kk : Kd), kk.depth ≤ 3 → ∀ {g : DH} {E : XK'} {R : VK'}, R (.bl (isL kk x)) g → sp_is_letter 3 [kD kk, x] g R E := fun x hx kk hd {g E R} q => ⟨kk, x, rfl, hd, hx, q⟩
  refine for_ind (fun xs τ g => (∀ x ∈ xs, val x 40 = true) ∧ ∃ x7 x8 x9 : Option D, τ = [some (.scr ns), some (.ref a), some (kD k), some (kD k2), some l, some s, some (.lis ([l, s, s2, l2, w] ++ [b, l])), x7, x8, x9]) ?_ ?_ _ _ _ ⟨vs, none, none, none, rfl⟩
  · rintro τ g ⟨_, x7, x8, x9, rfl⟩
    rw [q_fnil]
    walk_at "dl7"
    exact done g
  · rintro x xs ih τ g ⟨hx, x7, x8, x9, rfl⟩
    rw [q_fcons]
    walk_at "dl7"
    have xv := hx x List.mem_cons_self
    refine for_ind (fun ys τ g => (∀ y ∈ ys, ∃ kk : Kd, y = kD kk ∧ kk.depth ≤ 3) ∧ ∃ x8 x9 : Option D, τ = [some (.scr ns), some (.ref a), some (kD k), some (kD k2), some l, some s, some (.lis ([l, s, s2, l2, w] ++ [b, l])), some x, x8, x9]) ?_ ?_ _ _ _ ⟨?_, x8, x9, rfl⟩
    · rintro τ g ⟨_, x8, x9, rfl⟩
      rw [q_fnil]
      walk_at "dl7"
      exact ih _ _ ⟨fun y hy => hx y (List.mem_cons_of_mem _ hy), _, _, _, rfl⟩
    · rintro y ys ih2 τ g ⟨hy, x8, x9, rfl⟩
      obtain ⟨kk, rfl, hd⟩ := hy y List.mem_cons_self
      rw [q_fcons]
      walk_at "dl7"
      refine check x xv kk hd ?_
      walk_at "dl7"
      refine check x xv kk hd ?_
      walk_at "dl7"
      exact ih2 _ _ ⟨fun z hz => hy z (List.mem_cons_of_mem _ hz), _, _, rfl⟩
    · intro y hy
      simp only [List.mem_cons, List.not_mem_nil, or_false] at hy
      rcases hy with rfl | rfl | rfl
      · exact ⟨k, rfl, kd⟩
      · exact ⟨k2, rfl, kd2⟩
      · exact ⟨k, rfl, kd⟩
end K00

set_option Elab.async false
set_option linter.all false
namespace K03
open PySem PySem.Spec PyProof.Rows L2 DL
abbrev n_kind_below : List Str := ["kind", "step", "shape"]
def t_kind_below (sp_is_integer : Sp') : TS' :=
    (tseq (tasg (to opIx (tv 0) (tc (.int 0))) (gn 2))
    (tseq (tifs (tand (tb' (to opEq (tv 2) (tc (.str "pair")))) (tb' (to opEq (tv 1) (tc (.str "first"))))) (tret (to opIx (tv 0) (tc (.int 1)))) tnx)
    (tseq (tifs (tand (tb' (to opEq (tv 2) (tc (.str "pair")))) (tb' (to opEq (tv 1) (tc (.str "second"))))) (tret (to opIx (tv 0) (tc (.int 2)))) tnx)
    (tseq (tifs (tand (tb' (to opEq (tv 2) (tc (.str "maybe")))) (tb' (to opEq (tv 1) (tc (.str "some"))))) (tret (to opIx (tv 0) (tc (.int 1)))) tnx)
    (tseq (tifs (tand (tb' (to opEq (tv 2) (tc (.str "either")))) (tand (tb' (tcall sp_is_integer (fun _ _ => False) (tac (tv 1) tan))) (tb' (tch opLe opLt (tc (.int 0)) (tv 1) (tcb caLen (tac (to opIx (tv 0) (tc (.int 1))) tan)))))) (tret (to opIx (to opIx (tv 0) (tc (.int 1))) (tv 1))) tnx)
    (tret (tc .non)))))))
abbrev n_kind_at : List Str := ["kind", "path", "step"]
def t_kind_at (sp_kind_below : Sp') : TS' :=
    (tseq (tfor (tse (tv 1)) (gn 2) (tseq (tasg (tcall sp_kind_below (fun _ _ => False) (tac (tv 0) (tac (tv 2) tan))) (gn 0))
    (tifs (tb' (to (opIsN false) (tv 0) (tc .non))) (tret (tc .non)) tnx)))
    (tret (tv 0)))
abbrev n_part_below : List Str := ["letter", "step"]
def t_part_below  : TS' :=
    (tseq (tifs (tnot (tb' (tcb caIs (tac (tv 0) (tac (tc (.ty "tuple")) tan))))) (tret (tc .non)) tnx)
    (tseq (tifs (tand (tb' (to opEq (to opIx (tv 0) (tc (.int 0))) (tc (.str "pair")))) (tb' (to opEq (tv 1) (tc (.str "first"))))) (tret (to opIx (tv 0) (tc (.int 1)))) tnx)
    (tseq (tifs (tand (tb' (to opEq (to opIx (tv 0) (tc (.int 0))) (tc (.str "pair")))) (tb' (to opEq (tv 1) (tc (.str "second"))))) (tret (to opIx (tv 0) (tc (.int 2)))) tnx)
    (tseq (tifs (tand (tb' (to opEq (to opIx (tv 0) (tc (.int 0))) (tc (.str "some")))) (tb' (to opEq (tv 1) (tc (.str "some"))))) (tret (to opIx (tv 0) (tc (.int 1)))) tnx)
    (tseq (tifs (tand (tb' (to opEq (to opIx (tv 0) (tc (.int 0))) (tc (.str "case")))) (tb' (to opEq (to opIx (tv 0) (tc (.int 1))) (tv 1)))) (tret (to opIx (tv 0) (tc (.int 2)))) tnx)
    (tret (tc .non)))))))
abbrev n_part_at : List Str := ["letter", "path", "step"]
def t_part_at (sp_part_below : Sp') : TS' :=
    (tseq (tfor (tse (tv 1)) (gn 2) (tseq (tasg (tcall sp_part_below (fun _ _ => False) (tac (tv 0) (tac (tv 2) tan))) (gn 0))
    (tifs (tb' (to (opIsN false) (tv 0) (tc .non))) (tret (tc .non)) tnx)))
    (tret (tv 0)))
abbrev n__law_same : List Str := ["told", "due", "k"]
def t__law_same (sp__law_same : Sp') (sp__law_whole : Sp') : TS' :=
    (tseq (tifs (tb' (to (opIsN false) (tv 1) (tc .non))) (tret (to (opIsN false) (tv 0) (tc .non))) tnx)
    (tseq (tifs (tb' (tcb caIs (tac (tv 1) (tac (tc (.ty "tuple")) tan)))) (tseq (tifs (tor (tnot (tb' (tcb caIs (tac (tv 0) (tac (tc (.ty "tuple")) tan))))) (tb' (to opNe (tcb caLen (tac (tv 0) tan)) (tcb caLen (tac (tv 1) tan))))) (tret (tc (.bl false))) tnx)
    (tseq (tfor (trg1 (tac (tcb caLen (tac (tv 1) tan)) tan)) (gn 2) (tifs (tnot (tb' (tcall sp__law_same (fun _ _ => False) (tac (to opIx (tv 0) (tv 2)) (tac (to opIx (tv 1) (tv 2)) tan))))) (tret (tc (.bl false))) tnx))
    (tret (tc (.bl true))))) tnx)
    (tseq (tifs (tb' (tcb caIs (tac (tv 1) (tac (tc (.ty "bool")) tan)))) (tret (tandv (tcb caIs (tac (tv 0) (tac (tc (.ty "bool")) tan))) (to opEq (tv 0) (tv 1)))) tnx)
    (tseq (tifs (tb' (tcb caIs (tac (tv 1) (tac (tc (.ty "str")) tan)))) (tret (tandv (tcb caIs (tac (tv 0) (tac (tc (.ty "str")) tan))) (to opEq (tv 0) (tv 1)))) tnx)
    (tret (tandv (tcall sp__law_whole (fun _ _ => False) (tac (tv 0) tan)) (to opEq (tv 0) (tv 1))))))))
abbrev n__law_kind_at : List Str := ["kind", "path", "step"]
def t__law_kind_at (sp__law_whole : Sp') : TS' :=
    (tseq (tfor (tse (tv 1)) (gn 2) (tmid (tifs (tand (tb' (to opEq (to opIx (tv 0) (tc (.int 0))) (tc (.str "pair")))) (tb' (to (opIn false) (tv 2) (tlis (tac (tc (.str "first")) (tac (tc (.str "second")) tan)))))) (tasg (to opIx (tv 0) (to opAdd (tc (.int 1)) (tcb caInt (tac (to opEq (tv 2) (tc (.str "second"))) tan)))) (gn 0)) (tmid (tifs (tand (tb' (to opEq (to opIx (tv 0) (tc (.int 0))) (tc (.str "maybe")))) (tb' (to opEq (tv 2) (tc (.str "some"))))) (tasg (to opIx (tv 0) (tc (.int 1))) (gn 0)) (tifs (tand (tb' (to opEq (to opIx (tv 0) (tc (.int 0))) (tc (.str "either")))) (tand (tb' (tcall sp__law_whole (fun _ _ => False) (tac (tv 2) tan))) (tb' (to opLt (tv 2) (tcb caLen (tac (to opIx (tv 0) (tc (.int 1))) tan)))))) (tasg (to opIx (to opIx (tv 0) (tc (.int 1))) (tv 2)) (gn 0)) (tret (tc .non))))))))
    (tret (tv 0)))
abbrev n__law_part_at : List Str := ["letter", "path", "step"]
def t__law_part_at (sp__law_whole : Sp') : TS' :=
    (tseq (tfor (tse (tv 1)) (gn 2) (tseq (tifs (tnot (tb' (tcb caIs (tac (tv 0) (tac (tc (.ty "tuple")) tan))))) (tret (tc .non)) tnx)
    (tmid (tifs (tand (tb' (to opEq (to opIx (tv 0) (tc (.int 0))) (tc (.str "pair")))) (tb' (to (opIn false) (tv 2) (tlis (tac (tc (.str "first")) (tac (tc (.str "second")) tan)))))) (tasg (to opIx (tv 0) (to opAdd (tc (.int 1)) (tcb caInt (tac (to opEq (tv 2) (tc (.str "second"))) tan)))) (gn 0)) (tmid (tifs (tand (tb' (to opEq (to opIx (tv 0) (tc (.int 0))) (tc (.str "some")))) (tb' (to opEq (tv 2) (tc (.str "some"))))) (tasg (to opIx (tv 0) (tc (.int 1))) (gn 0)) (tifs (tand (tb' (to opEq (to opIx (tv 0) (tc (.int 0))) (tc (.str "case")))) (tand (tb' (tcall sp__law_whole (fun _ _ => False) (tac (tv 2) tan))) (tb' (to opEq (tv 2) (to opIx (tv 0) (tc (.int 1))))))) (tasg (to opIx (tv 0) (tc (.int 2))) (gn 0)) (tret (tc .non)))))))))
    (tret (tv 0)))
abbrev n__law_path : List Str := ["tape", "kind", "path", "k", "step", "along"]
def t__law_path (sp__law_draw : Sp') (sp__law_kind_at : Sp') : TS' :=
    (tseq (tasg (ttup tan) (gn 2))
    (tseq (tfor (trg1 (tac (tcall sp__law_draw (fun _ _ => False) (tac (tv 0) (tac (tc (.int 4)) tan))) tan)) (gn 3) (tseq (tasg (to opIx (tlis (tac (tc (.str "first")) (tac (tc (.str "second")) (tac (tc (.str "some")) (tac (tc (.int 0)) (tac (tc (.int 1)) (tac (tc (.int 2)) tan))))))) (tcall sp__law_draw (fun _ _ => False) (tac (tv 0) (tac (tc (.int 6)) tan)))) (gn 4))
    (tseq (tasg (tcall sp__law_kind_at (fun _ _ => False) (tac (tv 1) (tac (tv 2) tan))) (gn 5))
    (tseq (tmid (tifs (tand (tb' (to opGt (tcall sp__law_draw (fun _ _ => False) (tac (tv 0) (tac (tc (.int 5)) tan))) (tc (.int 0)))) (tb' (to (opIsN true) (tv 5) (tc .non)))) (tseq (tmid (tifs (tb' (to opEq (to opIx (tv 5) (tc (.int 0))) (tc (.str "pair")))) (tasg (to opIx (tlis (tac (tc (.str "first")) (tac (tc (.str "second")) tan))) (tcall sp__law_draw (fun _ _ => False) (tac (tv 0) (tac (tc (.int 2)) tan)))) (gn 4)) tnx))
    (tseq (tmid (tifs (tb' (to opEq (to opIx (tv 5) (tc (.int 0))) (tc (.str "maybe")))) (tasg (tc (.str "some")) (gn 4)) tnx))
    (tmid (tifs (tb' (to opEq (to opIx (tv 5) (tc (.int 0))) (tc (.str "either")))) (tasg (tcall sp__law_draw (fun _ _ => False) (tac (tv 0) (tac (tcb caLen (tac (to opIx (tv 5) (tc (.int 1))) tan)) tan))) (gn 4)) tnx)))) tnx))
    (tasg (to opAdd (tv 2) (ttup (tac (tv 4) tan))) (gn 2))))))
    (tret (tv 2))))
abbrev n_law : List Str := ["script", "tape", "kinds", "letters", "paths", "late", "path", "k", "which", "kind"]
def t_law (sp__law_tape : Sp') (sp__law_kind : Sp') (sp__law_letter : Sp') (sp__law_path : Sp') (sp__law_draw : Sp') (sp__law_kind_at : Sp') (sp_kind_at : Sp') (sp__law_same : Sp') (sp__law_part_at : Sp') (sp_part_at : Sp') : TS' :=
    (tseq (tasg (tcall sp__law_tape (fun _ _ => False) (tac (tv 0) tan)) (gn 1))
    (tseq (tasg (tlis (tac (tcall sp__law_kind (fun _ _ => False) (tac (tv 1) (tac (tc (.int 3)) (tac (tc (.int 6)) tan)))) (tac (tcall sp__law_kind (fun _ _ => False) (tac (tv 1) (tac (tc (.int 3)) (tac (tc (.int 6)) tan)))) tan))) (gn 2))
    (tseq (tasg (tlc (tse (tv 2)) 9 tyes (tcall sp__law_letter (fun _ _ => False) (tac (tv 1) (tac (tv 9) (tac (ttup (tac (tc (.int 20)) (tac (tc (.int 12)) tan))) tan))))) (gn 3))
    (tseq (tasg (tlis (tac (tcall sp__law_path (fun _ _ => False) (tac (tv 1) (tac (to opIx (tv 2) (tc (.int 0))) tan))) (tac (tcall sp__law_path (fun _ _ => False) (tac (tv 1) (tac (to opIx (tv 2) (tc (.int 0))) tan))) (tac (tcall sp__law_path (fun _ _ => False) (tac (tv 1) (tac (to opIx (tv 2) (tc (.int 1))) tan))) tan)))) (gn 4))
    (tseq (tasg (tcall sp__law_draw (fun _ _ => False) (tac (tv 1) (tac (tc (.int 2)) tan))) (gn 5))
    (tseq (tfor (tse (to opAdd (tv 4) (tsl (tv 4) tpn (tpe (tc (.int 1)))))) (gn 6) (tfor (trg1 (tac (tc (.int 2)) tan)) (gn 7) (tfor (tse (tlis (tac (tv 5) (tac (to opSub (tc (.int 1)) (tv 5)) tan)))) (gn 8) (tseq (tifs (tand (tb' (to opEq (tv 8) (tc (.int 0)))) (tnot (tb' (tcall sp__law_same (fun _ _ => False) (tac (tcall sp_kind_at (fun _ _ => False) (tac (to opIx (tv 2) (tv 7)) (tac (tv 6) tan))) (tac (tcall sp__law_kind_at (fun _ _ => False) (tac (to opIx (tv 2) (tv 7)) (tac (tv 6) tan))) tan)))))) (tret (tc (.bl false))) tnx)
    (tifs (tand (tb' (to opEq (tv 8) (tc (.int 1)))) (tnot (tb' (tcall sp__law_same (fun _ _ => False) (tac (tcall sp_part_at (fun _ _ => False) (tac (to opIx (tv 3) (tv 7)) (tac (tv 6) tan))) (tac (tcall sp__law_part_at (fun _ _ => False) (tac (to opIx (tv 3) (tv 7)) (tac (tv 6) tan))) tan)))))) (tret (tc (.bl false))) tnx)))))
    (tret (tc (.bl true)))))))))
end K03

set_option Elab.async false
set_option linter.all false
set_option maxRecDepth 100000
set_option maxHeartbeats 1000000
namespace K03
open PySem PySem.Spec PyProof.Rows L2 DL K00
/-- a step of a path -/
def Stp (d : D) : Prop := d = .str "first" ∨ d = .str "second" ∨ d = .str "some" ∨ ∃ i : Int, d = .int i ∧ 0 ≤ i
def kindBelow : Kd → D → Option Kd
  | .pr a b, .str s => if s = "first" then some a else if s = "second" then some b else none
  | .mb k, .str s => if s = "some" then some k else none
  | .ei ks, .int i => ks[i.toNat]?
  | _, _ => none
def kindAt : Kd → List D → Option Kd
  | k, [] => some k
  | k, s :: p => match kindBelow k s with | some k' => kindAt k' p | none => none
def oK : Option Kd → D | some k => kD k | none => .non
theorem isNon_kD (k : Kd) : isNon (kD k) = false := by cases k <;> rfl
theorem inD_two {a b c : Str} : inD (.str a) [.str b, .str c] = (decide (b = a) || decide (c = a)) := by
  show ((b == a) || ((c == a) || false)) = _
  rw [Bool.or_false, Bool.beq_eq_decide_eq, Bool.beq_eq_decide_eq]
theorem inD_int {i : Int} {b c : Str} : inD (.int i) [.str b, .str c] = false := rfl
theorem stp_plain {s : D} (h : Stp s) : plainD s = true := by rcases h with rfl | rfl | rfl | ⟨i, rfl, _⟩ <;> rfl
def sp_kind_below : Sp' := fun ds h Q _ => ∃ k s, ds = [kD k, s] ∧ Stp s ∧ Q (oK (kindBelow k s)) h
theorem rd_kind_below (ds : List D) (h : DH) (Q : VK') (E' : XK') (q : sp_kind_below ds h Q E') : t_kind_below sp_is_integer (ends Q) (slots n_kind_below ds) h := by
  obtain ⟨k, s, rfl, hs, q⟩ := q
  show t_kind_below _ (ends Q) [some (kD k), some s, none] h
  unfold t_kind_below
  cases k with
  | nm ns => rcases hs with rfl | rfl | rfl | ⟨i, rfl, _⟩ <;> (simp only [kD]; walk_at "dl7"; exact fin q)
  | it => rcases hs with rfl | rfl | rfl | ⟨i, rfl, _⟩ <;> (simp only [kD]; walk_at "dl7"; exact fin q)
  | pr a b =>
    rcases hs with rfl | rfl | rfl | ⟨i, rfl, _⟩ <;> (simp only [kD]; walk_at "dl7"; simp only [kindBelow, ofStr_inj, String.reduceEq, if_false, if_true, oK] at q; exact fin q)
  | ei ks =>
    rcases hs with rfl | rfl | rfl | ⟨i, rfl, hi⟩
    · simp only [kD]; walk_at "dl7"; refine ⟨_, rfl, rfl, ?_⟩; ((walk_at "dl7"); repeat (simp only [K00.isInt]; (walk_at "dl7"))); exact fin q
    · simp only [kD]; walk_at "dl7"; refine ⟨_, rfl, rfl, ?_⟩; ((walk_at "dl7"); repeat (simp only [K00.isInt]; (walk_at "dl7"))); exact fin q
    · simp only [kD]; walk_at "dl7"; refine ⟨_, rfl, rfl, ?_⟩; ((walk_at "dl7"); repeat (simp only [K00.isInt]; (walk_at "dl7"))); exact fin q
    · simp only [kD]
      walk_at "dl7"
      refine ⟨_, rfl, rfl, ?_⟩
      ((walk_at "dl7"); repeat (simp only [K00.isInt, hi, len_kDs]; (walk_at "dl7")))
      refine sif_i (fun c => ?_) (fun c => ?_)
      · have c := of_decide_eq_true c
        have hl : i.toNat < ks.length := by omega
        have eg := List.getElem?_eq_getElem hl
        walk_at "dl7"
        rw [q_ixt]
        refine ⟨_, atI_kDs hi eg, ?_⟩
        simp only [kindBelow, eg, oK] at q
        exact fin q
      · have c := of_decide_eq_false c
        walk_at "dl7"
        simp only [kindBelow, List.getElem?_eq_none (show ks.length ≤ i.toNat by omega), oK] at q
        exact fin q
  | mb k =>
    rcases hs with rfl | rfl | rfl | ⟨i, rfl, _⟩ <;> (simp only [kD]; walk_at "dl7"; simp only [kindBelow, ofStr_inj, String.reduceEq, if_false, if_true, oK] at q; exact fin q)
def sp_kind_at : Sp' := fun ds h Q _ => ∃ k p, ds = [kD k, .tup p] ∧ (∀ s ∈ p, Stp s) ∧ Q (oK (kindAt k p)) h
theorem rd_kind_at (ds : List D) (h : DH) (Q : VK') (E' : XK') (q : sp_kind_at ds h Q E') : t_kind_at sp_kind_below (ends Q) (slots n_kind_at ds) h := by
  obtain ⟨k, p, rfl, hp, q⟩ := q
  show t_kind_at _ (ends Q) [some (kD k), some (.tup p), none] h
  unfold t_kind_at
  walk_at "dl7"
  refine for_ind (fun xs τ g => g = h ∧ (∀ s ∈ xs, Stp s) ∧ ∃ k c, τ = [some (kD k), some (.tup p), c] ∧ Q (oK (kindAt k xs)) h) ?_ ?_ _ _ _ ⟨rfl, hp, k, none, rfl, q⟩
  · rintro τ g ⟨rfl, _, k, c, rfl, q⟩
    rw [q_fnil]
    walk_at "dl7"
    exact fin q
  · rintro x xs ih τ g ⟨rfl, hx, k, c, rfl, q⟩
    rw [q_fcons]
    walk_at "dl7"
    refine ⟨k, x, rfl, hx x List.mem_cons_self, ?_⟩
    simp only [kindAt] at q
    cases e : kindBelow k x with
    | none =>
      rw [e] at q
      simp only [oK]
      walk_at "dl7"
      exact fin q
    | some k' =>
      rw [e] at q
      simp only [oK]
      ((walk_at "dl7"); repeat (simp only [isNon_kD]; (walk_at "dl7")))
      exact ih _ _ ⟨rfl, fun s hs => hx s (List.mem_cons_of_mem _ hs), k', _, rfl, q⟩
theorem rd__law_kind_at (ds : List D) (h : DH) (Q : VK') (E' : XK') (q : sp_kind_at ds h Q E') : t__law_kind_at sp_is_integer (ends Q) (slots n__law_kind_at ds) h := by
  obtain ⟨k, p, rfl, hp, q⟩ := q
  show t__law_kind_at _ (ends Q) [some (kD k), some (.tup p), none] h
  unfold t__law_kind_at
  walk_at "dl7"
  refine for_ind (fun xs τ g => g = h ∧ (∀ s ∈ xs, Stp s) ∧ ∃ k c, τ = [some (kD k), some (.tup p), c] ∧ Q (oK (kindAt k xs)) h) ?_ ?_ _ _ _ ⟨rfl, hp, k, none, rfl, q⟩
  · rintro τ g ⟨rfl, _, k, c, rfl, q⟩
    rw [q_fnil]
    walk_at "dl7"
    exact fin q
  · rintro x xs ih τ g ⟨rfl, hx, k, c, rfl, q⟩
    rw [q_fcons]
    walk_at "dl7"
    refine ⟨_, ?_, fun _ _ z => z⟩
    have next : ∀ {k' : Kd} {c : Option D}, kindBelow k x = some k' → ∃ k c', [some (kD k'), some (.tup p), c] = [some (kD k), some (.tup p), c'] ∧ Q (oK (kindAt k xs)) g := fun {k' c} e => by
      simp only [kindAt, e] at q
      exact ⟨k', c, rfl, q⟩
    have stop : kindBelow k x = none → Q .non g := fun e => by
      simp only [kindAt, e, oK] at q
      exact q
    have hx1 := hx x List.mem_cons_self
    have hx2 : ∀ s ∈ xs, Stp s := fun s hs => hx s (List.mem_cons_of_mem _ hs)
    have fl : ∀ {y : D}, Stp y → flatD y = true := fun {y} h => by rcases h with rfl | rfl | rfl | ⟨i, rfl, _⟩ <;> rfl
    cases k with
    | nm ns =>
      simp only [kD]
      walk_at "dl7"
      refine ⟨_, ?_, fun _ _ z => z⟩
      walk_at "dl7"
      exact fin (stop (by cases x <;> rfl))
    | it =>
      simp only [kD]
      walk_at "dl7"
      refine ⟨_, ?_, fun _ _ z => z⟩
      walk_at "dl7"
      exact fin (stop (by cases x <;> rfl))
    | pr a b =>
      rcases hx1 with rfl | rfl | rfl | ⟨i, rfl, _⟩
      · simp only [kD]
        ((walk_at "dl7"); repeat (simp only [flatD, List.all_cons, List.all_nil, inD_two, Bool.and_true, Bool.or_true, Bool.true_or, Bool.or_false]; (walk_at "dl7")))
        exact ih _ _ ⟨rfl, hx2, next (by simp [kindBelow])⟩
      · simp only [kD]
        ((walk_at "dl7"); repeat (simp only [flatD, List.all_cons, List.all_nil, inD_two, Bool.and_true, Bool.or_true, Bool.true_or, Bool.or_false]; (walk_at "dl7")))
        exact ih _ _ ⟨rfl, hx2, next (by simp [kindBelow, ofStr_inj])⟩
      · simp only [kD]
        ((walk_at "dl7"); repeat (simp only [flatD, List.all_cons, List.all_nil, inD_two, Bool.and_true, Bool.or_true, Bool.true_or, Bool.or_false]; (walk_at "dl7")))
        refine ⟨_, ?_, fun _ _ z => z⟩
        walk_at "dl7"
        exact fin (stop (by simp [kindBelow, ofStr_inj]))
      · simp only [kD]
        ((walk_at "dl7"); repeat (simp only [flatD, List.all_cons, List.all_nil, inD_int, Bool.and_true]; (walk_at "dl7")))
        refine ⟨_, ?_, fun _ _ z => z⟩
        walk_at "dl7"
        exact fin (stop rfl)
    | ei ks =>
      simp only [kD]
      walk_at "dl7"
      refine ⟨_, ?_, fun _ _ z => z⟩
      walk_at "dl7"
      refine ⟨x, rfl, stp_plain hx1, ?_⟩
      rcases hx1 with rfl | rfl | rfl | ⟨i, rfl, hi⟩
      · ((walk_at "dl7"); repeat (simp only [K00.isInt]; (walk_at "dl7"))); exact fin (stop rfl)
      · ((walk_at "dl7"); repeat (simp only [K00.isInt]; (walk_at "dl7"))); exact fin (stop rfl)
      · ((walk_at "dl7"); repeat (simp only [K00.isInt]; (walk_at "dl7"))); exact fin (stop rfl)
      · ((walk_at "dl7"); repeat (simp only [K00.isInt, len_kDs]; (walk_at "dl7")))
        refine sif_i (fun c => ?_) (fun c => ?_)
        · have c := of_decide_eq_true c
          have hl : i.toNat < ks.length := by omega
          have eg := List.getElem?_eq_getElem hl
          walk_at "dl7"
          rw [q_ixt]
          refine ⟨_, atI_kDs hi eg, ?_⟩
          walk_at "dl7"
          exact ih _ _ ⟨rfl, hx2, next eg⟩
        · have c := of_decide_eq_false c
          walk_at "dl7"
          exact fin (stop (List.getElem?_eq_none (show ks.length ≤ i.toNat by omega)))
    | mb k =>
      simp only [kD]
      walk_at "dl7"
      refine ⟨_, ?_, fun _ _ z => z⟩
      rcases hx1 with rfl | rfl | rfl | ⟨i, rfl, _⟩
      · walk_at "dl7"; exact fin (stop (by simp [kindBelow, ofStr_inj]))
      · walk_at "dl7"; exact fin (stop (by simp [kindBelow, ofStr_inj]))
      · walk_at "dl7"; exact ih _ _ ⟨rfl, hx2, next (by simp [kindBelow])⟩
      · walk_at "dl7"; exact fin (stop rfl)
/-! ### parts of letters -/
/-- what a path leads to in a letter -/
def partBelow (v s : D) : Option D := match v, s with
  | .tup [t, x, y], .str s => if isStr t "pair" then (if s = "first" then some x else if s = "second" then some y else none) else none
  | .tup [t, .int i, x], .int j => if isStr t "case" ∧ i = j then some x else none
  | .tup [t, x], .str s => if isStr t "some" ∧ s = "some" then some x else none
  | _, _ => none
def partAt : D → List D → Option D
  | v, [] => some v
  | v, s :: p => match partBelow v s with | some v' => partAt v' p | none => none
def oD : Option D → D | some v => v | none => .non
/-- a letter of some kind -/
def Lt (v : D) : Prop := ∃ k : Kd, isL k v = true
theorem isStr_eq {t : D} {s : Str} (h : isStr t s = true) : t = .str s := by
  cases t with
  | str a => simp only [isStr, decide_eq_true_eq] at h; rw [h]
  | _ => cases h
/-- the forms of a letter -/
theorem Lt.forms {v : D} (h : Lt v) : (∃ s, v = .str s) ∨ (∃ i, v = .int i) ∨ (∃ x y, v = .tup [.str "pair", x, y] ∧ Lt x ∧ Lt y) ∨ (∃ i x, v = .tup [.str "case", .int i, x] ∧ 0 ≤ i ∧ Lt x) ∨ v = .tup [.str "none"] ∨ ∃ x, v = .tup [.str "some", x] ∧ Lt x := by
  obtain ⟨k, h⟩ := h
  unfold isL at h
  split at h
  · exact .inl ⟨_, rfl⟩
  · cases h
  · exact .inr (.inl ⟨_, rfl⟩)
  · cases h
  · rename_i a b t x y
    simp only [Bool.and_eq_true] at h
    rw [isStr_eq h.1.1]
    exact .inr (.inr (.inl ⟨x, y, rfl, ⟨a, h.1.2⟩, ⟨b, h.2⟩⟩))
  · cases h
  · rename_i ks t i x
    simp only [Bool.and_eq_true, decide_eq_true_eq] at h
    rw [isStr_eq h.1]
    refine .inr (.inr (.inr (.inl ⟨i, x, rfl, h.2.1, ?_⟩)))
    rw [isLn_get] at h
    cases e : ks[i.toNat]? with
    | none => rw [e] at h; cases h.2.2
    | some k => rw [e] at h; exact ⟨k, h.2.2⟩
  · cases h
  · rw [isStr_eq h]
    exact .inr (.inr (.inr (.inr (.inl rfl))))
  · rename_i k t x
    simp only [Bool.and_eq_true] at h
    rw [isStr_eq h.1]
    exact .inr (.inr (.inr (.inr (.inr ⟨x, rfl, ⟨k, h.2⟩⟩))))
  · cases h
end K03

set_option Elab.async false
set_option linter.all false
set_option maxRecDepth 100000
set_option maxHeartbeats 1000000
namespace K03
open PySem PySem.Spec PyProof.Rows L2 DL K00
def sp_part_below : Sp' := fun ds h Q _ => ∃ v s, ds = [v, s] ∧ Lt v ∧ Stp s ∧ Q (oD (partBelow v s)) h
theorem pb_pair {x y : D} {s : Str} : partBelow (.tup [.str "pair", x, y]) (.str s) = if s = "first" then some x else if s = "second" then some y else none := by
  cases x <;> simp [partBelow, isStr]
theorem pb_pairI {x y : D} {i : Int} : partBelow (.tup [.str "pair", x, y]) (.int i) = none := by
  cases x <;> simp [partBelow, isStr, ofStr_inj]
theorem pb_case {x : D} {i : Int} {s : Str} : partBelow (.tup [.str "case", .int i, x]) (.str s) = none := by
  cases x <;> simp [partBelow, isStr, ofStr_inj]
theorem pb_caseI {x : D} {i j : Int} : partBelow (.tup [.str "case", .int i, x]) (.int j) = if i = j then some x else none := by
  cases x <;> simp [partBelow, isStr]
theorem pb_some {x : D} {s : Str} : partBelow (.tup [.str "some", x]) (.str s) = if s = "some" then some x else none := by
  cases x <;> simp [partBelow, isStr]
theorem pb_someI {x : D} {i : Int} : partBelow (.tup [.str "some", x]) (.int i) = none := by
  cases x <;> simp [partBelow, isStr]
theorem pb_none {s : D} : partBelow (.tup [.str "none"]) s = none := by cases s <;> rfl
theorem pb_str {x : Str} {s : D} : partBelow (.str x) s = none := by cases s <;> rfl
theorem pb_int {x : Int} {s : D} : partBelow (.int x) s = none := by cases s <;> rfl
theorem below_keeps {v s w : D} {n : Nat} (h : Lt v) (hs : Stp s) (hv : val v n = true) (e : partBelow v s = some w) : Lt w ∧ val w n = true := by
  have dn : ∀ {xs : List D} {x : D}, val (.tup xs) n = true → x ∈ xs → val x n = true := fun {xs x} h m => by
    cases n with
    | zero => simp [val] at h
    | succ n => exact val_mono _ n _ (by omega) (vals_mem.mp (by simpa [val] using h) x m)
  rcases h.forms with ⟨x, rfl⟩ | ⟨i, rfl⟩ | ⟨x, y, rfl, hx, hy⟩ | ⟨i, x, rfl, i0, hx⟩ | rfl | ⟨x, rfl, hx⟩
  · rw [pb_str] at e; cases e
  · rw [pb_int] at e; cases e
  · have vx := dn (x := x) hv (by simp)
    have vy := dn (x := y) hv (by simp)
    rcases hs with rfl | rfl | rfl | ⟨j, rfl, _⟩
    · rw [pb_pair, if_pos rfl] at e; cases e; exact ⟨hx, vx⟩
    · rw [pb_pair, if_neg (by simp [ofStr_inj]), if_pos rfl] at e; cases e; exact ⟨hy, vy⟩
    · rw [pb_pair, if_neg (by simp [ofStr_inj]), if_neg (by simp [ofStr_inj])] at e; cases e
    · rw [pb_pairI] at e; cases e
  · have vx := dn (x := x) hv (by simp)
    rcases hs with rfl | rfl | rfl | ⟨j, rfl, _⟩
    · rw [pb_case] at e; cases e
    · rw [pb_case] at e; cases e
    · rw [pb_case] at e; cases e
    · rw [pb_caseI] at e; split at e <;> cases e; exact ⟨hx, vx⟩
  · rw [pb_none] at e; cases e
  · have vx := dn (x := x) hv (by simp)
    rcases hs with rfl | rfl | rfl | ⟨j, rfl, _⟩
    · rw [pb_some, if_neg (by simp [ofStr_inj])] at e; cases e
    · rw [pb_some, if_neg (by simp [ofStr_inj])] at e; cases e
    · rw [pb_some, if_pos rfl] at e; cases e; exact ⟨hx, vx⟩
    · rw [pb_someI] at e; cases e
theorem isNon_Lt {v : D} (h : Lt v) : isNon v = false := by
  rcases h.forms with ⟨x, rfl⟩ | ⟨i, rfl⟩ | ⟨x, y, rfl, hx, hy⟩ | ⟨i, x, rfl, i0, hx⟩ | rfl | ⟨x, rfl, hx⟩ <;> rfl
theorem rd_part_below (ds : List D) (h : DH) (Q : VK') (E' : XK') (q : sp_part_below ds h Q E') : t_part_below (ends Q) (slots n_part_below ds) h := by
  obtain ⟨v, s, rfl, hv, hs, q⟩ := q
  show t_part_below (ends Q) [some v, some s] h
  unfold t_part_below
  rcases hv.forms with ⟨x, rfl⟩ | ⟨i, rfl⟩ | ⟨x, y, rfl, hx, hy⟩ | ⟨i, x, rfl, i0, hx⟩ | rfl | ⟨x, rfl, hx⟩
  · rw [pb_str] at q; walk_at "dl7"; exact fin q
  · rw [pb_int] at q; walk_at "dl7"; exact fin q
  · rcases hs with rfl | rfl | rfl | ⟨j, rfl, _⟩
    · rw [pb_pair, if_pos rfl] at q; walk_at "dl7"; exact fin q
    · rw [pb_pair, if_neg (by simp [ofStr_inj]), if_pos rfl] at q; walk_at "dl7"; exact fin q
    · rw [pb_pair, if_neg (by simp [ofStr_inj]), if_neg (by simp [ofStr_inj])] at q; walk_at "dl7"; exact fin q
    · rw [pb_pairI] at q; walk_at "dl7"; exact fin q
  · rcases hs with rfl | rfl | rfl | ⟨j, rfl, _⟩
    · rw [pb_case] at q; walk_at "dl7"; exact fin q
    · rw [pb_case] at q; walk_at "dl7"; exact fin q
    · rw [pb_case] at q; walk_at "dl7"; exact fin q
    · rw [pb_caseI] at q
      walk_at "dl7"
      refine sif_i (fun c => ?_) (fun c => ?_)
      · rw [if_pos (of_decide_eq_true c)] at q; walk_at "dl7"; exact fin q
      · rw [if_neg (of_decide_eq_false c)] at q; walk_at "dl7"; exact fin q
  · rw [pb_none] at q; rcases hs with rfl | rfl | rfl | ⟨j, rfl, _⟩ <;> (walk_at "dl7"; exact fin q)
  · rcases hs with rfl | rfl | rfl | ⟨j, rfl, _⟩
    · rw [pb_some, if_neg (by simp [ofStr_inj])] at q; walk_at "dl7"; exact fin q
    · rw [pb_some, if_neg (by simp [ofStr_inj])] at q; walk_at "dl7"; exact fin q
    · rw [pb_some, if_pos rfl] at q; walk_at "dl7"; exact fin q
    · rw [pb_someI] at q; walk_at "dl7"; exact fin q
def sp_part_at : Sp' := fun ds h Q _ => ∃ v p, ds = [v, .tup p] ∧ Lt v ∧ val v 40 = true ∧ (∀ s ∈ p, Stp s) ∧ Q (oD (partAt v p)) h
theorem rd_part_at (ds : List D) (h : DH) (Q : VK') (E' : XK') (q : sp_part_at ds h Q E') : t_part_at sp_part_below (ends Q) (slots n_part_at ds) h := by
  obtain ⟨k, p, rfl, hv, vv, hp, q⟩ := q
  show t_part_at _ (ends Q) [some k, some (.tup p), none] h
  unfold t_part_at
  walk_at "dl7"
  refine for_ind (fun xs τ g => g = h ∧ (∀ s ∈ xs, Stp s) ∧ ∃ k c, τ = [some k, some (.tup p), c] ∧ Lt k ∧ val k 40 = true ∧ Q (oD (partAt k xs)) h) ?_ ?_ _ _ _ ⟨rfl, hp, k, none, rfl, hv, vv, q⟩
  · rintro τ g ⟨rfl, _, k, c, rfl, _, _, q⟩
    rw [q_fnil]
    walk_at "dl7"
    exact fin q
  · rintro x xs ih τ g ⟨rfl, hx, k, c, rfl, hv, vv, q⟩
    rw [q_fcons]
    walk_at "dl7"
    refine ⟨k, x, rfl, hv, hx x List.mem_cons_self, ?_⟩
    simp only [partAt] at q
    cases e : partBelow k x with
    | none =>
      rw [e] at q
      simp only [oD]
      walk_at "dl7"
      exact fin q
    | some k' =>
      rw [e] at q
      simp only [oD]
      have z := below_keeps hv (hx x List.mem_cons_self) vv e
      ((walk_at "dl7"); repeat (simp only [isNon_Lt z.1]; (walk_at "dl7")))
      exact ih _ _ ⟨rfl, fun s hs => hx s (List.mem_cons_of_mem _ hs), k', _, rfl, z.1, z.2, q⟩
end K03

set_option Elab.async false
set_option linter.all false
set_option maxRecDepth 100000
set_option maxHeartbeats 1000000
namespace K03
open PySem PySem.Spec PyProof.Rows L2 DL K00
theorem stp_flat {y : D} (h : Stp y) : flatD y = true := by rcases h with rfl | rfl | rfl | ⟨i, rfl, _⟩ <;> rfl
theorem rd__law_part_at (ds : List D) (h : DH) (Q : VK') (E' : XK') (q : sp_part_at ds h Q E') : t__law_part_at sp_is_integer (ends Q) (slots n__law_part_at ds) h := by
  obtain ⟨k, p, rfl, hv, vv, hp, q⟩ := q
  show t__law_part_at _ (ends Q) [some k, some (.tup p), none] h
  unfold t__law_part_at
  walk_at "dl7"
  refine for_ind (fun xs τ g => g = h ∧ (∀ s ∈ xs, Stp s) ∧ ∃ k c, τ = [some k, some (.tup p), c] ∧ Lt k ∧ val k 40 = true ∧ Q (oD (partAt k xs)) h) ?_ ?_ _ _ _ ⟨rfl, hp, k, none, rfl, hv, vv, q⟩
  · rintro τ g ⟨rfl, _, k, c, rfl, _, _, q⟩
    rw [q_fnil]
    walk_at "dl7"
    exact fin q
  · rintro x xs ih τ g ⟨rfl, hx, v, c, rfl, hv, vv, q⟩
    rw [q_fcons]
    have hx1 := hx x List.mem_cons_self
    have hx2 : ∀ s ∈ xs, Stp s := fun s hs => hx s (List.mem_cons_of_mem _ hs)
    have next : ∀ {v' : D} {c : Option D}, partBelow v x = some v' → ∃ k c', [some v', some (.tup p), c] = [some k, some (.tup p), c'] ∧ Lt k ∧ val k 40 = true ∧ Q (oD (partAt k xs)) g := fun {v' c} e => by
      have z := below_keeps hv hx1 vv e
      simp only [partAt, e] at q
      exact ⟨v', c, rfl, z.1, z.2, q⟩
    have stop : partBelow v x = none → Q .non g := fun e => by
      simp only [partAt, e, oD] at q
      exact q
    rcases hv.forms with ⟨s, rfl⟩ | ⟨i, rfl⟩ | ⟨y, z, rfl, hy, hz⟩ | ⟨i, y, rfl, i0, hy⟩ | rfl | ⟨y, rfl, hy⟩
    · walk_at "dl7"; exact fin (stop pb_str)
    · walk_at "dl7"; exact fin (stop pb_int)
    · walk_at "dl7"
      refine ⟨_, ?_, fun _ _ z => z⟩
      rcases hx1 with rfl | rfl | rfl | ⟨j, rfl, _⟩
      · ((walk_at "dl7"); repeat (simp only [flatD, List.all_cons, List.all_nil, inD_two, Bool.and_true, Bool.or_true, Bool.true_or, Bool.or_false]; (walk_at "dl7")))
        exact ih _ _ ⟨rfl, hx2, next (by rw [pb_pair, if_pos rfl])⟩
      · ((walk_at "dl7"); repeat (simp only [flatD, List.all_cons, List.all_nil, inD_two, Bool.and_true, Bool.or_true, Bool.true_or, Bool.or_false]; (walk_at "dl7")))
        exact ih _ _ ⟨rfl, hx2, next (by rw [pb_pair, if_neg (by simp [ofStr_inj]), if_pos rfl])⟩
      · ((walk_at "dl7"); repeat (simp only [flatD, List.all_cons, List.all_nil, inD_two, Bool.and_true, Bool.or_true, Bool.true_or, Bool.or_false]; (walk_at "dl7")))
        refine ⟨_, ?_, fun _ _ z => z⟩
        walk_at "dl7"
        exact fin (stop (by rw [pb_pair, if_neg (by simp [ofStr_inj]), if_neg (by simp [ofStr_inj])]))
      · ((walk_at "dl7"); repeat (simp only [flatD, List.all_cons, List.all_nil, inD_int, Bool.and_true]; (walk_at "dl7")))
        refine ⟨_, ?_, fun _ _ z => z⟩
        walk_at "dl7"
        exact fin (stop pb_pairI)
    · walk_at "dl7"
      refine ⟨_, ?_, fun _ _ z => z⟩
      walk_at "dl7"
      refine ⟨_, ?_, fun _ _ z => z⟩
      walk_at "dl7"
      refine ⟨x, rfl, stp_plain hx1, ?_⟩
      rcases hx1 with rfl | rfl | rfl | ⟨j, rfl, _⟩
      · ((walk_at "dl7"); repeat (simp only [K00.isInt]; (walk_at "dl7"))); exact fin (stop pb_case)
      · ((walk_at "dl7"); repeat (simp only [K00.isInt]; (walk_at "dl7"))); exact fin (stop pb_case)
      · ((walk_at "dl7"); repeat (simp only [K00.isInt]; (walk_at "dl7"))); exact fin (stop pb_case)
      · ((walk_at "dl7"); repeat (simp only [K00.isInt]; (walk_at "dl7")))
        refine sif_i (fun c => ?_) (fun c => ?_)
        · have c : j = i := of_decide_eq_true c
          walk_at "dl7"
          exact ih _ _ ⟨rfl, hx2, next (by rw [pb_caseI, if_pos c.symm])⟩
        · have c : ¬ j = i := of_decide_eq_false c
          walk_at "dl7"
          exact fin (stop (by rw [pb_caseI, if_neg (fun e => c e.symm)]))
    · walk_at "dl7"
      refine ⟨_, ?_, fun _ _ z => z⟩
      walk_at "dl7"
      refine ⟨_, ?_, fun _ _ z => z⟩
      walk_at "dl7"
      exact fin (stop pb_none)
    · walk_at "dl7"
      refine ⟨_, ?_, fun _ _ z => z⟩
      walk_at "dl7"
      refine ⟨_, ?_, fun _ _ z => z⟩
      rcases hx1 with rfl | rfl | rfl | ⟨j, rfl, _⟩
      · walk_at "dl7"; exact fin (stop (by rw [pb_some, if_neg (by simp [ofStr_inj])]))
      · walk_at "dl7"; exact fin (stop (by rw [pb_some, if_neg (by simp [ofStr_inj])]))
      · walk_at "dl7"; exact ih _ _ ⟨rfl, hx2, next (by rw [pb_some, if_pos rfl])⟩
      · walk_at "dl7"; exact fin (stop pb_someI)
/-! ### _law_same: of one value with itself -/
def spSame : Nat → Sp' := fun n ds h Q _ => ∃ x m, n = m + 1 ∧ ds = [x, x] ∧ val x m = true ∧ wid x 100 = true ∧ Q (.bl true) h
theorem rngD_mem {n : Nat} {z : D} (m : z ∈ rngD 0 n) : ∃ i : Nat, z = .int i ∧ i < n := by
  unfold rngD at m
  obtain ⟨i, hi, rfl⟩ := List.mem_map.mp m
  exact ⟨i, by simp, List.mem_range.mp hi⟩
theorem rd__law_same (n : Nat) (ds : List D) (h : DH) (Q : VK') (E' : XK') (q : spSame (n + 1) ds h Q E') : t__law_same (spSame n) sp_is_integer (ends Q) (slots n__law_same ds) h := by
  obtain ⟨x, m, e, rfl, hv, hw, q⟩ := q
  cases e
  show t__law_same _ _ (ends Q) [some x, some x, none] h
  unfold t__law_same
  cases x with
  | non => walk_at "dl7"; exact fin q
  | bl b => walk_at "dl7"; exact fin (by simpa using q)
  | int i => walk_at "dl7"; refine ⟨_, rfl, rfl, ?_⟩; ((walk_at "dl7"); repeat (simp only [K00.isInt]; (walk_at "dl7"))); exact fin (by simpa using q)
  | str s => walk_at "dl7"; exact fin (by simpa using q)
  | lis _ => simp [val] at hv
  | scr _ => simp [val] at hv
  | ref _ => simp [val] at hv
  | ty _ => simp [val] at hv
  | tup xs =>
    cases n with
    | zero => simp [val] at hv
    | succ n =>
    have vm : ∀ x ∈ xs, val x n = true := vals_mem.mp (by simpa [val] using hv)
    simp only [wid, Bool.and_eq_true, decide_eq_true_eq] at hw
    have wm := wids_mem.mp hw.2
    walk_at "dl7"
    refine ⟨by omega, by omega, ?_⟩
    refine for_ind (fun zs τ g => g = h ∧ (∀ z ∈ zs, ∃ i : Nat, z = .int i ∧ i < xs.length) ∧ ∃ c, τ = [some (.tup xs), some (.tup xs), c]) ?_ ?_ _ _ _ ⟨rfl, fun z m => by obtain ⟨i, e, l⟩ := rngD_mem m; exact ⟨i, e, by omega⟩, none, rfl⟩
    · rintro τ g ⟨rfl, _, c, rfl⟩
      rw [q_fnil]
      walk_at "dl7"
      exact fin q
    · rintro z zs ih τ g ⟨rfl, hz, c, rfl⟩
      obtain ⟨i, rfl, hi⟩ := hz z List.mem_cons_self
      rw [q_fcons]
      have eg := atI_nat (List.getElem?_eq_getElem hi)
      walk_at "dl7"
      rw [q_ixt]
      refine ⟨_, eg, ?_⟩
      walk_at "dl7"
      rw [q_ixt]
      refine ⟨_, eg, ?_⟩
      walk_at "dl7"
      refine ⟨xs[i], n, rfl, rfl, vm _ (List.getElem_mem hi), wm _ (List.getElem_mem hi), ?_⟩
      walk_at "dl7"
      exact ih _ _ ⟨rfl, fun z m => hz z (List.mem_cons_of_mem _ m), _, rfl⟩
/-! ### kinds as values -/
theorem kd_val : ∀ (n : Nat) (k : Kd), k.depth ≤ n → k.ok → val (kD k) (2 * n) = true
  | 0, k, h, _ => by have := k.depth_pos; omega
  | n + 1, k, h, o => by
    rw [show 2 * (n + 1) = (2 * n + 1) + 1 by omega]
    cases k with
    | nm ns =>
      simp only [kD, val, vals, sok_of, Bool.true_and, Bool.and_true]
      exact vals_mem.mpr fun x m => by
        obtain ⟨y, hy, rfl⟩ := List.mem_map.mp m
        simpa [val] using o.2.2 y hy
    | it => simp only [kD, val, vals, sok_of, Bool.true_and]
    | pr a b =>
      simp only [Kd.depth] at h
      simp only [kD, val, vals, sok_of, Bool.true_and, Bool.and_true, Bool.and_eq_true]
      exact ⟨val_mono _ _ _ (by omega) (kd_val n a (by omega) o.1), val_mono _ _ _ (by omega) (kd_val n b (by omega) o.2)⟩
    | ei ks =>
      simp only [Kd.depth] at h
      simp only [kD, val, vals, sok_of, Bool.true_and, Bool.and_true]
      exact vals_mem.mpr fun x m => by
        rw [kDs_map] at m
        obtain ⟨y, hy, rfl⟩ := List.mem_map.mp m
        have := Kd.depth_mem hy
        exact kd_val n y (by omega) (Kd.oks_mem.mp o.2 y hy)
    | mb k =>
      simp only [Kd.depth] at h
      simp only [kD, val, vals, sok_of, Bool.true_and, Bool.and_true]
      exact val_mono _ _ _ (by omega) (kd_val n k (by omega) o)
theorem kd_wid : ∀ (n : Nat) (k : Kd), k.depth ≤ n → k.ok → k.cnt ≤ 100 → wid (kD k) 100 = true
  | 0, k, h, _, _ => by have := k.depth_pos; omega
  | n + 1, k, h, o, c => by
    cases k with
    | nm ns =>
      simp only [kD, wid, wids, Bool.true_and, Bool.and_true, Bool.and_eq_true, decide_eq_true_eq, List.length_cons, List.length_nil, List.length_map]
      refine ⟨by omega, by have := o.2.1; omega, wids_mem.mpr fun x m => ?_⟩
      obtain ⟨y, hy, rfl⟩ := List.mem_map.mp m
      rfl
    | it => rfl
    | pr a b =>
      simp only [Kd.depth] at h
      simp only [Kd.cnt] at c
      simp only [kD, wid, wids, Bool.true_and, Bool.and_true, Bool.and_eq_true, decide_eq_true_eq, List.length_cons, List.length_nil]
      exact ⟨by omega, kd_wid n a (by omega) o.1 (by omega), kd_wid n b (by omega) o.2 (by omega)⟩
    | ei ks =>
      simp only [Kd.depth] at h
      simp only [Kd.cnt] at c
      simp only [kD, wid, wids, Bool.true_and, Bool.and_true, Bool.and_eq_true, decide_eq_true_eq, List.length_cons, List.length_nil, len_kDs]
      refine ⟨by omega, by have := Kd.len_cnts ks; omega, wids_mem.mpr fun x m => ?_⟩
      rw [kDs_map] at m
      obtain ⟨y, hy, rfl⟩ := List.mem_map.mp m
      have := Kd.depth_mem hy
      have := Kd.cnt_mem hy
      exact kd_wid n y (by omega) (Kd.oks_mem.mp o.2 y hy) (by omega)
    | mb k =>
      simp only [Kd.depth] at h
      simp only [Kd.cnt] at c
      simp only [kD, wid, wids, Bool.true_and, Bool.and_true, Bool.and_eq_true, decide_eq_true_eq, List.length_cons, List.length_nil]
      exact ⟨by omega, kd_wid n k (by omega) o (by omega)⟩
/-- a kind with its bounds -/
def Kb (k : Kd) : Prop := k.ok ∧ k.depth ≤ 3 ∧ k.cnt ≤ 100
theorem kindBelow_keeps {k k' : Kd} {s : D} (o : Kb k) (e : kindBelow k s = some k') : Kb k' := by
  obtain ⟨o, d, c⟩ := o
  cases k with
  | nm ns => cases s <;> cases e
  | it => cases s <;> cases e
  | pr a b =>
    simp only [Kd.depth] at d
    simp only [Kd.cnt] at c
    cases s with
    | str s =>
      simp only [kindBelow] at e
      split at e
      · cases e; exact ⟨o.1, by omega, by omega⟩
      · split at e
        · cases e; exact ⟨o.2, by omega, by omega⟩
        · cases e
    | _ => cases e
  | ei ks =>
    simp only [Kd.depth] at d
    simp only [Kd.cnt] at c
    cases s with
    | int i =>
      have m := List.mem_of_getElem? (show ks[i.toNat]? = some k' from e)
      have := Kd.depth_mem m
      have := Kd.cnt_mem m
      exact ⟨Kd.oks_mem.mp o.2 _ m, by omega, by omega⟩
    | _ => cases e
  | mb a =>
    simp only [Kd.depth] at d
    simp only [Kd.cnt] at c
    cases s with
    | str s =>
      simp only [kindBelow] at e
      split at e
      · cases e; exact ⟨o, by omega, by omega⟩
      · cases e
    | _ => cases e
theorem kindAt_keeps {k' : Kd} : ∀ (p : List D) (k : Kd), Kb k → kindAt k p = some k' → Kb k'
  | [], k, o, e => by cases e; exact o
  | s :: p, k, o, e => by
    simp only [kindAt] at e
    split at e
    · rename_i k1 e1
      exact kindAt_keeps p k1 (kindBelow_keeps o e1) e
    · cases e
/-! ### _law_path -/
def spPath : Sp' := fun ds h Q _ => ∃ (a : Addr) (k : Kd), ds = [.ref a, kD k] ∧ Kb k ∧ Tp h a ∧ ∀ p t, (∀ s ∈ p, Stp s) → TOk t → Q (.tup p) (put h a t)
theorem rd__law_path (ds : List D) (h : DH) (Q : VK') (E' : XK') (q : spPath ds h Q E') : t__law_path spDraw sp_kind_at (ends Q) (slots n__law_path ds) h := by
  obtain ⟨a, k, rfl, hk, tp, q⟩ := q
  show t__law_path _ _ (ends Q) [some (.ref a), some (kD k), none, none, none, none] h
  unfold t__law_path
  walk_at "dl7"
  refine drw tp fun c t c0 c1 ot => ?_
  walk_at "dl7"
  refine ⟨by omega, by omega, ?_⟩
  refine for_ind (fun zs τ g => ∃ p t x3 x4 x5, τ = [some (.ref a), some (kD k), some (.tup p), x3, x4, x5] ∧ (∀ s ∈ p, Stp s) ∧ p.length + zs.length ≤ 4 ∧ g = put h a t ∧ TOk t) ?_ ?_ _ _ _ ⟨[], t, none, none, none, rfl, by simp, ?_, rfl, ot⟩
  · rintro τ g ⟨p, t, x3, x4, x5, rfl, hp, _, rfl, ot⟩
    rw [q_fnil]
    walk_at "dl7"
    exact fin (q p t hp ot)
  · rintro z zs ih τ g ⟨p, t, x3, x4, x5, rfl, hp, pl, rfl, ot⟩
    simp only [List.length_cons] at pl
    rw [q_fcons]
    walk_at "dl7"
    refine drw (tp_put ot) fun r t r0 r1 ot => ?_
    walk_at "dl7"
    obtain ⟨s, e, m⟩ := pick (xs := [D.str "first", .str "second", .str "some", .int 0, .int 1, .int 2]) r0 (by simp only [List.length_cons, List.length_nil]; omega)
    have hs : Stp s := by
      simp only [List.mem_cons, List.not_mem_nil, or_false] at m
      rcases m with rfl | rfl | rfl | rfl | rfl | rfl
      · exact .inl rfl
      · exact .inr (.inl rfl)
      · exact .inr (.inr (.inl rfl))
      · exact .inr (.inr (.inr ⟨_, rfl, by decide⟩))
      · exact .inr (.inr (.inr ⟨_, rfl, by decide⟩))
      · exact .inr (.inr (.inr ⟨_, rfl, by decide⟩))
    rw [q_ixl]
    refine ⟨s, e, ?_⟩
    walk_at "dl7"
    refine ⟨k, p, rfl, hp, ?_⟩
    walk_at "dl7"
    refine ⟨fun τ g => ∃ t s, τ = [some (.ref a), some (kD k), some (.tup p), some z, some s, some (oK (kindAt k p))] ∧ Stp s ∧ g = put h a t ∧ TOk t, ?_, ?_⟩
    · walk_at "dl7"
      refine drw (tp_put ot) fun r t r0 r1 ot => ?_
      walk_at "dl7"
      refine sif_i (fun b1 => ?_) (fun b1 => ?_)
      · cases e : kindAt k p with
        | none =>
          simp only [oK]
          walk_at "dl7"
          exact ⟨t, s, rfl, hs, rfl, ot⟩
        | some k' =>
          have hk' := kindAt_keeps p k hk e
          simp only [oK]
          cases k' with
          | nm ns =>
            simp only [kD]
            walk_at "dl7"
            refine ⟨_, ?_, fun _ _ z => z⟩
            walk_at "dl7"
            refine ⟨_, ?_, fun _ _ z => z⟩
            walk_at "dl7"
            refine ⟨_, ?_, fun _ _ z => z⟩
            walk_at "dl7"
            exact ⟨t, s, rfl, hs, rfl, ot⟩
          | it =>
            simp only [kD]
            walk_at "dl7"
            refine ⟨_, ?_, fun _ _ z => z⟩
            walk_at "dl7"
            refine ⟨_, ?_, fun _ _ z => z⟩
            walk_at "dl7"
            refine ⟨_, ?_, fun _ _ z => z⟩
            walk_at "dl7"
            exact ⟨t, s, rfl, hs, rfl, ot⟩
          | pr a b =>
            simp only [kD]
            walk_at "dl7"
            refine ⟨_, ?_, fun _ _ z => z⟩
            walk_at "dl7"
            refine drw (tp_put ot) fun r t r0 r1 ot => ?_
            walk_at "dl7"
            obtain ⟨s, e, m⟩ := pick (xs := [D.str "first", .str "second"]) r0 (by simp only [List.length_cons, List.length_nil]; omega)
            have hs : Stp s := by
              simp only [List.mem_cons, List.not_mem_nil, or_false] at m
              rcases m with rfl | rfl
              · exact .inl rfl
              · exact .inr (.inl rfl)
            rw [q_ixl]
            refine ⟨s, e, ?_⟩
            walk_at "dl7"
            refine ⟨_, ?_, fun _ _ z => z⟩
            walk_at "dl7"
            refine ⟨_, ?_, fun _ _ z => z⟩
            walk_at "dl7"
            exact ⟨t, s, rfl, hs, rfl, ot⟩
          | ei ks =>
            simp only [kD]
            walk_at "dl7"
            refine ⟨_, ?_, fun _ _ z => z⟩
            walk_at "dl7"
            refine ⟨_, ?_, fun _ _ z => z⟩
            walk_at "dl7"
            refine ⟨_, ?_, fun _ _ z => z⟩
            walk_at "dl7"
            refine drw (tp_put ot) (fun r t r0 r1 ot => ?_) (by have := Kd.len_cnts ks; have := hk'.2.2; simp only [Kd.cnt] at this; rw [len_kDs]; omega)
            walk_at "dl7"
            exact ⟨t, _, rfl, .inr (.inr (.inr ⟨_, rfl, r0⟩)), rfl, ot⟩
          | mb k =>
            simp only [kD]
            walk_at "dl7"
            refine ⟨_, ?_, fun _ _ z => z⟩
            walk_at "dl7"
            refine ⟨_, ?_, fun _ _ z => z⟩
            walk_at "dl7"
            refine ⟨_, ?_, fun _ _ z => z⟩
            walk_at "dl7"
            exact ⟨t, _, rfl, .inr (.inr (.inl rfl)), rfl, ot⟩
      · walk_at "dl7"
        exact ⟨t, s, rfl, hs, rfl, ot⟩
    · rintro τ g ⟨t, s, rfl, hs, rfl, ot⟩
      walk_at "dl7"
      refine ⟨Nat.le_trans (m := 5) (by omega) (by decide), ?_⟩
      refine ih _ _ ⟨p ++ [s], t, _, _, _, rfl, ?_, ?_, rfl, ot⟩
      · intro y m
        rcases List.mem_append.mp m with m | m
        · exact hp y m
        · rw [List.mem_singleton.mp m]; exact hs
      · simp only [List.length_append, List.length_cons, List.length_nil]; omega
  · unfold rngD
    simp only [List.length_nil, List.length_map, List.length_range]
    omega
end K03

set_option Elab.async false
set_option linter.all false
set_option maxRecDepth 100000
set_option maxHeartbeats 1000000
namespace K03
open PySem PySem.Spec PyProof.Rows L2 DL K00
theorem below_wid {v s w : D} {n : Nat} (hv : wid v n = true) (e : partBelow v s = some w) : wid w n = true := by
  unfold partBelow at e
  split at e
  · simp only [wid, wids, Bool.and_eq_true] at hv
    split at e
    · split at e
      · cases e; exact hv.2.2.1
      · split at e
        · cases e; exact hv.2.2.2.1
        · cases e
    · cases e
  · simp only [wid, wids, Bool.and_eq_true] at hv
    split at e
    · cases e; exact hv.2.2.2.1
    · cases e
  · simp only [wid, wids, Bool.and_eq_true] at hv
    split at e
    · cases e; exact hv.2.2.1
    · cases e
  · cases e
theorem partAt_keeps {n m : Nat} : ∀ (p : List D) (v : D), (∀ s ∈ p, Stp s) → Lt v → val v n = true → wid v m = true → val (oD (partAt v p)) n = true ∧ wid (oD (partAt v p)) m = true
  | [], v, _, _, a, b => ⟨a, b⟩
  | s :: p, v, hp, hl, a, b => by
    simp only [partAt]
    split
    · rename_i v' e
      have z := below_keeps hl (hp s List.mem_cons_self) a e
      exact partAt_keeps p v' (fun s m => hp s (List.mem_cons_of_mem _ m)) z.1 z.2 (below_wid b e)
    · exact ⟨rfl, rfl⟩
theorem kindAt_val {p : List D} {k : Kd} (o : Kb k) : val (oK (kindAt k p)) 40 = true ∧ wid (oK (kindAt k p)) 100 = true := by
  cases e : kindAt k p with
  | none => exact ⟨rfl, rfl⟩
  | some k' =>
    have z := kindAt_keeps p k o e
    exact ⟨val_mono _ _ _ (by decide) (kd_val 3 k' z.2.1 z.1), kd_wid 3 k' z.2.1 z.1 z.2.2⟩
theorem rd_law (ds : List D) (h : DH) (Q : VK') (E' : XK') (q : spLaw ds h Q E') : t_law spTape (spKind 3) (spLetter 3) spPath spDraw sp_kind_at sp_kind_at (spSame 41) sp_part_at sp_part_at (ends Q) (slots n_law ds) h := by
  obtain ⟨ns, rfl, hl, hn, q⟩ := q
  show t_law _ _ _ _ _ _ _ _ _ _ (ends Q) [some (.scr ns), none, none, none, none, none, none, none, none, none] h
  unfold t_law
  have done : ∀ h', (ends Q).rt (.bl true) h' := fun h' => fin (q h')
  walk_at "dl7"
  refine ⟨ns, rfl, fun a t na ot => ?_⟩
  walk_at "dl7"
  refine ⟨a, 3, 6, rfl, by decide, by decide, by decide, by decide, tp_put ot, fun k t hk kd kc ot => ?_⟩
  walk_at "dl7"
  refine ⟨a, 3, 6, rfl, by decide, by decide, by decide, by decide, tp_put ot, fun k2 t hk2 kd2 kc2 ot => ?_⟩
  walk_at "dl7"
  have kd : k.depth ≤ 3 := by omega
  have kd2 : k2.depth ≤ 3 := by omega
  have kb : Kb k := ⟨hk, kd, by omega⟩
  have kb2 : Kb k2 := ⟨hk2, kd2, by omega⟩
  rw [q_lc]
  walk_at "dl7"
  intro p np
  have pa := ne_put np
  have nh := free_put np
  rw [q_lcons]
  walk_at "dl7"
  refine ⟨a, k, 20, .int 12, rfl, hk, kd, by omega, by decide, by decide, tp_under pa ot, fun l t ⟨ll, lv, lw⟩ ot => ?_⟩
  rw [put3 pa]
  refine ⟨show 0 < sizeLine by decide, ?_⟩
  rw [q_lcons]
  walk_at "dl7"
  refine ⟨a, k2, 20, .int 12, rfl, hk2, kd2, by omega, by decide, by decide, tp_under pa ot, fun l2 t ⟨ll2, lv2, lw2⟩ ot => ?_⟩
  rw [put3 pa]
  refine ⟨show 1 < sizeLine by decide, ?_⟩
  rw [q_lnil]
  walk_at "dl7"
  rw [del_put (show put h a t p = none by rw [put_ne pa]; exact nh)]
  refine ⟨a, k, rfl, kb, tp_put ot, fun p1 t hp1 ot => ?_⟩
  walk_at "dl7"
  refine ⟨a, k, rfl, kb, tp_put ot, fun p2 t hp2 ot => ?_⟩
  walk_at "dl7"
  refine ⟨a, k2, rfl, kb2, tp_put ot, fun p3 t hp3 ot => ?_⟩
  walk_at "dl7"
  refine drw (tp_put ot) (fun r t r0 r1 ot => ?_)
  walk_at "dl7"
  rw [show cutD [D.tup p1, D.tup p2, D.tup p3] none (some 1) = [D.tup p1] from rfl]
  refine ⟨show 4 ≤ sizeLine by decide, ?_⟩
  have kv : ∀ {p : List D} {kk : Kd}, Kb kk → ∀ {g : DH} {R : VK'} {E : XK'}, R (.bl true) g → spSame 41 [oK (kindAt kk p), oK (kindAt kk p)] g R E := fun {p kk} o {g R E} q => ⟨_, 40, rfl, rfl, (kindAt_val o).1, (kindAt_val o).2, q⟩
  have pv : ∀ {p : List D} {v : D}, (∀ s ∈ p, Stp s) → Lt v → val v 40 = true → wid v 100 = true → ∀ {g : DH} {R : VK'} {E : XK'}, R (.bl true) g → spSame 41 [oD (partAt v p), oD (partAt v p)] g R E := fun {p v} hp o a b {g R E} q => ⟨_, 40, rfl, rfl, (partAt_keeps p v hp o a b).1, (partAt_keeps p v hp o a b).2, q⟩
  have l1 : Lt l := ⟨k, ll⟩
  have l2' : Lt l2 := ⟨k2, ll2⟩
  have v1 := val_mono _ _ 40 (by omega) lv
  have v2 := val_mono _ _ 40 (by omega) lv2
  have w1 := wid_mono _ _ 100 (by omega) lw
  have w2 := wid_mono _ _ 100 (by omega) lw2
  have rr : r = 0 ∨ r = 1 := by omega
  refine for_ind (fun xs τ g => (∀ x ∈ xs, ∃ p, x = .tup p ∧ ∀ s ∈ p, Stp s) ∧ ∃ x6 x7 x8 x9 : Option D, τ = [some (.scr ns), some (.ref a), some (.lis [kD k, kD k2]), some (.lis [l, l2]), some (.lis [.tup p1, .tup p2, .tup p3]), some (.int r), x6, x7, x8, x9]) ?_ ?_ _ _ _ ⟨?_, _, _, _, _, rfl⟩
  · rintro τ g ⟨_, x6, x7, x8, x9, rfl⟩
    rw [q_fnil]
    walk_at "dl7"
    exact done g
  · rintro x xs ih τ g ⟨hx, x6, x7, x8, x9, rfl⟩
    obtain ⟨p, rfl, hp⟩ := hx x List.mem_cons_self
    rw [q_fcons]
    walk_at "dl7"
    refine for_ind (fun ys τ g => (∀ y ∈ ys, y = .int 0 ∨ y = .int 1) ∧ ∃ x7 x8 x9 : Option D, τ = [some (.scr ns), some (.ref a), some (.lis [kD k, kD k2]), some (.lis [l, l2]), some (.lis [.tup p1, .tup p2, .tup p3]), some (.int r), some (.tup p), x7, x8, x9]) ?_ ?_ _ _ _ ⟨?_, x7, x8, x9, rfl⟩
    · rintro τ g ⟨_, x7, x8, x9, rfl⟩
      rw [q_fnil]
      walk_at "dl7"
      exact ih _ _ ⟨fun y hy => hx y (List.mem_cons_of_mem _ hy), _, _, _, _, rfl⟩
    · rintro y ys ih2 τ g ⟨hy, x7, x8, x9, rfl⟩
      rw [q_fcons]
      walk_at "dl7"
      refine for_ind (fun zs τ g => (∀ z ∈ zs, z = .int 0 ∨ z = .int 1) ∧ ∃ x8 x9 : Option D, τ = [some (.scr ns), some (.ref a), some (.lis [kD k, kD k2]), some (.lis [l, l2]), some (.lis [.tup p1, .tup p2, .tup p3]), some (.int r), some (.tup p), some y, x8, x9]) ?_ ?_ _ _ _ ⟨?_, x8, x9, rfl⟩
      · rintro τ g ⟨_, x8, x9, rfl⟩
        rw [q_fnil]
        walk_at "dl7"
        exact ih2 _ _ ⟨fun z hz => hy z (List.mem_cons_of_mem _ hz), _, _, _, rfl⟩
      · rintro z zs ih3 τ g ⟨hz, x8, x9, rfl⟩
        rw [q_fcons]
        have nxt : ∀ g, _ := fun g => ih3 _ g ⟨fun z m => hz z (List.mem_cons_of_mem _ m), some z, x9, rfl⟩
        rcases hz z List.mem_cons_self with rfl | rfl <;> rcases hy y List.mem_cons_self with rfl | rfl
        · walk_at "dl7"
          refine ⟨k, p, rfl, hp, ?_⟩
          walk_at "dl7"
          refine ⟨k, p, rfl, hp, ?_⟩
          walk_at "dl7"
          refine kv kb ?_
          walk_at "dl7"
          exact nxt _
        · walk_at "dl7"
          refine ⟨k2, p, rfl, hp, ?_⟩
          walk_at "dl7"
          refine ⟨k2, p, rfl, hp, ?_⟩
          walk_at "dl7"
          refine kv kb2 ?_
          walk_at "dl7"
          exact nxt _
        · walk_at "dl7"
          refine ⟨l, p, rfl, l1, v1, hp, ?_⟩
          walk_at "dl7"
          refine ⟨l, p, rfl, l1, v1, hp, ?_⟩
          walk_at "dl7"
          refine pv hp l1 v1 w1 ?_
          walk_at "dl7"
          exact nxt _
        · walk_at "dl7"
          refine ⟨l2, p, rfl, l2', v2, hp, ?_⟩
          walk_at "dl7"
          refine ⟨l2, p, rfl, l2', v2, hp, ?_⟩
          walk_at "dl7"
          refine pv hp l2' v2 w2 ?_
          walk_at "dl7"
          exact nxt _
      · intro z hz
        simp only [List.mem_cons, List.not_mem_nil, or_false] at hz
        rcases rr with rfl | rfl <;> rcases hz with rfl | rfl <;> first | exact .inl rfl | exact .inr rfl
    · intro y hy
      obtain ⟨i, rfl, hi⟩ := rngD_mem (n := 2) hy
      have : i = 0 ∨ i = 1 := by omega
      rcases this with rfl | rfl
      · exact .inl rfl
      · exact .inr rfl
  · intro x hx
    simp only [List.cons_append, List.nil_append, List.mem_cons, List.not_mem_nil, or_false] at hx
    rcases hx with rfl | rfl | rfl | rfl
    · exact ⟨_, rfl, hp1⟩
    · exact ⟨_, rfl, hp2⟩
    · exact ⟨_, rfl, hp3⟩
    · exact ⟨_, rfl, hp1⟩
end K03

set_option Elab.async false
set_option linter.all false
set_option maxRecDepth 100000
set_option maxHeartbeats 8000000
namespace WK03
open PySem PySem.Spec PyProof.Rows L2 DL
def topS (i : Nat) : Stmt := PySem.Challenge.pw_guardwords_k03_paths.main.body.getD i (.Pass ⟨0, 0, 0, 0⟩)
abbrev s_is_integer : Stmt := topS 1
abbrev p_is_integer : List Str := ["value"]
theorem sc_is_integer : FnScope K00.n_is_integer p_is_integer (defScope s_is_integer) := ⟨rfl, rfl, rfl, by decide +kernel, rfl, by decide +kernel, by decide +kernel⟩
abbrev s_kind_below : Stmt := topS 2
abbrev p_kind_below : List Str := ["kind", "step"]
theorem sc_kind_below : FnScope K03.n_kind_below p_kind_below (defScope s_kind_below) := ⟨rfl, rfl, rfl, by decide +kernel, rfl, by decide +kernel, by decide +kernel⟩
abbrev s_kind_at : Stmt := topS 3
abbrev p_kind_at : List Str := ["kind", "path"]
theorem sc_kind_at : FnScope K03.n_kind_at p_kind_at (defScope s_kind_at) := ⟨rfl, rfl, rfl, by decide +kernel, rfl, by decide +kernel, by decide +kernel⟩
abbrev s_part_below : Stmt := topS 4
abbrev p_part_below : List Str := ["letter", "step"]
theorem sc_part_below : FnScope K03.n_part_below p_part_below (defScope s_part_below) := ⟨rfl, rfl, rfl, by decide +kernel, rfl, by decide +kernel, by decide +kernel⟩
abbrev s_part_at : Stmt := topS 5
abbrev p_part_at : List Str := ["letter", "path"]
theorem sc_part_at : FnScope K03.n_part_at p_part_at (defScope s_part_at) := ⟨rfl, rfl, rfl, by decide +kernel, rfl, by decide +kernel, by decide +kernel⟩
abbrev s__law_tape : Stmt := topS 7
abbrev p__law_tape : List Str := ["script"]
theorem sc__law_tape : FnScope K00.n__law_tape p__law_tape (defScope s__law_tape) := ⟨rfl, rfl, rfl, by decide +kernel, rfl, by decide +kernel, by decide +kernel⟩
abbrev s__law_draw : Stmt := topS 8
abbrev p__law_draw : List Str := ["tape", "many"]
theorem sc__law_draw : FnScope K00.n__law_draw p__law_draw (defScope s__law_draw) := ⟨rfl, rfl, rfl, by decide +kernel, rfl, by decide +kernel, by decide +kernel⟩
abbrev s__law_whole : Stmt := topS 9
abbrev p__law_whole : List Str := ["told"]
theorem sc__law_whole : FnScope K00.n__law_whole p__law_whole (defScope s__law_whole) := ⟨rfl, rfl, rfl, by decide +kernel, rfl, by decide +kernel, by decide +kernel⟩
abbrev s__law_names : Stmt := topS 10
abbrev p__law_names : List Str := ["tape"]
theorem sc__law_names : FnScope K00.n__law_names p__law_names (defScope s__law_names) := ⟨rfl, rfl, rfl, by decide +kernel, rfl, by decide +kernel, by decide +kernel⟩
abbrev s__law_kinds : Stmt := topS 11
abbrev p__law_kinds : List Str := ["kind"]
theorem sc__law_kinds : FnScope K00.n__law_kinds p__law_kinds (defScope s__law_kinds) := ⟨rfl, rfl, rfl, by decide +kernel, rfl, by decide +kernel, by decide +kernel⟩
abbrev s__law_kind : Stmt := topS 12
abbrev p__law_kind : List Str := ["tape", "depth", "many"]
theorem sc__law_kind : FnScope K00.n__law_kind p__law_kind (defScope s__law_kind) := ⟨rfl, rfl, rfl, by decide +kernel, rfl, by decide +kernel, by decide +kernel⟩
abbrev s__law_integer : Stmt := topS 13
abbrev p__law_integer : List Str := ["tape", "top"]
theorem sc__law_integer : FnScope K00.n__law_integer p__law_integer (defScope s__law_integer) := ⟨rfl, rfl, rfl, by decide +kernel, rfl, by decide +kernel, by decide +kernel⟩
abbrev s__law_letter : Stmt := topS 14
abbrev p__law_letter : List Str := ["tape", "kind", "theory"]
theorem sc__law_letter : FnScope K00.n__law_letter p__law_letter (defScope s__law_letter) := ⟨rfl, rfl, rfl, by decide +kernel, rfl, by decide +kernel, by decide +kernel⟩
abbrev s__law_same : Stmt := topS 15
abbrev p__law_same : List Str := ["told", "due"]
theorem sc__law_same : FnScope K03.n__law_same p__law_same (defScope s__law_same) := ⟨rfl, rfl, rfl, by decide +kernel, rfl, by decide +kernel, by decide +kernel⟩
abbrev s__law_kind_at : Stmt := topS 16
abbrev p__law_kind_at : List Str := ["kind", "path"]
theorem sc__law_kind_at : FnScope K03.n__law_kind_at p__law_kind_at (defScope s__law_kind_at) := ⟨rfl, rfl, rfl, by decide +kernel, rfl, by decide +kernel, by decide +kernel⟩
abbrev s__law_part_at : Stmt := topS 17
abbrev p__law_part_at : List Str := ["letter", "path"]
theorem sc__law_part_at : FnScope K03.n__law_part_at p__law_part_at (defScope s__law_part_at) := ⟨rfl, rfl, rfl, by decide +kernel, rfl, by decide +kernel, by decide +kernel⟩
abbrev s__law_path : Stmt := topS 18
abbrev p__law_path : List Str := ["tape", "kind"]
theorem sc__law_path : FnScope K03.n__law_path p__law_path (defScope s__law_path) := ⟨rfl, rfl, rfl, by decide +kernel, rfl, by decide +kernel, by decide +kernel⟩
abbrev s_law : Stmt := topS 19
abbrev p_law : List Str := ["script"]
theorem sc_law : FnScope K03.n_law p_law (defScope s_law) := ⟨rfl, rfl, rfl, by decide +kernel, rfl, by decide +kernel, by decide +kernel⟩
/-- what the program's top leaves -/
structure Tx (K : PySem.W.Frag) (mg : Str → Option Value) where
  (f_is_integer : Addr) (d_is_integer : FuncData) (F_is_integer : Fun K "is_integer" "is_integer" s_is_integer f_is_integer d_is_integer) (b_is_integer : Binds K d_is_integer p_is_integer []) (m_is_integer : mg "is_integer" = some (.ref f_is_integer))
  (f_kind_below : Addr) (d_kind_below : FuncData) (F_kind_below : Fun K "kind_below" "kind_below" s_kind_below f_kind_below d_kind_below) (b_kind_below : Binds K d_kind_below p_kind_below []) (m_kind_below : mg "kind_below" = some (.ref f_kind_below))
  (f_kind_at : Addr) (d_kind_at : FuncData) (F_kind_at : Fun K "kind_at" "kind_at" s_kind_at f_kind_at d_kind_at) (b_kind_at : Binds K d_kind_at p_kind_at []) (m_kind_at : mg "kind_at" = some (.ref f_kind_at))
  (f_part_below : Addr) (d_part_below : FuncData) (F_part_below : Fun K "part_below" "part_below" s_part_below f_part_below d_part_below) (b_part_below : Binds K d_part_below p_part_below []) (m_part_below : mg "part_below" = some (.ref f_part_below))
  (f_part_at : Addr) (d_part_at : FuncData) (F_part_at : Fun K "part_at" "part_at" s_part_at f_part_at d_part_at) (b_part_at : Binds K d_part_at p_part_at []) (m_part_at : mg "part_at" = some (.ref f_part_at))
  (f__law_tape : Addr) (d__law_tape : FuncData) (F__law_tape : Fun K "_law_tape" "_law_tape" s__law_tape f__law_tape d__law_tape) (b__law_tape : Binds K d__law_tape p__law_tape []) (m__law_tape : mg "_law_tape" = some (.ref f__law_tape))
  (f__law_draw : Addr) (d__law_draw : FuncData) (F__law_draw : Fun K "_law_draw" "_law_draw" s__law_draw f__law_draw d__law_draw) (b__law_draw : Binds K d__law_draw p__law_draw []) (m__law_draw : mg "_law_draw" = some (.ref f__law_draw))
  (f__law_whole : Addr) (d__law_whole : FuncData) (F__law_whole : Fun K "_law_whole" "_law_whole" s__law_whole f__law_whole d__law_whole) (b__law_whole : Binds K d__law_whole p__law_whole []) (m__law_whole : mg "_law_whole" = some (.ref f__law_whole))
  (f__law_names : Addr) (d__law_names : FuncData) (F__law_names : Fun K "_law_names" "_law_names" s__law_names f__law_names d__law_names) (b__law_names : Binds K d__law_names p__law_names []) (m__law_names : mg "_law_names" = some (.ref f__law_names))
  (f__law_kinds : Addr) (d__law_kinds : FuncData) (F__law_kinds : Fun K "_law_kinds" "_law_kinds" s__law_kinds f__law_kinds d__law_kinds) (b__law_kinds : Binds K d__law_kinds p__law_kinds []) (m__law_kinds : mg "_law_kinds" = some (.ref f__law_kinds))
  (f__law_kind : Addr) (d__law_kind : FuncData) (F__law_kind : Fun K "_law_kind" "_law_kind" s__law_kind f__law_kind d__law_kind) (b__law_kind : Binds K d__law_kind p__law_kind []) (m__law_kind : mg "_law_kind" = some (.ref f__law_kind))
  (f__law_integer : Addr) (d__law_integer : FuncData) (F__law_integer : Fun K "_law_integer" "_law_integer" s__law_integer f__law_integer d__law_integer) (b__law_integer : Binds K d__law_integer p__law_integer []) (m__law_integer : mg "_law_integer" = some (.ref f__law_integer))
  (f__law_letter : Addr) (d__law_letter : FuncData) (F__law_letter : Fun K "_law_letter" "_law_letter" s__law_letter f__law_letter d__law_letter) (b__law_letter : Binds K d__law_letter p__law_letter []) (m__law_letter : mg "_law_letter" = some (.ref f__law_letter))
  (f__law_same : Addr) (d__law_same : FuncData) (F__law_same : Fun K "_law_same" "_law_same" s__law_same f__law_same d__law_same) (b__law_same : Binds K d__law_same p__law_same []) (m__law_same : mg "_law_same" = some (.ref f__law_same))
  (f__law_kind_at : Addr) (d__law_kind_at : FuncData) (F__law_kind_at : Fun K "_law_kind_at" "_law_kind_at" s__law_kind_at f__law_kind_at d__law_kind_at) (b__law_kind_at : Binds K d__law_kind_at p__law_kind_at []) (m__law_kind_at : mg "_law_kind_at" = some (.ref f__law_kind_at))
  (f__law_part_at : Addr) (d__law_part_at : FuncData) (F__law_part_at : Fun K "_law_part_at" "_law_part_at" s__law_part_at f__law_part_at d__law_part_at) (b__law_part_at : Binds K d__law_part_at p__law_part_at []) (m__law_part_at : mg "_law_part_at" = some (.ref f__law_part_at))
  (f__law_path : Addr) (d__law_path : FuncData) (F__law_path : Fun K "_law_path" "_law_path" s__law_path f__law_path d__law_path) (b__law_path : Binds K d__law_path p__law_path []) (m__law_path : mg "_law_path" = some (.ref f__law_path))
  (f_law : Addr) (d_law : FuncData) (F_law : Fun K "law" "law" s_law f_law d_law) (b_law : Binds K d_law p_law []) (m_law : mg "law" = some (.ref f_law))
  (z_abs : mg "abs" = none)
  (z_bool : mg "bool" = none)
  (z_int : mg "int" = none)
  (z_isinstance : mg "isinstance" = none)
  (z_len : mg "len" = none)
  (z_list : mg "list" = none)
  (z_max : mg "max" = none)
  (z_min : mg "min" = none)
  (z_range : mg "range" = none)
  (z_str : mg "str" = none)
  (z_sum : mg "sum" = none)
  (z_tuple : mg "tuple" = none)
section
variable {P : Program} {w : World} {K : PySem.W.Frag} {mg : Str → Option Value} {base : Heap}
theorem ok_is_integer {k : Nat} {sp  : Sp'} (T : Tx K mg)  (len : ∀ ds h Q E, sp ds h Q E → ds.length = 1)
    (rd : ∀ ds h Q E', sp ds h Q E' → K00.t_is_integer  (ends Q) (slots K00.n_is_integer ds) h) : FnD P w K mg base (k + 1) T.f_is_integer T.d_is_integer p_is_integer sp := by
  refine fnD T.F_is_integer sc_is_integer len fun cdv A outer s H E hr E' => ⟨K00.t_is_integer , ?_, fun ds h Q q => rd ds h Q E' q⟩
  have sc := sc_is_integer
  exact (dss_one (ds_ret (de_and (de_callB call_isi cl_is rfl T.z_isinstance boot'_isinstance (da_cons (de_var 0) (da_cons (de_blt rfl T.z_int boot'_int) da_nil))) (de_one (de_not (de_callB call_isi cl_is rfl T.z_isinstance boot'_isinstance (da_cons (de_var 0) (da_cons (de_blt rfl T.z_bool boot'_bool) da_nil))))))))
theorem ok_kind_below {k : Nat} {sp sp_is_integer : Sp'} (T : Tx K mg) (G_is_integer : FnD P w K mg base k T.f_is_integer T.d_is_integer p_is_integer sp_is_integer) (len : ∀ ds h Q E, sp ds h Q E → ds.length = 2)
    (rd : ∀ ds h Q E', sp ds h Q E' → K03.t_kind_below sp_is_integer (ends Q) (slots K03.n_kind_below ds) h) : FnD P w K mg base (k + 1) T.f_kind_below T.d_kind_below p_kind_below sp := by
  refine fnD T.F_kind_below sc_kind_below len fun cdv A outer s H E hr E' => ⟨K03.t_kind_below sp_is_integer, ?_, fun ds h Q q => rd ds h Q E' q⟩
  have sc := sc_kind_below
  exact (dss_cons (ds_set (i := 2) sc.nd rfl (Or.inl rfl) (de_ix ix_seq opl_ix (fun _ _ => rfl) (de_var 0) de_int))
      (dss_cons (ds_if (dw_pt (dw_and (dt_cmp (opr_eq hr.units) opl_eq (nomark _) (de_var 2) de_str) (dw_and1 (dt_cmp (opr_eq hr.units) opl_eq (nomark _) (de_var 1) de_str)))) (dss_one (ds_ret (de_ix ix_seq opl_ix (fun _ _ => rfl) (de_var 0) de_int))) dss_nil)
      (dss_cons (ds_if (dw_pt (dw_and (dt_cmp (opr_eq hr.units) opl_eq (nomark _) (de_var 2) de_str) (dw_and1 (dt_cmp (opr_eq hr.units) opl_eq (nomark _) (de_var 1) de_str)))) (dss_one (ds_ret (de_ix ix_seq opl_ix (fun _ _ => rfl) (de_var 0) de_int))) dss_nil)
      (dss_cons (ds_if (dw_pt (dw_and (dt_cmp (opr_eq hr.units) opl_eq (nomark _) (de_var 2) de_str) (dw_and1 (dt_cmp (opr_eq hr.units) opl_eq (nomark _) (de_var 1) de_str)))) (dss_one (ds_ret (de_ix ix_seq opl_ix (fun _ _ => rfl) (de_var 0) de_int))) dss_nil)
      (dss_cons (ds_if (dw_pt (dw_and (dt_cmp (opr_eq hr.units) opl_eq (nomark _) (de_var 2) de_str) (dw_and (dt_val (de_call G_is_integer hr rfl T.m_is_integer T.F_is_integer.kp T.b_is_integer (da_cons (de_var 1) da_nil))) (dw_and1 (dt_chain op_le opl_le op_lt opl_lt de_int (de_var 1) (de_callB cr_len cl_len rfl T.z_len boot'_len (da_cons (de_ix ix_seq opl_ix (fun _ _ => rfl) (de_var 0) de_int) da_nil))))))) (dss_one (ds_ret (de_ix ix_seq opl_ix (fun _ _ => rfl) (de_ix ix_seq opl_ix (fun _ _ => rfl) (de_var 0) de_int) (de_var 1)))) dss_nil)
      (dss_one (ds_ret de_non)))))))
theorem ok_kind_at {k : Nat} {sp sp_kind_below : Sp'} (T : Tx K mg) (G_kind_below : FnD P w K mg base k T.f_kind_below T.d_kind_below p_kind_below sp_kind_below) (len : ∀ ds h Q E, sp ds h Q E → ds.length = 2)
    (rd : ∀ ds h Q E', sp ds h Q E' → K03.t_kind_at sp_kind_below (ends Q) (slots K03.n_kind_at ds) h) : FnD P w K mg base (k + 1) T.f_kind_at T.d_kind_at p_kind_at sp := by
  refine fnD T.F_kind_at sc_kind_at len fun cdv A outer s H E hr E' => ⟨K03.t_kind_at sp_kind_below, ?_, fun ds h Q q => rd ds h Q E' q⟩
  have sc := sc_kind_at
  exact (dss_cons (ds_for (passes_of rfl) rfl (di_seq (de_var 1)) (dg_name (i := 2) sc.nd rfl (Or.inl rfl)) (dss_cons (ds_set (i := 0) sc.nd rfl (Or.inl rfl) (de_call G_kind_below hr rfl T.m_kind_below T.F_kind_below.kp T.b_kind_below (da_cons (de_var 0) (da_cons (de_var 2) da_nil))))
      (dss_one (ds_if (dt_cmp op_isN opl_isN (nomark _) (de_var 0) de_non) (dss_one (ds_ret de_non)) dss_nil))))
      (dss_one (ds_ret (de_var 0))))
theorem ok_part_below {k : Nat} {sp  : Sp'} (T : Tx K mg)  (len : ∀ ds h Q E, sp ds h Q E → ds.length = 2)
    (rd : ∀ ds h Q E', sp ds h Q E' → K03.t_part_below  (ends Q) (slots K03.n_part_below ds) h) : FnD P w K mg base (k + 1) T.f_part_below T.d_part_below p_part_below sp := by
  refine fnD T.F_part_below sc_part_below len fun cdv A outer s H E hr E' => ⟨K03.t_part_below , ?_, fun ds h Q q => rd ds h Q E' q⟩
  have sc := sc_part_below
  exact (dss_cons (ds_if (dt_not (dt_val (de_callB call_isi cl_is rfl T.z_isinstance boot'_isinstance (da_cons (de_var 0) (da_cons (de_blt rfl T.z_tuple boot'_tuple) da_nil))))) (dss_one (ds_ret de_non)) dss_nil)
      (dss_cons (ds_if (dw_pt (dw_and (dt_cmp (opr_eq hr.units) opl_eq (nomark _) (de_ix ix_seq opl_ix (fun _ _ => rfl) (de_var 0) de_int) de_str) (dw_and1 (dt_cmp (opr_eq hr.units) opl_eq (nomark _) (de_var 1) de_str)))) (dss_one (ds_ret (de_ix ix_seq opl_ix (fun _ _ => rfl) (de_var 0) de_int))) dss_nil)
      (dss_cons (ds_if (dw_pt (dw_and (dt_cmp (opr_eq hr.units) opl_eq (nomark _) (de_ix ix_seq opl_ix (fun _ _ => rfl) (de_var 0) de_int) de_str) (dw_and1 (dt_cmp (opr_eq hr.units) opl_eq (nomark _) (de_var 1) de_str)))) (dss_one (ds_ret (de_ix ix_seq opl_ix (fun _ _ => rfl) (de_var 0) de_int))) dss_nil)
      (dss_cons (ds_if (dw_pt (dw_and (dt_cmp (opr_eq hr.units) opl_eq (nomark _) (de_ix ix_seq opl_ix (fun _ _ => rfl) (de_var 0) de_int) de_str) (dw_and1 (dt_cmp (opr_eq hr.units) opl_eq (nomark _) (de_var 1) de_str)))) (dss_one (ds_ret (de_ix ix_seq opl_ix (fun _ _ => rfl) (de_var 0) de_int))) dss_nil)
      (dss_cons (ds_if (dw_pt (dw_and (dt_cmp (opr_eq hr.units) opl_eq (nomark _) (de_ix ix_seq opl_ix (fun _ _ => rfl) (de_var 0) de_int) de_str) (dw_and1 (dt_cmp (opr_eq hr.units) opl_eq (nomark _) (de_ix ix_seq opl_ix (fun _ _ => rfl) (de_var 0) de_int) (de_var 1))))) (dss_one (ds_ret (de_ix ix_seq opl_ix (fun _ _ => rfl) (de_var 0) de_int))) dss_nil)
      (dss_one (ds_ret de_non)))))))
theorem ok_part_at {k : Nat} {sp sp_part_below : Sp'} (T : Tx K mg) (G_part_below : FnD P w K mg base k T.f_part_below T.d_part_below p_part_below sp_part_below) (len : ∀ ds h Q E, sp ds h Q E → ds.length = 2)
    (rd : ∀ ds h Q E', sp ds h Q E' → K03.t_part_at sp_part_below (ends Q) (slots K03.n_part_at ds) h) : FnD P w K mg base (k + 1) T.f_part_at T.d_part_at p_part_at sp := by
  refine fnD T.F_part_at sc_part_at len fun cdv A outer s H E hr E' => ⟨K03.t_part_at sp_part_below, ?_, fun ds h Q q => rd ds h Q E' q⟩
  have sc := sc_part_at
  exact (dss_cons (ds_for (passes_of rfl) rfl (di_seq (de_var 1)) (dg_name (i := 2) sc.nd rfl (Or.inl rfl)) (dss_cons (ds_set (i := 0) sc.nd rfl (Or.inl rfl) (de_call G_part_below hr rfl T.m_part_below T.F_part_below.kp T.b_part_below (da_cons (de_var 0) (da_cons (de_var 2) da_nil))))
      (dss_one (ds_if (dt_cmp op_isN opl_isN (nomark _) (de_var 0) de_non) (dss_one (ds_ret de_non)) dss_nil))))
      (dss_one (ds_ret (de_var 0))))
theorem ok__law_tape {k : Nat} {sp  : Sp'} (T : Tx K mg)  (len : ∀ ds h Q E, sp ds h Q E → ds.length = 1)
    (rd : ∀ ds h Q E', sp ds h Q E' → K00.t__law_tape  (ends Q) (slots K00.n__law_tape ds) h) : FnD P w K mg base (k + 1) T.f__law_tape T.d__law_tape p__law_tape sp := by
  refine fnD T.F__law_tape sc__law_tape len fun cdv A outer s H E hr E' => ⟨K00.t__law_tape , ?_, fun ds h Q q => rd ds h Q E' q⟩
  have sc := sc__law_tape
  exact (dss_cons (ds_set (i := 1) sc.nd rfl (Or.inl rfl) de_int)
      (dss_cons (ds_for (passes_of rfl) rfl (di_seq (de_var 0)) (dg_name (i := 2) sc.nd rfl (Or.inl rfl)) (dss_one (ds_set (i := 1) sc.nd rfl (Or.inl rfl) (de_op op_mod opl_mod (de_callTy call_int1 cl_int rfl T.z_int boot'_int (da_cons (de_op opr_add opl_add (de_op op_mul opl_mul (de_var 1) de_int) (de_callB call_abs cl_abs rfl T.z_abs boot'_abs (da_cons (de_callTy call_int1 cl_int rfl T.z_int boot'_int (da_cons (de_var 2) da_nil)) da_nil))) da_nil)) de_int))))
      (dss_one (ds_ret (de_own (da_cons (de_callTy call_list_of cl_list rfl T.z_list boot'_list (da_cons (de_var 0) da_nil)) (da_cons de_int (da_cons de_int (da_cons (de_var 1) da_nil)))))))))
theorem ok__law_draw {k : Nat} {sp  : Sp'} (T : Tx K mg)  (len : ∀ ds h Q E, sp ds h Q E → ds.length = 2)
    (rd : ∀ ds h Q E', sp ds h Q E' → K00.t__law_draw  (ends Q) (slots K00.n__law_draw ds) h) : FnD P w K mg base (k + 1) T.f__law_draw T.d__law_draw p__law_draw sp := by
  refine fnD T.F__law_draw sc__law_draw len fun cdv A outer s H E hr E' => ⟨K00.t__law_draw , ?_, fun ds h Q q => rd ds h Q E' q⟩
  have sc := sc__law_draw
  exact (dss_cons (ds_mid (ds_if (dt_cmp (opr_eq hr.units) opl_eq (nomark _) (de_ix ix_seq opl_ix (fun _ _ => rfl) (de_var 0) de_int) de_int) (dss_cons (ds_set (i := 2) sc.nd rfl (Or.inl rfl) (de_ix ix_seq opl_ix (fun _ _ => rfl) (de_var 0) de_int))
      (dss_cons (ds_set (i := 3) sc.nd rfl (Or.inl rfl) de_int)
      (dss_cons (ds_mid (ds_if (dt_cmp op_lt opl_lt (nomark _) (de_var 2) (de_callB cr_len cl_len rfl T.z_len boot'_len (da_cons (de_ix ix_seq opl_ix (fun _ _ => rfl) (de_var 0) de_int) da_nil))) (dss_one (ds_set (i := 3) sc.nd rfl (Or.inl rfl) (de_callB call_abs cl_abs rfl T.z_abs boot'_abs (da_cons (de_callTy call_int1 cl_int rfl T.z_int boot'_int (da_cons (de_ix ix_seq opl_ix (fun _ _ => rfl) (de_ix ix_seq opl_ix (fun _ _ => rfl) (de_var 0) de_int) (de_var 2)) da_nil)) da_nil)))) (dss_cons (ds_asg (de_op op_mod opl_mod (de_callTy call_int1 cl_int rfl T.z_int boot'_int (da_cons (de_op opr_add opl_add (de_op opr_add opl_add (de_op op_mul opl_mul (de_ix ix_seq opl_ix (fun _ _ => rfl) (de_var 0) de_int) de_int) (de_var 2)) de_int) da_nil)) de_int) (dg_sub (de_var 0) de_int))
      (dss_one (ds_set (i := 3) sc.nd rfl (Or.inl rfl) (de_ix ix_seq opl_ix (fun _ _ => rfl) (de_var 0) de_int))))))
      (dss_cons (ds_asg (de_op opr_add opl_add (de_var 2) de_int) (dg_sub (de_var 0) de_int))
      (dss_cons (ds_if (dt_cmp op_lt opl_lt (nomark _) (de_var 3) (de_op op_pow opl_pow de_int de_int)) (dss_cons (ds_set (i := 3) sc.nd rfl (Or.inl rfl) (de_op op_mod opl_mod (de_callTy call_int1 cl_int rfl T.z_int boot'_int (da_cons (de_op opr_add opl_add (de_op opr_add opl_add (de_op op_mul opl_mul (de_var 3) de_int) (de_op op_mul opl_mul (de_var 2) de_int)) de_int) da_nil)) de_int))
      (dss_cons (ds_set (i := 3) sc.nd rfl (Or.inl rfl) (de_op op_mod opl_mod (de_callTy call_int1 cl_int rfl T.z_int boot'_int (da_cons (de_op op_mul opl_mul (de_var 3) de_int) da_nil)) de_int))
      (dss_one (ds_ret (de_op op_mod opl_mod (de_callTy call_int1 cl_int rfl T.z_int boot'_int (da_cons (de_var 3) da_nil)) (de_callB (call_max2 rfl) cl_max rfl T.z_max boot'_max (da_cons (de_var 1) (da_cons de_int da_nil)))))))) dss_nil)
      (dss_one (ds_asg (de_var 3) (dg_sub (de_var 0) de_int)))))))) dss_nil))
      (dss_cons (ds_set (i := 3) sc.nd rfl (Or.inl rfl) (de_ix ix_seq opl_ix (fun _ _ => rfl) (de_var 0) de_int))
      (dss_cons (ds_asg (de_op op_fdivW opl_div (de_var 3) (de_callB (call_max2 rfl) cl_max rfl T.z_max boot'_max (da_cons (de_var 1) (da_cons de_int da_nil)))) (dg_sub (de_var 0) de_int))
      (dss_one (ds_ret (de_op op_mod opl_mod (de_callTy call_int1 cl_int rfl T.z_int boot'_int (da_cons (de_var 3) da_nil)) (de_callB (call_max2 rfl) cl_max rfl T.z_max boot'_max (da_cons (de_var 1) (da_cons de_int da_nil)))))))))
theorem ok__law_whole {k : Nat} {sp  : Sp'} (T : Tx K mg)  (len : ∀ ds h Q E, sp ds h Q E → ds.length = 1)
    (rd : ∀ ds h Q E', sp ds h Q E' → K00.t__law_whole  (ends Q) (slots K00.n__law_whole ds) h) : FnD P w K mg base (k + 1) T.f__law_whole T.d__law_whole p__law_whole sp := by
  refine fnD T.F__law_whole sc__law_whole len fun cdv A outer s H E hr E' => ⟨K00.t__law_whole , ?_, fun ds h Q q => rd ds h Q E' q⟩
  have sc := sc__law_whole
  exact (dss_one (ds_ret (de_and (de_callB call_isi cl_is rfl T.z_isinstance boot'_isinstance (da_cons (de_var 0) (da_cons (de_blt rfl T.z_int boot'_int) da_nil))) (de_one (de_not (de_callB call_isi cl_is rfl T.z_isinstance boot'_isinstance (da_cons (de_var 0) (da_cons (de_blt rfl T.z_bool boot'_bool) da_nil))))))))
theorem ok__law_names {k : Nat} {sp sp__law_draw : Sp'} (T : Tx K mg) (G__law_draw : FnD P w K mg base k T.f__law_draw T.d__law_draw p__law_draw sp__law_draw) (len : ∀ ds h Q E, sp ds h Q E → ds.length = 1)
    (rd : ∀ ds h Q E', sp ds h Q E' → K00.t__law_names sp__law_draw (ends Q) (slots K00.n__law_names ds) h) : FnD P w K mg base (k + 1) T.f__law_names T.d__law_names p__law_names sp := by
  refine fnD T.F__law_names sc__law_names len fun cdv A outer s H E hr E' => ⟨K00.t__law_names sp__law_draw, ?_, fun ds h Q q => rd ds h Q E' q⟩
  have sc := sc__law_names
  exact (dss_cons (ds_set (i := 1) sc.nd rfl (Or.inl rfl) de_str)
      (dss_cons (ds_set (i := 2) sc.nd rfl (Or.inl rfl) (de_lis (da_cons de_str (da_cons de_str (da_cons de_str (da_cons de_str (da_cons de_str (da_cons de_str da_nil))))))))
      (dss_cons (ds_set (i := 3) sc.nd rfl (Or.inl rfl) (de_ix ix_seq opl_ix (fun _ _ => rfl) (de_lis (da_cons de_str (da_cons de_str (da_cons de_str (da_cons de_str (da_cons de_str da_nil)))))) (de_call G__law_draw hr rfl T.m__law_draw T.F__law_draw.kp T.b__law_draw (da_cons (de_var 0) (da_cons de_int da_nil)))))
      (dss_cons (ds_set (i := 4) sc.nd rfl (Or.inl rfl) (de_own da_nil))
      (dss_cons (ds_for (passes_of rfl) rfl (di_rng1 rfl T.z_range (da_cons (de_ix ix_seq opl_ix (fun _ _ => rfl) (de_lis (da_cons de_int (da_cons de_int (da_cons de_int (da_cons de_int (da_cons de_int (da_cons de_int da_nil))))))) (de_call G__law_draw hr rfl T.m__law_draw T.F__law_draw.kp T.b__law_draw (da_cons (de_var 0) (da_cons de_int da_nil)))) da_nil)) (dg_name (i := 5) sc.nd rfl (Or.inl rfl)) (dss_cons (ds_set (i := 6) sc.nd rfl (Or.inl rfl) (de_op opr_add opl_add (de_var 3) (de_ix ix_seq opl_ix (fun _ _ => rfl) (de_var 1) (de_call G__law_draw hr rfl T.m__law_draw T.F__law_draw.kp T.b__law_draw (da_cons (de_var 0) (da_cons (de_callB cr_len cl_len rfl T.z_len boot'_len (da_cons (de_var 1) da_nil)) da_nil))))))
      (dss_cons (ds_mid (ds_if (dt_cmp (opr_eq hr.units) opl_eq (nomark _) (de_call G__law_draw hr rfl T.m__law_draw T.F__law_draw.kp T.b__law_draw (da_cons (de_var 0) (da_cons de_int da_nil))) de_int) (dss_one (ds_set (i := 6) sc.nd rfl (Or.inl rfl) (de_op opr_add opl_add (de_var 6) (de_ix ix_seq opl_ix (fun _ _ => rfl) (de_var 1) (de_call G__law_draw hr rfl T.m__law_draw T.F__law_draw.kp T.b__law_draw (da_cons (de_var 0) (da_cons (de_callB cr_len cl_len rfl T.z_len boot'_len (da_cons (de_var 1) da_nil)) da_nil))))))) dss_nil))
      (dss_cons (ds_mid (ds_if (dt_cmp (opr_eq hr.units) opl_eq (nomark _) (de_call G__law_draw hr rfl T.m__law_draw T.F__law_draw.kp T.b__law_draw (da_cons (de_var 0) (da_cons de_int da_nil))) de_int) (dss_one (ds_set (i := 6) sc.nd rfl (Or.inl rfl) (de_ix ix_seq opl_ix (fun _ _ => rfl) (de_var 2) (de_call G__law_draw hr rfl T.m__law_draw T.F__law_draw.kp T.b__law_draw (da_cons (de_var 0) (da_cons de_int da_nil)))))) dss_nil))
      (dss_one (ds_mid (ds_if (dt_cmp op_notIn_seq opl_in rfl (de_var 6) (de_var 4)) (dss_one (ds_expr (de_append (de_var 4) (da_cons (de_var 6) da_nil)))) dss_nil)))))))
      (dss_one (ds_ret (de_callTy call_tuple_of cl_tup rfl T.z_tuple boot'_tuple (da_cons (de_var 4) da_nil)))))))))
theorem ok__law_kinds {k : Nat} {sp sp__law_kinds : Sp'} (T : Tx K mg) (G__law_kinds : FnD P w K mg base k T.f__law_kinds T.d__law_kinds p__law_kinds sp__law_kinds) (len : ∀ ds h Q E, sp ds h Q E → ds.length = 1)
    (rd : ∀ ds h Q E', sp ds h Q E' → K00.t__law_kinds sp__law_kinds (ends Q) (slots K00.n__law_kinds ds) h) : FnD P w K mg base (k + 1) T.f__law_kinds T.d__law_kinds p__law_kinds sp := by
  refine fnD T.F__law_kinds sc__law_kinds len fun cdv A outer s H E hr E' => ⟨K00.t__law_kinds sp__law_kinds, ?_, fun ds h Q q => rd ds h Q E' q⟩
  have sc := sc__law_kinds
  exact (dss_cons (ds_if (dt_cmp (opr_eq hr.units) opl_eq (nomark _) (de_ix ix_seq opl_ix (fun _ _ => rfl) (de_var 0) de_int) de_str) (dss_one (ds_ret (de_op opr_add opl_add (de_op opr_add opl_add de_int (de_call G__law_kinds hr rfl T.m__law_kinds T.F__law_kinds.kp T.b__law_kinds (da_cons (de_ix ix_seq opl_ix (fun _ _ => rfl) (de_var 0) de_int) da_nil))) (de_call G__law_kinds hr rfl T.m__law_kinds T.F__law_kinds.kp T.b__law_kinds (da_cons (de_ix ix_seq opl_ix (fun _ _ => rfl) (de_var 0) de_int) da_nil))))) dss_nil)
      (dss_cons (ds_if (dt_cmp (opr_eq hr.units) opl_eq (nomark _) (de_ix ix_seq opl_ix (fun _ _ => rfl) (de_var 0) de_int) de_str) (dss_one (ds_ret (de_op opr_add opl_add de_int (de_callB (cr_sum rfl) cl_sum rfl T.z_sum boot'_sum (da_cons (de_lc rfl sc.nd (di_seq (de_ix ix_seq opl_ix (fun _ _ => rfl) (de_var 0) de_int)) (blkOk_by (N := K00.n__law_kinds) (sc := defScope s__law_kinds) (by decide +kernel)) (fun _ _ _ _ _ => pg_name (i := 1) sc.nd rfl (Or.inl rfl)) (fun _ _ _ _ _ => dts_nil) (fun _ _ _ _ _ => (de_call G__law_kinds hr rfl T.m__law_kinds T.F__law_kinds.kp T.b__law_kinds (da_cons (de_var 1) da_nil)))) da_nil))))) dss_nil)
      (dss_cons (ds_if (dt_cmp (opr_eq hr.units) opl_eq (nomark _) (de_ix ix_seq opl_ix (fun _ _ => rfl) (de_var 0) de_int) de_str) (dss_one (ds_ret (de_op opr_add opl_add de_int (de_call G__law_kinds hr rfl T.m__law_kinds T.F__law_kinds.kp T.b__law_kinds (da_cons (de_ix ix_seq opl_ix (fun _ _ => rfl) (de_var 0) de_int) da_nil))))) dss_nil)
      (dss_one (ds_ret de_int)))))
theorem ok__law_kind {k : Nat} {sp sp__law_draw sp__law_names sp__law_kind sp__law_kinds : Sp'} (T : Tx K mg) (G__law_draw : FnD P w K mg base k T.f__law_draw T.d__law_draw p__law_draw sp__law_draw) (G__law_names : FnD P w K mg base k T.f__law_names T.d__law_names p__law_names sp__law_names) (G__law_kind : FnD P w K mg base k T.f__law_kind T.d__law_kind p__law_kind sp__law_kind) (G__law_kinds : FnD P w K mg base k T.f__law_kinds T.d__law_kinds p__law_kinds sp__law_kinds) (len : ∀ ds h Q E, sp ds h Q E → ds.length = 3)
    (rd : ∀ ds h Q E', sp ds h Q E' → K00.t__law_kind sp__law_draw sp__law_names sp__law_kind sp__law_kinds (ends Q) (slots K00.n__law_kind ds) h) : FnD P w K mg base (k + 1) T.f__law_kind T.d__law_kind p__law_kind sp := by
  refine fnD T.F__law_kind sc__law_kind len fun cdv A outer s H E hr E' => ⟨K00.t__law_kind sp__law_draw sp__law_names sp__law_kind sp__law_kinds, ?_, fun ds h Q q => rd ds h Q E' q⟩
  have sc := sc__law_kind
  exact (dss_cons (ds_set (i := 3) sc.nd rfl (Or.inl rfl) (de_call G__law_draw hr rfl T.m__law_draw T.F__law_draw.kp T.b__law_draw (da_cons (de_var 0) (da_cons de_int da_nil))))
      (dss_cons (ds_if (dw_pt (dw_orp (pu_orp (pu_tb (pu_to pu_eq pu_tv pu_tc)) (pu_tb (pu_to pu_I2 pu_tv pu_tc))) (dt_cmp (opr_eq hr.units) opl_eq (nomark _) (de_var 1) de_int) (dw_orp (pu_tb (pu_to pu_I2 pu_tv pu_tc)) (dt_cmp (opr_eq hr.units) opl_eq (nomark _) (de_var 2) de_int) (dw_or1 (dt_cmp op_lt opl_lt (nomark _) (de_var 3) de_int))))) (dss_cons (ds_if (dt_cmp (opr_eq hr.units) opl_eq (nomark _) (de_call G__law_draw hr rfl T.m__law_draw T.F__law_draw.kp T.b__law_draw (da_cons (de_var 0) (da_cons de_int da_nil))) de_int) (dss_one (ds_ret (de_tup (da_cons de_str (da_cons (de_call G__law_names hr rfl T.m__law_names T.F__law_names.kp T.b__law_names (da_cons (de_var 0) da_nil)) da_nil))))) dss_nil)
      (dss_one (ds_ret (de_tup (da_cons de_str da_nil))))) dss_nil)
      (dss_cons (ds_if (dw_pt (dw_orp (pu_tb (pu_to pu_eq pu_tv pu_tc)) (dt_cmp (opr_eq hr.units) opl_eq (nomark _) (de_var 2) de_int) (dw_or1 (dt_cmp (opr_eq hr.units) opl_eq (nomark _) (de_var 3) de_int)))) (dss_one (ds_ret (de_tup (da_cons de_str (da_cons (de_call G__law_kind hr rfl T.m__law_kind T.F__law_kind.kp T.b__law_kind (da_cons (de_var 0) (da_cons (de_op op_sub opl_sub (de_var 1) de_int) (da_cons (de_op op_sub opl_sub (de_var 2) de_int) da_nil)))) da_nil))))) dss_nil)
      (dss_cons (ds_if (dt_cmp op_lt opl_lt (nomark _) (de_var 3) de_int) (dss_cons (ds_set (i := 4) sc.nd rfl (Or.inl rfl) (de_call G__law_kind hr rfl T.m__law_kind T.F__law_kind.kp T.b__law_kind (da_cons (de_var 0) (da_cons (de_op op_sub opl_sub (de_var 1) de_int) (da_cons (de_op op_sub opl_sub (de_var 2) de_int) da_nil)))))
      (dss_one (ds_ret (de_tup (da_cons de_str (da_cons (de_var 4) (da_cons (de_call G__law_kind hr rfl T.m__law_kind T.F__law_kind.kp T.b__law_kind (da_cons (de_var 0) (da_cons (de_op op_sub opl_sub (de_var 1) de_int) (da_cons (de_op op_sub opl_sub (de_op op_sub opl_sub (de_var 2) de_int) (de_call G__law_kinds hr rfl T.m__law_kinds T.F__law_kinds.kp T.b__law_kinds (da_cons (de_var 4) da_nil))) da_nil)))) da_nil))))))) dss_nil)
      (dss_cons (ds_set (i := 5) sc.nd rfl (Or.inl rfl) (de_op op_sub opl_sub (de_var 2) de_int))
      (dss_cons (ds_set (i := 6) sc.nd rfl (Or.inl rfl) (de_op opr_add opl_add de_int (de_call G__law_draw hr rfl T.m__law_draw T.F__law_draw.kp T.b__law_draw (da_cons (de_var 0) (da_cons (de_callB (call_min2 rfl) cl_min rfl T.z_min boot'_min (da_cons de_int (da_cons (de_var 5) da_nil))) da_nil)))))
      (dss_cons (ds_set (i := 7) sc.nd rfl (Or.inl rfl) (de_own da_nil))
      (dss_cons (ds_for (passes_of rfl) rfl (di_rng1 rfl T.z_range (da_cons (de_var 6) da_nil)) (dg_name (i := 8) sc.nd rfl (Or.inl rfl)) (dss_cons (ds_set (i := 9) sc.nd rfl (Or.inl rfl) (de_call G__law_kind hr rfl T.m__law_kind T.F__law_kind.kp T.b__law_kind (da_cons (de_var 0) (da_cons (de_op op_sub opl_sub (de_var 1) de_int) (da_cons (de_op op_sub opl_sub (de_var 5) (de_op op_sub opl_sub (de_op op_sub opl_sub (de_var 6) de_int) (de_var 8))) da_nil)))))
      (dss_cons (ds_expr (de_append (de_var 7) (da_cons (de_var 9) da_nil)))
      (dss_one (ds_set (i := 5) sc.nd rfl (Or.inl rfl) (de_op op_sub opl_sub (de_var 5) (de_call G__law_kinds hr rfl T.m__law_kinds T.F__law_kinds.kp T.b__law_kinds (da_cons (de_var 9) da_nil))))))))
      (dss_one (ds_ret (de_tup (da_cons de_str (da_cons (de_callTy call_tuple_of cl_tup rfl T.z_tuple boot'_tuple (da_cons (de_var 7) da_nil)) da_nil)))))))))))))
theorem ok__law_integer {k : Nat} {sp sp__law_draw : Sp'} (T : Tx K mg) (G__law_draw : FnD P w K mg base k T.f__law_draw T.d__law_draw p__law_draw sp__law_draw) (len : ∀ ds h Q E, sp ds h Q E → ds.length = 2)
    (rd : ∀ ds h Q E', sp ds h Q E' → K00.t__law_integer sp__law_draw (ends Q) (slots K00.n__law_integer ds) h) : FnD P w K mg base (k + 1) T.f__law_integer T.d__law_integer p__law_integer sp := by
  refine fnD T.F__law_integer sc__law_integer len fun cdv A outer s H E hr E' => ⟨K00.t__law_integer sp__law_draw, ?_, fun ds h Q q => rd ds h Q E' q⟩
  have sc := sc__law_integer
  exact (dss_cons (ds_set (i := 2) sc.nd rfl (Or.inl rfl) (de_call G__law_draw hr rfl T.m__law_draw T.F__law_draw.kp T.b__law_draw (da_cons (de_var 0) (da_cons de_int da_nil))))
      (dss_cons (ds_set (i := 3) sc.nd rfl (Or.inl rfl) (de_call G__law_draw hr rfl T.m__law_draw T.F__law_draw.kp T.b__law_draw (da_cons (de_var 0) (da_cons (de_ix ix_seq opl_ix (fun _ _ => rfl) (de_lis (da_cons de_int (da_cons (de_op opr_add opl_add (de_var 1) de_int) (da_cons (de_op opr_add opl_add (de_var 1) de_int) (da_cons (de_op op_pow opl_pow de_int de_int) (da_cons (de_op op_sub opl_sub (de_op op_pow opl_pow de_int de_int) de_int) da_nil)))))) (de_var 2)) da_nil))))
      (dss_cons (ds_mid (ds_if (dt_cmp (opr_eq hr.units) opl_eq (nomark _) (de_var 2) de_int) (dss_one (ds_set (i := 3) sc.nd rfl (Or.inl rfl) (de_op opr_add opl_add (de_op op_mul opl_mul (de_var 3) (de_op op_pow opl_pow de_int de_int)) (de_call G__law_draw hr rfl T.m__law_draw T.F__law_draw.kp T.b__law_draw (da_cons (de_var 0) (da_cons (de_op op_pow opl_pow de_int de_int) da_nil)))))) dss_nil))
      (dss_one (ds_ret (de_ix ix_seq opl_ix (fun _ _ => rfl) (de_lis (da_cons (de_var 3) (da_cons (de_un un_neg unl_neg (de_var 3)) da_nil))) (de_call G__law_draw hr rfl T.m__law_draw T.F__law_draw.kp T.b__law_draw (da_cons (de_var 0) (da_cons de_int da_nil)))))))))
theorem ok__law_letter {k : Nat} {sp sp__law_draw sp__law_integer sp__law_letter : Sp'} (T : Tx K mg) (G__law_draw : FnD P w K mg base k T.f__law_draw T.d__law_draw p__law_draw sp__law_draw) (G__law_integer : FnD P w K mg base k T.f__law_integer T.d__law_integer p__law_integer sp__law_integer) (G__law_letter : FnD P w K mg base k T.f__law_letter T.d__law_letter p__law_letter sp__law_letter) (len : ∀ ds h Q E, sp ds h Q E → ds.length = 3)
    (rd : ∀ ds h Q E', sp ds h Q E' → K00.t__law_letter sp__law_draw sp__law_integer sp__law_letter (ends Q) (slots K00.n__law_letter ds) h) : FnD P w K mg base (k + 1) T.f__law_letter T.d__law_letter p__law_letter sp := by
  refine fnD T.F__law_letter sc__law_letter len fun cdv A outer s H E hr E' => ⟨K00.t__law_letter sp__law_draw sp__law_integer sp__law_letter, ?_, fun ds h Q q => rd ds h Q E' q⟩
  have sc := sc__law_letter
  exact (dss_cons (ds_if (dt_cmp (opr_eq hr.units) opl_eq (nomark _) (de_ix ix_seq opl_ix (fun _ _ => rfl) (de_var 1) de_int) de_str) (dss_one (ds_ret (de_ix ix_seq opl_ix (fun _ _ => rfl) (de_ix ix_seq opl_ix (fun _ _ => rfl) (de_var 1) de_int) (de_call G__law_draw hr rfl T.m__law_draw T.F__law_draw.kp T.b__law_draw (da_cons (de_var 0) (da_cons (de_callB cr_len cl_len rfl T.z_len boot'_len (da_cons (de_ix ix_seq opl_ix (fun _ _ => rfl) (de_var 1) de_int) da_nil)) da_nil)))))) dss_nil)
      (dss_cons (ds_if (dt_cmp (opr_eq hr.units) opl_eq (nomark _) (de_ix ix_seq opl_ix (fun _ _ => rfl) (de_var 1) de_int) de_str) (dss_one (ds_ret (de_call G__law_integer hr rfl T.m__law_integer T.F__law_integer.kp T.b__law_integer (da_cons (de_var 0) (da_cons (de_ix ix_seq opl_ix (fun _ _ => rfl) (de_var 2) de_int) da_nil))))) dss_nil)
      (dss_cons (ds_if (dt_cmp (opr_eq hr.units) opl_eq (nomark _) (de_ix ix_seq opl_ix (fun _ _ => rfl) (de_var 1) de_int) de_str) (dss_cons (ds_set (i := 3) sc.nd rfl (Or.inl rfl) (de_call G__law_letter hr rfl T.m__law_letter T.F__law_letter.kp T.b__law_letter (da_cons (de_var 0) (da_cons (de_ix ix_seq opl_ix (fun _ _ => rfl) (de_var 1) de_int) (da_cons (de_var 2) da_nil)))))
      (dss_one (ds_ret (de_tup (da_cons de_str (da_cons (de_var 3) (da_cons (de_call G__law_letter hr rfl T.m__law_letter T.F__law_letter.kp T.b__law_letter (da_cons (de_var 0) (da_cons (de_ix ix_seq opl_ix (fun _ _ => rfl) (de_var 1) de_int) (da_cons (de_var 2) da_nil)))) da_nil))))))) dss_nil)
      (dss_cons (ds_if (dt_cmp (opr_eq hr.units) opl_eq (nomark _) (de_ix ix_seq opl_ix (fun _ _ => rfl) (de_var 1) de_int) de_str) (dss_cons (ds_set (i := 4) sc.nd rfl (Or.inl rfl) (de_call G__law_draw hr rfl T.m__law_draw T.F__law_draw.kp T.b__law_draw (da_cons (de_var 0) (da_cons (de_callB cr_len cl_len rfl T.z_len boot'_len (da_cons (de_ix ix_seq opl_ix (fun _ _ => rfl) (de_var 1) de_int) da_nil)) da_nil))))
      (dss_one (ds_ret (de_tup (da_cons de_str (da_cons (de_var 4) (da_cons (de_call G__law_letter hr rfl T.m__law_letter T.F__law_letter.kp T.b__law_letter (da_cons (de_var 0) (da_cons (de_ix ix_seq opl_ix (fun _ _ => rfl) (de_ix ix_seq opl_ix (fun _ _ => rfl) (de_var 1) de_int) (de_var 4)) (da_cons (de_var 2) da_nil)))) da_nil))))))) dss_nil)
      (dss_cons (ds_if (dt_cmp (opr_eq hr.units) opl_eq (nomark _) (de_call G__law_draw hr rfl T.m__law_draw T.F__law_draw.kp T.b__law_draw (da_cons (de_var 0) (da_cons de_int da_nil))) de_int) (dss_one (ds_ret (de_tup (da_cons de_str da_nil)))) dss_nil)
      (dss_one (ds_ret (de_tup (da_cons de_str (da_cons (de_call G__law_letter hr rfl T.m__law_letter T.F__law_letter.kp T.b__law_letter (da_cons (de_var 0) (da_cons (de_ix ix_seq opl_ix (fun _ _ => rfl) (de_var 1) de_int) (da_cons (de_var 2) da_nil)))) da_nil))))))))))
theorem ok__law_same {k : Nat} {sp sp__law_same sp__law_whole : Sp'} (T : Tx K mg) (G__law_same : FnD P w K mg base k T.f__law_same T.d__law_same p__law_same sp__law_same) (G__law_whole : FnD P w K mg base k T.f__law_whole T.d__law_whole p__law_whole sp__law_whole) (len : ∀ ds h Q E, sp ds h Q E → ds.length = 2)
    (rd : ∀ ds h Q E', sp ds h Q E' → K03.t__law_same sp__law_same sp__law_whole (ends Q) (slots K03.n__law_same ds) h) : FnD P w K mg base (k + 1) T.f__law_same T.d__law_same p__law_same sp := by
  refine fnD T.F__law_same sc__law_same len fun cdv A outer s H E hr E' => ⟨K03.t__law_same sp__law_same sp__law_whole, ?_, fun ds h Q q => rd ds h Q E' q⟩
  have sc := sc__law_same
  exact (dss_cons (ds_if (dt_cmp op_isN opl_isN (nomark _) (de_var 1) de_non) (dss_one (ds_ret (de_cmp op_isN opl_isN (nomark _) (de_var 0) de_non))) dss_nil)
      (dss_cons (ds_if (dt_val (de_callB call_isi cl_is rfl T.z_isinstance boot'_isinstance (da_cons (de_var 1) (da_cons (de_blt rfl T.z_tuple boot'_tuple) da_nil)))) (dss_cons (ds_if (dw_pt (dw_or (dt_not (dt_val (de_callB call_isi cl_is rfl T.z_isinstance boot'_isinstance (da_cons (de_var 0) (da_cons (de_blt rfl T.z_tuple boot'_tuple) da_nil))))) (dw_or1 (dt_cmp (opr_ne hr.units) opl_ne (nomark _) (de_callB cr_len cl_len rfl T.z_len boot'_len (da_cons (de_var 0) da_nil)) (de_callB cr_len cl_len rfl T.z_len boot'_len (da_cons (de_var 1) da_nil)))))) (dss_one (ds_ret de_bl)) dss_nil)
      (dss_cons (ds_for (passes_of rfl) rfl (di_rng1 rfl T.z_range (da_cons (de_callB cr_len cl_len rfl T.z_len boot'_len (da_cons (de_var 1) da_nil)) da_nil)) (dg_name (i := 2) sc.nd rfl (Or.inl rfl)) (dss_one (ds_if (dt_not (dt_val (de_call G__law_same hr rfl T.m__law_same T.F__law_same.kp T.b__law_same (da_cons (de_ix ix_seq opl_ix (fun _ _ => rfl) (de_var 0) (de_var 2)) (da_cons (de_ix ix_seq opl_ix (fun _ _ => rfl) (de_var 1) (de_var 2)) da_nil))))) (dss_one (ds_ret de_bl)) dss_nil)))
      (dss_one (ds_ret de_bl)))) dss_nil)
      (dss_cons (ds_if (dt_val (de_callB call_isi cl_is rfl T.z_isinstance boot'_isinstance (da_cons (de_var 1) (da_cons (de_blt rfl T.z_bool boot'_bool) da_nil)))) (dss_one (ds_ret (de_and (de_callB call_isi cl_is rfl T.z_isinstance boot'_isinstance (da_cons (de_var 0) (da_cons (de_blt rfl T.z_bool boot'_bool) da_nil))) (de_one (de_cmp (opr_eq hr.units) opl_eq (nomark _) (de_var 0) (de_var 1)))))) dss_nil)
      (dss_cons (ds_if (dt_val (de_callB call_isi cl_is rfl T.z_isinstance boot'_isinstance (da_cons (de_var 1) (da_cons (de_blt rfl T.z_str boot'_str) da_nil)))) (dss_one (ds_ret (de_and (de_callB call_isi cl_is rfl T.z_isinstance boot'_isinstance (da_cons (de_var 0) (da_cons (de_blt rfl T.z_str boot'_str) da_nil))) (de_one (de_cmp (opr_eq hr.units) opl_eq (nomark _) (de_var 0) (de_var 1)))))) dss_nil)
      (dss_one (ds_ret (de_and (de_call G__law_whole hr rfl T.m__law_whole T.F__law_whole.kp T.b__law_whole (da_cons (de_var 0) da_nil)) (de_one (de_cmp (opr_eq hr.units) opl_eq (nomark _) (de_var 0) (de_var 1))))))))))
theorem ok__law_kind_at {k : Nat} {sp sp__law_whole : Sp'} (T : Tx K mg) (G__law_whole : FnD P w K mg base k T.f__law_whole T.d__law_whole p__law_whole sp__law_whole) (len : ∀ ds h Q E, sp ds h Q E → ds.length = 2)
    (rd : ∀ ds h Q E', sp ds h Q E' → K03.t__law_kind_at sp__law_whole (ends Q) (slots K03.n__law_kind_at ds) h) : FnD P w K mg base (k + 1) T.f__law_kind_at T.d__law_kind_at p__law_kind_at sp := by
  refine fnD T.F__law_kind_at sc__law_kind_at len fun cdv A outer s H E hr E' => ⟨K03.t__law_kind_at sp__law_whole, ?_, fun ds h Q q => rd ds h Q E' q⟩
  have sc := sc__law_kind_at
  exact (dss_cons (ds_for (passes_of rfl) rfl (di_seq (de_var 1)) (dg_name (i := 2) sc.nd rfl (Or.inl rfl)) (dss_one (ds_mid (ds_if (dw_pt (dw_and (dt_cmp (opr_eq hr.units) opl_eq (nomark _) (de_ix ix_seq opl_ix (fun _ _ => rfl) (de_var 0) de_int) de_str) (dw_and1 (dt_cmp op_in_seq opl_in rfl (de_var 2) (de_lis (da_cons de_str (da_cons de_str da_nil))))))) (dss_one (ds_set (i := 0) sc.nd rfl (Or.inl rfl) (de_ix ix_seq opl_ix (fun _ _ => rfl) (de_var 0) (de_op opr_add opl_add de_int (de_callTy call_int1 cl_int rfl T.z_int boot'_int (da_cons (de_cmp (opr_eq hr.units) opl_eq (nomark _) (de_var 2) de_str) da_nil)))))) (dss_one (ds_mid (ds_if (dw_pt (dw_and (dt_cmp (opr_eq hr.units) opl_eq (nomark _) (de_ix ix_seq opl_ix (fun _ _ => rfl) (de_var 0) de_int) de_str) (dw_and1 (dt_cmp (opr_eq hr.units) opl_eq (nomark _) (de_var 2) de_str)))) (dss_one (ds_set (i := 0) sc.nd rfl (Or.inl rfl) (de_ix ix_seq opl_ix (fun _ _ => rfl) (de_var 0) de_int))) (dss_one (ds_if (dw_pt (dw_and (dt_cmp (opr_eq hr.units) opl_eq (nomark _) (de_ix ix_seq opl_ix (fun _ _ => rfl) (de_var 0) de_int) de_str) (dw_and (dt_val (de_call G__law_whole hr rfl T.m__law_whole T.F__law_whole.kp T.b__law_whole (da_cons (de_var 2) da_nil))) (dw_and1 (dt_cmp op_lt opl_lt (nomark _) (de_var 2) (de_callB cr_len cl_len rfl T.z_len boot'_len (da_cons (de_ix ix_seq opl_ix (fun _ _ => rfl) (de_var 0) de_int) da_nil))))))) (dss_one (ds_set (i := 0) sc.nd rfl (Or.inl rfl) (de_ix ix_seq opl_ix (fun _ _ => rfl) (de_ix ix_seq opl_ix (fun _ _ => rfl) (de_var 0) de_int) (de_var 2)))) (dss_one (ds_ret de_non)))))))))))
      (dss_one (ds_ret (de_var 0))))
theorem ok__law_part_at {k : Nat} {sp sp__law_whole : Sp'} (T : Tx K mg) (G__law_whole : FnD P w K mg base k T.f__law_whole T.d__law_whole p__law_whole sp__law_whole) (len : ∀ ds h Q E, sp ds h Q E → ds.length = 2)
    (rd : ∀ ds h Q E', sp ds h Q E' → K03.t__law_part_at sp__law_whole (ends Q) (slots K03.n__law_part_at ds) h) : FnD P w K mg base (k + 1) T.f__law_part_at T.d__law_part_at p__law_part_at sp := by
  refine fnD T.F__law_part_at sc__law_part_at len fun cdv A outer s H E hr E' => ⟨K03.t__law_part_at sp__law_whole, ?_, fun ds h Q q => rd ds h Q E' q⟩
  have sc := sc__law_part_at
  exact (dss_cons (ds_for (passes_of rfl) rfl (di_seq (de_var 1)) (dg_name (i := 2) sc.nd rfl (Or.inl rfl)) (dss_cons (ds_if (dt_not (dt_val (de_callB call_isi cl_is rfl T.z_isinstance boot'_isinstance (da_cons (de_var 0) (da_cons (de_blt rfl T.z_tuple boot'_tuple) da_nil))))) (dss_one (ds_ret de_non)) dss_nil)
      (dss_one (ds_mid (ds_if (dw_pt (dw_and (dt_cmp (opr_eq hr.units) opl_eq (nomark _) (de_ix ix_seq opl_ix (fun _ _ => rfl) (de_var 0) de_int) de_str) (dw_and1 (dt_cmp op_in_seq opl_in rfl (de_var 2) (de_lis (da_cons de_str (da_cons de_str da_nil))))))) (dss_one (ds_set (i := 0) sc.nd rfl (Or.inl rfl) (de_ix ix_seq opl_ix (fun _ _ => rfl) (de_var 0) (de_op opr_add opl_add de_int (de_callTy call_int1 cl_int rfl T.z_int boot'_int (da_cons (de_cmp (opr_eq hr.units) opl_eq (nomark _) (de_var 2) de_str) da_nil)))))) (dss_one (ds_mid (ds_if (dw_pt (dw_and (dt_cmp (opr_eq hr.units) opl_eq (nomark _) (de_ix ix_seq opl_ix (fun _ _ => rfl) (de_var 0) de_int) de_str) (dw_and1 (dt_cmp (opr_eq hr.units) opl_eq (nomark _) (de_var 2) de_str)))) (dss_one (ds_set (i := 0) sc.nd rfl (Or.inl rfl) (de_ix ix_seq opl_ix (fun _ _ => rfl) (de_var 0) de_int))) (dss_one (ds_if (dw_pt (dw_and (dt_cmp (opr_eq hr.units) opl_eq (nomark _) (de_ix ix_seq opl_ix (fun _ _ => rfl) (de_var 0) de_int) de_str) (dw_and (dt_val (de_call G__law_whole hr rfl T.m__law_whole T.F__law_whole.kp T.b__law_whole (da_cons (de_var 2) da_nil))) (dw_and1 (dt_cmp (opr_eq hr.units) opl_eq (nomark _) (de_var 2) (de_ix ix_seq opl_ix (fun _ _ => rfl) (de_var 0) de_int)))))) (dss_one (ds_set (i := 0) sc.nd rfl (Or.inl rfl) (de_ix ix_seq opl_ix (fun _ _ => rfl) (de_var 0) de_int))) (dss_one (ds_ret de_non))))))))))))
      (dss_one (ds_ret (de_var 0))))
theorem ok__law_path {k : Nat} {sp sp__law_draw sp__law_kind_at : Sp'} (T : Tx K mg) (G__law_draw : FnD P w K mg base k T.f__law_draw T.d__law_draw p__law_draw sp__law_draw) (G__law_kind_at : FnD P w K mg base k T.f__law_kind_at T.d__law_kind_at p__law_kind_at sp__law_kind_at) (len : ∀ ds h Q E, sp ds h Q E → ds.length = 2)
    (rd : ∀ ds h Q E', sp ds h Q E' → K03.t__law_path sp__law_draw sp__law_kind_at (ends Q) (slots K03.n__law_path ds) h) : FnD P w K mg base (k + 1) T.f__law_path T.d__law_path p__law_path sp := by
  refine fnD T.F__law_path sc__law_path len fun cdv A outer s H E hr E' => ⟨K03.t__law_path sp__law_draw sp__law_kind_at, ?_, fun ds h Q q => rd ds h Q E' q⟩
  have sc := sc__law_path
  exact (dss_cons (ds_set (i := 2) sc.nd rfl (Or.inl rfl) (de_tup da_nil))
      (dss_cons (ds_for (passes_of rfl) rfl (di_rng1 rfl T.z_range (da_cons (de_call G__law_draw hr rfl T.m__law_draw T.F__law_draw.kp T.b__law_draw (da_cons (de_var 0) (da_cons de_int da_nil))) da_nil)) (dg_name (i := 3) sc.nd rfl (Or.inl rfl)) (dss_cons (ds_set (i := 4) sc.nd rfl (Or.inl rfl) (de_ix ix_seq opl_ix (fun _ _ => rfl) (de_lis (da_cons de_str (da_cons de_str (da_cons de_str (da_cons de_int (da_cons de_int (da_cons de_int da_nil))))))) (de_call G__law_draw hr rfl T.m__law_draw T.F__law_draw.kp T.b__law_draw (da_cons (de_var 0) (da_cons de_int da_nil)))))
      (dss_cons (ds_set (i := 5) sc.nd rfl (Or.inl rfl) (de_call G__law_kind_at hr rfl T.m__law_kind_at T.F__law_kind_at.kp T.b__law_kind_at (da_cons (de_var 1) (da_cons (de_var 2) da_nil))))
      (dss_cons (ds_mid (ds_if (dw_pt (dw_and (dt_cmp op_gt opl_gt (nomark _) (de_call G__law_draw hr rfl T.m__law_draw T.F__law_draw.kp T.b__law_draw (da_cons (de_var 0) (da_cons de_int da_nil))) de_int) (dw_and1 (dt_cmp op_notN opl_notN (nomark _) (de_var 5) de_non)))) (dss_cons (ds_mid (ds_if (dt_cmp (opr_eq hr.units) opl_eq (nomark _) (de_ix ix_seq opl_ix (fun _ _ => rfl) (de_var 5) de_int) de_str) (dss_one (ds_set (i := 4) sc.nd rfl (Or.inl rfl) (de_ix ix_seq opl_ix (fun _ _ => rfl) (de_lis (da_cons de_str (da_cons de_str da_nil))) (de_call G__law_draw hr rfl T.m__law_draw T.F__law_draw.kp T.b__law_draw (da_cons (de_var 0) (da_cons de_int da_nil)))))) dss_nil))
      (dss_cons (ds_mid (ds_if (dt_cmp (opr_eq hr.units) opl_eq (nomark _) (de_ix ix_seq opl_ix (fun _ _ => rfl) (de_var 5) de_int) de_str) (dss_one (ds_set (i := 4) sc.nd rfl (Or.inl rfl) de_str)) dss_nil))
      (dss_one (ds_mid (ds_if (dt_cmp (opr_eq hr.units) opl_eq (nomark _) (de_ix ix_seq opl_ix (fun _ _ => rfl) (de_var 5) de_int) de_str) (dss_one (ds_set (i := 4) sc.nd rfl (Or.inl rfl) (de_call G__law_draw hr rfl T.m__law_draw T.F__law_draw.kp T.b__law_draw (da_cons (de_var 0) (da_cons (de_callB cr_len cl_len rfl T.z_len boot'_len (da_cons (de_ix ix_seq opl_ix (fun _ _ => rfl) (de_var 5) de_int) da_nil)) da_nil))))) dss_nil))))) dss_nil))
      (dss_one (ds_set (i := 2) sc.nd rfl (Or.inl rfl) (de_op opr_add opl_add (de_var 2) (de_tup (da_cons (de_var 4) da_nil)))))))))
      (dss_one (ds_ret (de_var 2)))))
theorem ok_law {k : Nat} {sp sp__law_tape sp__law_kind sp__law_letter sp__law_path sp__law_draw sp__law_kind_at sp_kind_at sp__law_same sp__law_part_at sp_part_at : Sp'} (T : Tx K mg) (G__law_tape : FnD P w K mg base k T.f__law_tape T.d__law_tape p__law_tape sp__law_tape) (G__law_kind : FnD P w K mg base k T.f__law_kind T.d__law_kind p__law_kind sp__law_kind) (G__law_letter : FnD P w K mg base k T.f__law_letter T.d__law_letter p__law_letter sp__law_letter) (G__law_path : FnD P w K mg base k T.f__law_path T.d__law_path p__law_path sp__law_path) (G__law_draw : FnD P w K mg base k T.f__law_draw T.d__law_draw p__law_draw sp__law_draw) (G__law_kind_at : FnD P w K mg base k T.f__law_kind_at T.d__law_kind_at p__law_kind_at sp__law_kind_at) (G_kind_at : FnD P w K mg base k T.f_kind_at T.d_kind_at p_kind_at sp_kind_at) (G__law_same : FnD P w K mg base k T.f__law_same T.d__law_same p__law_same sp__law_same) (G__law_part_at : FnD P w K mg base k T.f__law_part_at T.d__law_part_at p__law_part_at sp__law_part_at) (G_part_at : FnD P w K mg base k T.f_part_at T.d_part_at p_part_at sp_part_at) (len : ∀ ds h Q E, sp ds h Q E → ds.length = 1)
    (rd : ∀ ds h Q E', sp ds h Q E' → K03.t_law sp__law_tape sp__law_kind sp__law_letter sp__law_path sp__law_draw sp__law_kind_at sp_kind_at sp__law_same sp__law_part_at sp_part_at (ends Q) (slots K03.n_law ds) h) : FnD P w K mg base (k + 1) T.f_law T.d_law p_law sp := by
  refine fnD T.F_law sc_law len fun cdv A outer s H E hr E' => ⟨K03.t_law sp__law_tape sp__law_kind sp__law_letter sp__law_path sp__law_draw sp__law_kind_at sp_kind_at sp__law_same sp__law_part_at sp_part_at, ?_, fun ds h Q q => rd ds h Q E' q⟩
  have sc := sc_law
  exact (dss_cons (ds_set (i := 1) sc.nd rfl (Or.inr rfl) (de_call G__law_tape hr rfl T.m__law_tape T.F__law_tape.kp T.b__law_tape (da_cons (de_var 0) da_nil)))
      (dss_cons (ds_set (i := 2) sc.nd rfl (Or.inl rfl) (de_lis (da_cons (de_call G__law_kind hr rfl T.m__law_kind T.F__law_kind.kp T.b__law_kind (da_cons (de_var 1) (da_cons de_int (da_cons de_int da_nil)))) (da_cons (de_call G__law_kind hr rfl T.m__law_kind T.F__law_kind.kp T.b__law_kind (da_cons (de_var 1) (da_cons de_int (da_cons de_int da_nil)))) da_nil))))
      (dss_cons (ds_setlc rfl sc.nd rfl rfl (sw_true rfl rfl rfl (by decide +kernel)) (di_seq (de_var 2)) (blkOk_by (N := K03.n_law) (sc := defScope s_law) (by decide +kernel)) (fun _ _ _ _ _ => pg_name (i := 9) sc.nd rfl (Or.inl rfl)) (fun _ _ _ _ _ => dts_nil) (fun _ _ _ _ _ => (de_call G__law_letter hr rfl T.m__law_letter T.F__law_letter.kp T.b__law_letter (da_cons (de_var 1) (da_cons (de_var 9) (da_cons (de_tup (da_cons de_int (da_cons de_int da_nil))) da_nil))))))
      (dss_cons (ds_set (i := 4) sc.nd rfl (Or.inl rfl) (de_lis (da_cons (de_call G__law_path hr rfl T.m__law_path T.F__law_path.kp T.b__law_path (da_cons (de_var 1) (da_cons (de_ix ix_seq opl_ix (fun _ _ => rfl) (de_var 2) de_int) da_nil))) (da_cons (de_call G__law_path hr rfl T.m__law_path T.F__law_path.kp T.b__law_path (da_cons (de_var 1) (da_cons (de_ix ix_seq opl_ix (fun _ _ => rfl) (de_var 2) de_int) da_nil))) (da_cons (de_call G__law_path hr rfl T.m__law_path T.F__law_path.kp T.b__law_path (da_cons (de_var 1) (da_cons (de_ix ix_seq opl_ix (fun _ _ => rfl) (de_var 2) de_int) da_nil))) da_nil)))))
      (dss_cons (ds_set (i := 5) sc.nd rfl (Or.inl rfl) (de_call G__law_draw hr rfl T.m__law_draw T.F__law_draw.kp T.b__law_draw (da_cons (de_var 1) (da_cons de_int da_nil))))
      (dss_cons (ds_for (passes_of rfl) rfl (di_seq (de_op opr_add opl_add (de_var 4) (de_slice (de_var 4) do_none (do_some de_int)))) (dg_name (i := 6) sc.nd rfl (Or.inl rfl)) (dss_one (ds_for (passes_of rfl) rfl (di_rng1 rfl T.z_range (da_cons de_int da_nil)) (dg_name (i := 7) sc.nd rfl (Or.inl rfl)) (dss_one (ds_for (passes_of rfl) rfl (di_seq (de_lis (da_cons (de_var 5) (da_cons (de_op op_sub opl_sub de_int (de_var 5)) da_nil)))) (dg_name (i := 8) sc.nd rfl (Or.inl rfl)) (dss_cons (ds_if (dw_pt (dw_and (dt_cmp (opr_eq hr.units) opl_eq (nomark _) (de_var 8) de_int) (dw_and1 (dt_not (dt_val (de_call G__law_same hr rfl T.m__law_same T.F__law_same.kp T.b__law_same (da_cons (de_call G_kind_at hr rfl T.m_kind_at T.F_kind_at.kp T.b_kind_at (da_cons (de_ix ix_seq opl_ix (fun _ _ => rfl) (de_var 2) (de_var 7)) (da_cons (de_var 6) da_nil))) (da_cons (de_call G__law_kind_at hr rfl T.m__law_kind_at T.F__law_kind_at.kp T.b__law_kind_at (da_cons (de_ix ix_seq opl_ix (fun _ _ => rfl) (de_var 2) (de_var 7)) (da_cons (de_var 6) da_nil))) da_nil)))))))) (dss_one (ds_ret de_bl)) dss_nil)
      (dss_one (ds_if (dw_pt (dw_and (dt_cmp (opr_eq hr.units) opl_eq (nomark _) (de_var 8) de_int) (dw_and1 (dt_not (dt_val (de_call G__law_same hr rfl T.m__law_same T.F__law_same.kp T.b__law_same (da_cons (de_call G_part_at hr rfl T.m_part_at T.F_part_at.kp T.b_part_at (da_cons (de_ix ix_seq opl_ix (fun _ _ => rfl) (de_var 3) (de_var 7)) (da_cons (de_var 6) da_nil))) (da_cons (de_call G__law_part_at hr rfl T.m__law_part_at T.F__law_part_at.kp T.b__law_part_at (da_cons (de_ix ix_seq opl_ix (fun _ _ => rfl) (de_var 3) (de_var 7)) (da_cons (de_var 6) da_nil))) da_nil)))))))) (dss_one (ds_ret de_bl)) dss_nil))))))))
      (dss_one (ds_ret de_bl))))))))
end
theorem tx_mk {K : PySem.W.Frag} {h : Heap} {mg : Str → Option Value} (X : K.In h) (G : h.Ns mainGlobals mg)
    {f0 : Addr} {od0 an0 : Option Addr} {sl0 : Array (Option Value)} {oc0 kV0 dc0 pm0 cd0 ct0 : Value}
    {f1 : Addr} {od1 an1 : Option Addr} {sl1 : Array (Option Value)} {oc1 kV1 dc1 pm1 cd1 ct1 : Value}
    {f2 : Addr} {od2 an2 : Option Addr} {sl2 : Array (Option Value)} {oc2 kV2 dc2 pm2 cd2 ct2 : Value}
    {f3 : Addr} {od3 an3 : Option Addr} {sl3 : Array (Option Value)} {oc3 kV3 dc3 pm3 cd3 ct3 : Value}
    {f4 : Addr} {od4 an4 : Option Addr} {sl4 : Array (Option Value)} {oc4 kV4 dc4 pm4 cd4 ct4 : Value}
    {f5 : Addr} {od5 an5 : Option Addr} {sl5 : Array (Option Value)} {oc5 kV5 dc5 pm5 cd5 ct5 : Value}
    {f6 : Addr} {od6 an6 : Option Addr} {sl6 : Array (Option Value)} {oc6 kV6 dc6 pm6 cd6 ct6 : Value}
    {f7 : Addr} {od7 an7 : Option Addr} {sl7 : Array (Option Value)} {oc7 kV7 dc7 pm7 cd7 ct7 : Value}
    {f8 : Addr} {od8 an8 : Option Addr} {sl8 : Array (Option Value)} {oc8 kV8 dc8 pm8 cd8 ct8 : Value}
    {f9 : Addr} {od9 an9 : Option Addr} {sl9 : Array (Option Value)} {oc9 kV9 dc9 pm9 cd9 ct9 : Value}
    {f10 : Addr} {od10 an10 : Option Addr} {sl10 : Array (Option Value)} {oc10 kV10 dc10 pm10 cd10 ct10 : Value}
    {f11 : Addr} {od11 an11 : Option Addr} {sl11 : Array (Option Value)} {oc11 kV11 dc11 pm11 cd11 ct11 : Value}
    {f12 : Addr} {od12 an12 : Option Addr} {sl12 : Array (Option Value)} {oc12 kV12 dc12 pm12 cd12 ct12 : Value}
    {f13 : Addr} {od13 an13 : Option Addr} {sl13 : Array (Option Value)} {oc13 kV13 dc13 pm13 cd13 ct13 : Value}
    {f14 : Addr} {od14 an14 : Option Addr} {sl14 : Array (Option Value)} {oc14 kV14 dc14 pm14 cd14 ct14 : Value}
    {f15 : Addr} {od15 an15 : Option Addr} {sl15 : Array (Option Value)} {oc15 kV15 dc15 pm15 cd15 ct15 : Value}
    {f16 : Addr} {od16 an16 : Option Addr} {sl16 : Array (Option Value)} {oc16 kV16 dc16 pm16 cd16 ct16 : Value}
    {f17 : Addr} {od17 an17 : Option Addr} {sl17 : Array (Option Value)} {oc17 kV17 dc17 pm17 cd17 ct17 : Value}
    (a0 : PySem.W.nsIn K mainGlobals "is_integer" = some (some (.ref f0)))
    (l0 : K.lookup f0 = some ⟨oc0, od0, .func (PySem.W.fnOf "is_integer" "is_integer" (defArgs s_is_integer) (defBody s_is_integer) (defScope s_is_integer) .none kV0 dc0 pm0 an0 cd0 ct0), sl0⟩)
    (c0 : PySem.W.codeIn K cd0 "is_integer" = true) (k0 : PySem.W.keepIn K (.ref f0) = true)
    (a1 : PySem.W.nsIn K mainGlobals "kind_below" = some (some (.ref f1)))
    (l1 : K.lookup f1 = some ⟨oc1, od1, .func (PySem.W.fnOf "kind_below" "kind_below" (defArgs s_kind_below) (defBody s_kind_below) (defScope s_kind_below) .none kV1 dc1 pm1 an1 cd1 ct1), sl1⟩)
    (c1 : PySem.W.codeIn K cd1 "kind_below" = true) (k1 : PySem.W.keepIn K (.ref f1) = true)
    (a2 : PySem.W.nsIn K mainGlobals "kind_at" = some (some (.ref f2)))
    (l2 : K.lookup f2 = some ⟨oc2, od2, .func (PySem.W.fnOf "kind_at" "kind_at" (defArgs s_kind_at) (defBody s_kind_at) (defScope s_kind_at) .none kV2 dc2 pm2 an2 cd2 ct2), sl2⟩)
    (c2 : PySem.W.codeIn K cd2 "kind_at" = true) (k2 : PySem.W.keepIn K (.ref f2) = true)
    (a3 : PySem.W.nsIn K mainGlobals "part_below" = some (some (.ref f3)))
    (l3 : K.lookup f3 = some ⟨oc3, od3, .func (PySem.W.fnOf "part_below" "part_below" (defArgs s_part_below) (defBody s_part_below) (defScope s_part_below) .none kV3 dc3 pm3 an3 cd3 ct3), sl3⟩)
    (c3 : PySem.W.codeIn K cd3 "part_below" = true) (k3 : PySem.W.keepIn K (.ref f3) = true)
    (a4 : PySem.W.nsIn K mainGlobals "part_at" = some (some (.ref f4)))
    (l4 : K.lookup f4 = some ⟨oc4, od4, .func (PySem.W.fnOf "part_at" "part_at" (defArgs s_part_at) (defBody s_part_at) (defScope s_part_at) .none kV4 dc4 pm4 an4 cd4 ct4), sl4⟩)
    (c4 : PySem.W.codeIn K cd4 "part_at" = true) (k4 : PySem.W.keepIn K (.ref f4) = true)
    (a5 : PySem.W.nsIn K mainGlobals "_law_tape" = some (some (.ref f5)))
    (l5 : K.lookup f5 = some ⟨oc5, od5, .func (PySem.W.fnOf "_law_tape" "_law_tape" (defArgs s__law_tape) (defBody s__law_tape) (defScope s__law_tape) .none kV5 dc5 pm5 an5 cd5 ct5), sl5⟩)
    (c5 : PySem.W.codeIn K cd5 "_law_tape" = true) (k5 : PySem.W.keepIn K (.ref f5) = true)
    (a6 : PySem.W.nsIn K mainGlobals "_law_draw" = some (some (.ref f6)))
    (l6 : K.lookup f6 = some ⟨oc6, od6, .func (PySem.W.fnOf "_law_draw" "_law_draw" (defArgs s__law_draw) (defBody s__law_draw) (defScope s__law_draw) .none kV6 dc6 pm6 an6 cd6 ct6), sl6⟩)
    (c6 : PySem.W.codeIn K cd6 "_law_draw" = true) (k6 : PySem.W.keepIn K (.ref f6) = true)
    (a7 : PySem.W.nsIn K mainGlobals "_law_whole" = some (some (.ref f7)))
    (l7 : K.lookup f7 = some ⟨oc7, od7, .func (PySem.W.fnOf "_law_whole" "_law_whole" (defArgs s__law_whole) (defBody s__law_whole) (defScope s__law_whole) .none kV7 dc7 pm7 an7 cd7 ct7), sl7⟩)
    (c7 : PySem.W.codeIn K cd7 "_law_whole" = true) (k7 : PySem.W.keepIn K (.ref f7) = true)
    (a8 : PySem.W.nsIn K mainGlobals "_law_names" = some (some (.ref f8)))
    (l8 : K.lookup f8 = some ⟨oc8, od8, .func (PySem.W.fnOf "_law_names" "_law_names" (defArgs s__law_names) (defBody s__law_names) (defScope s__law_names) .none kV8 dc8 pm8 an8 cd8 ct8), sl8⟩)
    (c8 : PySem.W.codeIn K cd8 "_law_names" = true) (k8 : PySem.W.keepIn K (.ref f8) = true)
    (a9 : PySem.W.nsIn K mainGlobals "_law_kinds" = some (some (.ref f9)))
    (l9 : K.lookup f9 = some ⟨oc9, od9, .func (PySem.W.fnOf "_law_kinds" "_law_kinds" (defArgs s__law_kinds) (defBody s__law_kinds) (defScope s__law_kinds) .none kV9 dc9 pm9 an9 cd9 ct9), sl9⟩)
    (c9 : PySem.W.codeIn K cd9 "_law_kinds" = true) (k9 : PySem.W.keepIn K (.ref f9) = true)
    (a10 : PySem.W.nsIn K mainGlobals "_law_kind" = some (some (.ref f10)))
    (l10 : K.lookup f10 = some ⟨oc10, od10, .func (PySem.W.fnOf "_law_kind" "_law_kind" (defArgs s__law_kind) (defBody s__law_kind) (defScope s__law_kind) .none kV10 dc10 pm10 an10 cd10 ct10), sl10⟩)
    (c10 : PySem.W.codeIn K cd10 "_law_kind" = true) (k10 : PySem.W.keepIn K (.ref f10) = true)
    (a11 : PySem.W.nsIn K mainGlobals "_law_integer" = some (some (.ref f11)))
    (l11 : K.lookup f11 = some ⟨oc11, od11, .func (PySem.W.fnOf "_law_integer" "_law_integer" (defArgs s__law_integer) (defBody s__law_integer) (defScope s__law_integer) .none kV11 dc11 pm11 an11 cd11 ct11), sl11⟩)
    (c11 : PySem.W.codeIn K cd11 "_law_integer" = true) (k11 : PySem.W.keepIn K (.ref f11) = true)
    (a12 : PySem.W.nsIn K mainGlobals "_law_letter" = some (some (.ref f12)))
    (l12 : K.lookup f12 = some ⟨oc12, od12, .func (PySem.W.fnOf "_law_letter" "_law_letter" (defArgs s__law_letter) (defBody s__law_letter) (defScope s__law_letter) .none kV12 dc12 pm12 an12 cd12 ct12), sl12⟩)
    (c12 : PySem.W.codeIn K cd12 "_law_letter" = true) (k12 : PySem.W.keepIn K (.ref f12) = true)
    (a13 : PySem.W.nsIn K mainGlobals "_law_same" = some (some (.ref f13)))
    (l13 : K.lookup f13 = some ⟨oc13, od13, .func (PySem.W.fnOf "_law_same" "_law_same" (defArgs s__law_same) (defBody s__law_same) (defScope s__law_same) .none kV13 dc13 pm13 an13 cd13 ct13), sl13⟩)
    (c13 : PySem.W.codeIn K cd13 "_law_same" = true) (k13 : PySem.W.keepIn K (.ref f13) = true)
    (a14 : PySem.W.nsIn K mainGlobals "_law_kind_at" = some (some (.ref f14)))
    (l14 : K.lookup f14 = some ⟨oc14, od14, .func (PySem.W.fnOf "_law_kind_at" "_law_kind_at" (defArgs s__law_kind_at) (defBody s__law_kind_at) (defScope s__law_kind_at) .none kV14 dc14 pm14 an14 cd14 ct14), sl14⟩)
    (c14 : PySem.W.codeIn K cd14 "_law_kind_at" = true) (k14 : PySem.W.keepIn K (.ref f14) = true)
    (a15 : PySem.W.nsIn K mainGlobals "_law_part_at" = some (some (.ref f15)))
    (l15 : K.lookup f15 = some ⟨oc15, od15, .func (PySem.W.fnOf "_law_part_at" "_law_part_at" (defArgs s__law_part_at) (defBody s__law_part_at) (defScope s__law_part_at) .none kV15 dc15 pm15 an15 cd15 ct15), sl15⟩)
    (c15 : PySem.W.codeIn K cd15 "_law_part_at" = true) (k15 : PySem.W.keepIn K (.ref f15) = true)
    (a16 : PySem.W.nsIn K mainGlobals "_law_path" = some (some (.ref f16)))
    (l16 : K.lookup f16 = some ⟨oc16, od16, .func (PySem.W.fnOf "_law_path" "_law_path" (defArgs s__law_path) (defBody s__law_path) (defScope s__law_path) .none kV16 dc16 pm16 an16 cd16 ct16), sl16⟩)
    (c16 : PySem.W.codeIn K cd16 "_law_path" = true) (k16 : PySem.W.keepIn K (.ref f16) = true)
    (a17 : PySem.W.nsIn K mainGlobals "law" = some (some (.ref f17)))
    (l17 : K.lookup f17 = some ⟨oc17, od17, .func (PySem.W.fnOf "law" "law" (defArgs s_law) (defBody s_law) (defScope s_law) .none kV17 dc17 pm17 an17 cd17 ct17), sl17⟩)
    (c17 : PySem.W.codeIn K cd17 "law" = true) (k17 : PySem.W.keepIn K (.ref f17) = true)
    (z_abs : PySem.W.nsIn K mainGlobals "abs" = some none)
    (z_bool : PySem.W.nsIn K mainGlobals "bool" = some none)
    (z_int : PySem.W.nsIn K mainGlobals "int" = some none)
    (z_isinstance : PySem.W.nsIn K mainGlobals "isinstance" = some none)
    (z_len : PySem.W.nsIn K mainGlobals "len" = some none)
    (z_list : PySem.W.nsIn K mainGlobals "list" = some none)
    (z_max : PySem.W.nsIn K mainGlobals "max" = some none)
    (z_min : PySem.W.nsIn K mainGlobals "min" = some none)
    (z_range : PySem.W.nsIn K mainGlobals "range" = some none)
    (z_str : PySem.W.nsIn K mainGlobals "str" = some none)
    (z_sum : PySem.W.nsIn K mainGlobals "sum" = some none)
    (z_tuple : PySem.W.nsIn K mainGlobals "tuple" = some none)
    : ∃ T : Tx K mg, ∀ (s : Shared) (v : Value), BindsTo s T.d_law ⟨[v], []⟩ [("script", v)] :=
  ⟨⟨f0, _, fun_mk (st := s_is_integer) l0 c0 k0, (fun_mk (st := s_is_integer) l0 c0 k0).binds (ps := p_is_integer) (fun _ _ _ _ _ _ us hl => match us, hl with | [_], _ => rfl), PySem.W.mg_of X G a0,
    f1, _, fun_mk (st := s_kind_below) l1 c1 k1, (fun_mk (st := s_kind_below) l1 c1 k1).binds (ps := p_kind_below) (fun _ _ _ _ _ _ us hl => match us, hl with | [_, _], _ => rfl), PySem.W.mg_of X G a1,
    f2, _, fun_mk (st := s_kind_at) l2 c2 k2, (fun_mk (st := s_kind_at) l2 c2 k2).binds (ps := p_kind_at) (fun _ _ _ _ _ _ us hl => match us, hl with | [_, _], _ => rfl), PySem.W.mg_of X G a2,
    f3, _, fun_mk (st := s_part_below) l3 c3 k3, (fun_mk (st := s_part_below) l3 c3 k3).binds (ps := p_part_below) (fun _ _ _ _ _ _ us hl => match us, hl with | [_, _], _ => rfl), PySem.W.mg_of X G a3,
    f4, _, fun_mk (st := s_part_at) l4 c4 k4, (fun_mk (st := s_part_at) l4 c4 k4).binds (ps := p_part_at) (fun _ _ _ _ _ _ us hl => match us, hl with | [_, _], _ => rfl), PySem.W.mg_of X G a4,
    f5, _, fun_mk (st := s__law_tape) l5 c5 k5, (fun_mk (st := s__law_tape) l5 c5 k5).binds (ps := p__law_tape) (fun _ _ _ _ _ _ us hl => match us, hl with | [_], _ => rfl), PySem.W.mg_of X G a5,
    f6, _, fun_mk (st := s__law_draw) l6 c6 k6, (fun_mk (st := s__law_draw) l6 c6 k6).binds (ps := p__law_draw) (fun _ _ _ _ _ _ us hl => match us, hl with | [_, _], _ => rfl), PySem.W.mg_of X G a6,
    f7, _, fun_mk (st := s__law_whole) l7 c7 k7, (fun_mk (st := s__law_whole) l7 c7 k7).binds (ps := p__law_whole) (fun _ _ _ _ _ _ us hl => match us, hl with | [_], _ => rfl), PySem.W.mg_of X G a7,
    f8, _, fun_mk (st := s__law_names) l8 c8 k8, (fun_mk (st := s__law_names) l8 c8 k8).binds (ps := p__law_names) (fun _ _ _ _ _ _ us hl => match us, hl with | [_], _ => rfl), PySem.W.mg_of X G a8,
    f9, _, fun_mk (st := s__law_kinds) l9 c9 k9, (fun_mk (st := s__law_kinds) l9 c9 k9).binds (ps := p__law_kinds) (fun _ _ _ _ _ _ us hl => match us, hl with | [_], _ => rfl), PySem.W.mg_of X G a9,
    f10, _, fun_mk (st := s__law_kind) l10 c10 k10, (fun_mk (st := s__law_kind) l10 c10 k10).binds (ps := p__law_kind) (fun _ _ _ _ _ _ us hl => match us, hl with | [_, _, _], _ => rfl), PySem.W.mg_of X G a10,
    f11, _, fun_mk (st := s__law_integer) l11 c11 k11, (fun_mk (st := s__law_integer) l11 c11 k11).binds (ps := p__law_integer) (fun _ _ _ _ _ _ us hl => match us, hl with | [_, _], _ => rfl), PySem.W.mg_of X G a11,
    f12, _, fun_mk (st := s__law_letter) l12 c12 k12, (fun_mk (st := s__law_letter) l12 c12 k12).binds (ps := p__law_letter) (fun _ _ _ _ _ _ us hl => match us, hl with | [_, _, _], _ => rfl), PySem.W.mg_of X G a12,
    f13, _, fun_mk (st := s__law_same) l13 c13 k13, (fun_mk (st := s__law_same) l13 c13 k13).binds (ps := p__law_same) (fun _ _ _ _ _ _ us hl => match us, hl with | [_, _], _ => rfl), PySem.W.mg_of X G a13,
    f14, _, fun_mk (st := s__law_kind_at) l14 c14 k14, (fun_mk (st := s__law_kind_at) l14 c14 k14).binds (ps := p__law_kind_at) (fun _ _ _ _ _ _ us hl => match us, hl with | [_, _], _ => rfl), PySem.W.mg_of X G a14,
    f15, _, fun_mk (st := s__law_part_at) l15 c15 k15, (fun_mk (st := s__law_part_at) l15 c15 k15).binds (ps := p__law_part_at) (fun _ _ _ _ _ _ us hl => match us, hl with | [_, _], _ => rfl), PySem.W.mg_of X G a15,
    f16, _, fun_mk (st := s__law_path) l16 c16 k16, (fun_mk (st := s__law_path) l16 c16 k16).binds (ps := p__law_path) (fun _ _ _ _ _ _ us hl => match us, hl with | [_, _], _ => rfl), PySem.W.mg_of X G a16,
    f17, _, fun_mk (st := s_law) l17 c17 k17, (fun_mk (st := s_law) l17 c17 k17).binds (ps := p_law) (fun _ _ _ _ _ _ us hl => match us, hl with | [_], _ => rfl), PySem.W.mg_of X G a17,
    PySem.W.mg_none_of X G z_abs,
    PySem.W.mg_none_of X G z_bool,
    PySem.W.mg_none_of X G z_int,
    PySem.W.mg_none_of X G z_isinstance,
    PySem.W.mg_none_of X G z_len,
    PySem.W.mg_none_of X G z_list,
    PySem.W.mg_none_of X G z_max,
    PySem.W.mg_none_of X G z_min,
    PySem.W.mg_none_of X G z_range,
    PySem.W.mg_none_of X G z_str,
    PySem.W.mg_none_of X G z_sum,
    PySem.W.mg_none_of X G z_tuple⟩, fun s v => .of_eq rfl⟩
end WK03

set_option Elab.async false
set_option linter.all false
set_option maxRecDepth 100000
namespace WK03
open PySem PySem.Spec PyProof.Rows L2 DL
section
variable {P : Program} {w : World} {K : PySem.W.Frag} {mg : Str → Option Value} {base : Heap}
theorem g_is_integer (T : Tx K mg) : FnD P w K mg base 1 T.f_is_integer T.d_is_integer p_is_integer K00.sp_is_integer := ok_is_integer T (fun ds h Q E ⟨v, e, _⟩ => by rw [e]; rfl) (fun ds h Q E' q => K00.rd_is_integer ds h Q E' q)
theorem g__law_whole (T : Tx K mg) : FnD P w K mg base 1 T.f__law_whole T.d__law_whole p__law_whole K00.sp_is_integer := ok__law_whole T (fun ds h Q E ⟨v, e, _⟩ => by rw [e]; rfl) (fun ds h Q E' q => K00.rd__law_whole ds h Q E' q)
theorem g__law_tape (T : Tx K mg) : FnD P w K mg base 1 T.f__law_tape T.d__law_tape p__law_tape spTape := ok__law_tape T (fun ds h Q E ⟨v, e, _⟩ => by rw [e]; rfl) (fun ds h Q E' q => K00.rd__law_tape ds h Q E' q)
theorem g__law_draw (T : Tx K mg) : FnD P w K mg base 1 T.f__law_draw T.d__law_draw p__law_draw spDraw := ok__law_draw T (fun ds h Q E ⟨a, k, e, _⟩ => by rw [e]; rfl) (fun ds h Q E' q => K00.rd__law_draw ds h Q E' q)
theorem g__law_names (T : Tx K mg) : FnD P w K mg base 2 T.f__law_names T.d__law_names p__law_names K00.spNames := ok__law_names T (g__law_draw T) (fun ds h Q E ⟨a, e, _⟩ => by rw [e]; rfl) (fun ds h Q E' q => K00.rd__law_names ds h Q E' q)
theorem g__law_kinds (T : Tx K mg) : ∀ n : Nat, FnD P w K mg base n T.f__law_kinds T.d__law_kinds p__law_kinds (K00.spKinds n)
  | 0 => FnD.none fun ds h Q E ⟨k, _, hd, _⟩ => by have := k.depth_pos; omega
  | n + 1 => ok__law_kinds T (g__law_kinds T n) (fun ds h Q E ⟨k, e, _⟩ => by rw [e]; rfl) (fun ds h Q E' q => K00.rd__law_kinds n ds h Q E' q)
theorem g__law_kind (T : Tx K mg) : ∀ n : Nat, n ≤ 50 → FnD P w K mg base (n + 50) T.f__law_kind T.d__law_kind p__law_kind (K00.spKind n)
  | 0, _ => FnD.none fun ds h Q E ⟨a, d, m, _, h1, h2, _⟩ => by omega
  | n + 1, hn => (ok__law_kind (k := n + 50) T ((g__law_draw T).mono (by omega)) ((g__law_names T).mono (by omega)) (g__law_kind T n (by omega)) ((g__law_kinds T 50).mono (by omega)) (fun ds h Q E ⟨a, d, m, e, _⟩ => by rw [e]; rfl) (fun ds h Q E' q => K00.rd__law_kind n (by omega) ds h Q E' q)).mono (by omega)
theorem g__law_integer (T : Tx K mg) : FnD P w K mg base 2 T.f__law_integer T.d__law_integer p__law_integer K00.spInt := ok__law_integer T (g__law_draw T) (fun ds h Q E ⟨a, k, e, _⟩ => by rw [e]; rfl) (fun ds h Q E' q => K00.rd__law_integer ds h Q E' q)
theorem g__law_letter (T : Tx K mg) : ∀ n : Nat, FnD P w K mg base (n + 2) T.f__law_letter T.d__law_letter p__law_letter (K00.spLetter n)
  | 0 => FnD.none fun ds h Q E ⟨a, k, top, x, _, _, hd, _⟩ => by have := k.depth_pos; omega
  | n + 1 => ok__law_letter T ((g__law_draw T).mono (by omega)) ((g__law_integer T).mono (by omega)) (g__law_letter T n) (fun ds h Q E ⟨a, k, top, x, e, _⟩ => by rw [e]; rfl) (fun ds h Q E' q => K00.rd__law_letter n ds h Q E' q)
theorem g_kind_below (T : Tx K mg) : FnD P w K mg base 2 T.f_kind_below T.d_kind_below p_kind_below K03.sp_kind_below := ok_kind_below T (g_is_integer T) (fun ds h Q E ⟨_, _, e, _⟩ => by rw [e]; rfl) (fun ds h Q E' q => K03.rd_kind_below ds h Q E' q)
theorem g_kind_at (T : Tx K mg) : FnD P w K mg base 3 T.f_kind_at T.d_kind_at p_kind_at K03.sp_kind_at := ok_kind_at T (g_kind_below T) (fun ds h Q E ⟨_, _, e, _⟩ => by rw [e]; rfl) (fun ds h Q E' q => K03.rd_kind_at ds h Q E' q)
theorem g_part_below (T : Tx K mg) : FnD P w K mg base 1 T.f_part_below T.d_part_below p_part_below K03.sp_part_below := ok_part_below T (fun ds h Q E ⟨_, _, e, _⟩ => by rw [e]; rfl) (fun ds h Q E' q => K03.rd_part_below ds h Q E' q)
theorem g_part_at (T : Tx K mg) : FnD P w K mg base 2 T.f_part_at T.d_part_at p_part_at K03.sp_part_at := ok_part_at T (g_part_below T) (fun ds h Q E ⟨_, _, e, _⟩ => by rw [e]; rfl) (fun ds h Q E' q => K03.rd_part_at ds h Q E' q)
theorem g__law_kind_at (T : Tx K mg) : FnD P w K mg base 2 T.f__law_kind_at T.d__law_kind_at p__law_kind_at K03.sp_kind_at := ok__law_kind_at T (g__law_whole T) (fun ds h Q E ⟨_, _, e, _⟩ => by rw [e]; rfl) (fun ds h Q E' q => K03.rd__law_kind_at ds h Q E' q)
theorem g__law_part_at (T : Tx K mg) : FnD P w K mg base 2 T.f__law_part_at T.d__law_part_at p__law_part_at K03.sp_part_at := ok__law_part_at T (g__law_whole T) (fun ds h Q E ⟨_, _, e, _⟩ => by rw [e]; rfl) (fun ds h Q E' q => K03.rd__law_part_at ds h Q E' q)
theorem g__law_same (T : Tx K mg) : ∀ n : Nat, FnD P w K mg base (n + 1) T.f__law_same T.d__law_same p__law_same (K03.spSame n)
  | 0 => FnD.none fun ds h Q E ⟨x, m, e, _⟩ => by cases e
  | n + 1 => ok__law_same T (g__law_same T n) ((g__law_whole T).mono (by omega)) (fun ds h Q E ⟨_, _, _, e, _⟩ => by rw [e]; rfl) (fun ds h Q E' q => K03.rd__law_same n ds h Q E' q)
theorem g__law_path (T : Tx K mg) : FnD P w K mg base 3 T.f__law_path T.d__law_path p__law_path K03.spPath := ok__law_path T ((g__law_draw T).mono (by omega)) (g__law_kind_at T) (fun ds h Q E ⟨_, _, e, _⟩ => by rw [e]; rfl) (fun ds h Q E' q => K03.rd__law_path ds h Q E' q)
theorem ok_all (T : Tx K mg) : FnD P w K mg base 101 T.f_law T.d_law p_law spLaw :=
  ok_law (k := 100) T ((g__law_tape T).mono (by omega)) ((g__law_kind T 3 (by omega)).mono (by omega)) ((g__law_letter T 3).mono (by omega)) ((g__law_path T).mono (by omega)) ((g__law_draw T).mono (by omega)) ((g__law_kind_at T).mono (by omega)) ((g_kind_at T).mono (by omega)) ((g__law_same T 41).mono (by omega)) ((g__law_part_at T).mono (by omega)) ((g_part_at T).mono (by omega))
    (fun ds h Q E ⟨ns, e, _⟩ => by rw [e]; rfl) (fun ds h Q E' q => K03.rd_law ds h Q E' q)
end
end WK03

set_option Elab.async false
set_option linter.all false
namespace WK03
open PySem PySem.Spec PyProof.Rows L2 DL
theorem walk {l : PySem.W.OpenLaw} {q : Program} {loose : List Str} {XP : (Str → Option Value) → Heap → Prop} {YP : World → Heap → Prop}
    {d : DefRec} {K : Params → PySem.W.Frag} (hn : l.most = some 63) (hdf : d.params.defaults = [])
    (hY : ∀ (w : World) (h : Heap),
      YP w h → (K w.params).In h)
    (hd : d.name = "law")
    (F : ∀ (w : World) (mg : Str → Option Value) (h : Heap), (K w.params).In h → h.Ns mainGlobals mg →
      ∃ T : Tx (K w.params) mg, ∀ (s : Shared) (v : Value), BindsTo s T.d_law ⟨[v], []⟩ [("script", v)]) :
    PySem.W.WalkO q loose XP YP l.row.toRowW d []
      (fun f vs => PySem.call f vs) := by
  refine L2.walk_of (n := 63) (k := 101) (x := "script") (CX := fun w => L2.CX l.prog w) (sp := fun w => lSp (K w.params) spLaw) hn (by decide) hdf ⟨rfl, by decide, by decide⟩ hY (fun w mg fa h hK hG hm => ?_) (fun w H a ns hl hO hS => ?_) fun w H s e s' z => ?_
  · obtain ⟨T, b⟩ := F w mg h hK hG
    rw [hd] at hm
    have e : T.f_law = fa := by
      have z := T.m_law.symm.trans hm
      cases z
      rfl
    exact ⟨T.d_law, b, fun base _ _ => e ▸ ok_all T⟩
  · refine ⟨[.scr ns], fun _ => none, fun d _ => d = .bl true, fun _ _ => False, ⟨.ref a, [], rfl, ⟨a, rfl, ?_⟩, rfl⟩, (fun a o e => by cases e), ⟨ns, rfl, hl, fun _ => rfl, fun _ => rfl⟩, fun d h' v H' _ _ r q => ?_, fun _ _ _ _ _ z => z⟩
    · exact hS.elim (fun z => .inl ⟨rfl, z⟩) .inr
    · subst q; exact r
  · obtain ⟨_, _, _, _, _, _, _, _, _, _, _, _, z⟩ := z
    exact z
end WK03
open PySem PySem.W PyProof.Rows
set_option maxRecDepth 100000 in
set_option maxHeartbeats 0 in
theorem PySem.Challenge.cw_guardwords_k03_paths_holds : PySem.Challenge.rw_guardwords_k03_paths.Holds := by
  w_on; o_law; k_head; (case hw => w_witness2)
  k_fill
  refine WK03.walk (l := PySem.Challenge.rw_guardwords_k03_paths) rfl rfl (fun w h Y => PySem.W.kIn_of Y) rfl ?F
  case F =>
    intro w mg h KX G
    refine' WK03.tx_mk KX G ?a0 ?l0 ?c0 ?k0 ?a1 ?l1 ?c1 ?k1 ?a2 ?l2 ?c2 ?k2 ?a3 ?l3 ?c3 ?k3 ?a4 ?l4 ?c4 ?k4 ?a5 ?l5 ?c5 ?k5 ?a6 ?l6 ?c6 ?k6 ?a7 ?l7 ?c7 ?k7 ?a8 ?l8 ?c8 ?k8 ?a9 ?l9 ?c9 ?k9 ?a10 ?l10 ?c10 ?k10 ?a11 ?l11 ?c11 ?k11 ?a12 ?l12 ?c12 ?k12 ?a13 ?l13 ?c13 ?k13 ?a14 ?l14 ?c14 ?k14 ?a15 ?l15 ?c15 ?k15 ?a16 ?l16 ?c16 ?k16 ?a17 ?l17 ?c17 ?k17 ?z_abs ?z_bool ?z_int ?z_isinstance ?z_len ?z_list ?z_max ?z_min ?z_range ?z_str ?z_sum ?z_tuple
    (case a0 => k_is)
    (case l0 => k_is)
    (case c0 => k_is)
    (case k0 => k_is)
    (case a1 => k_is)
    (case l1 => k_is)
    (case c1 => k_is)
    (case k1 => k_is)
    (case a2 => k_is)
    (case l2 => k_is)
    (case c2 => k_is)
    (case k2 => k_is)
    (case a3 => k_is)
    (case l3 => k_is)
    (case c3 => k_is)
    (case k3 => k_is)
    (case a4 => k_is)
    (case l4 => k_is)
    (case c4 => k_is)
    (case k4 => k_is)
    (case a5 => k_is)
    (case l5 => k_is)
    (case c5 => k_is)
    (case k5 => k_is)
    (case a6 => k_is)
    (case l6 => k_is)
    (case c6 => k_is)
    (case k6 => k_is)
    (case a7 => k_is)
    (case l7 => k_is)
    (case c7 => k_is)
    (case k7 => k_is)
    (case a8 => k_is)
    (case l8 => k_is)
    (case c8 => k_is)
    (case k8 => k_is)
    (case a9 => k_is)
    (case l9 => k_is)
    (case c9 => k_is)
    (case k9 => k_is)
    (case a10 => k_is)
    (case l10 => k_is)
    (case c10 => k_is)
    (case k10 => k_is)
    (case a11 => k_is)
    (case l11 => k_is)
    (case c11 => k_is)
    (case k11 => k_is)
    (case a12 => k_is)
    (case l12 => k_is)
    (case c12 => k_is)
    (case k12 => k_is)
    (case a13 => k_is)
    (case l13 => k_is)
    (case c13 => k_is)
    (case k13 => k_is)
    (case a14 => k_is)
    (case l14 => k_is)
    (case c14 => k_is)
    (case k14 => k_is)
    (case a15 => k_is)
    (case l15 => k_is)
    (case c15 => k_is)
    (case k15 => k_is)
    (case a16 => k_is)
    (case l16 => k_is)
    (case c16 => k_is)
    (case k16 => k_is)
    (case a17 => k_is)
    (case l17 => k_is)
    (case c17 => k_is)
    (case k17 => k_is)
    (case z_abs => k_is)
    (case z_bool => k_is)
    (case z_int => k_is)
    (case z_isinstance => k_is)
    (case z_len => k_is)
    (case z_list => k_is)
    (case z_max => k_is)
    (case z_min => k_is)
    (case z_range => k_is)
    (case z_str => k_is)
    (case z_sum => k_is)
    (case z_tuple => k_is)

