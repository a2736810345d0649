import PyProof.Rows.All
import Wide.All
import OpenK.AllK
import Wide.FinOn
import HandS.ForMost
import HandS.IsInst
import HandS.Wide
import HandS.HotCalls
import HandS.Exc
import HandS.WordsExc
import KE.DataCmp
import KE.DataFind
import HandS.Deep
import HandS.Style
import HandS.Strs
import HandS.ExcIs
import HandS.SetBool
import KE.RegKIsAll
import PySem.Challenge.RW_guardwords_k22_states_behind_a_word
set_option Elab.async false
set_option linter.all false
set_option maxRecDepth 100000
/-! DL1: values as data (tuples and settled lists by what they hold), a heap of own lists, lifts of the hand layer's judgements. -/
namespace DL
open PySem PySem.Spec PyProof.Rows L2

/-- data: a tuple or a settled list is its items; ref: an own list (in the data heap), a def, a class -/
inductive D where
  | non | bl (b : Bool) | int (i : Int) | str (x : Str) | tup (xs : List D) | lis (xs : List D) | scr (ns : List Int) | ref (a : Addr) | ty (n : String)

/-- what the data heap holds: an own list, a place that nobody touches -/
inductive DO where
  | lst (xs : List D)
  | hid
  | dct (ps : List (Key × D))
abbrev DH := Addr → Option DO
def put (h : DH) (a : Addr) (o : DO) : DH := fun b => if b = a then some o else h b
def del (h : DH) (a : Addr) : DH := fun b => if b = a then none else h b
theorem put_same {h : DH} {a : Addr} {o : DO} : put h a o a = some o := if_pos rfl
theorem put_ne {h : DH} {a b : Addr} {o : DO} (e : b ≠ a) : put h a o b = h b := if_neg e
theorem del_same {h : DH} {a : Addr} : del h a a = none := if_pos rfl
theorem del_ne {h : DH} {a b : Addr} (e : b ≠ a) : del h a b = h b := if_neg e
theorem put_put {h : DH} {a : Addr} {o u : DO} : put (put h a o) a u = put h a u := by
  funext b; unfold put; split <;> rfl
theorem put_comm {h : DH} {a b : Addr} {o u : DO} (e : a ≠ b) : put (put h a o) b u = put (put h b u) a o := by
  funext c; unfold put
  by_cases h1 : c = b
  · rw [if_pos h1, if_neg (fun h2 => e (h2.symm.trans h1)), if_pos h1]
  · rw [if_neg h1, if_neg h1]
theorem del_put {h : DH} {a : Addr} {o : DO} (n : h a = none) : del (put h a o) a = h := by
  funext b; unfold del put
  by_cases e : b = a
  · rw [if_pos e, e, n]
  · rw [if_neg e, if_neg e]
theorem del_put_ne {h : DH} {a b : Addr} {o : DO} (e : a ≠ b) : del (put h a o) b = put (del h b) a o := by
  funext c
  by_cases h1 : c = b
  · subst h1; rw [del_same, put_ne (Ne.symm e), del_same]
  · rw [del_ne h1]
    by_cases h2 : c = a
    · subst h2; rw [put_same, put_same]
    · rw [put_ne h2, put_ne h2, del_ne h1]
theorem put_get {h : DH} {a : Addr} {o : DO} (e : h a = some o) : put h a o = h := by
  funext b; unfold put
  by_cases q : b = a
  · rw [if_pos q, q, e]
  · rw [if_neg q]

/-- a tuple, a settled list: tracked where no own list is, or written -/
def TupAt (K : PySem.W.Frag) (h : DH) (H : Hp) (a : Addr) (vs : List V) : Prop :=
  (h a = none ∧ ∃ ob : Obj, ob.dict = none ∧ H a = some (.frz ob (.tup vs))) ∨
    ∃ (o : Obj) (its : Array Value) (n : Nat), K.lookup a = some o ∧ o.cls = .type "tuple" ∧ o.dict = none ∧ o.data = .seq its n ∧ its.size ≤ sizeLine ∧ Vals vs its.toList
def ScrAt (K : PySem.W.Frag) (h : DH) (H : Hp) (a : Addr) (vs : List V) : Prop :=
  (h a = none ∧ Rd H a (.lst vs)) ∨
    ∃ (o : Obj) (its : Array Value) (n : Nat), K.lookup a = some o ∧ o.cls = .type "list" ∧ o.dict = none ∧ o.data = .seq its n ∧ its.size ≤ sizeLine ∧ Vals vs its.toList
theorem TupAt.sq {K : PySem.W.Frag} {h : DH} {H : Hp} {a : Addr} {vs : List V} (t : TupAt K h H a vs) : SqT K H a vs := t.elim (fun ⟨_, ob, _, e⟩ => .inl (.inr ⟨ob, e⟩)) fun ⟨o, its, n, a, b, _, c⟩ => .inr ⟨o, its, n, a, b, c⟩
theorem ScrAt.sq {K : PySem.W.Frag} {h : DH} {H : Hp} {a : Addr} {vs : List V} (t : ScrAt K h H a vs) : SqL K H a vs := t.elim (fun z => .inl z.2) .inr
variable {K : PySem.W.Frag}

mutual
/-- v, in the heap H, is the data d -/
def RD (K : PySem.W.Frag) (h : DH) (H : Hp) : D → V → Prop
  | .non, v => v = .non
  | .bl b, v => v = .bl b
  | .int i, v => v = .int i
  | .str x, v => v = .str x
  | .ref a, v => v = .ref a
  | .ty n, v => v = .ty n
  | .tup ds, v => ∃ a vs, v = .ref a ∧ TupAt K h H a vs ∧ RDs K h H ds vs
  | .lis ds, v => ∃ a vs, v = .ref a ∧ h a = none ∧ H a = some (.lst vs) ∧ RDs K h H ds vs
  | .scr ns, v => ∃ a, v = .ref a ∧ ScrAt K h H a (ns.map V.int)
def RDs (K : PySem.W.Frag) (h : DH) (H : Hp) : List D → List V → Prop
  | [], vs => vs = []
  | d :: ds, vs => ∃ v r, vs = v :: r ∧ RD K h H d v ∧ RDs K h H ds r
end

def still : Option DO → Bool
  | none => true
  | some .hid => true
  | some (.lst _) => false
  | some (.dct _) => false
/-- what is not an own list stays -/
def KP (h : DH) (H : Hp) (h' : DH) (H' : Hp) : Prop := ∀ a o, still (h a) = true → H a = some o → h' a = h a ∧ H' a = some o
theorem KP.refl {h : DH} {H : Hp} : KP h H h H := fun _ _ _ e => ⟨rfl, e⟩
theorem KP.trans {h h1 h2 : DH} {H H1 H2 : Hp} (k : KP h H h1 H1) (l : KP h1 H1 h2 H2) : KP h H h2 H2 := fun a o s e => by
  obtain ⟨e1, e2⟩ := k a o s e
  obtain ⟨e3, e4⟩ := l a o (by rw [e1]; exact s) e2
  exact ⟨e3.trans e1, e4⟩
theorem KP.rd {h h' : DH} {H H' : Hp} {a : Addr} {u : HO} (k : KP h H h' H') (n : h a = none) (r : Rd H a u) : h' a = none ∧ Rd H' a u := by
  have s : still (h a) = true := by rw [n]; rfl
  rcases r with e | ⟨o, e⟩
  · obtain ⟨e1, e2⟩ := k a _ s e
    exact ⟨e1.trans n, .inl e2⟩
  · obtain ⟨e1, e2⟩ := k a _ s e
    exact ⟨e1.trans n, .inr ⟨o, e2⟩⟩
/-- what data lean on -/
def KN (h : DH) (H : Hp) (h' : DH) (H' : Hp) : Prop := ∀ a o, h a = none → H a = some o → h' a = none ∧ H' a = some o
theorem KP.kn {h h' : DH} {H H' : Hp} (k : KP h H h' H') : KN h H h' H' := fun a o n e => by
  obtain ⟨e1, e2⟩ := k a o (by rw [n]; rfl) e
  exact ⟨e1.trans n, e2⟩
theorem KN.rd {h h' : DH} {H H' : Hp} {a : Addr} {u : HO} (k : KN h H h' H') (n : h a = none) (r : Rd H a u) : h' a = none ∧ Rd H' a u := by
  rcases r with e | ⟨o, e⟩
  · exact ⟨(k a _ n e).1, .inl (k a _ n e).2⟩
  · exact ⟨(k a _ n e).1, .inr ⟨o, (k a _ n e).2⟩⟩
theorem KN.tup {h h' : DH} {H H' : Hp} {a : Addr} {vs : List V} (k : KN h H h' H') (t : TupAt K h H a vs) : TupAt K h' H' a vs := t.elim (fun ⟨n, ob, d, e⟩ => .inl ⟨(k a _ n e).1, ob, d, (k a _ n e).2⟩) .inr
theorem KN.scr {h h' : DH} {H H' : Hp} {a : Addr} {vs : List V} (k : KN h H h' H') (t : ScrAt K h H a vs) : ScrAt K h' H' a vs := t.elim (fun z => .inl (k.rd z.1 z.2)) .inr
theorem KP.tup {h h' : DH} {H H' : Hp} {a : Addr} {vs : List V} (k : KP h H h' H') (t : TupAt K h H a vs) : TupAt K h' H' a vs := k.kn.tup t
theorem KP.scr {h h' : DH} {H H' : Hp} {a : Addr} {vs : List V} (k : KP h H h' H') (t : ScrAt K h H a vs) : ScrAt K h' H' a vs := t.elim (fun z => .inl (k.rd z.1 z.2)) .inr
mutual
theorem RD.monoN {h h' : DH} {H H' : Hp} (k : KN h H h' H') : ∀ (d : D) (v : V), RD K h H d v → RD K h' H' d v
  | .non, _, r => r
  | .bl _, _, r => r
  | .int _, _, r => r
  | .str _, _, r => r
  | .ref _, _, r => r
  | .ty _, _, r => r
  | .tup ds, v, r => by
    obtain ⟨a, vs, e, t, q⟩ := r
    exact ⟨a, vs, e, k.tup t, RDs.monoN k ds vs q⟩
  | .lis ds, v, r => by
    obtain ⟨a, vs, e, n, t, q⟩ := r
    obtain ⟨n', t'⟩ := k a _ n t
    exact ⟨a, vs, e, n', t', RDs.monoN k ds vs q⟩
  | .scr ns, v, r => by
    obtain ⟨a, e, t⟩ := r
    exact ⟨a, e, k.scr t⟩
theorem RDs.monoN {h h' : DH} {H H' : Hp} (k : KN h H h' H') : ∀ (ds : List D) (vs : List V), RDs K h H ds vs → RDs K h' H' ds vs
  | [], _, r => r
  | d :: ds, vs, r => by
    obtain ⟨v, w, e, q1, q2⟩ := r
    exact ⟨v, w, e, RD.monoN k d v q1, RDs.monoN k ds w q2⟩
end
theorem RD.mono {h h' : DH} {H H' : Hp} (k : KP h H h' H') (d : D) (v : V) (r : RD K h H d v) : RD K h' H' d v := RD.monoN k.kn d v r
theorem RDs.mono {h h' : DH} {H H' : Hp} (k : KP h H h' H') (ds : List D) (vs : List V) (r : RDs K h H ds vs) : RDs K h' H' ds vs := RDs.monoN k.kn ds vs r
theorem RDs.length {h : DH} {H : Hp} : ∀ {ds : List D} {vs : List V}, RDs K h H ds vs → vs.length = ds.length
  | [], vs, r => by rw [show vs = [] from r]; rfl
  | d :: ds, vs, r => by
    obtain ⟨v, w, e, _, q2⟩ := r
    rw [e, List.length_cons, List.length_cons, RDs.length q2]
theorem RDs.nil {h : DH} {H : Hp} : RDs K h H [] [] := rfl
theorem RDs.cons {h : DH} {H : Hp} {d : D} {v : V} {ds : List D} {vs : List V} (a : RD K h H d v) (b : RDs K h H ds vs) : RDs K h H (d :: ds) (v :: vs) := ⟨v, vs, rfl, a, b⟩
theorem RDs.append {h : DH} {H : Hp} : ∀ {ds es : List D} {vs ws : List V}, RDs K h H ds vs → RDs K h H es ws → RDs K h H (ds ++ es) (vs ++ ws)
  | [], _, _, _, r, s => by rw [show _ = [] from r]; exact s
  | d :: ds, _, _, _, r, s => by
    obtain ⟨v, w, rfl, q1, q2⟩ := r
    exact ⟨v, _, rfl, q1, RDs.append q2 s⟩
theorem RDs.get {h : DH} {H : Hp} : ∀ {ds : List D} {vs : List V} {i : Nat} {d : D}, RDs K h H ds vs → ds[i]? = some d → ∃ v, vs[i]? = some v ∧ RD K h H d v
  | [], _, i, _, _, e => by simp at e
  | d :: ds, vs, 0, d', r, e => by
    obtain ⟨v, w, rfl, q1, q2⟩ := r
    have e' : d = d' := by simpa using e
    subst e'
    exact ⟨v, rfl, q1⟩
  | d :: ds, vs, i + 1, d', r, e => by
    obtain ⟨v, w, rfl, q1, q2⟩ := r
    obtain ⟨u, e1, e2⟩ := RDs.get (i := i) (d := d') q2 (by simpa using e)
    exact ⟨u, by simpa using e1, e2⟩
theorem RDs.drop {h : DH} {H : Hp} : ∀ (n : Nat) {ds : List D} {vs : List V}, RDs K h H ds vs → RDs K h H (ds.drop n) (vs.drop n)
  | 0, _, _, r => r
  | n + 1, [], vs, r => by rw [show vs = [] from r]; exact rfl
  | n + 1, d :: ds, vs, r => by
    obtain ⟨v, w, rfl, q1, q2⟩ := r
    exact RDs.drop n q2
theorem RDs.take {h : DH} {H : Hp} : ∀ (n : Nat) {ds : List D} {vs : List V}, RDs K h H ds vs → RDs K h H (ds.take n) (vs.take n)
  | 0, _, _, _ => rfl
  | n + 1, [], vs, r => by rw [show vs = [] from r]; exact rfl
  | n + 1, d :: ds, vs, r => by
    obtain ⟨v, w, rfl, q1, q2⟩ := r
    exact ⟨v, _, rfl, q1, RDs.take n q2⟩
theorem RDs.set {h : DH} {H : Hp} {d : D} {v : V} (q : RD K h H d v) : ∀ (n : Nat) {ds : List D} {vs : List V}, RDs K h H ds vs → RDs K h H (ds.set n d) (vs.set n v)
  | _, [], vs, r => by rw [show vs = [] from r]; exact rfl
  | 0, d' :: ds, vs, r => by
    obtain ⟨v', w, rfl, q1, q2⟩ := r
    exact ⟨v, w, rfl, q, q2⟩
  | n + 1, d' :: ds, vs, r => by
    obtain ⟨v', w, rfl, q1, q2⟩ := r
    exact ⟨v', _, rfl, q1, RDs.set q n q2⟩

/-- a dict's entries -/
def RDd (K : PySem.W.Frag) (h : DH) (H : Hp) (ps : List (Key × D)) (kvs : List (Key × V)) : Prop := kvs.map (·.1) = ps.map (·.1) ∧ RDs K h H (ps.map (·.2)) (kvs.map (·.2))
/-- what stands at a place of the data heap -/
def HeldAt (K : PySem.W.Frag) (h : DH) (H : Hp) (a : Addr) : DO → Prop
  | .lst ds => ∃ vs, H a = some (.lst vs) ∧ RDs K h H ds vs
  | .hid => ∃ u, H a = some u
  | .dct ps => ∃ kvs, H a = some (.dK kvs) ∧ RDd K h H ps kvs
/-- the data heap is held -/
def HR (K : PySem.W.Frag) (h : DH) (H : Hp) : Prop := ∀ a o, h a = some o → HeldAt K h H a o
theorem HeldAt.on {h h' : DH} {H H' : Hp} {a : Addr} {o : DO} (q : HeldAt K h H a o) (k : KN h H h' H') (e : ∀ u, H a = some u → H' a = some u) : HeldAt K h' H' a o := by
  cases o with
  | lst ds => obtain ⟨vs, e1, r⟩ := q; exact ⟨vs, e _ e1, RDs.monoN k _ _ r⟩
  | hid => obtain ⟨u, e1⟩ := q; exact ⟨u, e _ e1⟩
  | dct ps => obtain ⟨kvs, e1, ek, r⟩ := q; exact ⟨kvs, e _ e1, ek, RDs.monoN k _ _ r⟩
theorem HeldAt.some {h : DH} {H : Hp} {a : Addr} {o : DO} (q : HeldAt K h H a o) : ∃ u, H a = Option.some u := by
  cases o with
  | lst ds => obtain ⟨vs, e1, r⟩ := q; exact ⟨_, e1⟩
  | hid => exact q
  | dct ps => obtain ⟨kvs, e1, r⟩ := q; exact ⟨_, e1⟩
theorem HR.fresh {h : DH} {H : Hp} {p : Addr} (r : HR K h H) (n : H p = none) : h p = none := by
  cases e : h p with
  | none => rfl
  | some o => obtain ⟨u, e1⟩ := (r p o e).some; rw [n] at e1; cases e1
theorem HR.dct {h : DH} {H : Hp} {a : Addr} {ps : List (Key × D)} (r : HR K h H) (e : h a = some (.dct ps)) : ∃ kvs, H a = some (.dK kvs) ∧ RDd K h H ps kvs := r a _ e
theorem HR.lst {h : DH} {H : Hp} {a : Addr} {ds : List D} (r : HR K h H) (e : h a = some (.lst ds)) : ∃ vs, H a = some (.lst vs) ∧ RDs K h H ds vs := r a _ e
/-- a new object that is not an own list -/
theorem KP.new {h : DH} {H : Hp} {p : Addr} {o : HO} (n : H p = none) : KP h H h (upd H p o) := fun a u _ e => ⟨rfl, by rw [upd_ne (ne_of_none e n)]; exact e⟩
theorem HR.new {h : DH} {H : Hp} {p : Addr} {o : HO} (r : HR K h H) (n : H p = none) : HR K h (upd H p o) := fun a u e =>
  (r a u e).on (KP.new n).kn fun v e1 => by rw [upd_ne (ne_of_none e1 n)]; exact e1
/-- a new own list -/
theorem KP.newL {h : DH} {H : Hp} {p : Addr} {o : HO} {u : DO} (n : H p = none) : KP h H (put h p u) (upd H p o) := fun a v _ e =>
  ⟨put_ne (ne_of_none e n), by rw [upd_ne (ne_of_none e n)]; exact e⟩
theorem HR.newL {h : DH} {H : Hp} {p : Addr} {ds : List D} {vs : List V} (r : HR K h H) (n : H p = none) (q : RDs K h H ds vs) : HR K (put h p (.lst ds)) (upd H p (.lst vs)) := fun a u e => by
  by_cases ea : a = p
  · subst ea
    rw [put_same] at e
    cases e
    exact ⟨vs, upd_same, RDs.mono (KP.newL n) ds vs q⟩
  · rw [put_ne ea] at e
    exact (r a u e).on (KP.newL n).kn fun v e1 => by rw [upd_ne ea]; exact e1
theorem HR.newD {h : DH} {H : Hp} {p : Addr} {ps : List (Key × D)} {kvs : List (Key × V)} (r : HR K h H) (n : H p = none) (q : RDd K h H ps kvs) : HR K (put h p (.dct ps)) (upd H p (.dK kvs)) := fun a u e => by
  by_cases ea : a = p
  · subst ea
    rw [put_same] at e
    cases e
    exact ⟨kvs, upd_same, q.1, RDs.mono (KP.newL n) _ _ q.2⟩
  · rw [put_ne ea] at e
    exact (r a u e).on (KP.newL n).kn fun v e1 => by rw [upd_ne ea]; exact e1
/-- a place that nobody touches, made -/
theorem HR.newH {h : DH} {H : Hp} {p : Addr} {o : HO} (r : HR K h H) (n : H p = none) : HR K (put h p .hid) (upd H p o) := fun a u e => by
  by_cases ea : a = p
  · subst ea
    rw [put_same] at e
    cases e
    exact ⟨_, upd_same⟩
  · rw [put_ne ea] at e
    exact (r a u e).on (KP.newL n).kn fun v e1 => by rw [upd_ne ea]; exact e1
/-- an own list is written -/
theorem KP.wrO {h : DH} {H : Hp} {p : Addr} {o : HO} {u : DO} (e : still (h p) = false) : KP h H (put h p u) (upd H p o) := fun a v s ea => by
  have ne : a ≠ p := fun z => by rw [z, e] at s; cases s
  exact ⟨put_ne ne, by rw [upd_ne ne]; exact ea⟩
theorem KP.wr {h : DH} {H : Hp} {p : Addr} {o : HO} {u : DO} {ds : List D} (e : h p = some (.lst ds)) : KP h H (put h p u) (upd H p o) := KP.wrO (by rw [e]; rfl)
theorem HR.wr {h : DH} {H : Hp} {p : Addr} {ds es : List D} {vs : List V} (r : HR K h H) (e : h p = some (.lst ds)) (q : RDs K h H es vs) : HR K (put h p (.lst es)) (upd H p (.lst vs)) := fun a u ea => by
  by_cases eq : a = p
  · subst eq
    rw [put_same] at ea
    cases ea
    exact ⟨vs, upd_same, RDs.mono (KP.wr e) es vs q⟩
  · rw [put_ne eq] at ea
    exact (r a u ea).on (KP.wr e).kn fun v e1 => by rw [upd_ne eq]; exact e1
theorem HR.wrD {h : DH} {H : Hp} {p : Addr} {ps qs : List (Key × D)} {kvs : List (Key × V)} (r : HR K h H) (e : h p = some (.dct ps)) (q : RDd K h H qs kvs) : HR K (put h p (.dct qs)) (upd H p (.dK kvs)) := fun a u ea => by
  have kp : KP h H (put h p (.dct qs)) (upd H p (.dK kvs)) := KP.wrO (by rw [e]; rfl)
  by_cases eq : a = p
  · subst eq
    rw [put_same] at ea
    cases ea
    exact ⟨kvs, upd_same, q.1, RDs.mono kp _ _ q.2⟩
  · rw [put_ne eq] at ea
    exact (r a u ea).on kp.kn fun v e1 => by rw [upd_ne eq]; exact e1
/-- forgetting: h2 says less than h1 -/
def Sub (h2 h1 : DH) : Prop := ∀ a, h2 a = h1 a ∨ (h2 a = none ∧ still (h1 a) = false)
theorem Sub.refl {h : DH} : Sub h h := fun _ => .inl rfl
theorem Sub.delO {h : DH} {a : Addr} (n : still (h a) = false) : Sub (del h a) h := fun b => by
  by_cases e : b = a
  · exact .inr (by rw [e]; exact ⟨del_same, n⟩)
  · exact .inl (del_ne e)
theorem Sub.del {h : DH} {a : Addr} {ds : List D} (n : h a = some (.lst ds)) : Sub (del h a) h := Sub.delO (by rw [n]; rfl)
theorem Sub.trans {h1 h2 h3 : DH} (a : Sub h3 h2) (b : Sub h2 h1) : Sub h3 h1 := fun c => by
  rcases a c with e | ⟨e, e2⟩
  · rcases b c with f | ⟨f, f2⟩
    · exact .inl (e.trans f)
    · exact .inr ⟨e.trans f, f2⟩
  · rcases b c with f | ⟨f, f2⟩
    · exact .inr ⟨e, f ▸ e2⟩
    · exact .inr ⟨e, f2⟩
theorem Sub.none {h h2 : DH} {a : Addr} (s : Sub h2 h) (n : h a = Option.none) : h2 a = Option.none := by
  rcases s a with z | ⟨z, _⟩
  · exact z.trans n
  · exact z
theorem Sub.putO {h h' : DH} {p : Addr} {o : DO} (s : Sub h' h) (n : h' p = Option.none) (f : still (some o) = false) : Sub h' (DL.put h p o) := fun a => by
  by_cases e : a = p
  · exact .inr (by rw [e]; exact ⟨n, by rw [put_same]; exact f⟩)
  · rw [put_ne e]; exact s a
theorem Sub.put {h h' : DH} {p : Addr} {ds : List D} (s : Sub h' h) (n : h' p = Option.none) : Sub h' (DL.put h p (.lst ds)) := s.putO n rfl
theorem Sub.put2 {h h' : DH} {p : Addr} {o : DO} (s : Sub h' h) : Sub (DL.put h' p o) (DL.put h p o) := fun a => by
  by_cases e : a = p
  · rw [e, put_same, put_same]; exact .inl rfl
  · rw [put_ne e, put_ne e]; exact s a
mutual
theorem RD.sub {h h2 : DH} {H : Hp} (s : Sub h2 h) : ∀ (d : D) (v : V), RD K h H d v → RD K h2 H d v
  | .non, _, r => r
  | .bl _, _, r => r
  | .int _, _, r => r
  | .str _, _, r => r
  | .ref _, _, r => r
  | .ty _, _, r => r
  | .tup ds, v, ⟨a, vs, e, t, q⟩ => ⟨a, vs, e, t.elim (fun w => .inl ⟨s.none w.1, w.2⟩) .inr, RDs.sub s ds vs q⟩
  | .scr ns, v, ⟨a, e, t⟩ => ⟨a, e, t.elim (fun w => .inl ⟨s.none w.1, w.2⟩) .inr⟩
  | .lis ds, v, ⟨a, vs, e, n, t, q⟩ => ⟨a, vs, e, s.none n, t, RDs.sub s ds vs q⟩
theorem RDs.sub {h h2 : DH} {H : Hp} (s : Sub h2 h) : ∀ (ds : List D) (vs : List V), RDs K h H ds vs → RDs K h2 H ds vs
  | [], _, r => r
  | d :: ds, vs, ⟨v, w, e, q1, q2⟩ => ⟨v, w, e, RD.sub s d v q1, RDs.sub s ds w q2⟩
end
theorem HR.sub {h h2 : DH} {H : Hp} (s : Sub h2 h) (r : HR K h H) : HR K h2 H := fun a o e => by
  have e1 : h a = some o := by
    rcases s a with z | ⟨z, _⟩
    · rw [← z]; exact e
    · rw [z] at e; cases e
  exact (r a o e1).on (fun b u n ub => ⟨s.none n, ub⟩) fun _ z => z
theorem KP.sub {h h1 h2 : DH} {H H1 : Hp} (k : KP h H h1 H1) (s : Sub h2 h1) : KP h H h2 H1 := fun a o st e => by
  obtain ⟨e1, e2⟩ := k a o st e
  rcases s a with z | ⟨z, z2⟩
  · exact ⟨z.trans e1, e2⟩
  · rw [e1] at z2
    rw [z2] at st
    cases st
/-! ### the lifts -/
abbrev St' := List (Option D)
abbrev VK' := D → DH → Prop
abbrev TE' := St' → DH → VK' → Prop
abbrev TT' := St' → DH → (Bool → DH → Prop) → Prop
abbrev TA' := St' → DH → (List D → DH → Prop) → Prop
structure Ends' where
  nx : St' → DH → Prop
  rt : VK'
  bk : St' → DH → Prop := fun _ _ => False
  ct : St' → DH → Prop := fun _ _ => False
abbrev TS' := Ends' → St' → DH → Prop

def SR (K : PySem.W.Frag) (h : DH) (H : Hp) (σ : L2.St) (τ : St') : Prop := ∀ (i : Nat) (d : D), τ[i]? = some (some d) → ∃ v, σ[i]? = some (some v) ∧ RD K h H d v
theorem SR.mono {h h' : DH} {H H' : Hp} {σ : L2.St} {τ : St'} (k : KP h H h' H') (r : SR K h H σ τ) : SR K h' H' σ τ := fun i d e => by
  obtain ⟨v, e1, q⟩ := r i d e
  exact ⟨v, e1, RD.mono k d v q⟩
theorem SR.sub {h h2 : DH} {H : Hp} {σ : L2.St} {τ : St'} (s : Sub h2 h) (r : SR K h H σ τ) : SR K h2 H σ τ := fun i d e => by
  obtain ⟨v, e1, q⟩ := r i d e
  exact ⟨v, e1, RD.sub s d v q⟩
theorem SR.set {h : DH} {H : Hp} {σ : L2.St} {τ : St'} {i : Nat} {d : D} {v : V} (r : SR K h H σ τ) (hl : τ.length = σ.length) (q : RD K h H d v) : SR K h H (σ.set i (some v)) (τ.set i (some d)) := fun j e ej => by
  by_cases hij : i = j
  · subst hij
    by_cases hi : i < τ.length
    · rw [List.getElem?_set_self hi] at ej
      cases ej
      exact ⟨v, List.getElem?_set_self (by omega), q⟩
    · rw [List.getElem?_eq_none (by rw [List.length_set]; omega)] at ej
      cases ej
  · rw [List.getElem?_set_ne hij] at ej
    obtain ⟨u, e1, q1⟩ := r j e ej
    exact ⟨u, by rw [List.getElem?_set_ne hij]; exact e1, q1⟩

def Fin (K : PySem.W.Frag) (h : DH) (H : Hp) (Q' : VK') (Q : VK) : Prop := ∀ d h' v H', KP h H h' H' → HR K h' H' → RD K h' H' d v → Q' d h' → Q v H'
def FinT (K : PySem.W.Frag) (h : DH) (H : Hp) (Q' : Bool → DH → Prop) (Q : Bool → Hp → Prop) : Prop := ∀ b h' H', KP h H h' H' → HR K h' H' → Q' b h' → Q b H'
def FinA (K : PySem.W.Frag) (h : DH) (H : Hp) (Q' : List D → DH → Prop) (Q : List V → Hp → Prop) : Prop := ∀ ds h' vs H', KP h H h' H' → HR K h' H' → RDs K h' H' ds vs → Q' ds h' → Q vs H'
def FinN (K : PySem.W.Frag) (h : DH) (H : Hp) (Q' : St' → DH → Prop) (Q : L2.St → Hp → Prop) : Prop := ∀ τ h' σ H', KP h H h' H' → HR K h' H' → τ.length = σ.length → SR K h' H' σ τ → Q' τ h' → Q σ H'
theorem Fin.after {h h1 : DH} {H H1 : Hp} {Q' : VK'} {Q : VK} (k : KP h H h1 H1) (f : Fin K h H Q' Q) : Fin K h1 H1 Q' Q := fun d h' v H' k' => f d h' v H' (k.trans k')
theorem FinT.after {h h1 : DH} {H H1 : Hp} {Q' : Bool → DH → Prop} {Q : Bool → Hp → Prop} (k : KP h H h1 H1) (f : FinT K h H Q' Q) : FinT K h1 H1 Q' Q := fun d h' H' k' => f d h' H' (k.trans k')
theorem FinA.after {h h1 : DH} {H H1 : Hp} {Q' : List D → DH → Prop} {Q : List V → Hp → Prop} (k : KP h H h1 H1) (f : FinA K h H Q' Q) : FinA K h1 H1 Q' Q := fun d h' v H' k' => f d h' v H' (k.trans k')
theorem FinN.after {h h1 : DH} {H H1 : Hp} {Q' : St' → DH → Prop} {Q : L2.St → Hp → Prop} (k : KP h H h1 H1) (f : FinN K h H Q' Q) : FinN K h1 H1 Q' Q := fun d h' v H' k' => f d h' v H' (k.trans k')
structure FinS (K : PySem.W.Frag) (h : DH) (H : Hp) (D' : Ends') (D : Ends) : Prop where
  nx : FinN K h H D'.nx D.nx
  rt : Fin K h H D'.rt D.rt
  bk : FinN K h H D'.bk D.bk
  ct : FinN K h H D'.ct D.ct
theorem FinS.after {h h1 : DH} {H H1 : Hp} {D' : Ends'} {D : Ends} (k : KP h H h1 H1) (f : FinS K h H D' D) : FinS K h1 H1 D' D := ⟨f.nx.after k, f.rt.after k, f.bk.after k, f.ct.after k⟩

/-- an exception that leaves: its class, the heap -/
abbrev XK' := Value → DH → Prop
def FinX (K : PySem.W.Frag) (h : DH) (H : Hp) (E' : XK') (E : XK) : Prop := ∀ c h' H', KP h H h' H' → HR K h' H' → E' c h' → E c none H'
theorem FinX.after {h h1 : DH} {H H1 : Hp} {E' : XK'} {E : XK} (k : KP h H h1 H1) (f : FinX K h H E' E) : FinX K h1 H1 E' E := fun c h' H' k' => f c h' H' (k.trans k')
/-- what the def lets out -/
structure Wsh where
  d : XK'
  v : XK
/-- where one stands: slots and heaps -/
structure At (K : PySem.W.Frag) (Y : Wsh) (h : DH) (H : Hp) (σ : L2.St) (τ : St') : Prop where
  len : τ.length = σ.length
  sr : SR K h H σ τ
  hr : HR K h H
  fx : FinX K h H Y.d Y.v
theorem At.after {Y : Wsh} {h h1 : DH} {H H1 : Hp} {σ : L2.St} {τ : St'} (a : At K Y h H σ τ) (k : KP h H h1 H1) (r : HR K h1 H1) : At K Y h1 H1 σ τ := ⟨a.len, a.sr.mono k, r, a.fx.after k⟩
theorem At.next {Y : Wsh} {h h1 : DH} {H H1 : Hp} {σ σ1 : L2.St} {τ τ1 : St'} (a : At K Y h H σ τ) (k : KP h H h1 H1) (r : HR K h1 H1) (l : τ1.length = σ1.length) (s : SR K h1 H1 σ1 τ1) : At K Y h1 H1 σ1 τ1 := ⟨l, s, r, a.fx.after k⟩

def lE (K : PySem.W.Frag) (Y : Wsh) (t : TE') : TE := fun σ H Q => ∃ τ h Q', At K Y h H σ τ ∧ t τ h Q' ∧ Fin K h H Q' Q
def lT (K : PySem.W.Frag) (Y : Wsh) (t : TT') : TT := fun σ H Q => ∃ τ h Q', At K Y h H σ τ ∧ t τ h Q' ∧ FinT K h H Q' Q
def lA (K : PySem.W.Frag) (Y : Wsh) (t : TA') : TA := fun σ H Q => ∃ τ h Q', At K Y h H σ τ ∧ t τ h Q' ∧ FinA K h H Q' Q
def lS (K : PySem.W.Frag) (Y : Wsh) (t : TS') : TS := fun D σ H => ∃ τ h D', At K Y h H σ τ ∧ t D' τ h ∧ FinS K h H D' D
/-- a target, filled with d -/
abbrev TG' := D → St' → DH → (St' → DH → Prop) → Prop
def lG (K : PySem.W.Frag) (Y : Wsh) (t : TG') : TG := fun v σ H Q => ∃ d τ h Q', At K Y h H σ τ ∧ RD K h H d v ∧ t d τ h Q' ∧ FinN K h H Q' Q
abbrev TGs' := List D → St' → DH → (St' → DH → Prop) → Prop
def lGs (K : PySem.W.Frag) (Y : Wsh) (t : TGs') : TGs := fun vs σ H Q => ∃ ds τ h Q', At K Y h H σ τ ∧ RDs K h H ds vs ∧ t ds τ h Q' ∧ FinN K h H Q' Q
def DG (X : Cx) (Y : Wsh) (e : Expr) (t : TG') : Prop := PG X e (lG X.K Y t)
def DGs (X : Cx) (Y : Wsh) (es : List Expr) (t : TGs') : Prop := PGs X es (lGs X.K Y t)
def DE (X : Cx) (Y : Wsh) (e : Expr) (t : TE') : Prop := PE X e (lE X.K Y t)
def DT (X : Cx) (Y : Wsh) (e : Expr) (t : TT') : Prop := PT X e (lT X.K Y t)
def DW (X : Cx) (Y : Wsh) (e : Expr) (t : TT') : Prop := PW X e (lT X.K Y t)
def DA (X : Cx) (Y : Wsh) (es : List Expr) (t : TA') : Prop := PA X es (lA X.K Y t)
def DS (X : Cx) (Y : Wsh) (st : Stmt) (t : TS') : Prop := PS X st (lS X.K Y t)
def DSs (X : Cx) (Y : Wsh) (st : List Stmt) (t : TS') : Prop := PSs X st (lS X.K Y t)

theorem _root_.L2.PE.imp {X : Cx} {e : Expr} {t u : TE} (p : PE X e t) (h : ∀ σ H Q, u σ H Q → t σ H Q) : PE X e u := ⟨fun pins s σ H Q I q => p.run pins s σ H Q I (h σ H Q q)⟩
theorem _root_.L2.PT.imp {X : Cx} {e : Expr} {t u : TT} (p : PT X e t) (h : ∀ σ H Q, u σ H Q → t σ H Q) : PT X e u := ⟨fun pins s σ H Q I q => p.run pins s σ H Q I (h σ H Q q)⟩
theorem _root_.L2.PW.imp {X : Cx} {e : Expr} {t u : TT} (p : PW X e t) (h : ∀ σ H Q, u σ H Q → t σ H Q) : PW X e u := ⟨fun wh pins s σ H Q I q => p.run wh pins s σ H Q I (h σ H Q q)⟩
theorem _root_.L2.PA.imp {X : Cx} {es : List Expr} {t u : TA} (p : PA X es t) (h : ∀ σ H Q, u σ H Q → t σ H Q) : PA X es u := ⟨fun pos pins s σ H Q I q => p.run pos pins s σ H Q I (h σ H Q q)⟩
theorem _root_.L2.PS.imp {X : Cx} {st : Stmt} {t u : TS} (p : PS X st t) (h : ∀ D σ H, u D σ H → t D σ H) : PS X st u := ⟨fun pins s σ H D I q => p.run pins s σ H D I (h D σ H q)⟩
theorem _root_.L2.PG.imp {X : Cx} {e : Expr} {t u : TG} (p : PG X e t) (h : ∀ v σ H Q, u v σ H Q → t v σ H Q) : PG X e u := ⟨fun pins s σ H v w Q I r q => p.run pins s σ H v w Q I r (h v σ H Q q)⟩
theorem _root_.L2.PGs.imp {X : Cx} {es : List Expr} {t u : TGs} (p : PGs X es t) (h : ∀ v σ H Q, u v σ H Q → t v σ H Q) : PGs X es u := ⟨fun pins s σ H v w Q I r q => p.run pins s σ H v w Q I r (h v σ H Q q)⟩
theorem _root_.L2.PSs.imp {X : Cx} {st : List Stmt} {t u : TS} (p : PSs X st t) (h : ∀ D σ H, u D σ H → t D σ H) : PSs X st u := ⟨fun pins s σ H D I q => p.run pins s σ H D I (h D σ H q)⟩
end DL

set_option Elab.async false
set_option linter.all false
set_option maxRecDepth 100000
/-! DL2: the rules of expressions, over data. -/
namespace DL
open PySem PySem.Spec PyProof.Rows L2
section
variable {X : Cx} {Y : Wsh} {K : PySem.W.Frag} {pos : Pos}

/-! ### names, constants -/
def tv (i : Nat) : TE' := fun τ h Q => ∃ d, τ[i]? = some (some d) ∧ Q d h
def tc (d : D) : TE' := fun _ h Q => Q d h
theorem de_var (i : Nat) {x : Str} (hN : X.N[i]? = some x := by rfl) (hv : Vis X.env.scope x := by first | exact Or.inl rfl | exact Or.inr (Or.inl rfl) | exact Or.inr (Or.inr rfl)) (hd : (x == ("__debug__" : Str)) = false := by decide)
    (hcd : (x == ("__classdict__" : Str)) = false := by decide) : DE X Y (.Name x pos) (tv i) := (pe_var hN hv hd hcd).imp fun σ H Q ⟨τ, h, Q', a, ⟨d, e, q⟩, f⟩ => by
  obtain ⟨v, e1, r⟩ := a.sr i d e
  exact ⟨v, e1, f d h v H .refl a.hr r q⟩
theorem de_c {e : Expr} {d : D} {v : V} (p : PE X e (tC v)) (r : ∀ h H, RD X.K h H d v) : DE X Y e (tc d) := p.imp fun σ H Q ⟨τ, h, Q', a, q, f⟩ => f d h v H .refl a.hr (r h H) q
theorem de_int {i : Int} {j : Nat} : DE X Y (.Constant (.int i) j pos) (tc (.int i)) := de_c pe_int fun _ _ => rfl
theorem de_bl {b : Bool} {j : Nat} : DE X Y (.Constant (.bool b) j pos) (tc (.bl b)) := de_c pe_bl fun _ _ => rfl
theorem de_non {j : Nat} : DE X Y (.Constant .none j pos) (tc .non) := de_c pe_non fun _ _ => rfl
theorem de_str {x : Str} {j : Nat} : DE X Y (.Constant (.str x) j pos) (tc (.str x)) := de_c pe_str fun _ _ => rfl
theorem de_blt {x : Str} {n : String} (hg : Gl X x) (hm : X.mg x = none) (hv : bootBuiltins x = some (.type n)) (hn : x ≠ "__name__" := by decide) (hd : (x == ("__debug__" : Str)) = false := by decide) : DE X Y (.Name x pos) (tc (.ty n)) :=
  de_c (pe_bltn (v := .ty n) hg hm hv rfl hn hd) fun _ _ => rfl
theorem de_glob {x : Str} {a : Addr} (hg : Gl X x) (hm : X.mg x = some (.ref a)) (hd : (x == ("__debug__" : Str)) = false := by decide) : DE X Y (.Name x pos) (tc (.ref a)) :=
  de_c (pe_glob (v := .ref a) hg hm rfl hd) fun _ _ => rfl

/-! ### operators -/
abbrev DR2 := D → D → DH → VK' → Prop
abbrev DR1 := D → DH → VK' → Prop
def to (r : DR2) (ta tb : TE') : TE' := fun τ h Q => ta τ h fun x h1 => tb τ h1 fun y h2 => r x y h2 Q
def tu (r : DR1) (ta : TE') : TE' := fun τ h Q => ta τ h fun x h1 => r x h1 Q
def OpL (K : PySem.W.Frag) (r : R2) (r' : DR2) : Prop := ∀ x y v u h H Q' Q, RD K h H x v → RD K h H y u → HR K h H → r' x y h Q' → Fin K h H Q' Q → r v u H Q
def UnL (K : PySem.W.Frag) (r : V → Hp → VK → Prop) (r' : DR1) : Prop := ∀ x v h H Q' Q, RD K h H x v → HR K h H → r' x h Q' → Fin K h H Q' Q → r v H Q
def CallL (K : PySem.W.Frag) (r : List V → Hp → VK → Prop) (r' : List D → DH → VK' → Prop) : Prop := ∀ ds vs h H Q' Q, RDs K h H ds vs → HR K h H → r' ds h Q' → Fin K h H Q' Q → r vs H Q
theorem bin_imp {r : R2} {r' : DR2} {ta tb : TE'} (hl : OpL K r r') {σ : L2.St} {H : Hp} {Q : VK} (q : lE K Y (to r' ta tb) σ H Q) : tOp r (lE K Y ta) (lE K Y tb) σ H Q := by
  obtain ⟨τ, h, Q', a, q, f⟩ := q
  exact ⟨τ, h, fun x h1 => tb τ h1 fun y h2 => r' x y h2 Q', a, q, fun x h1 v H1 k1 hr1 rx q1 => ⟨τ, h1, fun y h2 => r' x y h2 Q', a.after k1 hr1, q1, fun y h2 u H2 k2 hr2 ry q2 =>
    hl x y v u h2 H2 Q' Q (RD.mono k2 _ _ rx) ry hr2 q2 (f.after (k1.trans k2))⟩⟩
theorem un_imp {r : V → Hp → VK → Prop} {r' : DR1} {ta : TE'} (hl : UnL K r r') {σ : L2.St} {H : Hp} {Q : VK} (q : lE K Y (tu r' ta) σ H Q) : tUn r (lE K Y ta) σ H Q := by
  obtain ⟨τ, h, Q', a, q, f⟩ := q
  exact ⟨τ, h, fun x h1 => r' x h1 Q', a, q, fun x h1 v H1 k1 hr1 rx q1 => hl x v h1 H1 Q' Q rx hr1 q1 (f.after k1)⟩
variable {a b c : Expr} {ta tb tc' : TE'}
theorem de_op {op : Operator} {r : R2} {r' : DR2} (ho : OpR X (binaryOp op) r) (hl : OpL X.K r r') (ha : DE X Y a ta) (hb : DE X Y b tb) : DE X Y (.BinOp a op b pos) (to r' ta tb) := (pe_op ho ha hb).imp fun _ _ _ q => bin_imp hl q
theorem de_un {op : UnaryOp} {r : V → Hp → VK → Prop} {r' : DR1} (ho : UnR X (unaryOp op) r) (hl : UnL X.K r r') (ha : DE X Y a ta) : DE X Y (.UnaryOp op a pos) (tu r' ta) := (pe_un ho ha).imp fun _ _ _ q => un_imp hl q
theorem de_cmp {op : CmpOp} {r : R2} {r' : DR2} (ho : OpR X (compareOp op) r) (hl : OpL X.K r r') (hm : behindInMarks op b = false) (ha : DE X Y a ta) (hb : DE X Y b tb) : DE X Y (.Compare a [op] [b] pos) (to r' ta tb) := (pe_cmpR ho ha hb hm).imp fun _ _ _ q => bin_imp hl q
/-- x, which must be a truth -/
def isB (x : D) (k : Bool → Prop) : Prop := match x with | .bl c => k c | _ => False
def tb' (t : TE') : TT' := fun τ h Q => t τ h fun x h1 => isB x fun c => Q c h1
theorem tb_imp {t : TE'} {σ : L2.St} {H : Hp} {Q : Bool → Hp → Prop} (q : lT K Y (tb' t) σ H Q) : tTest (lE K Y t) σ H Q := by
  obtain ⟨τ, h, Q', a, q, f⟩ := q
  refine ⟨τ, h, _, a, q, fun x h1 v H1 k1 hr1 rx q1 => ?_⟩
  cases x with
  | bl c => exact ⟨c, rx, f c h1 H1 k1 hr1 q1⟩
  | _ => exact q1.elim
theorem dt_cmp {op : CmpOp} {r : R2} {r' : DR2} (ho : OpR X (compareOp op) r) (hl : OpL X.K r r') (hm : behindInMarks op b = false) (ha : DE X Y a ta) (hb : DE X Y b tb) : DT X Y (.Compare a [op] [b] pos) (tb' (to r' ta tb)) :=
  (pt_cmpR ho ha hb hm).imp fun _ _ _ q => by
    obtain ⟨τ, h, Q', a, q, f⟩ := q
    refine bin_imp (Y := Y) hl ⟨τ, h, _, a, q, fun x h1 v H1 k1 hr1 rx q1 => ?_⟩
    cases x with
    | bl c => exact ⟨c, rx, f c h1 H1 k1 hr1 q1⟩
    | _ => exact q1.elim
/-- an expression that gives a truth, as a test -/
theorem dt_val {e : Expr} {t : TE'} (h : DE X Y e t) (he : ∀ whole, isTrue e X.env whole = (do let v ← whole; standAt e.pos; holding [v] (truthy v)) := by intro _; rfl) : DT X Y e (tb' t) :=
  (pt_val h he).imp fun _ _ _ q => tb_imp q
/-- a < b < c -/
def tch (r r' : DR2) (ta tb tc : TE') : TE' := fun τ h Q => ta τ h fun x h1 => tb τ h1 fun y h2 => r x y h2 fun z h3 => isB z fun k => if k = true then tc τ h3 fun w h4 => r' y w h4 Q else Q (.bl false) h3
theorem ch_imp {r r' : R2} {s s' : DR2} {tc : TE'} (hl : OpL K r s) (hl' : OpL K r' s') {σ : L2.St} {H : Hp} {Q : VK} (q : lE K Y (tch s s' ta tb tc) σ H Q) : tChain r r' (lE K Y ta) (lE K Y tb) (lE K Y tc) σ H Q := by
  obtain ⟨τ, h, Q', a, q, f⟩ := q
  refine ⟨τ, h, _, a, q, fun x h1 v H1 k1 hr1 rx q1 => ⟨τ, h1, _, a.after k1 hr1, q1, fun y h2 u H2 k2 hr2 ry q2 => ?_⟩⟩
  refine hl x y v u h2 H2 _ _ (RD.mono k2 _ _ rx) ry hr2 q2 fun z h3 w H3 k3 hr3 rz q3 => ?_
  cases z with
  | bl k =>
    refine ⟨k, rz, ?_⟩
    have q3 : if k = true then tc τ h3 fun w h4 => s' y w h4 Q' else Q' (.bl false) h3 := q3
    cases k with
    | true =>
      rw [if_pos rfl] at q3 ⊢
      exact ⟨τ, h3, _, (a.after k1 hr1).after (k2.trans k3) hr3, q3, fun w h4 z H4 k4 hr4 rw' q4 => hl' y w u z h4 H4 Q' Q (RD.mono (k3.trans k4) _ _ ry) rw' hr4 q4 (f.after (k1.trans (k2.trans (k3.trans k4))))⟩
    | false =>
      rw [if_neg Bool.false_ne_true] at q3 ⊢
      exact f (.bl false) h3 _ H3 (k1.trans (k2.trans k3)) hr3 rfl q3
  | _ => exact q3.elim
theorem de_chain {op op' : CmpOp} {r r' : R2} {s s' : DR2} {tc : TE'} (ho : OpR X (compareOp op) r) (hl : OpL X.K r s) (ho' : OpR X (compareOp op') r') (hl' : OpL X.K r' s') (ha : DE X Y a ta) (hb : DE X Y b tb) (hc : DE X Y c tc)
    (hm : lastMarks [op, op'] [b, c] = false := by with_unfolding_all rfl) : DE X Y (.Compare a [op, op'] [b, c] pos) (tch s s' ta tb tc) := (pe_chain ho ho' ha hb hc hm).imp fun _ _ _ q => ch_imp hl hl' q
theorem dt_chain {op op' : CmpOp} {r r' : R2} {s s' : DR2} {tc : TE'} (ho : OpR X (compareOp op) r) (hl : OpL X.K r s) (ho' : OpR X (compareOp op') r') (hl' : OpL X.K r' s') (ha : DE X Y a ta) (hb : DE X Y b tb) (hc : DE X Y c tc)
    (hm : lastMarks [op, op'] [b, c] = false := by with_unfolding_all rfl) : DT X Y (.Compare a [op, op'] [b, c] pos) (tb' (tch s s' ta tb tc)) := (pt_chain ho ho' ha hb hc hm).imp fun _ _ _ q => by
  obtain ⟨τ, h, Q', a, q, f⟩ := q
  refine ch_imp (Y := Y) hl hl' ⟨τ, h, _, a, q, fun x h1 v H1 k1 hr1 rx q1 => ?_⟩
  cases x with
  | bl c => exact ⟨c, rx, f c h1 H1 k1 hr1 q1⟩
  | _ => exact q1.elim

/-! ### and, or, not -/
def tand (t u : TT') : TT' := fun τ h Q => t τ h fun c h1 => if c = true then u τ h1 Q else Q false h1
def tor (t u : TT') : TT' := fun τ h Q => t τ h fun c h1 => if c = true then Q true h1 else u τ h1 Q
def tnot (t : TT') : TT' := fun τ h Q => t τ h fun c h1 => Q (!c) h1
variable {tA tB : TT'} {rest : List Expr}
theorem dw_and1 (ha : DT X Y a tA) : DW X Y (.BoolOp .And [a] pos) tA := pw_and1 ha
theorem dw_or1 (ha : DT X Y a tA) : DW X Y (.BoolOp .Or [a] pos) tA := pw_or1 ha
theorem dw_and (ha : DT X Y a tA) (hb : DW X Y (.BoolOp .And (b :: rest) pos) tB) : DW X Y (.BoolOp .And (a :: b :: rest) pos) (tand tA tB) := (pw_and ha hb).imp fun σ H Q ⟨τ, h, Q', at', q, f⟩ => by
  refine ⟨τ, h, _, at', q, fun c h1 H1 k1 hr1 q1 => ?_⟩
  cases c with
  | true => rw [if_pos rfl] at q1 ⊢; exact ⟨τ, h1, Q', at'.after k1 hr1, q1, f.after k1⟩
  | false => rw [if_neg Bool.false_ne_true] at q1 ⊢; exact f _ h1 H1 k1 hr1 q1
theorem dw_or (ha : DT X Y a tA) (hb : DW X Y (.BoolOp .Or (b :: rest) pos) tB) : DW X Y (.BoolOp .Or (a :: b :: rest) pos) (tor tA tB) := (pw_or ha hb).imp fun σ H Q ⟨τ, h, Q', at', q, f⟩ => by
  refine ⟨τ, h, _, at', q, fun c h1 H1 k1 hr1 q1 => ?_⟩
  cases c with
  | true => rw [if_pos rfl] at q1 ⊢; exact f _ h1 H1 k1 hr1 q1
  | false => rw [if_neg Bool.false_ne_true] at q1 ⊢; exact ⟨τ, h1, Q', at'.after k1 hr1, q1, f.after k1⟩
theorem dw_pt {e : Expr} {t : TT'} (h : DW X Y e t) : DT X Y e t := PW.pt h
theorem dt_not (ha : DT X Y a tA) : DT X Y (.UnaryOp .Not a pos) (tnot tA) := (pt_not ha).imp fun σ H Q ⟨τ, h, Q', at', q, f⟩ => ⟨τ, h, _, at', q, fun c h1 H1 k1 hr1 q1 => f _ h1 H1 k1 hr1 q1⟩
def tandv (ta tb : TE') : TE' := fun τ h Q => ta τ h fun x h1 => isB x fun c => if c = true then tb τ h1 Q else Q (.bl false) h1
def torv (ta tb : TE') : TE' := fun τ h Q => ta τ h fun x h1 => isB x fun c => if c = true then Q (.bl true) h1 else tb τ h1 Q
def tnotv (ta : TE') : TE' := fun τ h Q => ta τ h fun x h1 => isB x fun c => Q (.bl (!c)) h1
theorem de_one {op : BoolOp} {t : TE'} (h : DE X Y a t) : DE X Y (.BoolOp op [a] pos) t := pe_one h
theorem de_and (ha : DE X Y a ta) (hb : DE X Y (.BoolOp .And (b :: rest) pos) tb) : DE X Y (.BoolOp .And (a :: b :: rest) pos) (tandv ta tb) := (pe_and ha hb).imp fun σ H Q ⟨τ, h, Q', at', q, f⟩ => by
  refine ⟨τ, h, _, at', q, fun x h1 v H1 k1 hr1 rx q1 => ?_⟩
  cases x with
  | bl c =>
    refine ⟨c, rx, ?_⟩
    have q1 : if c = true then tb τ h1 Q' else Q' (.bl false) h1 := q1
    cases c with
    | true => rw [if_pos rfl] at q1 ⊢; exact ⟨τ, h1, Q', at'.after k1 hr1, q1, f.after k1⟩
    | false => rw [if_neg Bool.false_ne_true] at q1 ⊢; exact f (.bl false) h1 _ H1 k1 hr1 rfl q1
  | _ => exact q1.elim
theorem de_or (ha : DE X Y a ta) (hb : DE X Y (.BoolOp .Or (b :: rest) pos) tb) : DE X Y (.BoolOp .Or (a :: b :: rest) pos) (torv ta tb) := (pe_or ha hb).imp fun σ H Q ⟨τ, h, Q', at', q, f⟩ => by
  refine ⟨τ, h, _, at', q, fun x h1 v H1 k1 hr1 rx q1 => ?_⟩
  cases x with
  | bl c =>
    refine ⟨c, rx, ?_⟩
    have q1 : if c = true then Q' (.bl true) h1 else tb τ h1 Q' := q1
    cases c with
    | true => rw [if_pos rfl] at q1 ⊢; exact f (.bl true) h1 _ H1 k1 hr1 rfl q1
    | false => rw [if_neg Bool.false_ne_true] at q1 ⊢; exact ⟨τ, h1, Q', at'.after k1 hr1, q1, f.after k1⟩
  | _ => exact q1.elim
theorem de_not (ha : DE X Y a ta) : DE X Y (.UnaryOp .Not a pos) (tnotv ta) := (pe_not ha).imp fun σ H Q ⟨τ, h, Q', at', q, f⟩ => by
  refine ⟨τ, h, _, at', q, fun x h1 v H1 k1 hr1 rx q1 => ?_⟩
  cases x with
  | bl c => exact ⟨c, rx, f (.bl (!c)) h1 _ H1 k1 hr1 rfl q1⟩
  | _ => exact q1.elim
def tif (t : TT') (ta tb : TE') : TE' := fun τ h Q => t τ h fun c h1 => if c = true then ta τ h1 Q else tb τ h1 Q
theorem de_if (hc : DT X Y c tA) (ha : DE X Y a ta) (hb : DE X Y b tb) : DE X Y (.IfExp c a b pos) (tif tA ta tb) := (pe_ifExp hc ha hb).imp fun σ H Q ⟨τ, h, Q', at', q, f⟩ => by
  refine ⟨τ, h, _, at', q, fun c h1 H1 k1 hr1 q1 => ?_⟩
  cases c with
  | true => rw [if_pos rfl] at q1 ⊢; exact ⟨τ, h1, Q', at'.after k1 hr1, q1, f.after k1⟩
  | false => rw [if_neg Bool.false_ne_true] at q1 ⊢; exact ⟨τ, h1, Q', at'.after k1 hr1, q1, f.after k1⟩

/-! ### arguments, displays -/
def tan : TA' := fun _ h Q => Q [] h
def tac (ta : TE') (tr : TA') : TA' := fun τ h Q => ta τ h fun x h1 => tr τ h1 fun xs h2 => Q (x :: xs) h2
variable {es : List Expr} {tr : TA'}
theorem da_nil : DA X Y [] tan := pa_nil.imp fun σ H Q ⟨τ, h, Q', at', q, f⟩ => f [] h [] H .refl at'.hr rfl q
theorem da_cons (ha : DE X Y a ta) (hr : DA X Y es tr) (hs : starEach (a :: es) X.env = (false, eval a X.env) :: starEach es X.env := by rfl) : DA X Y (a :: es) (tac ta tr) := (pa_cons ha hr hs).imp fun σ H Q ⟨τ, h, Q', at', q, f⟩ =>
  ⟨τ, h, _, at', q, fun x h1 v H1 k1 hr1 rx q1 => ⟨τ, h1, _, at'.after k1 hr1, q1, fun xs h2 vs H2 k2 hr2 rs q2 => f _ h2 _ H2 (k1.trans k2) hr2 (.cons (RD.mono k2 _ _ rx) rs) q2⟩⟩
def ttup (t : TA') : TE' := fun τ h Q => t τ h fun xs h1 => xs.length ≤ sizeLine ∧ Q (.tup xs) h1
def tlis (t : TA') : TE' := fun τ h Q => t τ h fun xs h1 => xs.length ≤ sizeLine ∧ Q (.lis xs) h1
def town (t : TA') : TE' := fun τ h Q => t τ h fun xs h1 => xs.length ≤ sizeLine ∧ ∀ p, h1 p = none → Q (.ref p) (put h1 p (.lst xs))
/-- a tuple is kept with its object: it has no dict -/
def Nt (Q : VK) (H : Hp) (vs : List V) : Prop := ∀ p ob, ob.dict = none → H p = none → Q (.ref p) (upd H p (.frz ob (.tup vs)))
def tTupF (t : TA) : TE := fun σ H Q => t σ H fun vs H1 => vs.length ≤ sizeLine ∧ Nt Q H1 vs
theorem pe_tupF {k1 : Nat} {t : TA} (ht : PA X es t) : PE X (.Tuple es k1 pos) (tTupF t) := by
  refine ⟨fun pins s σ H Q I hq => ?_⟩
  refine wpAny_Tuple_spliced (thn (ht.run pos pins s σ H _ I hq) fun us s2 ⟨vs, H2, J, r, hz, q⟩ => ?_)
  refine ⟨by rw [← r.length]; exact hz, .ref s2.heap.objs.size, _, J.laid (o := .frz ⟨.type "tuple", none, .seq us.toArray 0, #[]⟩ (.tup vs)) (t' := s2.toks) (fun b u e => Heap.get?_push_of_some _ e) (Nat.le_refl _) ?_, rfl, q _ _ rfl (J.hok.fresh (Nat.le_refl _))⟩
  exact ⟨Heap.get?_push_size _ rfl, hz, us, r, _, Heap.get?_push_size _ rfl, rfl, _, rfl⟩
theorem Fin.tup {h : DH} {H : Hp} {Q' : VK'} {Q : VK} (f : Fin K h H Q' Q) (r : HR K h H) {ds : List D} {vs : List V} (rs : RDs K h H ds vs) (q : Q' (.tup ds) h) : Nt Q H vs := fun p ob d n =>
  f (.tup ds) h _ _ (KP.new n) (r.new n) ⟨p, vs, rfl, .inl ⟨r.fresh n, ob, d, upd_same⟩, RDs.mono (KP.new n) _ _ rs⟩ q
theorem Fin.lis {h : DH} {H : Hp} {Q' : VK'} {Q : VK} (f : Fin K h H Q' Q) (r : HR K h H) {ds : List D} {vs : List V} (rs : RDs K h H ds vs) (q : Q' (.lis ds) h) : ∀ p, H p = none → Q (.ref p) (upd H p (.lst vs)) := fun p n =>
  f (.lis ds) h _ _ (KP.new n) (r.new n) ⟨p, vs, rfl, r.fresh n, upd_same, RDs.mono (KP.new n) _ _ rs⟩ q
theorem Fin.own {h : DH} {H : Hp} {Q' : VK'} {Q : VK} (f : Fin K h H Q' Q) (r : HR K h H) {ds : List D} {vs : List V} (rs : RDs K h H ds vs) (q : ∀ p, h p = none → Q' (.ref p) (put h p (.lst ds))) : ∀ p, H p = none → Q (.ref p) (upd H p (.lst vs)) := fun p n =>
  f (.ref p) _ _ _ (KP.newL n) (r.newL n rs) rfl (q p (r.fresh n))
theorem de_tup {x1 : Nat} (p : DA X Y es tr) : DE X Y (.Tuple es x1 pos) (ttup tr) := (pe_tupF p).imp fun σ H Q ⟨τ, h, Q', at', q, f⟩ => ⟨τ, h, _, at', q, fun xs h1 vs H1 k1 hr1 rs q1 => ⟨by rw [rs.length]; exact q1.1, (f.after k1).tup hr1 rs q1.2⟩⟩
theorem de_lis (p : DA X Y es tr) : DE X Y (.List es pos) (tlis tr) := (pe_lst p).imp fun σ H Q ⟨τ, h, Q', at', q, f⟩ => ⟨τ, h, _, at', q, fun xs h1 vs H1 k1 hr1 rs q1 => ⟨by rw [rs.length]; exact q1.1, (f.after k1).lis hr1 rs q1.2⟩⟩
theorem de_own (p : DA X Y es tr) : DE X Y (.List es pos) (town tr) := (pe_lst p).imp fun σ H Q ⟨τ, h, Q', at', q, f⟩ => ⟨τ, h, _, at', q, fun xs h1 vs H1 k1 hr1 rs q1 => ⟨by rw [rs.length]; exact q1.1, (f.after k1).own hr1 rs q1.2⟩⟩
/-- an own list that is settled from here on -/
def tset (t : TE') : TE' := fun τ h Q => t τ h fun x h1 => match x with | .ref p => ∃ ds, h1 p = some (.lst ds) ∧ Q (.lis ds) (del h1 p) | d => Q d h1
theorem KP.del {h : DH} {H : Hp} {p : Addr} {ds : List D} (e : h p = some (.lst ds)) : KP h H (del h p) H := fun a o s ea => by
  have ne : a ≠ p := fun z => by rw [z, e] at s; cases s
  exact ⟨del_ne ne, ea⟩
theorem de_set (ha : DE X Y a ta) : DE X Y a (tset ta) := PE.imp ha fun σ H Q ⟨τ, h, Q', at', q, f⟩ => ⟨τ, h, _, at', q, fun x h1 v H1 k1 hr1 rx q1 => by
  cases x with
  | ref p =>
    obtain ⟨ds, e, q1⟩ := q1
    obtain ⟨vs, e1, rs⟩ := hr1.lst e
    refine f _ _ _ H1 (k1.trans (KP.del e)) (hr1.sub (Sub.del e)) ?_ q1
    exact ⟨p, vs, rx, del_same, e1, RDs.sub (Sub.del e) _ _ rs⟩
  | _ => exact f _ h1 v H1 k1 hr1 rx q1⟩

/-! ### calls -/
abbrev Sp' := List D → DH → VK' → XK' → Prop
def lSp (K : PySem.W.Frag) (sp : Sp') : Sp := fun vs H Q E => ∃ ds h Q' E', RDs K h H ds vs ∧ HR K h H ∧ sp ds h Q' E' ∧ Fin K h H Q' Q ∧ FinX K h H E' E
def tcall (sp : Sp') (E : XK') (t : TA') : TE' := fun τ h Q => t τ h fun ds h1 => sp ds h1 Q E
abbrev FnD (P : Program) (w : World) (K : PySem.W.Frag) (mg : Str → Option Value) (base : Heap) (k : Nat) (f : Addr) (fd : FuncData) (ps : List Str) (sp : Sp') : Prop := FnOk P w K mg base (L2N.CX P w) k f fd ps (lSp K sp)
theorem passN : Passes (L2N.CX X.prog X.w) X (fun _ _ _ => False) := fun _ _ _ _ _ _ _ h => by
  obtain ⟨_, _, _, _, _, _, _, _, _, _, _, _, z⟩ := h
  exact z.elim
section
variable {k : Nat} {f : Addr} {fd : FuncData} {ps : List Str} {sp : Sp'} {x : Str} {p : Pos}
/-- f(..), which raises nothing -/
theorem de_call (F : FnD X.prog X.w X.K X.mg X.base k f fd ps sp) (hr : Room k X.A) (hg : Gl X x) (hm : X.mg x = some (.ref f)) (hk : PySem.W.keepIn X.K (.ref f) = true) (hb : Binds X.K fd ps [])
    (ha : DA X Y (a :: es) tr) (hdb : (x == ("__debug__" : Str)) = false := by decide) (he : starEach (a :: es) X.env = (false, eval a X.env) :: starEach es X.env := by rfl) (hpl : (backTo pos (starEach es X.env)).any (·.1) = false := by rfl) :
    DE X Y (.Call (.Name x p) (a :: es) [] pos) (tcall sp (fun _ _ => False) tr) := (pe_call F hr hg hm hk hb .nil passN ha hdb he hpl).imp fun σ H Q ⟨τ, h, Q', at', q, f⟩ =>
  ⟨τ, h, _, at', q, fun ds h1 vs H1 k1 hr1 rs q1 => ⟨ds, h1, Q', fun _ _ => False, by rw [List.append_nil]; exact rs, hr1, q1, f.after k1, fun _ _ _ _ _ z => z⟩⟩
/-- f(..), which may raise what the def lets out -/
theorem de_callX (F : FnD X.prog X.w X.K X.mg X.base k f fd ps sp) (hr : Room k X.A) (hg : Gl X x) (hm : X.mg x = some (.ref f)) (hk : PySem.W.keepIn X.K (.ref f) = true) (hb : Binds X.K fd ps []) (hx : Passes (L2N.CX X.prog X.w) X Y.v)
    (ha : DA X Y (a :: es) tr) (hdb : (x == ("__debug__" : Str)) = false := by decide) (he : starEach (a :: es) X.env = (false, eval a X.env) :: starEach es X.env := by rfl) (hpl : (backTo pos (starEach es X.env)).any (·.1) = false := by rfl) :
    DE X Y (.Call (.Name x p) (a :: es) [] pos) (tcall sp Y.d tr) := (pe_call F hr hg hm hk hb .nil hx ha hdb he hpl).imp fun σ H Q ⟨τ, h, Q', at', q, f⟩ =>
  ⟨τ, h, _, at', q, fun ds h1 vs H1 k1 hr1 rs q1 => ⟨ds, h1, Q', Y.d, by rw [List.append_nil]; exact rs, hr1, q1, f.after k1, at'.fx.after k1⟩⟩
end
def tcb (r : List D → DH → VK' → Prop) (t : TA') : TE' := fun τ h Q => t τ h fun ds h1 => r ds h1 Q
section
variable {r : List V → Hp → VK → Prop} {r' : List D → DH → VK' → Prop} {x : Str} {p : Pos} {id T : String}
theorem cb_imp (hl : CallL K r r') {σ : L2.St} {H : Hp} {Q : VK} (q : lE K Y (tcb r' tr) σ H Q) : tCB r (lA K Y tr) σ H Q := by
  obtain ⟨τ, h, Q', at', q, f⟩ := q
  exact ⟨τ, h, _, at', q, fun ds h1 vs H1 k1 hr1 rs q1 => hl ds vs h1 H1 Q' Q rs hr1 q1 (f.after k1)⟩
theorem de_callB (hc : CallR X (.builtin id) r) (hl : CallL X.K r r') (hg : Gl X x) (hm : X.mg x = none) (hv : bootBuiltins x = some (.builtin id)) (ha : DA X Y (a :: es) tr) (hn : x ≠ "__name__" := by decide) (hdb : (x == ("__debug__" : Str)) = false := by decide)
    (he : starEach (a :: es) X.env = (false, eval a X.env) :: starEach es X.env := by rfl) (hpl : (backTo pos (starEach es X.env)).any (·.1) = false := by rfl) : DE X Y (.Call (.Name x p) (a :: es) [] pos) (tcb r' tr) :=
  (pe_callB hc hg hm hv ha hn hdb he hpl).imp fun _ _ _ q => cb_imp hl q
theorem de_callTy (hc : CallR X (.type T) r) (hl : CallL X.K r r') (hg : Gl X x) (hm : X.mg x = none) (hv : bootBuiltins x = some (.type T)) (ha : DA X Y (a :: es) tr) (hn : x ≠ "__name__" := by decide) (hdb : (x == ("__debug__" : Str)) = false := by decide)
    (he : starEach (a :: es) X.env = (false, eval a X.env) :: starEach es X.env := by rfl) (hpl : (backTo pos (starEach es X.env)).any (·.1) = false := by rfl) : DE X Y (.Call (.Name x p) (a :: es) [] pos) (tcb r' tr) :=
  (pe_callTy hc hg hm hv ha hn hdb he hpl).imp fun _ _ _ q => cb_imp hl q
end
/-! ### x[i] -/
theorem de_ix {r : R2} {r' : DR2} (hr : IxR X r) (hl : OpL X.K r r') (hs : PlainIx b) (ha : DE X Y a ta) (hb : DE X Y b tb) : DE X Y (.Subscript a b pos) (to r' ta tb) := (pe_ix hr ha hb hs).imp fun _ _ _ q => bin_imp hl q
end
end DL

set_option Elab.async false
set_option linter.all false
set_option maxRecDepth 100000
/-! DL3: operators, comparisons, subscripts, built-in calls, over data. -/
namespace DL
open PySem PySem.Spec PyProof.Rows L2
section
variable {X : Cx} {Y : Wsh} {K : PySem.W.Frag}

abbrev rOr (r s : R2) : R2 := fun x y H Q => r x y H Q ∨ s x y H Q
/-! ### arithmetic -/
def opAdd : DR2 := fun x y h Q => match x, y with
  | .int i, .int j => Q (.int (i + j)) h
  | .int i, .bl b => Q (.int (i + b2i b)) h
  | .str a, .str b => a.length + b.length ≤ sizeLine ∧ Q (.str (a ++ b)) h
  | .tup a, .tup b => a.length + b.length ≤ sizeLine ∧ Q (.tup (a ++ b)) h
  | .lis a, .lis b => a.length + b.length ≤ sizeLine ∧ Q (.lis (a ++ b)) h
  | _, _ => False
/-- t + u of tuples: an empty one gives the other -/
def rTT (K : PySem.W.Frag) : R2 := fun x y H Q => ∃ a b xs ys, x = .ref a ∧ y = .ref b ∧ SqT K H a xs ∧ SqT K H b ys ∧ xs.length + ys.length ≤ sizeLine ∧
  (xs = [] → Q (.ref b) H) ∧ (ys = [] → Q (.ref a) H) ∧ Nt Q H (xs ++ ys)
theorem op_TT : OpR X (binaryOp .Add) (rTT X.K) := by
  intro pins s σ H x y v u Q I rx ry h
  obtain ⟨a, b, xs, ys, rfl, rfl, ha, hb, hz, q0, q1, q2⟩ := h
  by_cases hx : xs = []
  · cases rx
    cases ry
    obtain ⟨its, r1, p1, _⟩ := I.tuple ha
    obtain ⟨its2, r2, p2, _⟩ := I.tuple hb
    obtain ⟨⟨c1, d1, t1, l1⟩, g1, e1, n1, w1⟩ := id p1
    obtain ⟨⟨c2, d2, t2, l2⟩, g2, e2, n2, w2⟩ := id p2
    simp only at e1 w1 e2 w2
    subst e1 w1 e2 w2
    have hi : its = [] := r1.nil_iff.mpr hx
    exact concat_meets ⟨_, g1, rfl⟩ ⟨_, g2, rfl⟩ noFill_tuple_add seq_tuple_add F.slot_tuple_add
      F.entry_tuple_add (F.args_tuple_add_2 _ _)
      (tuple_addW0 a b its.toArray its2.toArray n1 n2 d1 d2 l1 l2 (by simp [hi]))
      ⟨g1, g2, V.ref b, H, I, rfl, q0 hx⟩
  · cases rx
    cases ry
    obtain ⟨its, r1, p1, _⟩ := I.tuple ha
    obtain ⟨its2, r2, p2, _⟩ := I.tuple hb
    refine HT.cat_tup p1 p2 (fun z => hx (r1.nil_iff.mp z)) (fun z => ⟨V.ref a, H, I, rfl, q1 (r2.nil_iff.mp z)⟩) (fun _ => ?_) (by rw [← r1.length, ← r2.length]; exact hz)
    refine ⟨V.ref s.heap.objs.size, _, I.laid (o := .frz ⟨.type "tuple", none, .seq (its ++ its2).toArray 0, #[]⟩ (.tup (xs ++ ys))) (t' := s.toks) (fun b u e => Heap.get?_push_of_some _ e) (Nat.le_refl _) ?_, rfl, q2 _ _ rfl (I.hok.fresh (Nat.le_refl _))⟩
    exact ⟨Heap.get?_push_size _ rfl, by rw [List.length_append]; exact hz, _, r1.append r2, IsTup.new _ _⟩
def rAdd (K : PySem.W.Frag) : R2 := rOr (rI0 fun i j => .int (i + j)) (rOr (fun x y H Q => ∃ i j, x = .str i ∧ y = .str j ∧ i.length + j.length ≤ sizeLine ∧ Q (.str (i ++ j)) H) (rOr (rTT K) (rOr rCat fun x y H Q => ∃ i k, x = .int i ∧ y = .bl k ∧ Q (.int (i + b2i k)) H)))
theorem opr_add : OpR X (binaryOp .Add) (rAdd X.K) := op_add.or (op_add_str.or (op_TT.or (op_cat.or op_add_ib)))
theorem opl_add : OpL K (rAdd K) opAdd := by
  intro x y v u h H Q' Q rx ry hr q f
  unfold opAdd at q
  split at q
  · exact .inl ⟨_, _, rx, ry, f (.int _) h _ H .refl hr rfl q⟩
  · exact .inr (.inr (.inr (.inr ⟨_, _, rx, ry, f (.int _) h _ H .refl hr rfl q⟩)))
  · exact .inr (.inl ⟨_, _, rx, ry, q.1, f (.str _) h _ H .refl hr rfl q.2⟩)
  · rename_i xs ys
    have rx' := rx
    have ry' := ry
    obtain ⟨a, vs, e1, t1, r1⟩ := rx
    obtain ⟨b, ws, e2, t2, r2⟩ := ry
    refine .inr (.inr (.inl ⟨a, b, vs, ws, e1, e2, t1.sq, t2.sq, by rw [r1.length, r2.length]; exact q.1, fun z => ?_, fun z => ?_, f.tup hr (r1.append r2) q.2⟩))
    · have e : xs = [] := List.length_eq_zero_iff.mp (by rw [← r1.length, z]; rfl)
      exact f (.tup (xs ++ ys)) h _ H .refl hr (by rw [e]; exact e2 ▸ ry') q.2
    · have e : ys = [] := List.length_eq_zero_iff.mp (by rw [← r2.length, z]; rfl)
      exact f (.tup (xs ++ ys)) h _ H .refl hr (by rw [e, List.append_nil]; exact e1 ▸ rx') q.2
  · obtain ⟨a, vs, e1, n1, t1, r1⟩ := rx
    obtain ⟨b, ws, e2, n2, t2, r2⟩ := ry
    exact .inr (.inr (.inr (.inl ⟨a, b, vs, ws, e1, e2, t1, t2, by rw [r1.length, r2.length]; exact q.1, f.lis hr (r1.append r2) q.2⟩)))
  · exact q.elim
/-- two ints -/
def opI2 (C : Int → Int → Prop) (g : Int → Int → D) : DR2 := fun x y h Q => match x, y with
  | .int i, .int j => C i j ∧ Q (g i j) h
  | _, _ => False
theorem opl_I {C C' : Int → Int → Prop} {g : Int → Int → V} {g' : Int → Int → D} (hC : ∀ i j, C' i j → C i j) (hg : ∀ h H i j, C' i j → RD K h H (g' i j) (g i j)) : OpL K (rI C g) (opI2 C' g') := by
  intro x y v u h H Q' Q rx ry hr q f
  unfold opI2 at q
  split at q
  · exact ⟨_, _, rx, ry, hC _ _ q.1, f _ h _ H .refl hr (hg h H _ _ q.1) q.2⟩
  · exact q.elim
theorem opl_I0 {g : Int → Int → V} {g' : Int → Int → D} (hg : ∀ h H i j, RD K h H (g' i j) (g i j)) : OpL K (rI0 g) (opI2 (fun _ _ => True) g') := by
  intro x y v u h H Q' Q rx ry hr q f
  unfold opI2 at q
  split at q
  · exact ⟨_, _, rx, ry, f _ h _ H .refl hr (hg h H _ _) q.2⟩
  · exact q.elim
abbrev opSub : DR2 := opI2 (fun _ _ => True) fun i j => .int (i - j)
theorem opl_sub : OpL K (rI0 fun i j => .int (i - j)) opSub := opl_I0 fun _ _ _ _ => rfl
/-- the bound of a factor: 2 ^ 64 -/
def mulOk (i j : Int) : Prop := (-18446744073709551616 < i ∧ i < 18446744073709551616) ∨ (-18446744073709551616 < j ∧ j < 18446744073709551616)
abbrev opMul : DR2 := opI2 mulOk fun i j => .int (i * j)
theorem opl_mul : OpL K (rI CMul fun i j => .int (i * j)) opMul := opl_I (fun i j h => by
  have e : (2 : Int) ^ 64 = 18446744073709551616 := by decide
  unfold CMul
  rw [e]
  exact h) fun _ _ _ _ _ => rfl
/-- a divisor below 2 ^ 200 -/
abbrev opDiv : DR2 := opI2 (fun _ j => 0 < j ∧ j < 1606938044258990275541962092341162602522202993782792835301376) fun i j => .int (i / j)
theorem opl_div : OpL K (rI CDivW fun i j => .int (i / j)) opDiv := opl_I (fun i j h => wide_div (b := 200) h.1 (by
  have e : (2 : Nat) ^ 200 = 1606938044258990275541962092341162602522202993782792835301376 := by decide +kernel
  rw [e]
  have := h.1
  have := h.2
  omega) (by decide) (by decide)) fun _ _ _ _ _ => rfl
abbrev opMod : DR2 := opI2 (fun _ j => 0 < j) fun i j => .int (i % j)
theorem opl_mod : OpL K (rI (fun _ j => 0 < j) fun i j => .int (i % j)) opMod := opl_I (fun _ _ h => h) fun _ _ _ _ _ => rfl
abbrev opPow : DR2 := opI2 (fun i j => 0 ≤ j ∧ j ≤ 1000000 ∧ -18446744073709551616 < i ∧ i < 18446744073709551616) fun i j => .int (i ^ j.toNat)
theorem opl_pow : OpL K (rI CPow fun i j => .int (i ^ j.toNat)) opPow := opl_I (fun i j h => by
  have e : (2 : Nat) ^ 64 = 18446744073709551616 := by decide
  unfold CPow
  rw [e]
  exact ⟨h.1, h.2.1, by omega⟩) fun _ _ _ _ _ => rfl
def unNeg : DR1 := fun x h Q => match x with | .int i => Q (.int (-i)) h | _ => False
theorem unl_neg : UnL K (rU fun i => .int (-i)) unNeg := by
  intro x v h H Q' Q rx hr q f
  cases x with
  | int i => exact ⟨i, rx, f (.int (-i)) h _ H .refl hr rfl q⟩
  | _ => exact q.elim

/-! ### comparisons of ints -/
abbrev opLt : DR2 := opI2 (fun _ _ => True) fun i j => .bl (decide (i < j))
abbrev opLe : DR2 := opI2 (fun _ _ => True) fun i j => .bl (decide (i ≤ j))
abbrev opGt : DR2 := opI2 (fun _ _ => True) fun i j => .bl (decide (j < i))
abbrev opGe : DR2 := opI2 (fun _ _ => True) fun i j => .bl (decide (j ≤ i))
theorem opl_lt : OpL K (rI0 fun i j => .bl (decide (i < j))) opLt := opl_I0 fun _ _ _ _ => rfl
theorem opl_le : OpL K (rI0 fun i j => .bl (decide (i ≤ j))) opLe := opl_I0 fun _ _ _ _ => rfl
theorem opl_gt : OpL K (rI0 fun i j => .bl (decide (j < i))) opGt := opl_I0 fun _ _ _ _ => rfl
theorem opl_ge : OpL K (rI0 fun i j => .bl (decide (j ≤ i))) opGe := opl_I0 fun _ _ _ _ => rfl

/-! ### equality -/
mutual
def toPy : D → Option PyData
  | .non => some .none
  | .bl b => some (.bool b)
  | .int i => some (.int i)
  | .str x => some (.str x)
  | .tup xs => (toPys xs).map .tuple
  | .lis xs => (toPys xs).map .list
  | .scr _ => none
  | .ref _ => none
  | .ty _ => none
def toPys : List D → Option (List PyData)
  | [] => some []
  | x :: xs => match toPy x, toPys xs with
    | some a, some b => some (a :: b)
    | _, _ => none
end
mutual
theorem dp_of {h : DH} {H : Hp} : ∀ (d : D) (p : PyData) (v : V), toPy d = some p → RD K h H d v → Dp K H v p
  | .non, p, v, e, r => by cases e; cases (show v = .non from r); exact .non
  | .bl b, p, v, e, r => by cases e; cases (show v = .bl b from r); exact .bl b
  | .int i, p, v, e, r => by cases e; cases (show v = .int i from r); exact .int i
  | .str x, p, v, e, r => by cases e; cases (show v = .str x from r); exact .str x
  | .tup xs, p, v, e, r => by
    obtain ⟨a, vs, rfl, t, q⟩ := r
    unfold toPy at e
    cases ep : toPys xs with
    | none => rw [ep] at e; cases e
    | some ps => rw [ep] at e; cases e; exact .tup t.sq (dps_of xs ps vs ep q)
  | .lis xs, p, v, e, r => by
    obtain ⟨a, vs, rfl, n, t, q⟩ := r
    unfold toPy at e
    cases ep : toPys xs with
    | none => rw [ep] at e; cases e
    | some ps => rw [ep] at e; cases e; exact .lst (SqL.of t) (dps_of xs ps vs ep q)
  | .scr _, p, v, e, r => by cases e
  | .ref _, p, v, e, r => by cases e
  | .ty _, p, v, e, r => by cases e
theorem dps_of {h : DH} {H : Hp} : ∀ (ds : List D) (ps : List PyData) (vs : List V), toPys ds = some ps → RDs K h H ds vs → DpAll K H vs ps
  | [], ps, vs, e, r => by cases e; cases (show vs = [] from r); exact .nil
  | d :: ds, ps, vs, e, r => by
    obtain ⟨v, w, rfl, r1, r2⟩ := r
    unfold toPys at e
    cases e1 : toPy d with
    | none => rw [e1] at e; cases e
    | some a =>
      cases e2 : toPys ds with
      | none => rw [e1, e2] at e; cases e
      | some b => rw [e1, e2] at e; cases e; exact .cons (dp_of d a v e1 r1) (dps_of ds b w e2 r2)
end
/-- == of data -/
def deq (x y : D) : Bool := match toPy x, toPy y with
  | some a, some b => PyData.eqv a b
  | _, _ => false
/-- what == may be asked of: data no deeper than 64 -/
def dOk (x : D) : Prop := match toPy x with
  | some a => SeqAt.shaped a = true
  | none => False
/-- == of scalars -/
def sc : D → D → Option Bool
  | .int i, .int j => some (decide (i = j))
  | .str a, .str b => some (decide (a = b))
  | .bl a, .bl b => some (decide (a = b))
  | .non, .non => some true
  | .non, .int _ => some false
  | .non, .bl _ => some false
  | .non, .str _ => some false
  | .int _, .non => some false
  | .bl _, .non => some false
  | .str _, .non => some false
  | .int _, .str _ => some false
  | .str _, .int _ => some false
  | .bl _, .str _ => some false
  | .str _, .bl _ => some false
  | _, _ => none
def opEq : DR2 := fun x y h Q => match sc x y with
  | some b => Q (.bl b) h
  | none => dOk x ∧ dOk y ∧ Q (.bl (deq x y)) h
def opNe : DR2 := fun x y h Q => match sc x y with
  | some b => Q (.bl (!b)) h
  | none => dOk x ∧ dOk y ∧ Q (.bl (!deq x y)) h
theorem sc_of {h : DH} {H : Hp} {x y : D} {v u : V} {b : Bool} (e : sc x y = some b) (rx : RD K h H x v) (ry : RD K h H y u) : scal v u = true ∧ decide (v = u) = b := by
  cases x <;> cases y <;> first
    | cases (show none = some b from e)
    | (have e' := Option.some.inj e
       subst e'
       simp only [RD] at rx ry
       subst rx ry
       exact ⟨rfl, by simp⟩)
theorem opr_eq (hu : X.A.units + 64 < cLine) : OpR X (compareOp .Eq) (rOr rEq (rEqD X.K)) := op_eq.or (op_eqD hu)
theorem opr_ne (hu : X.A.units + 64 < cLine) : OpR X (compareOp .NotEq) (rOr rNe (rNeD X.K)) := op_ne.or (op_neD hu)
theorem dok_get {x : D} (q : dOk x) : ∃ a, toPy x = some a ∧ SeqAt.shaped a = true := by
  unfold dOk at q
  cases e : toPy x with
  | none => rw [e] at q; exact q.elim
  | some a => rw [e] at q; exact ⟨a, rfl, q⟩
theorem deq_of {x y : D} {a b : PyData} (ea : toPy x = some a) (eb : toPy y = some b) : deq x y = PyData.eqv a b := by
  unfold deq; rw [ea, eb]
theorem opl_eq : OpL K (rOr rEq (rEqD K)) opEq := by
  intro x y v u h H Q' Q rx ry hr q f
  unfold opEq at q
  split at q
  · rename_i b e
    obtain ⟨e1, e2⟩ := sc_of e rx ry
    exact .inl ⟨e1, f (.bl b) h _ H .refl hr (show _ = _ by rw [e2]) q⟩
  · obtain ⟨a, ea, sa⟩ := dok_get q.1
    obtain ⟨b, eb, sb⟩ := dok_get q.2.1
    exact .inr ⟨a, b, dp_of _ _ _ ea rx, dp_of _ _ _ eb ry, sa, sb, f (.bl _) h _ H .refl hr (show _ = _ by rw [deq_of ea eb]) q.2.2⟩
theorem opl_ne : OpL K (rOr rNe (rNeD K)) opNe := by
  intro x y v u h H Q' Q rx ry hr q f
  unfold opNe at q
  split at q
  · rename_i b e
    obtain ⟨e1, e2⟩ := sc_of e rx ry
    exact .inl ⟨e1, f (.bl (!b)) h _ H .refl hr (show _ = _ by rw [e2]) q⟩
  · obtain ⟨a, ea, sa⟩ := dok_get q.1
    obtain ⟨b, eb, sb⟩ := dok_get q.2.1
    exact .inr ⟨a, b, dp_of _ _ _ ea rx, dp_of _ _ _ eb ry, sa, sb, f (.bl _) h _ H .refl hr (show _ = _ by rw [deq_of ea eb]) q.2.2⟩

/-! ### in -/
def toV : D → V
  | .bl b => .bl b
  | .int i => .int i
  | .str x => .str x
  | _ => .non
def flatD : D → Bool
  | .non => true | .bl _ => true | .int _ => true | .str _ => true | _ => false
theorem flat_v {h : DH} {H : Hp} {d : D} {v : V} (r : RD K h H d v) (f : flatD d = true) : v = toV d ∧ flatV v = true := by
  cases d with
  | non => cases (show v = .non from r); exact ⟨rfl, rfl⟩
  | bl b => cases (show v = .bl b from r); exact ⟨rfl, rfl⟩
  | int b => cases (show v = .int b from r); exact ⟨rfl, rfl⟩
  | str b => cases (show v = .str b from r); exact ⟨rfl, rfl⟩
  | _ => cases f
theorem flat_vs {h : DH} {H : Hp} : ∀ {ds : List D} {vs : List V}, RDs K h H ds vs → ds.all flatD = true → vs = ds.map toV ∧ vs.all flatV = true
  | [], vs, r, _ => by cases (show vs = [] from r); exact ⟨rfl, rfl⟩
  | d :: ds, vs, r, f => by
    obtain ⟨v, w, rfl, r1, r2⟩ := r
    rw [List.all_cons, Bool.and_eq_true] at f
    obtain ⟨e1, f1⟩ := flat_v r1 f.1
    obtain ⟨e2, f2⟩ := flat_vs r2 f.2
    exact ⟨by rw [e1, e2]; rfl, by rw [List.all_cons, f1, f2]; rfl⟩
/-- x stands among flat data -/
def inD (x : D) (ds : List D) : Bool := inV (toV x) (ds.map toV)
def opIn (neg : Bool) : DR2 := fun x y h Q => match y with
  | .tup ds => flatD x = true ∧ ds.all flatD = true ∧ Q (.bl (if neg then !inD x ds else inD x ds)) h
  | .lis ds => flatD x = true ∧ ds.all flatD = true ∧ Q (.bl (if neg then !inD x ds else inD x ds)) h
  | .ref a => ∃ ds, h a = some (.lst ds) ∧ flatD x = true ∧ ds.all flatD = true ∧ Q (.bl (if neg then !inD x ds else inD x ds)) h
  | _ => False
theorem opl_in {neg : Bool} : OpL K (rIn K neg) (opIn neg) := by
  intro x y v u h H Q' Q rx ry hr q f
  cases y with
  | tup ds =>
    obtain ⟨f1, f2, q⟩ := q
    obtain ⟨a, vs, e, t, r⟩ := ry
    obtain ⟨e1, g1⟩ := flat_v rx f1
    obtain ⟨e2, g2⟩ := flat_vs r f2
    exact ⟨a, vs, e, .inr t.sq, g1, g2, f (.bl _) h _ H .refl hr (by subst e1 e2; rfl) q⟩
  | lis ds =>
    obtain ⟨f1, f2, q⟩ := q
    obtain ⟨a, vs, e, n, t, r⟩ := ry
    obtain ⟨e1, g1⟩ := flat_v rx f1
    obtain ⟨e2, g2⟩ := flat_vs r f2
    exact ⟨a, vs, e, .inl (SqL.of t), g1, g2, f (.bl _) h _ H .refl hr (by subst e1 e2; rfl) q⟩
  | ref a =>
    obtain ⟨ds, e, f1, f2, q⟩ := q
    obtain ⟨vs, t, r⟩ := hr.lst e
    obtain ⟨e1, g1⟩ := flat_v rx f1
    obtain ⟨e2, g2⟩ := flat_vs r f2
    exact ⟨a, vs, ry, .inl (SqL.of t), g1, g2, f (.bl _) h _ H .refl hr (by subst e1 e2; rfl) q⟩
  | _ => exact q.elim
/-- is None -/
def isNon : D → Bool | .non => true | _ => false
theorem isNon_v {h : DH} {H : Hp} {d : D} {v : V} (r : RD K h H d v) : decide (v = .non) = isNon d := by
  cases d with
  | non => cases (show v = .non from r); rfl
  | bl b => cases (show v = .bl b from r); rfl
  | int b => cases (show v = .int b from r); rfl
  | str b => cases (show v = .str b from r); rfl
  | ref b => cases (show v = .ref b from r); rfl
  | ty b => cases (show v = .ty b from r); rfl
  | tup b => obtain ⟨a, vs, e, _⟩ := r; cases e; rfl
  | lis b => obtain ⟨a, vs, e, _⟩ := r; cases e; rfl
  | scr b => obtain ⟨a, e, _⟩ := r; cases e; rfl
def opIsN (neg : Bool) : DR2 := fun x y h Q => match y with
  | .non => Q (.bl (if neg then !isNon x else isNon x)) h
  | _ => False
theorem opl_isN : OpL K (fun x y H Q => y = .non ∧ Q (.bl (decide (x = .non))) H) (opIsN false) := by
  intro x y v u h H Q' Q rx ry hr q f
  cases y with
  | non => exact ⟨ry, f (.bl _) h _ H .refl hr (show _ = _ by rw [isNon_v rx]; rfl) q⟩
  | _ => exact q.elim
theorem opl_notN : OpL K (fun x y H Q => y = .non ∧ Q (.bl (!decide (x = .non))) H) (opIsN true) := by
  intro x y v u h H Q' Q rx ry hr q f
  cases y with
  | non => exact ⟨ry, f (.bl _) h _ H .refl hr (show _ = _ by rw [isNon_v rx]; rfl) q⟩
  | _ => exact q.elim

/-! ### x[i] -/
theorem atI_RD {h : DH} {H : Hp} {ds : List D} {vs : List V} {i : Int} {d : D} (r : RDs K h H ds vs) (e : atI ds i = some d) : ∃ v, atI vs i = some v ∧ RD K h H d v := by
  unfold atI at e ⊢
  rw [r.length]
  cases ej : ixN ds.length i with
  | none => rw [ej] at e; cases e
  | some j =>
    rw [ej] at e
    exact r.get (i := j) e
theorem atI_map {α β : Type} (g : α → β) {xs : List α} {i : Int} {x : α} (e : atI xs i = some x) : atI (xs.map g) i = some (g x) := by
  unfold atI at e ⊢
  rw [List.length_map]
  cases ej : ixN xs.length i with
  | none => rw [ej] at e; cases e
  | some j =>
    rw [ej] at e
    have e : xs[j]? = some x := e
    show (xs.map g)[j]? = some (g x)
    rw [List.getElem?_map, e]
    rfl
def opIx : DR2 := fun x y h Q => match y with
  | .int i => match x with
    | .tup ds => ∃ d, atI ds i = some d ∧ Q d h
    | .lis ds => ∃ d, atI ds i = some d ∧ Q d h
    | .scr ns => ∃ n, atI ns i = some n ∧ Q (.int n) h
    | .ref a => ∃ ds, h a = some (.lst ds) ∧ ∃ d, atI ds i = some d ∧ Q d h
    | .str z => z.length ≤ sizeLine ∧ ∃ c, atI z.cps.toList i = some c ∧ Q (.str ⟨#[c]⟩) h
    | _ => False
  | _ => False
theorem opl_ix : OpL K (rIx K) opIx := by
  intro x y v u h H Q' Q rx ry hr q f
  cases y with
  | int i =>
    cases x with
    | tup ds =>
      obtain ⟨d, e, q⟩ := q
      obtain ⟨a, vs, e1, t, r⟩ := rx
      obtain ⟨w, e2, rd⟩ := atI_RD r e
      exact .inr (.inl ⟨a, vs, i, w, e1, ry, t.sq, e2, f d h w H .refl hr rd q⟩)
    | lis ds =>
      obtain ⟨d, e, q⟩ := q
      obtain ⟨a, vs, e1, n, t, r⟩ := rx
      obtain ⟨w, e2, rd⟩ := atI_RD r e
      exact .inl ⟨a, vs, i, w, e1, ry, SqL.of t, e2, f d h w H .refl hr rd q⟩
    | scr ns =>
      obtain ⟨d, e, q⟩ := q
      obtain ⟨a, e1, t⟩ := rx
      exact .inl ⟨a, _, i, _, e1, ry, t.sq, atI_map V.int e, f (.int d) h _ H .refl hr rfl q⟩
    | ref a =>
      obtain ⟨ds, e0, d, e, q⟩ := q
      obtain ⟨vs, t, r⟩ := hr.lst e0
      obtain ⟨w, e2, rd⟩ := atI_RD r e
      exact .inl ⟨a, vs, i, w, rx, ry, SqL.of t, e2, f d h w H .refl hr rd q⟩
    | str z =>
      obtain ⟨hz, c, e, q⟩ := q
      exact .inr (.inr ⟨z, i, c, rx, ry, hz, e, f (.str _) h _ H .refl hr rfl q⟩)
    | _ => exact q.elim
  | _ => exact q.elim

/-! ### built-in calls -/
def caLen : List D → DH → VK' → Prop := fun ds h Q => match ds with
  | [.tup xs] => Q (.int xs.length) h
  | [.lis xs] => Q (.int xs.length) h
  | [.scr xs] => Q (.int xs.length) h
  | [.ref a] => ∃ xs, h a = some (.lst xs) ∧ Q (.int xs.length) h
  | [.str z] => z.length ≤ sizeLine ∧ Q (.int z.length) h
  | _ => False
def rLen (K : PySem.W.Frag) : List V → Hp → VK → Prop := fun xs H Q => (∃ p ys, xs = [.ref p] ∧ (SqL K H p ys ∨ SqT K H p ys) ∧ Q (.int ys.length) H) ∨ ∃ z, xs = [.str z] ∧ z.length ≤ sizeLine ∧ Q (.int z.length) H
theorem cr_len : CallR X (.builtin "len") (rLen X.K) := call_len_seq.or call_len_str
theorem RDs.one {h : DH} {H : Hp} {d : D} {vs : List V} (r : RDs K h H [d] vs) : ∃ v, vs = [v] ∧ RD K h H d v := by
  obtain ⟨v, w, e, q, z⟩ := r
  cases (show w = [] from z)
  exact ⟨v, e, q⟩
theorem RDs.two {h : DH} {H : Hp} {d e : D} {vs : List V} (r : RDs K h H [d, e] vs) : ∃ v u, vs = [v, u] ∧ RD K h H d v ∧ RD K h H e u := by
  obtain ⟨v, w, e1, q, z⟩ := r
  obtain ⟨u, e2, q2⟩ := z.one
  exact ⟨v, u, by rw [e1, e2], q, q2⟩
theorem cl_len : CallL K (rLen K) caLen := by
  intro ds vs h H Q' Q r hr q f
  unfold caLen at q
  split at q
  · obtain ⟨v, rfl, a, ws, rfl, t, rs⟩ := r.one
    exact .inl ⟨a, ws, rfl, .inr t.sq, f (.int _) h _ H .refl hr (show _ = _ by rw [rs.length]) q⟩
  · obtain ⟨v, rfl, a, ws, rfl, n, t, rs⟩ := r.one
    exact .inl ⟨a, ws, rfl, .inl (SqL.of t), f (.int _) h _ H .refl hr (show _ = _ by rw [rs.length]) q⟩
  · obtain ⟨v, rfl, a, rfl, t⟩ := r.one
    exact .inl ⟨a, _, rfl, .inl t.sq, f (.int _) h _ H .refl hr (show _ = _ by rw [List.length_map]) q⟩
  · obtain ⟨v, rfl, r1⟩ := r.one
    obtain ⟨xs, e, q⟩ := q
    obtain ⟨ws, t, rs⟩ := hr.lst e
    exact .inl ⟨_, ws, by rw [show v = _ from r1], .inl (SqL.of t), f (.int _) h _ H .refl hr (show _ = _ by rw [rs.length]) q⟩
  · obtain ⟨v, rfl, r1⟩ := r.one
    exact .inr ⟨_, by rw [show v = _ from r1], q.1, f (.int _) h _ H .refl hr rfl q.2⟩
  · exact q.elim
/-- isinstance against a built-in class -/
def instD (x : D) (n : String) : Bool := match x with
  | .non => false
  | .bl _ => n == "bool" || n == "int"
  | .int _ => n == "int"
  | .str _ => n == "str"
  | .tup _ => n == "tuple"
  | .lis _ => n == "list"
  | _ => false
def isTy (n : String) : Bool := n == "int" || n == "bool" || n == "str" || n == "tuple" || n == "list"
def plainD : D → Bool | .non => true | .bl _ => true | .int _ => true | .str _ => true | .tup _ => true | .lis _ => true | _ => false
def caIs : List D → DH → VK' → Prop := fun ds h Q => match ds with
  | [x, .ty n] => isTy n = true ∧ plainD x = true ∧ Q (.bl (instD x n)) h
  | _ => False
theorem kit_all {n : String} (t : isTy n = true) : (PySem.W.kitOne K (.type "NoneType") (.type n) = some false) ∧ (PySem.W.kitOne K (.type "bool") (.type n) = some (n == "bool" || n == "int")) ∧ (PySem.W.kitOne K (.type "int") (.type n) = some (n == "int")) ∧
    (PySem.W.kitOne K (.type "str") (.type n) = some (n == "str")) ∧ (PySem.W.kitOne K (.type "tuple") (.type n) = some (n == "tuple")) ∧ (PySem.W.kitOne K (.type "list") (.type n) = some (n == "list")) := by
  simp only [isTy, Bool.or_eq_true, beq_iff_eq] at t
  rcases t with (((rfl | rfl) | rfl) | rfl) | rfl <;>
    exact ⟨kit_ty (by decide +kernel), kit_ty (by decide +kernel), kit_ty (by decide +kernel), kit_ty (by decide +kernel), kit_ty (by decide +kernel), kit_ty (by decide +kernel)⟩
theorem cl_is : CallL K (rIsi K) caIs := by
  intro ds vs h H Q' Q r hr q f
  unfold caIs at q
  split at q
  · rename_i x n
    obtain ⟨v, u, rfl, r1, r2⟩ := r.two
    cases (show u = .ty n from r2)
    obtain ⟨t, p, q⟩ := q
    obtain ⟨k1, k2, k3, k4, k5, k6⟩ := kit_all (K := K) t
    have fin : ∀ b, b = instD x n → Q (.bl b) H := fun b e => f (.bl _) h _ H .refl hr (show _ = _ by rw [e]) q
    cases x with
    | non => cases (show v = .non from r1); exact ⟨_, _, _, _, _, rfl, .ty n, .base .non, k1, fin _ rfl⟩
    | bl b => cases (show v = .bl b from r1); exact ⟨_, _, _, _, _, rfl, .ty n, .base (.bl b), k2, fin _ rfl⟩
    | int b => cases (show v = .int b from r1); exact ⟨_, _, _, _, _, rfl, .ty n, .base (.int b), k3, fin _ rfl⟩
    | str b => cases (show v = .str b from r1); exact ⟨_, _, _, _, _, rfl, .ty n, .base (.str b), k4, fin _ rfl⟩
    | tup b =>
      obtain ⟨a, ws, rfl, t, rs⟩ := r1
      refine ⟨_, _, _, _, _, rfl, .ty n, ?_, k5, fin _ rfl⟩
      rcases t with ⟨_, o, _, t⟩ | ⟨o, its, m, e, c, _⟩
      · exact .fTuple t
      · exact .kTuple e c
    | lis b =>
      obtain ⟨a, ws, rfl, _, t, rs⟩ := r1
      exact ⟨_, _, _, _, _, rfl, .ty n, .base (.lst t), k6, fin _ rfl⟩
    | _ => cases p
  · exact q.elim
def caInt : List D → DH → VK' → Prop := fun ds h Q => match ds with
  | [.int i] => Q (.int i) h
  | [.bl b] => Q (.int (if b then 1 else 0)) h
  | _ => False
theorem cl_int : CallL K (fun xs H Q => (∃ i, xs = [.int i] ∧ Q (.int i) H) ∨ ∃ k, xs = [.bl k] ∧ Q (.int (if k then 1 else 0)) H) caInt := by
  intro ds vs h H Q' Q r hr q f
  unfold caInt at q
  split at q
  · obtain ⟨v, rfl, r1⟩ := r.one
    exact .inl ⟨_, by rw [show v = _ from r1], f (.int _) h _ H .refl hr rfl q⟩
  · obtain ⟨v, rfl, r1⟩ := r.one
    exact .inr ⟨_, by rw [show v = _ from r1], f (.int _) h _ H .refl hr rfl q⟩
  · exact q.elim
def caAbs : List D → DH → VK' → Prop := fun ds h Q => match ds with
  | [.int i] => Q (.int (i.natAbs : Int)) h
  | _ => False
theorem cl_abs : CallL K (fun xs H Q => ∃ i, xs = [.int i] ∧ Q (.int (if i < 0 then -i else i)) H) caAbs := by
  intro ds vs h H Q' Q r hr q f
  unfold caAbs at q
  split at q
  · rename_i i
    obtain ⟨v, rfl, r1⟩ := r.one
    have e : (if i < 0 then -i else i) = (i.natAbs : Int) := by split <;> omega
    exact ⟨i, by rw [show v = _ from r1], by rw [e]; exact f (.int _) h _ H .refl hr rfl q⟩
  · exact q.elim
def caMax : List D → DH → VK' → Prop := fun ds h Q => match ds with
  | [.int i, .int j] => Q (.int (max i j)) h
  | _ => False
theorem cl_max : CallL K (fun xs H Q => ∃ i j, xs = [.int i, .int j] ∧ Q (.int (if j > i then j else i)) H) caMax := by
  intro ds vs h H Q' Q r hr q f
  unfold caMax at q
  split at q
  · rename_i i j
    obtain ⟨v, u, rfl, r1, r2⟩ := r.two
    have e : (if j > i then j else i) = max i j := by split <;> omega
    exact ⟨i, j, by rw [show v = _ from r1, show u = _ from r2], by rw [e]; exact f (.int _) h _ H .refl hr rfl q⟩
  · exact q.elim
def caMin : List D → DH → VK' → Prop := fun ds h Q => match ds with
  | [.int i, .int j] => Q (.int (min i j)) h
  | _ => False
theorem cl_min : CallL K (fun xs H Q => ∃ i j, xs = [.int i, .int j] ∧ Q (.int (if j < i then j else i)) H) caMin := by
  intro ds vs h H Q' Q r hr q f
  unfold caMin at q
  split at q
  · rename_i i j
    obtain ⟨v, u, rfl, r1, r2⟩ := r.two
    have e : (if j < i then j else i) = min i j := by split <;> omega
    exact ⟨i, j, by rw [show v = _ from r1, show u = _ from r2], by rw [e]; exact f (.int _) h _ H .refl hr rfl q⟩
  · exact q.elim
/-- the items of a list, a tuple -/
def itemsK (h : DH) (x : D) (k : List D → Prop) : Prop := match x with
  | .tup xs => k xs
  | .lis xs => k xs
  | .scr ns => k (ns.map .int)
  | .ref a => ∃ xs, h a = some (.lst xs) ∧ k xs
  | _ => False
theorem rds_ints {h : DH} {H : Hp} : ∀ ns : List Int, RDs K h H (ns.map D.int) (ns.map V.int)
  | [] => rfl
  | n :: ns => ⟨.int n, _, rfl, rfl, rds_ints ns⟩
theorem items_of {h : DH} {H : Hp} {x : D} {v : V} {k : List D → Prop} (r : RD K h H x v) (hr : HR K h H) (q : itemsK h x k) : ∃ a ds vs, v = .ref a ∧ (SqL K H a vs ∨ SqT K H a vs) ∧ RDs K h H ds vs ∧ k ds := by
  cases x with
  | tup xs =>
    obtain ⟨a, vs, e, t, rs⟩ := r
    exact ⟨a, xs, vs, e, .inr t.sq, rs, q⟩
  | lis xs =>
    obtain ⟨a, vs, e, n, t, rs⟩ := r
    exact ⟨a, xs, vs, e, .inl (SqL.of t), rs, q⟩
  | scr ns =>
    obtain ⟨a, e, t⟩ := r
    exact ⟨a, _, _, e, .inl t.sq, rds_ints ns, q⟩
  | ref a =>
    obtain ⟨xs, e, q⟩ := q
    obtain ⟨vs, t, rs⟩ := hr.lst e
    exact ⟨a, xs, vs, r, .inl (SqL.of t), rs, q⟩
  | _ => exact q.elim
def caList : List D → DH → VK' → Prop := fun ds h Q => match ds with
  | [x] => itemsK h x fun xs => Q (.lis xs) h
  | _ => False
def caListO : List D → DH → VK' → Prop := fun ds h Q => match ds with
  | [x] => itemsK h x fun xs => ∀ p, h p = none → Q (.ref p) (put h p (.lst xs))
  | _ => False
def rListOf (K : PySem.W.Frag) : List V → Hp → VK → Prop := fun xs H Q => ∃ p ys, xs = [.ref p] ∧ (SqL K H p ys ∨ SqT K H p ys) ∧ ∀ l, H l = none → Q (.ref l) (upd H l (.lst ys))
theorem cl_list : CallL K (rListOf K) caList := by
  intro ds vs h H Q' Q r hr q f
  unfold caList at q
  split at q
  · obtain ⟨v, rfl, r1⟩ := r.one
    obtain ⟨a, xs, ws, rfl, t, rs, q⟩ := items_of r1 hr q
    exact ⟨a, ws, rfl, t, f.lis hr rs q⟩
  · exact q.elim
theorem cl_listO : CallL K (rListOf K) caListO := by
  intro ds vs h H Q' Q r hr q f
  unfold caListO at q
  split at q
  · obtain ⟨v, rfl, r1⟩ := r.one
    obtain ⟨a, xs, ws, rfl, t, rs, q⟩ := items_of r1 hr q
    exact ⟨a, ws, rfl, t, f.own hr rs q⟩
  · exact q.elim
def caTup : List D → DH → VK' → Prop := fun ds h Q => match ds with
  | [x] => itemsK h x fun xs => Q (.tup xs) h
  | _ => False
def rTupOf (K : PySem.W.Frag) : List V → Hp → VK → Prop := fun xs H Q => ∃ p ys, xs = [.ref p] ∧ ((SqL K H p ys ∧ Nt Q H ys) ∨ (SqT K H p ys ∧ Q (.ref p) H))
theorem call_tupF : CallR X (.type "tuple") (rTupOf X.K) := by
  intro pins s σ H xs us Q I r h
  obtain ⟨p, ys, rfl, h⟩ := h
  obtain ⟨u, rfl, rx⟩ := vals1 r
  rcases h with ⟨hq, q⟩ | ⟨hq, q⟩
  · cases rx
    obtain ⟨its, rv, pl, hz⟩ := I.list hq
    have hlen := rv.length
    refine call_tuple_list pl.isList (fun g kp => ?_) (by simp only [List.size_toArray]; omega)
    have J : Inv X pins σ H { s with heap := g } := I.kept (t' := s.toks) kp
    refine ⟨V.ref g.objs.size, _, J.laid (o := .frz ⟨.type "tuple", none, .seq its.toArray 0, #[]⟩ (.tup ys)) (t' := s.toks) (fun b u e => Heap.get?_push_of_some _ e) (Nat.le_refl _) ?_, rfl, q _ _ rfl (J.hok.fresh (Nat.le_refl _))⟩
    exact ⟨Heap.get?_push_size _ rfl, hz, its, rv, IsTup.new _ _⟩
  · exact call_tuple_of pins s σ H _ _ Q I (.cons rx .nil) ⟨p, ys, rfl, .inr ⟨hq, q⟩⟩
theorem cl_tup : CallL K (rTupOf K) caTup := by
  intro ds vs h H Q' Q r hr q f
  unfold caTup at q
  split at q
  · rename_i x
    obtain ⟨v, rfl, r1⟩ := r.one
    cases x with
    | tup xs =>
      have r2 := r1
      obtain ⟨a, ws, rfl, t, rs⟩ := r1
      exact ⟨a, ws, rfl, .inr ⟨t.sq, f (.tup xs) h _ H .refl hr r2 q⟩⟩
    | lis xs =>
      obtain ⟨a, ws, rfl, n, t, rs⟩ := r1
      exact ⟨a, ws, rfl, .inl ⟨SqL.of t, f.tup hr rs q⟩⟩
    | scr ns =>
      obtain ⟨a, rfl, t⟩ := r1
      exact ⟨a, _, rfl, .inl ⟨t.sq, f.tup hr (rds_ints ns) q⟩⟩
    | ref a =>
      obtain ⟨xs, e, q⟩ := q
      obtain ⟨ws, t, rs⟩ := hr.lst e
      exact ⟨a, ws, by rw [show v = _ from r1], .inl ⟨SqL.of t, f.tup hr rs q⟩⟩
    | _ => exact q.elim
  · exact q.elim
/-- sum of a list of ints -/
def caSum : List D → DH → VK' → Prop := fun ds h Q => match ds with
  | [.lis xs] => ∃ ns : List Int, xs = ns.map .int ∧ Q (.int ns.sum) h
  | _ => False
theorem rds_ints_inv {h : DH} {H : Hp} : ∀ {ns : List Int} {vs : List V}, RDs K h H (ns.map D.int) vs → vs = ns.map V.int
  | [], vs, r => r
  | n :: ns, vs, r => by
    obtain ⟨v, w, rfl, r1, r2⟩ := r
    rw [show v = .int n from r1, rds_ints_inv r2]
    rfl
theorem cl_sum : CallL K (rSum K) caSum := by
  intro ds vs h H Q' Q r hr q f
  unfold caSum at q
  split at q
  · obtain ⟨ns, rfl, q⟩ := q
    obtain ⟨v, rfl, a, ws, rfl, n, t, rs⟩ := r.one
    cases rds_ints_inv rs
    exact ⟨a, ns, rfl, SqL.of t, f (.int _) h _ H .refl hr rfl q⟩
  · exact q.elim
end
end DL

set_option Elab.async false
set_option linter.all false
set_option maxRecDepth 100000
/-! DL4: slices, statements, loops, comprehensions, defs, over data. -/
namespace DL
open PySem PySem.Spec PyProof.Rows L2
/-! ### slices -/
section
variable {prog : Program} {w : World} {A : Around} {E : Value → Shared → Prop} {s : Shared}
/-- the whole tuple is itself -/
theorem tuple_whole {t sl : Addr} {items : Array Value} {vl vu : Value} {lo hi : Option Int} {Q : Value → Shared → Prop}
    (ht : IsTup s.heap t items) (hs : s.heap.IsSliceOf sl vl vu .none) (pl : IsPart vl lo) (pu : IsPart vu hi)
    (w1 : HT.sIx items.size 0 lo = 0) (w2 : HT.sIx items.size items.size hi = items.size)
    (h : Q (.ref t) s) : wpAny (model prog w) A (getItem (.ref t) (.ref sl)) Q E s := by
  obtain ⟨os, hos, hcs, hds⟩ := id hs
  have tS : s.TypeIs (.ref sl) "slice" := ⟨os, hos, hcs⟩
  unfold getItem
  try with_reducible refine wpAny_holding ?_
  first
    | refine wpAny_bind (wpAny_pure ?_)
    | skip
  refine wpAny_bind (wpAny_sequenceKey ht.typeIs
    (by decide) ?_)
  refine wpAny_bind (wpAny_callSpecial?_slot
    (name := Str.ofString "__getitem__") ht.typeIs slot_tuple_getitem
    (wpAny_call_entry slot_tuple_getitem ht.typeIs
      entry_tuple_getitem ?_ (args_tuple_getitem _ _)))
  show wpAny _ _ (Builtin.Tuple.tupleItemsOf (.ref t)
    >>= _) _ _ s
  refine wpAny_bind (tupleItemsOf_ ht
    ?_)
  refine wpAny_bind (wpAny_typeOf tS ?_)
  rw [if_pos (by
    decide)]
  refine wpAny_bind (HT.sliceApplied_gen hs pl pu ?_)
  rw [w1, w2]
  have yes : ((((0 : Nat) : Int) == 0 && (1 : Int) == 1 && (items.size - 0) == items.size) = true) := by simp
  show wpAny _ _ (if ((((0 : Nat) : Int) == 0 && (1 : Int) == 1 && (items.size - 0) == items.size) = true) then _ else _) _ _ s
  rw [if_pos yes]
  refine wpAny_bind ?_
  unfold Builtin.Tuple.tupleIsExact
  refine wpAny_bind (wpAny_typeOf ht.typeIs (wpAny_pure ?_))
  rw [if_pos (by decide)]
  exact wpAny_bind (wpAny_rule (wpAny_pure ⟨_, rfl, wpAny_pure h⟩))
end
section
variable {X : Cx} {Y : Wsh} {K : PySem.W.Frag} {pos : Pos}
def rSlW (K : PySem.W.Frag) : V → Option Int → Option Int → Hp → VK → Prop := fun x lo hi H Q => ∃ a xs, x = .ref a ∧ SqT K H a xs ∧
  (HT.sIx xs.length 0 lo = 0 ∧ HT.sIx xs.length xs.length hi = xs.length → Q (.ref a) H) ∧ Nt Q H (cutV xs lo hi)
theorem sl_W : SlR X (rSlW X.K) := by
  intro pins s σ H x v vl vu lo hi sl Q I rx hs pl pu h
  obtain ⟨a, xs, rfl, hx, q1, q2⟩ := h
  by_cases hw : HT.sIx xs.length 0 lo = 0 ∧ HT.sIx xs.length xs.length hi = xs.length
  · cases rx
    obtain ⟨its, r, ht, hz⟩ := I.tuple hx
    have hlen : its.toArray.size = xs.length := by rw [List.size_toArray]; exact r.length.symm
    refine ⟨"tuple", _, slot_tuple_getitem.lookup, ht.typeIs, ?_⟩
    exact tuple_whole ht hs pl pu (by rw [hlen]; exact hw.1) (by rw [hlen]; exact hw.2) ⟨.ref a, H, I, rfl, q1 hw⟩
  · cases rx
    obtain ⟨its, r, ht, hz⟩ := I.tuple hx
    have hlen : its.toArray.size = xs.length := by rw [List.size_toArray]; exact r.length.symm
    refine ⟨"tuple", _, slot_tuple_getitem.lookup, ht.typeIs, ?_⟩
    refine HT.getItem_tuple_cut ht hs pl pu (by rw [hlen]; exact hw) ?_ (by rw [hlen]; exact hz)
    rw [hlen]
    refine ⟨V.ref s.heap.objs.size, _, I.laid (o := .frz ⟨.type "tuple", none, .seq (List.take (HT.sIx xs.length xs.length hi - HT.sIx xs.length 0 lo) (its.drop (HT.sIx xs.length 0 lo))).toArray 0, #[]⟩ (.tup (cutV xs lo hi))) (t' := s.toks) (fun b u e => Heap.get?_push_of_some _ e) (Nat.le_refl _) ?_, rfl, q2 _ _ rfl (I.hok.fresh (Nat.le_refl _))⟩
    exact ⟨Heap.get?_push_size _ rfl, Nat.le_trans (cutV_length xs lo hi) hz, _, (r.drop (HT.sIx xs.length 0 lo)).take (HT.sIx xs.length xs.length hi - HT.sIx xs.length 0 lo), IsTup.new _ _⟩
abbrev TO' := St' → DH → (Option Int → DH → Prop) → Prop
def lO (K : PySem.W.Frag) (Y : Wsh) (t : TO') : TO := fun σ H Q => ∃ τ h Q', At K Y h H σ τ ∧ t τ h Q' ∧ ∀ o h' H', KP h H h' H' → HR K h' H' → Q' o h' → Q o H'
def DO' (X : Cx) (Y : Wsh) (e : Option Expr) (t : TO') : Prop := PO X e (lO X.K Y t)
def tpn : TO' := fun _ h Q => Q none h
def isI (x : D) (k : Int → Prop) : Prop := match x with | .int i => k i | _ => False
def tpe (t : TE') : TO' := fun τ h Q => t τ h fun x h1 => isI x fun i => Q (some i) h1
theorem PO.imp {e : Option Expr} {t u : TO} (p : PO X e t) (h : ∀ σ H Q, u σ H Q → t σ H Q) : PO X e u := ⟨fun pins s σ H Q I q => p.run pins s σ H Q I (h σ H Q q)⟩
theorem do_none : DO' X Y none tpn := PO.imp po_none fun σ H Q ⟨τ, h, Q', at', q, f⟩ => f none h H .refl at'.hr q
theorem do_some {e : Expr} {te : TE'} (p : DE X Y e te) : DO' X Y (some e) (tpe te) := PO.imp (po_some p) fun σ H Q ⟨τ, h, Q', at', q, f⟩ => ⟨τ, h, _, at', q, fun x h1 v H1 k1 hr1 rx q1 => by
  cases x with
  | int i => exact ⟨i, rx, f (some i) h1 H1 k1 hr1 q1⟩
  | _ => exact q1.elim⟩
def cutD (xs : List D) (lo hi : Option Int) : List D := (xs.drop (HT.sIx xs.length 0 lo)).take (HT.sIx xs.length xs.length hi - HT.sIx xs.length 0 lo)
theorem RDs.cut {h : DH} {H : Hp} {ds : List D} {vs : List V} (r : RDs K h H ds vs) (lo hi : Option Int) : RDs K h H (cutD ds lo hi) (cutV vs lo hi) := by
  unfold cutD cutV
  rw [r.length]
  exact RDs.take _ (RDs.drop _ r)
theorem cutD_all {xs : List D} {lo hi : Option Int} (h : HT.sIx xs.length 0 lo = 0 ∧ HT.sIx xs.length xs.length hi = xs.length) : cutD xs lo hi = xs := by
  unfold cutD
  rw [h.1, h.2]
  simp
/-- x[lo:hi] -/
def slD (x : D) (lo hi : Option Int) (h : DH) (Q : VK') : Prop := match x with
  | .tup ds => Q (.tup (cutD ds lo hi)) h
  | .lis ds => Q (.lis (cutD ds lo hi)) h
  | .ref a => ∃ ds, h a = some (.lst ds) ∧ Q (.lis (cutD ds lo hi)) h
  | _ => False
def rSlA (K : PySem.W.Frag) : V → Option Int → Option Int → Hp → VK → Prop := fun x lo hi H Q => rSlW K x lo hi H Q ∨ rSlL K x lo hi H Q
theorem sl_A : SlR X (rSlA X.K) := sl_W.or sl_list
def tsl (te : TE') (tl th : TO') : TE' := fun τ h Q => te τ h fun x h1 => tl τ h1 fun l h2 => th τ h2 fun u h3 => slD x l u h3 Q
theorem de_slice {e : Expr} {lo hi : Option Expr} {te : TE'} {tl th : TO'} {p2 : Pos} (he : DE X Y e te) (hl : DO' X Y lo tl) (hu : DO' X Y hi th) : DE X Y (.Subscript e (.Slice lo hi none p2) pos) (tsl te tl th) :=
  (pe_slice sl_A he hl hu).imp fun σ H Q ⟨τ, h, Q', at', q, f⟩ => ⟨τ, h, _, at', q, fun x h1 v H1 k1 hr1 rx q1 => ⟨τ, h1, _, at'.after k1 hr1, q1, fun l h2 H2 k2 hr2 q2 => ⟨τ, h2, _, at'.after (k1.trans k2) hr2, q2, fun u h3 H3 k3 hr3 q3 => by
    have f3 := f.after (k1.trans (k2.trans k3))
    have rx3 := RD.mono (k2.trans k3) _ _ rx
    cases x with
    | tup ds =>
      have r0 := rx3
      obtain ⟨a, vs, rfl, t, r⟩ := rx3
      refine .inl ⟨a, vs, rfl, t.sq, fun z => ?_, f3.tup hr3 (r.cut l u) q3⟩
      rw [r.length] at z
      exact f3 (.tup (cutD ds l u)) h3 _ H3 .refl hr3 (by rw [cutD_all z]; exact r0) q3
    | lis ds =>
      obtain ⟨a, vs, rfl, n, t, r⟩ := rx3
      exact .inr ⟨a, vs, rfl, SqL.of t, f3.lis hr3 (r.cut l u) q3⟩
    | ref a =>
      obtain ⟨ds, e, q3⟩ := q3
      obtain ⟨vs, t, r⟩ := hr3.lst e
      exact .inr ⟨a, vs, rx3, SqL.of t, f3.lis hr3 (r.cut l u) q3⟩
    | _ => exact q3.elim⟩⟩⟩

/-! ### statements -/
variable {st : Stmt} {rest : List Stmt} {t u : TS'} {e : Expr} {te : TE'}
def tnx : TS' := fun D τ h => D.nx τ h
def tseq (t u : TS') : TS' := fun D τ h => t { D with nx := u D } τ h
theorem dss_nil : DSs X Y [] tnx := pss_nil.imp fun D σ H ⟨τ, h, D', at', q, f⟩ => f.nx τ h σ H .refl at'.hr at'.len at'.sr q
theorem dss_cons (h1 : DS X Y st t) (h2 : DSs X Y rest u) : DSs X Y (st :: rest) (tseq t u) := (pss_cons h1 h2).imp fun D σ H ⟨τ, h, D', at', q, f⟩ =>
  ⟨τ, h, { D' with nx := u D' }, at', q, ⟨fun τ2 h2 σ2 H2 k2 hr2 l2 s2 q2 => ⟨τ2, h2, D', at'.next k2 hr2 l2 s2, q2, f.after k2⟩, f.rt, f.bk, f.ct⟩⟩
theorem dss_one (h1 : DS X Y st t) : DSs X Y [st] t := pss_one h1
theorem ds_pass : DS X Y (.Pass pos) tnx := ps_pass.imp fun D σ H ⟨τ, h, D', at', q, f⟩ => f.nx τ h σ H .refl at'.hr at'.len at'.sr q
def tbr : TS' := fun D τ h => D.bk τ h
def tct : TS' := fun D τ h => D.ct τ h
theorem ds_break : DS X Y (.Break pos) tbr := ps_break.imp fun D σ H ⟨τ, h, D', at', q, f⟩ => f.bk τ h σ H .refl at'.hr at'.len at'.sr q
theorem ds_continue : DS X Y (.Continue pos) tct := ps_continue.imp fun D σ H ⟨τ, h, D', at', q, f⟩ => f.ct τ h σ H .refl at'.hr at'.len at'.sr q
def tdrop (te : TE') : TS' := fun D τ h => te τ h fun _ h1 => D.nx τ h1
theorem ds_expr (he : DE X Y e te) (hs : swapsWith e none pos.line X.env = pure false := by rfl) : DS X Y (.Expr e pos) (tdrop te) := (ps_expr he hs).imp fun D σ H ⟨τ, h, D', at', q, f⟩ =>
  ⟨τ, h, _, at', q, fun _ h1 _ H1 k1 hr1 _ q1 => f.nx τ h1 σ H1 k1 hr1 at'.len (at'.sr.mono k1) q1⟩
def tret (te : TE') : TS' := fun D τ h => te τ h D.rt
theorem ds_ret (he : DE X Y e te) : DS X Y (.Return (some e) pos) (tret te) := (ps_ret he).imp fun D σ H ⟨τ, h, D', at', q, f⟩ => ⟨τ, h, _, at', q, f.rt⟩
def tretn : TS' := fun D _ h => D.rt .non h
theorem ds_retn : DS X Y (.Return none pos) tretn := ps_retN.imp fun D σ H ⟨τ, h, D', at', q, f⟩ => f.rt .non h _ H .refl at'.hr rfl q
def tifs (c : TT') (t u : TS') : TS' := fun D τ h => c τ h fun b h1 => if b = true then t D τ h1 else u D τ h1
theorem ds_if {c : Expr} {a b : List Stmt} {tc : TT'} (hc : DT X Y c tc) (ha : DSs X Y a t) (hb : DSs X Y b u) : DS X Y (.If c a b pos) (tifs tc t u) := (ps_if hc ha hb).imp fun D σ H ⟨τ, h, D', at', q, f⟩ =>
  ⟨τ, h, _, at', q, fun b h1 H1 k1 hr1 q1 => by
    cases b with
    | true => rw [if_pos rfl] at q1 ⊢; exact ⟨τ, h1, D', at'.after k1 hr1, q1, f.after k1⟩
    | false => rw [if_neg Bool.false_ne_true] at q1 ⊢; exact ⟨τ, h1, D', at'.after k1 hr1, q1, f.after k1⟩⟩
/-! or of tests that change nothing -/
def PuE (t : TE') : Prop := ∀ τ h Q, t τ h Q → ∃ d, Q d h
def PuT (t : TT') : Prop := ∀ τ h R, t τ h R → ∃ d, R d h
def PuR (r : DR2) : Prop := ∀ x y h Q, r x y h Q → ∃ d, Q d h
theorem pu_tv {i : Nat} : PuE (tv i) := fun _ _ _ ⟨d, _, q⟩ => ⟨d, q⟩
theorem pu_tc {d : D} : PuE (tc d) := fun _ _ _ q => ⟨d, q⟩
theorem pu_to {r : DR2} {ta tb : TE'} (hr : PuR r) (ha : PuE ta) (hb : PuE tb) : PuE (to r ta tb) := fun τ h Q q => by
  obtain ⟨x, q⟩ := ha τ h _ q
  obtain ⟨y, q⟩ := hb τ h _ q
  exact hr x y h _ q
theorem pu_I2 {C : Int → Int → Prop} {g : Int → Int → D} : PuR (opI2 C g) := fun x y h Q q => by
  unfold opI2 at q
  split at q
  · exact ⟨_, q.2⟩
  · exact q.elim
theorem pu_eq : PuR opEq := fun x y h Q q => by
  unfold opEq at q
  split at q
  · exact ⟨_, q⟩
  · exact ⟨_, q.2.2⟩
theorem pu_ne : PuR opNe := fun x y h Q q => by
  unfold opNe at q
  split at q
  · exact ⟨_, q⟩
  · exact ⟨_, q.2.2⟩
theorem pu_tb {t : TE'} (h : PuE t) : PuT (tb' t) := fun τ g R q => by
  obtain ⟨x, q⟩ := h τ g _ q
  cases x with
  | bl c => exact ⟨c, q⟩
  | _ => exact q.elim
def torp (t u : TT') : TT' := fun τ h R => t τ h fun c h1 => u τ h1 fun d h2 => R (c || d) h2
theorem pu_orp {t u : TT'} (ht : PuT t) (hu : PuT u) : PuT (torp t u) := fun τ h R q => by
  obtain ⟨c, q⟩ := ht τ h _ q
  obtain ⟨d, q⟩ := hu τ h _ q
  exact ⟨_, q⟩
theorem dw_orp {a b : Expr} {rs : List Expr} {tA tB : TT'} (pu : PuT tB) (ha : DT X Y a tA) (hb : DW X Y (.BoolOp .Or (b :: rs) pos) tB) : DW X Y (.BoolOp .Or (a :: b :: rs) pos) (torp tA tB) := L2.PW.imp (pw_or ha hb) fun σ H Q ⟨τ, h, Q', at', q, f⟩ => by
  refine ⟨τ, h, _, at', q, fun c h1 H1 k1 hr1 q1 => ?_⟩
  cases c with
  | true =>
    rw [if_pos rfl]
    obtain ⟨d, q2⟩ := pu τ h1 _ q1
    exact f _ h1 H1 k1 hr1 q2
  | false =>
    rw [if_neg Bool.false_ne_true]
    exact ⟨τ, h1, _, at'.after k1 hr1, q1, fun d h2 H2 k2 hr2 q2 => f _ h2 H2 (k1.trans k2) hr2 (by rw [Bool.false_or] at q2; exact q2)⟩
/-- where ways meet again -/
def tmid (t : TS') : TS' := fun D τ h => ∃ M : St' → DH → Prop, t { D with nx := M } τ h ∧ ∀ τ' h', M τ' h' → D.nx τ' h'
theorem ds_mid (p : DS X Y st t) : DS X Y st (tmid t) := L2.PS.imp p fun D σ H ⟨τ, h, E, at', ⟨M, q, m⟩, f⟩ =>
  ⟨τ, h, { E with nx := M }, at', q, ⟨fun τ2 h2 σ2 H2 k2 hr2 l2 s2 q2 => f.nx τ2 h2 σ2 H2 k2 hr2 l2 s2 (m τ2 h2 q2), f.rt, f.bk, f.ct⟩⟩
def tnever : TS' := fun _ _ _ => False
theorem dss_never {sts : List Stmt} : DSs X Y sts tnever := pss_never.imp fun _ _ _ ⟨_, _, _, _, q, _⟩ => q.elim

/-! ### targets, assignments -/
def gn (i : Nat) : TG' := fun d τ h Q => Q (τ.set i (some d)) h
theorem dg_name {i : Nat} {x : Str} (hN : X.N.Nodup) (hi : X.N[i]? = some x) (hx : Loc X.env.scope x) (hf : X.fn x = true ∨ X.env.scope.names.lookup x = some .local := by first | exact .inl rfl | exact .inr rfl | assumption) : DG X Y (.Name x pos) (gn i) :=
  (pg_name hN hi hx hf).imp fun v σ H Q ⟨d, τ, h, Q', at', r, q, f⟩ => f _ h _ H .refl at'.hr (by rw [List.length_set, List.length_set]; exact at'.len) (at'.sr.set at'.len r) q
def gni : TGs' := fun ds τ h Q => ds = [] ∧ Q τ h
def gco (t : TG') (u : TGs') : TGs' := fun ds τ h Q => ∃ d r, ds = d :: r ∧ t d τ h fun τ1 h1 => u r τ1 h1 Q
theorem dgs_nil : DGs X Y [] gni := pgs_nil.imp fun v σ H Q ⟨ds, τ, h, Q', at', r, ⟨e, q⟩, f⟩ => by
  subst e
  cases (show v = [] from r)
  exact ⟨rfl, f τ h σ H .refl at'.hr at'.len at'.sr q⟩
theorem dgs_cons {e : Expr} {es : List Expr} {t : TG'} {u : TGs'} (h1 : DG X Y e t) (h2 : DGs X Y es u) (hs : (assignEach (e :: es) X.env).map (·.2) = assign e X.env :: (assignEach es X.env).map (·.2) := by rfl) : DGs X Y (e :: es) (gco t u) :=
  (pgs_cons h1 h2 hs).imp fun vs σ H Q ⟨ds, τ, h, Q', at', r, ⟨d, ds', e, q⟩, f⟩ => by
    subst e
    obtain ⟨v, ws, rfl, r1, r2⟩ := r
    exact ⟨v, ws, rfl, d, τ, h, _, at', r1, q, fun τ1 h1 σ1 H1 k1 hr1 l1 s1 q1 => ⟨ds', τ1, h1, Q', at'.next k1 hr1 l1 s1, RDs.mono k1 _ _ r2, q1, f.after k1⟩⟩
/-- a, b = a tuple of that length -/
def gtup (n : Nat) (t : TGs') : TG' := fun d τ h Q => match d with | .tup ds => ds.length = n ∧ t ds τ h Q | _ => False
theorem dg_tup {es : List Expr} {k : Nat} {t : TGs'} {n : Nat} (hc : X.calm = true) (p : DGs X Y es t) (hn : (assignEach es X.env).length = n := by rfl) (hst : (assignEach es X.env).findIdx? (·.1) = none := by rfl) : DG X Y (.Tuple es k pos) (gtup n t) :=
  (pg_tup hc p hn hst).imp fun v σ H Q ⟨d, τ, h, Q', at', r, q, f⟩ => by
    cases d with
    | tup ds =>
      obtain ⟨a, vs, rfl, t, rs⟩ := r
      exact ⟨a, vs, rfl, t.sq, by rw [rs.length]; exact q.1, ds, τ, h, Q', at', rs, q.2, f⟩
    | _ => exact q.elim
/-- o[i] = d of an own list -/
def setD (o i d : D) (h : DH) (Q : DH → Prop) : Prop := match o with
  | .ref a => isI i fun k => ∃ ds, h a = some (.lst ds) ∧ ∃ j, ixN ds.length k = some j ∧ Q (put h a (.lst (ds.set j d)))
  | _ => False
def gsub (to ti : TE') : TG' := fun d τ h Q => to τ h fun o h1 => ti τ h1 fun i h2 => setD o i d h2 fun h3 => Q τ h3
theorem dg_sub {o i : Expr} {to ti : TE'} (ho : DE X Y o to) (hi : DE X Y i ti) (ha : ∀ v, assign (.Subscript o i pos) X.env v = (do
      let ov ← holding [v] (eval o X.env)
      let iv ← holding [v, ov] (eval i X.env)
      standAt pos
      holding [v, ov, iv] (setItem ov iv v)
      release [v, ov, iv] []) := by intro _; rfl) : DG X Y (.Subscript o i pos) (gsub to ti) :=
  (pg_sub ho hi set_list ha).imp fun v σ H Q ⟨d, τ, h, Q', at', r, q, f⟩ => ⟨τ, h, _, at', q, fun x h1 xv H1 k1 hr1 rx q1 => ⟨τ, h1, _, at'.after k1 hr1, q1, fun y h2 yv H2 k2 hr2 ry q2 => by
    cases x with
    | ref a =>
      cases y with
      | int k =>
        obtain ⟨ds, e, j, ej, q2⟩ := q2
        obtain ⟨vs, t, rs⟩ := hr2.lst e
        have r2 := RD.mono (k1.trans k2) _ _ r
        have kw : KP h2 H2 (put h2 a (.lst (ds.set j d))) (upd H2 a (.lst (vs.set j v))) := KP.wr e
        refine ⟨a, vs, k, j, rx, ry, t, by rw [rs.length]; exact ej, ?_⟩
        exact f τ _ σ _ (k1.trans (k2.trans kw)) (hr2.wr e (rs.set r2 j)) at'.len (at'.sr.mono (k1.trans (k2.trans kw))) q2
      | _ => exact q2.elim
    | _ => exact q2.elim⟩⟩
def tasg (te : TE') (g : TG') : TS' := fun D τ h => te τ h fun x h1 => g x τ h1 D.nx
theorem asg_imp {g : TG'} {D : Ends} {σ : L2.St} {H : Hp} (q : lS K Y (tasg te g) D σ H) : tAsg (lE K Y te) (lG K Y g) D σ H := by
  obtain ⟨τ, h, D', at', q, f⟩ := q
  exact ⟨τ, h, _, at', q, fun x h1 v H1 k1 hr1 rx q1 => ⟨x, τ, h1, _, at'.after k1 hr1, rx, q1, f.nx.after k1⟩⟩
theorem ds_asg {tg e : Expr} {g : TG'} (he : DE X Y e te) (hg : DG X Y tg g) (hs : swapsWithSole [tg] e pos.line X.env = pure false := by rfl) (hw : swappedStores [tg] e X.env = pure none := by rfl)
    (h1 : (assignEach [tg] X.env).map (·.2) = [assign tg X.env] := by rfl) : DS X Y (.Assign [tg] e pos) (tasg te g) := (ps_asg he hg hs hw h1).imp fun _ _ _ q => asg_imp q
theorem ds_set {i : Nat} {x : Str} {e : Expr} {pos' : Pos} (hN : X.N.Nodup) (hi : X.N[i]? = some x) (hx : Loc X.env.scope x) (he : DE X Y e te) (hs : swapsWith e (some (.Name x pos')) pos.line X.env = pure false := by rfl) (hf : X.fn x = true ∨ X.env.scope.names.lookup x = some .local := by first | exact .inl rfl | exact .inr rfl | assumption) :
    DS X Y (.Assign [.Name x pos'] e pos) (tasg te (gn i)) := (ps_set hN hi hx he hs hf).imp fun D σ H ⟨τ, h, D', at', q, f⟩ =>
  ⟨τ, h, _, at', q, fun x h1 v H1 k1 hr1 rx q1 => f.nx _ h1 _ H1 k1 hr1 (by rw [List.length_set, List.length_set]; exact at'.len) ((at'.sr.mono k1).set at'.len rx) q1⟩
/-- xs.append(d) of an own list -/
def tapp (ta tb : TE') : TE' := fun τ h Q => ta τ h fun x h1 => match x with
  | .ref a => (∃ es, h1 a = some (.lst es)) ∧ tb τ h1 fun y h2 => ∃ ds, h2 a = some (.lst ds) ∧ ds.length < sizeLine ∧ Q .non (put h2 a (.lst (ds ++ [y])))
  | _ => False
end
end DL

set_option Elab.async false
set_option linter.all false
set_option maxRecDepth 100000
/-! DL5: methods of lists, loops, comprehensions, defs, the law's end, over data. -/
namespace DL
open PySem PySem.Spec PyProof.Rows L2
section
variable {X : Cx} {Y : Wsh} {K : PySem.W.Frag} {pos : Pos}
/-! ### methods of built-in types -/
abbrev DM := D → List D → DH → VK' → Prop
def MtL (K : PySem.W.Frag) (r : V → List V → Hp → VK → Prop) (r' : DM) : Prop := ∀ x ds v vs h H Q' Q, RD K h H x v → RDs K h H ds vs → HR K h H → r' x ds h Q' → Fin K h H Q' Q → r v vs H Q
def TyL (K : PySem.W.Frag) (T : String) (t : D → DH → Prop) : Prop := ∀ x v h H, RD K h H x v → HR K h H → t x h → tyV K T v H
def tbm (t : D → DH → Prop) (r : DM) (to : TE') (ta : TA') : TE' := fun τ h Q => to τ h fun x h1 => t x h1 ∧ ta τ h1 fun ds h2 => r x ds h2 Q
def isLs (x : D) (h : DH) : Prop := match x with | .ref a => ∃ ds, h a = some (.lst ds) | .lis _ => True | .scr _ => True | _ => False
theorem ty_lst : TyL K "list" isLs := by
  intro x v h H r hr t
  cases x with
  | ref a =>
    obtain ⟨ds, e⟩ := t
    obtain ⟨vs, e2, _⟩ := hr.lst e
    cases (show v = .ref a from r)
    exact .inl ⟨rfl, vs, SqL.of e2⟩
  | lis ds => obtain ⟨a, vs, rfl, n, e, _⟩ := r; exact .inl ⟨rfl, vs, SqL.of e⟩
  | scr ns => obtain ⟨a, rfl, e⟩ := r; exact .inl ⟨rfl, _, e.sq⟩
  | _ => exact t.elim
def isSt (x : D) (_ : DH) : Prop := match x with | .str _ => True | _ => False
theorem ty_str : TyL K "str" isSt := by
  intro x v h H r hr t
  cases x with
  | str s => cases (show v = .str s from r); rfl
  | _ => exact t.elim
theorem bm_imp {T : String} {t : D → DH → Prop} {r : V → List V → Hp → VK → Prop} {r' : DM} {to : TE'} {ta : TA'} (hT : TyL K T t) (hl : MtL K r r') {σ : L2.St} {H : Hp} {Q : VK} (q : lE K Y (tbm t r' to ta) σ H Q) : tBM K T r (lE K Y to) (lA K Y ta) σ H Q := by
  obtain ⟨τ, h, Q', at', q, f⟩ := q
  exact ⟨τ, h, _, at', q, fun x h1 v H1 k1 hr1 rx q1 => ⟨hT x v h1 H1 rx hr1 q1.1, τ, h1, _, at'.after k1 hr1, q1.2, fun ds h2 vs H2 k2 hr2 rs q2 => hl x ds v vs h2 H2 Q' Q (RD.mono k2 _ _ rx) rs hr2 q2 (f.after (k1.trans k2))⟩⟩
def mApp : DM := fun x ds h Q => match x, ds with
  | .ref a, [y] => ∃ xs, h a = some (.lst xs) ∧ xs.length < sizeLine ∧ Q .non (put h a (.lst (xs ++ [y])))
  | _, _ => False
theorem ml_app : MtL K rAppend mApp := by
  intro x ds v vs h H Q' Q rx rs hr q f
  unfold mApp at q
  split at q
  · obtain ⟨xs, e, z, q⟩ := q
    obtain ⟨w, rfl, r1⟩ := rs.one
    obtain ⟨ws, t, r⟩ := hr.lst e
    exact ⟨_, ws, w, rx, rfl, t, by rw [r.length]; exact z, f .non _ _ _ (KP.wr e) (hr.wr e (r.append (.cons r1 .nil))) rfl q⟩
  · exact q.elim
def mExt : DM := fun x ds h Q => match x, ds with
  | .ref a, [.lis ys] => ∃ xs, h a = some (.lst xs) ∧ xs.length + ys.length ≤ sizeLine ∧ Q .non (put h a (.lst (xs ++ ys)))
  | .ref a, [.ref b] => ∃ xs ys, h a = some (.lst xs) ∧ h b = some (.lst ys) ∧ xs.length + ys.length ≤ sizeLine ∧ Q .non (put h a (.lst (xs ++ ys)))
  | _, _ => False
theorem ml_ext : MtL K rExtend mExt := by
  intro x ds v vs h H Q' Q rx rs hr q f
  unfold mExt at q
  split at q
  · obtain ⟨xs, e, z, q⟩ := q
    obtain ⟨w, rfl, b, zs, rfl, n, t2, r2⟩ := rs.one
    obtain ⟨ws, t, r⟩ := hr.lst e
    exact ⟨_, b, ws, zs, rx, rfl, t, t2, by rw [r.length, r2.length]; exact z, f .non _ _ _ (KP.wr e) (hr.wr e (r.append r2)) rfl q⟩
  · obtain ⟨xs, ys, e, e2, z, q⟩ := q
    obtain ⟨w, rfl, r1⟩ := rs.one
    obtain ⟨ws, t, r⟩ := hr.lst e
    obtain ⟨zs, t2, r2⟩ := hr.lst e2
    exact ⟨_, _, ws, zs, rx, by rw [show w = _ from r1], t, t2, by rw [r.length, r2.length]; exact z, f .non _ _ _ (KP.wr e) (hr.wr e (r.append r2)) rfl q⟩
  · exact q.elim
section
variable {o e : Expr} {es : List Expr} {to' : TE'} {ta : TA'} {nm : Str} {T id : String} {r : V → List V → Hp → VK → Prop} {r' : DM} {t : D → DH → Prop} {ap : Pos}
end

/-! ### what a for walks -/
structure WalksD (K : PySem.W.Frag) (J : It) (xs : List D) (C : DH → Prop) (h1 : DH) (H1 : Hp) : Prop where
  stop : ∀ h H, KP h1 H1 h H → HR K h H → C h → J.stop xs.length H
  go : ∀ h H (i : Nat) d, KP h1 H1 h H → HR K h H → C h → xs[i]? = some d → J.go i H
  yld : ∀ h H (i : Nat) d x H', KP h1 H1 h H → HR K h H → C h → xs[i]? = some d → J.yld i H x H' → KP h H h H' ∧ HR K h H' ∧ RD K h H' d x
abbrev TI' := St' → DH → (List D → (DH → Prop) → DH → Prop) → Prop
def lI (K : PySem.W.Frag) (Y : Wsh) (t : TI') : TI := fun σ H R => ∃ τ h Q', At K Y h H σ τ ∧ t τ h Q' ∧ ∀ xs C h1 H1 J, KP h H h1 H1 → HR K h1 H1 → WalksD K J xs C h1 H1 → Q' xs C h1 → R J H1
def DI (X : Cx) (Y : Wsh) (tg iter : Expr) (t : TI') : Prop := PI X tg iter (lI X.K Y t)
theorem PI.imp {tg iter : Expr} {t u : TI} (p : PI X tg iter t) (h : ∀ σ H R, u σ H R → t σ H R) : PI X tg iter u := ⟨fun pins s σ H R I q => p.run pins s σ H R I (h σ H R q)⟩
/-- a list or a tuple -/
def iSeq (K : PySem.W.Frag) (tl : TE) : TI := fun σ H R => tl σ H fun x H1 => (∃ a, x = .ref a ∧ (∃ xs, SqL K H1 a xs) ∧ R (Itl K a) H1) ∨ (∃ a, x = .ref a ∧ (∃ xs, SqT K H1 a xs) ∧ R (Itt K a) H1)
theorem pi_seq {tg l : Expr} {tl : TE} (hl : PE X l tl) : PI X tg l (iSeq X.K tl) := by
  refine ⟨fun pins s σ H R I h => ?_⟩
  refine thn (hl.run pins s σ H _ I h) fun v s1 ⟨x, H1, I1, r1, q1⟩ => ?_
  have fp : ∀ b ∈ [s1.heap.objs.size], FpOk X pins H1 b := fun b hb => by
    cases (show b = s1.heap.objs.size by simpa using hb)
    exact I1.fpOk (Nat.le_refl _) (I1.hok.fresh (Nat.le_refl _))
  rcases q1 with ⟨a, rfl, ⟨xs, hq⟩, q⟩ | ⟨a, rfl, ⟨xs, hq⟩, q⟩
  · cases r1
    obtain ⟨its, rv, p, hz⟩ := I1.list hq
    refine wpAny_pyIter_list p.isList ⟨s1.heap.objs.size, [s1.heap.objs.size], _, _, H1, rfl, ?_,
      turn_list a _, ⟨_, Heap.get?_push_size _ rfl, rfl, rfl⟩, fp, q⟩
    exact I1.kept (t' := s1.toks) fun b o e => Heap.get?_push_of_some _ e
  · cases r1
    obtain ⟨its, rv, p, hz⟩ := I1.tuple hq
    refine wpAny_pyIter_tuple (show s1.heap.IsTuple a its.toArray from p) ⟨s1.heap.objs.size, [s1.heap.objs.size], _, _, H1, rfl, ?_,
      turn_tuple a _, ⟨_, Heap.get?_push_size _ rfl, rfl, rfl⟩, fp, q⟩
    exact I1.kept (t' := s1.toks) fun b o e => Heap.get?_push_of_some _ e
def tse (t : TE') : TI' := fun τ h Q => t τ h fun x h1 => match x with
  | .tup xs => Q xs (fun _ => True) h1
  | .lis xs => Q xs (fun _ => True) h1
  | .scr ns => Q (ns.map .int) (fun _ => True) h1
  | .ref a => ∃ xs, h1 a = some (.lst xs) ∧ Q xs (fun h => h a = some (.lst xs)) h1
  | _ => False
theorem get_lt {α : Type} {xs : List α} {i : Nat} {d : α} (e : xs[i]? = some d) : i < xs.length := (List.getElem?_eq_some_iff.mp e).1
/-- a list that reads so at each turn -/
theorem walks_list {a : Addr} {xs : List D} {C : DH → Prop} {h1 : DH} {H1 : Hp} (c : ∀ h H, KP h1 H1 h H → HR K h H → C h → ∃ vs, SqL K H a vs ∧ RDs K h H xs vs) : WalksD K (Itl K a) xs C h1 H1 where
  stop := fun h H k hr hc => by
    obtain ⟨vs, s, r⟩ := c h H k hr hc
    exact ⟨vs, s, by rw [r.length]; exact Nat.le_refl _⟩
  go := fun h H i d k hr hc e => by
    obtain ⟨vs, s, r⟩ := c h H k hr hc
    obtain ⟨v, ev, _⟩ := r.get e
    exact ⟨vs, v, s, ev⟩
  yld := fun h H i d x H' k hr hc e y => by
    obtain ⟨vs, s, r⟩ := c h H k hr hc
    obtain ⟨v, ev, rv⟩ := r.get e
    obtain ⟨rfl, y2⟩ := y
    have := y2 vs s
    rw [ev] at this
    cases this
    exact ⟨.refl, hr, rv⟩
theorem walks_tup {a : Addr} {xs : List D} {h1 : DH} {H1 : Hp} {vs : List V} (t : TupAt K h1 H1 a vs) (r1 : RDs K h1 H1 xs vs) : WalksD K (Itt K a) xs (fun _ => True) h1 H1 where
  stop := fun h H k hr hc => ⟨vs, (k.tup t).sq, by rw [r1.length]; exact Nat.le_refl _⟩
  go := fun h H i d k hr hc e => by
    obtain ⟨v, ev, _⟩ := r1.get e
    exact ⟨vs, v, (k.tup t).sq, ev⟩
  yld := fun h H i d x H' k hr hc e y => by
    obtain ⟨v, ev, rv⟩ := r1.get e
    obtain ⟨rfl, y2⟩ := y
    have := y2 vs (k.tup t).sq
    rw [ev] at this
    cases this
    exact ⟨.refl, hr, RD.mono k _ _ rv⟩
theorem di_seq {tg l : Expr} {tl : TE'} (p : DE X Y l tl) : DI X Y tg l (tse tl) := PI.imp (pi_seq p) fun σ H R ⟨τ, h, Q', at', q, f⟩ => ⟨τ, h, _, at', q, fun x h1 v H1 k1 hr1 rx q1 => by
  cases x with
  | tup xs =>
    obtain ⟨a, vs, e, t, r⟩ := rx
    exact .inr ⟨a, e, ⟨vs, t.sq⟩, f _ _ _ _ _ k1 hr1 (walks_tup t r) q1⟩
  | lis xs =>
    obtain ⟨a, vs, e, n, t, r⟩ := rx
    exact .inl ⟨a, e, ⟨vs, SqL.of t⟩, f _ _ _ _ _ k1 hr1 (walks_list fun h2 H2 k2 hr2 _ => ⟨vs, SqL.of (k2 a _ (by rw [n]; rfl) t).2, RDs.mono k2 _ _ r⟩) q1⟩
  | scr ns =>
    obtain ⟨a, e, t⟩ := rx
    exact .inl ⟨a, e, ⟨_, t.sq⟩, f _ _ _ _ _ k1 hr1 (walks_list fun h2 H2 k2 hr2 _ => ⟨_, (k2.scr t).sq, rds_ints ns⟩) q1⟩
  | ref a =>
    obtain ⟨xs, e, q1⟩ := q1
    obtain ⟨vs, t, r⟩ := hr1.lst e
    exact .inl ⟨a, rx, ⟨vs, SqL.of t⟩, f _ _ _ _ _ k1 hr1 (walks_list fun h2 H2 k2 hr2 c => by
      obtain ⟨ws, t2, r2⟩ := hr2.lst c
      exact ⟨ws, SqL.of t2, r2⟩) q1⟩
  | _ => exact q1.elim⟩
/-- lo, lo + 1, .. (n of them) -/
def rngD (lo : Int) (n : Nat) : List D := (List.range n).map fun (i : Nat) => D.int (lo + i)
theorem walks_range {lo : Int} {n : Nat} {h1 : DH} {H1 : Hp} : WalksD K (Itr lo n) (rngD lo n) (fun _ => True) h1 H1 := by
  have len : (rngD lo n).length = n := by unfold rngD; rw [List.length_map, List.length_range]
  have get : ∀ (i : Nat) d, (rngD lo n)[i]? = some d → i < n ∧ d = .int (lo + i) := fun i d e => by
    have hi := get_lt e
    rw [len] at hi
    refine ⟨hi, ?_⟩
    unfold rngD at e
    rw [List.getElem?_map, List.getElem?_range hi] at e
    exact (Option.some.inj e).symm
  refine ⟨fun h H k hr hc => by rw [len]; exact Nat.le_refl _, fun h H i d k hr hc e => (get i d e).1, fun h H i d x H' k hr hc e y => ?_⟩
  obtain ⟨rfl, rfl⟩ := y
  rw [(get i d e).2]
  exact ⟨.refl, hr, rfl⟩
def trg1 (ta : TA') : TI' := fun τ h Q => ta τ h fun ds h1 => match ds with
  | [.int j] => -4611686018427387904 ≤ j ∧ j < 4611686018427387904 ∧ Q (rngD 0 j.toNat) (fun _ => True) h1
  | _ => False
theorem di_rng1 {tg a : Expr} {ta : TA'} {p : Pos} (hg : Gl X "range") (hm : X.mg "range" = none) (ha : DA X Y [a] ta) (hs : starEach [a] X.env = [(false, eval a X.env)] := by rfl) : DI X Y tg (.Call (.Name "range" p) [a] [] pos) (trg1 ta) :=
  PI.imp (pi_range1 hg hm ha hs) fun σ H R ⟨τ, h, Q', at', q, f⟩ => ⟨τ, h, _, at', q, fun ds h1 vs H1 k1 hr1 rs q1 => by
    split at q1
    · obtain ⟨v, rfl, r1⟩ := rs.one
      cases (show v = _ from r1)
      have e : (2 : Int) ^ 62 = 4611686018427387904 := by decide
      exact ⟨_, rfl, by rw [e]; exact q1.1, by rw [e]; exact q1.2.1, f _ _ _ _ _ k1 hr1 walks_range q1.2.2⟩
    · exact q1.elim⟩
def trg2 (ta : TA') : TI' := fun τ h Q => ta τ h fun ds h1 => match ds with
  | [.int i, .int j] => (-4611686018427387904 ≤ i ∧ i < 4611686018427387904 ∧ -4611686018427387904 ≤ j ∧ j < 4611686018427387904) ∧ Q (rngD i (j - i).toNat) (fun _ => True) h1
  | _ => False
theorem di_rng2 {tg a b : Expr} {ta : TA'} {p : Pos} (hg : Gl X "range") (hm : X.mg "range" = none) (ha : DA X Y [a, b] ta) (hs : starEach [a, b] X.env = [(false, eval a X.env), (false, eval b X.env)] := by rfl) (hs2 : starEach [b] X.env = [(false, eval b X.env)] := by rfl) : DI X Y tg (.Call (.Name "range" p) [a, b] [] pos) (trg2 ta) :=
  PI.imp (pi_range2 hg hm ha hs hs2) fun σ H R ⟨τ, h, Q', at', q, f⟩ => ⟨τ, h, _, at', q, fun ds h1 vs H1 k1 hr1 rs q1 => by
    split at q1
    · obtain ⟨v, u, rfl, r1, r2⟩ := rs.two
      cases (show v = _ from r1)
      cases (show u = _ from r2)
      have e : (2 : Int) ^ 62 = 4611686018427387904 := by decide
      exact ⟨_, _, rfl, by rw [e]; exact q1.1, f _ _ _ _ _ k1 hr1 walks_range q1.2⟩
    · exact q1.elim⟩

/-! ### for -/
def forS (g : TG') (tb : TS') (C : DH → Prop) (E : Ends') : List D → St' → DH → Prop
  | [], τ, h => C h ∧ E.nx τ h
  | x :: xs, τ, h => C h ∧ g x τ h fun τ1 h1 => tb { nx := fun τ2 h2 => forS g tb C E xs τ2 h2, rt := E.rt, bk := E.nx, ct := fun τ2 h2 => forS g tb C E xs τ2 h2 } τ1 h1
def tfor (ti : TI') (g : TG') (tb : TS') : TS' := fun E τ h => ti τ h fun xs C h1 => forS g tb C E xs τ h1
theorem drop_cons {α : Type} {xs r : List α} {i : Nat} {x : α} (e : xs.drop i = x :: r) : xs[i]? = some x ∧ xs.drop (i + 1) = r ∧ i < xs.length := by
  have h0 : (xs.drop i)[0]? = some x := by rw [e]; rfl
  rw [List.getElem?_drop] at h0
  refine ⟨h0, ?_, get_lt h0⟩
  rw [← List.tail_drop, e]
  rfl
theorem ds_for {tg iter : Expr} {body : List Stmt} {ti : TI'} {g : TG'} {tb : TS'} (hp : PassesOwn (model X.prog X.w) X.A X.env X.xe) (hc : X.calm = true) (hi : DI X Y tg iter ti) (hg : DG X Y tg g) (hb : DSs X Y body tb)
    (hs : ∀ x, foldedSetIterable iter X.env x = pure x := by intro _; rfl) : DS X Y (.For tg iter body [] pos) (tfor ti g tb) := (ps_for hp hc hi hg hb hs).imp fun D0 σ H ⟨τ, h, E, at', q, f⟩ => by
  refine ⟨τ, h, _, at', q, fun xs C h1 H1 J k1 hr1 wd q1 => ?_⟩
  refine ⟨fun i m σ2 H2 => ∃ τ2 h2, KP h H h2 H2 ∧ KP h1 H1 h2 H2 ∧ HR X.K h2 H2 ∧ τ2.length = σ2.length ∧ SR X.K h2 H2 σ2 τ2 ∧ i + m = xs.length ∧ forS g tb C E (xs.drop i) τ2 h2,
    ⟨xs.length, τ, h1, k1, .refl, hr1, at'.len, at'.sr.mono k1, Nat.zero_add _, q1⟩, fun i m σ2 H2 hW => ?_⟩
  obtain ⟨τ2, h2, k2, kk, hr2, l2, s2, em, q2⟩ := hW
  cases ed : xs.drop i with
  | nil =>
    rw [ed] at q2
    have hl : xs.length ≤ i := by
      have := congrArg List.length ed
      rw [List.length_drop] at this
      simp only [List.length_nil] at this
      omega
    have hi : i = xs.length := by omega
    rw [hi]
    exact .inl ⟨wd.stop h2 H2 kk hr2 q2.1, f.nx τ2 h2 σ2 H2 k2 hr2 l2 s2 q2.2⟩
  | cons x r =>
    rw [ed] at q2
    obtain ⟨ex, er, hlt⟩ := drop_cons ed
    refine .inr ⟨wd.go h2 H2 i x kk hr2 q2.1 ex, fun σ' H' => ∃ τ' h', KP h H h' H' ∧ KP h1 H1 h' H' ∧ HR X.K h' H' ∧ τ'.length = σ'.length ∧ SR X.K h' H' σ' τ' ∧ forS g tb C E (xs.drop (i + 1)) τ' h',
      fun σ' H' ⟨τ', h', a1, a2, a3, a4, a5, a6⟩ => ⟨m - 1, by omega, τ', h', a1, a2, a3, a4, a5, by omega, a6⟩, fun v H3 hy => ?_⟩
    obtain ⟨k3, hr3, rv⟩ := wd.yld h2 H2 i x v H3 kk hr2 q2.1 ex hy
    refine ⟨x, τ2, h2, _, at'.next (k2.trans k3) hr3 l2 (s2.mono k3), rv, q2.2, fun τ4 h4 σ4 H4 k4 hr4 l4 s4 q4 => ?_⟩
    have kb : KP h H h4 H4 := (k2.trans k3).trans k4
    have kc : KP h1 H1 h4 H4 := (kk.trans k3).trans k4
    refine ⟨τ4, h4, _, at'.next kb hr4 l4 s4, q4, ?_⟩
    have again : FinN X.K h4 H4 (fun τ2 h2 => forS g tb C E r τ2 h2) fun σ' H' => ∃ τ' h', KP h H h' H' ∧ KP h1 H1 h' H' ∧ HR X.K h' H' ∧ τ'.length = σ'.length ∧ SR X.K h' H' σ' τ' ∧ forS g tb C E (xs.drop (i + 1)) τ' h' :=
      fun τ5 h5 σ5 H5 k5 hr5 l5 s5 q5 => ⟨τ5, h5, kb.trans k5, kc.trans k5, hr5, l5, s5, by rw [er]; exact q5⟩
    exact ⟨again, f.rt.after kb, f.nx.after kb, again⟩

/-! ### while -/
def twhile (c : TT') (tb : TS') : TS' := fun E τ h => ∃ W : Nat → St' → DH → Prop, (∃ m, W m τ h) ∧ ∀ m τ h, W m τ h →
  c τ h fun b h1 => if b = true then tb { nx := fun τ' h' => ∃ m', m' < m ∧ W m' τ' h', ct := fun τ' h' => ∃ m', m' < m ∧ W m' τ' h', bk := E.nx, rt := E.rt } τ h1 else E.nx τ h1
theorem ds_while {c : Expr} {body : List Stmt} {tc : TT'} {tb : TS'} (hp : PassesOwn (model X.prog X.w) X.A X.env X.xe) (hc : DT X Y c tc) (hb : DSs X Y body tb) : DS X Y (.While c body [] pos) (twhile tc tb) := (ps_while hp hc hb).imp fun D0 σ H ⟨τ, h, E, at', ⟨W, ⟨m0, w0⟩, turn⟩, f⟩ => by
  refine ⟨fun m σ2 H2 => ∃ τ2 h2, KP h H h2 H2 ∧ HR X.K h2 H2 ∧ τ2.length = σ2.length ∧ SR X.K h2 H2 σ2 τ2 ∧ W m τ2 h2, ⟨m0, τ, h, .refl, at'.hr, at'.len, at'.sr, w0⟩, fun m σ2 H2 hW => ?_⟩
  obtain ⟨τ2, h2, k2, hr2, l2, s2, w2⟩ := hW
  refine ⟨τ2, h2, _, at'.next k2 hr2 l2 s2, turn m τ2 h2 w2, fun b h3 H3 k3 hr3 q3 => ?_⟩
  have kb : KP h H h3 H3 := k2.trans k3
  cases b with
  | true =>
    rw [if_pos rfl] at q3
    have again : FinN X.K h3 H3 (fun τ' h' => ∃ m', m' < m ∧ W m' τ' h') fun σ' H' => ∃ τ' h', KP h H h' H' ∧ HR X.K h' H' ∧ τ'.length = σ'.length ∧ SR X.K h' H' σ' τ' ∧ ∃ m', m' < m ∧ W m' τ' h' :=
      fun τ5 h5 σ5 H5 k5 hr5 l5 s5 q5 => ⟨τ5, h5, kb.trans k5, hr5, l5, s5, q5⟩
    refine iteT ⟨fun σ' H' => ∃ τ' h', KP h H h' H' ∧ HR X.K h' H' ∧ τ'.length = σ'.length ∧ SR X.K h' H' σ' τ' ∧ ∃ m', m' < m ∧ W m' τ' h', fun σ' H' ⟨τ', h', a1, a2, a3, a4, m', lt, a5⟩ => ⟨m', lt, τ', h', a1, a2, a3, a4, a5⟩,
      τ2, h3, _, at'.next kb hr3 l2 (s2.mono k3), q3, ⟨again, f.rt.after kb, f.nx.after kb, again⟩⟩
  | false =>
    rw [if_neg Bool.false_ne_true] at q3
    exact iteF (f.nx τ2 h3 σ2 H3 kb hr3 l2 (s2.mono k3) q3)
end
end DL

set_option Elab.async false
set_option linter.all false
set_option maxRecDepth 100000
/-! DL6: method calls, comprehensions, defs, the law's end, over data. -/
namespace DL
open PySem PySem.Spec PyProof.Rows L2
section
variable {X : Cx} {Y : Wsh} {K : PySem.W.Frag} {pos : Pos}
theorem de_bm {o e : Expr} {es : List Expr} {to' : TE'} {ta : TA'} {name : Str} {T id : String} {r : V → List V → Hp → VK → Prop} {r' : DM} {t : D → DH → Prop} {apos cpos : Pos}
    (pa : PlainAttrs T) (slot : Slot T name id) (hty : typeOf (.builtin id) = pure (.type "method_descriptor")) (hm : MtR X id r) (hl : MtL X.K r r') (hT : TyL X.K T t) (ho : DE X Y o to') (ha : DA X Y (e :: es) ta)
    (hbase : attributeBase o name X.env (eval o X.env) = eval o X.env := by rfl)
    (hfew : ((backTo cpos (starEach (e :: es) X.env)).all (fun x => !x.1) && (backToKw cpos (keywordEach [] X.env)).all (fun x => x.1.isSome) && decide ((e :: es).length + ([] : List Keyword).length + (if ([] : List Keyword).isEmpty then 0 else 1) < 30)) = true := by rfl)
    (hline : (apos.endLine == cpos.line) = true := by rfl) (hs : starEach (e :: es) X.env = (false, eval e X.env) :: starEach es X.env := by rfl) (hplain : (backTo cpos (starEach es X.env)).any (·.1) = false := by rfl) :
    DE X Y (.Call (.Attribute o name apos) (e :: es) [] cpos) (tbm t r' to' ta) := (pe_bm pa slot hty hm ho ha hbase hfew hline hs hplain).imp fun _ _ _ q => bm_imp hT hl q
theorem de_append {o e : Expr} {to' : TE'} {ta : TA'} {apos cpos : Pos} (ho : DE X Y o to') (ha : DA X Y [e] ta)
    (hbase : attributeBase o "append" X.env (eval o X.env) = eval o X.env := by rfl)
    (hfew : ((backTo cpos (starEach [e] X.env)).all (fun x => !x.1) && (backToKw cpos (keywordEach [] X.env)).all (fun x => x.1.isSome) && decide (([e] : List Expr).length + ([] : List Keyword).length + (if ([] : List Keyword).isEmpty then 0 else 1) < 30)) = true := by rfl)
    (hline : (apos.endLine == cpos.line) = true := by rfl) (hs : starEach [e] X.env = (false, eval e X.env) :: starEach [] X.env := by rfl) (hplain : (backTo cpos (starEach [] X.env)).any (·.1) = false := by rfl) :
    DE X Y (.Call (.Attribute o "append" apos) [e] [] cpos) (tbm isLs mApp to' ta) := de_bm F.plainAttrs_list F.slot_list_append F.type_list_append mt_append ml_app ty_lst ho ha hbase hfew hline hs hplain

/-! ### comprehensions: one clause, a name -/
def lcS (i : Nat) (tt : TT') (te : TE') (C : DH → Prop) (τ : St') (Q : List D → DH → Prop) : List D → List D → DH → Prop
  | [], acc, h => C h ∧ Q acc h
  | x :: xs, acc, h => C h ∧ tt (τ.set i (some x)) h fun b h1 => if b = true then te (τ.set i (some x)) h1 fun y h2 => acc.length < sizeLine ∧ lcS i tt te C τ Q xs (acc ++ [y]) h2 else lcS i tt te C τ Q xs acc h1
def tlc (ti : TI') (i : Nat) (tt : TT') (te : TE') : TE' := fun τ h Q => ti τ h fun xs C h1 => ∀ p, h1 p = none → lcS i tt te C τ (fun ds h2 => Q (.lis ds) (del h2 p)) xs [] (put h1 p .hid)
def tyes : TT' := fun _ h Q => Q true h
def DTs (X : Cx) (Y : Wsh) (es : List Expr) (t : TT') : Prop := PTs X es (lT X.K Y t)
theorem dts_nil : DTs X Y [] tyes := ⟨fun pins s σ H Q I ⟨τ, h, Q', at', q, f⟩ => pts_nil.run pins s σ H Q I (f true h H .refl at'.hr q)⟩
theorem dts_one {c : Expr} {t : TT'} (p : DT X Y c t) : DTs X Y [c] t := pts_one p
theorem wipe1 (σ : L2.St) (i : Nat) : wipe σ [i] = σ.set i none := rfl
theorem sr_wipe {h : DH} {H : Hp} {σ : L2.St} {τ : St'} {i : Nat} {d : D} {v : V} (r : SR K h H σ τ) (l : τ.length = σ.length) (q : RD K h H d v) : SR K h H ((wipe σ [i]).set i (some v)) (τ.set i (some d)) := by
  rw [wipe1, List.set_set]
  exact r.set l q
theorem lc_imp {ti : TI'} {i : Nat} {tt : TT'} {te : TE'} {σ : L2.St} {H : Hp} {Q : VK} (q : lE K Y (tlc ti i tt te) σ H Q) : tLc (lI K Y ti) (gName i) (lT K Y tt) (lE K Y te) [i] σ H Q := by
  obtain ⟨τ, h, Q', at', q, f⟩ := q
  refine ⟨τ, h, _, at', q, fun xs C h1 H1 J k1 hr1 wd q1 p np => ?_⟩
  have np' : h1 p = none := hr1.fresh np
  have q1 := q1 p np'
  refine ⟨fun j m H2 => ∃ h2 acc accV, KP h1 H1 h2 H2 ∧ HR K h2 H2 ∧ h2 p = some .hid ∧ H2 p = some (.lst accV) ∧ RDs K h2 H2 acc accV ∧ j + m = xs.length ∧ lcS i tt te C τ (fun ds h2 => Q' (.lis ds) (del h2 p)) (xs.drop j) acc h2,
    ⟨xs.length, put h1 p .hid, [], [], KP.newL np, hr1.newH np, put_same, upd_same, rfl, Nat.zero_add _, q1⟩, fun j m H2 hW => ?_⟩
  obtain ⟨h2, acc, accV, k2, hr2, hp, Hp2, ra, em, q2⟩ := hW
  cases ed : xs.drop j with
  | nil =>
    rw [ed] at q2
    have hl : xs.length ≤ j := by
      have := congrArg List.length ed
      rw [List.length_drop] at this
      simp only [List.length_nil] at this
      omega
    have hj : j = xs.length := by omega
    rw [hj]
    refine .inl ⟨wd.stop h2 H2 k2 hr2 q2.1, f (.lis acc) (del h2 p) (.ref p) H2 (fun a o st e => ?_) (fun a o e => ?_) ?_ q2.2⟩
    · obtain ⟨e1, e2⟩ := (k1.trans k2) a o st e
      obtain ⟨_, e3⟩ := k1 a o st e
      have ne : a ≠ p := fun z => by rw [z, np] at e3; cases e3
      exact ⟨by rw [del_ne ne]; exact e1, e2⟩
    · have ne : a ≠ p := fun z => by rw [z, del_same] at e; cases e
      rw [del_ne ne] at e
      exact (hr2 a o e).on (fun b u nb eb => ⟨by by_cases z : b = p; rw [z]; exact del_same; rw [del_ne z]; exact nb, eb⟩) fun _ z => z
    · exact ⟨p, accV, rfl, del_same, Hp2, RDs.monoN (fun b u nb eb => ⟨by by_cases z : b = p; rw [z]; exact del_same; rw [del_ne z]; exact nb, eb⟩) _ _ ra⟩
  | cons x r =>
    rw [ed] at q2
    obtain ⟨ex, er, hlt⟩ := drop_cons ed
    refine .inr ⟨wd.go h2 H2 j x k2 hr2 q2.1 ex, fun H' => ∃ h2 acc accV, KP h1 H1 h2 H' ∧ HR K h2 H' ∧ h2 p = some .hid ∧ H' p = some (.lst accV) ∧ RDs K h2 H' acc accV ∧ lcS i tt te C τ (fun ds h2 => Q' (.lis ds) (del h2 p)) r acc h2,
      fun H' ⟨h', a', v', a1, a2, a3, a4, a5, a6⟩ => ⟨m - 1, by omega, h', a', v', a1, a2, a3, a4, a5, by omega, by rw [er]; exact a6⟩, fun v H3 hy => ?_⟩
    obtain ⟨k3, hr3, rv⟩ := wd.yld h2 H2 j x v H3 k2 hr2 q2.1 ex hy
    have pst : still (h2 p) = true := by rw [hp]; rfl
    have Hp3 := (k3 p _ pst Hp2).2
    have kk := k2.trans k3
    have ra3 := RDs.mono k3 _ _ ra
    refine ⟨by simp only [wipe1, List.set_set], τ.set i (some x), h2, _, at'.next (k1.trans kk) hr3 (by rw [List.length_set, List.length_set, wipe_length]; exact at'.len) (sr_wipe (at'.sr.mono (k1.trans kk)) at'.len rv), q2.2, fun b h4 H4 k4 hr4 q4 => ?_⟩
    have e4 := k4 p _ pst Hp3
    have k14 := kk.trans k4
    have ra4 := RDs.mono k4 _ _ ra3
    cases b with
    | false =>
      rw [if_neg Bool.false_ne_true] at q4
      exact iteF ⟨h4, acc, accV, k14, hr4, e4.1.trans hp, e4.2, ra4, q4⟩
    | true =>
      rw [if_pos rfl] at q4
      refine iteT ⟨τ.set i (some x), h4, _, at'.next (k1.trans k14) hr4 (by rw [List.length_set, List.length_set, wipe_length]; exact at'.len) (sr_wipe (at'.sr.mono (k1.trans k14)) at'.len (RD.mono k4 _ _ rv)), q4, fun y h5 u H5 k5 hr5 ry q5 => ?_⟩
      have pst4 : still (h4 p) = true := by rw [e4.1, hp]; rfl
      have e5 := k5 p _ pst4 e4.2
      have hp5 : h5 p = some .hid := e5.1.trans (e4.1.trans hp)
      have kn : KN h5 H5 h5 (upd H5 p (.lst (accV ++ [u]))) := fun b o nb eb => by
        have ne : b ≠ p := fun z => by rw [z, hp5] at nb; cases nb
        exact ⟨nb, by rw [upd_ne ne]; exact eb⟩
      refine ⟨accV, e5.2, by rw [ra.length]; exact q5.1, h5, acc ++ [y], accV ++ [u], fun a o st e => ?_, fun a o e => ?_, hp5, upd_same, ?_, q5.2⟩
      · obtain ⟨z1, z2⟩ := (k14.trans k5) a o st e
        have ne : a ≠ p := fun z => by rw [z, np] at e; cases e
        exact ⟨z1, by rw [upd_ne ne]; exact z2⟩
      · by_cases z : a = p
        · rw [z, hp5] at e; cases e; rw [z]; exact ⟨_, upd_same⟩
        · exact (hr5 a o e).on kn fun u e1 => by rw [upd_ne z]; exact e1
      · exact RDs.monoN kn _ _ ((RDs.mono k5 _ _ ra4).append (.cons ry .nil))
section
variable {elt iter : Expr} {x : Str} {px : Pos} {ifs : List Expr} {scope : Scope} {i : Nat} {ti : TI'} {tt : TT'} {te : TE'}
theorem de_lc (hc : X.calm = true) (hN : X.N.Nodup) (hi : DI X Y (.Name x px) iter ti) (ok : BlkOk X.N X.env.scope scope [(x, i)])
    (hg : ∀ (s : Shared) (H : Hp) (C : Addr) (cl : List (Str × Addr)) (fp : List Addr), PG (X.blk s H scope (compEnvC scope cl C X.env) fp) (.Name x px) (gName i))
    (ht : ∀ (s : Shared) (H : Hp) (C : Addr) (cl : List (Str × Addr)) (fp : List Addr), DTs (X.blk s H scope (compEnvC scope cl C X.env) fp) Y ifs tt)
    (he : ∀ (s : Shared) (H : Hp) (C : Addr) (cl : List (Str × Addr)) (fp : List Addr), DE (X.blk s H scope (compEnvC scope cl C X.env) fp) Y elt te) (hs : ∀ x, foldedSetIterable iter X.env x = pure x := by intro _; rfl) :
    DE X Y (.ListComp elt [⟨.Name x px, iter, ifs, 0⟩] scope pos) (tlc ti i tt te) := (pe_lc (own := [(x, i)]) (g := gName i) (tt := lT X.K Y tt) (te := lE X.K Y te) hc hN hi ok hg ht he hs).imp fun _ _ _ q => lc_imp q
theorem ds_setlc {j : Nat} {y : Str} {py spos : Pos} (hc : X.calm = true) (hN : X.N.Nodup) (hy : X.N[j]? = some y) (hyl : X.env.scope.names.lookup y = some .local)
    (hsw : swapsWith (.ListComp elt [⟨.Name x px, iter, ifs, 0⟩] scope pos) (some (.Name y py)) spos.line X.env = pure true) (hi : DI X Y (.Name x px) iter ti) (ok : BlkOk X.N X.env.scope scope [(x, i)])
    (hg : ∀ (s : Shared) (H : Hp) (C : Addr) (cl : List (Str × Addr)) (fp : List Addr), PG (X.blk s H scope (compEnvC scope cl C X.env) fp) (.Name x px) (gName i))
    (ht : ∀ (s : Shared) (H : Hp) (C : Addr) (cl : List (Str × Addr)) (fp : List Addr), DTs (X.blk s H scope (compEnvC scope cl C X.env) fp) Y ifs tt)
    (he : ∀ (s : Shared) (H : Hp) (C : Addr) (cl : List (Str × Addr)) (fp : List Addr), DE (X.blk s H scope (compEnvC scope cl C X.env) fp) Y elt te) (hs : ∀ x, foldedSetIterable iter X.env x = pure x := by intro _; rfl) :
    DS X Y (.Assign [.Name y py] (.ListComp elt [⟨.Name x px, iter, ifs, 0⟩] scope pos) spos) (tasg (tlc ti i tt te) (gn j)) :=
  (ps_setLc (own := [(x, i)]) (g := gName i) (tt := lT X.K Y tt) (te := lE X.K Y te) hc hN hy hyl hsw hi ok hg ht he hs).imp fun D σ H ⟨τ, h, D', at', q, f⟩ => lc_imp (Y := Y) ⟨τ, h, _, at', q, fun x h1 v H1 k1 hr1 rx q1 => f.nx _ h1 _ H1 k1 hr1 (by rw [List.length_set, List.length_set]; exact at'.len) ((at'.sr.mono k1).set at'.len rx) q1⟩
end
end

/-! ### a def -/
section
variable {P : Program} {w : World} {K : PySem.W.Frag} {mg : Str → Option Value} {base : Heap}
/-- behind the body: what is left over may be forgotten -/
def ends (Q : VK') : Ends' where
  nx := fun _ h => ∃ h2, Sub h2 h ∧ Q .non h2
  rt := fun d h => ∃ h2, Sub h2 h ∧ Q d h2
def slots (N : List Str) (ds : List D) : St' := ds.map some ++ List.replicate (N.length - ds.length) none
abbrev cxD (P : Program) (w : World) (K : PySem.W.Frag) (mg : Str → Option Value) (base : Heap) (N : List Str) (qual : Str) (st : Stmt) (f : Addr) (cdv : Value) (A : Around) (outer : List Env) (s : Shared) (H : Hp) (E : XK) : Cx :=
  cxOf (L2N.CX P w) P w K mg base N qual (defScope st) f cdv A outer s H E
theorem fnD {x qual : Str} {st : Stmt} {f : Addr} {fd : FuncData} {N ps : List Str} {k : Nat} {sp : Sp'} (F : Fun K x qual st f fd) (S : FnScope N ps (defScope st)) (len : ∀ ds h Q E, sp ds h Q E → ds.length = ps.length)
    (hb : ∀ (cdv : Value) (A : Around) (outer : List Env) (s : Shared) (H : Hp) (E : XK), Room k (A.deeper (envOfC qual (defScope st) s.heap.objs.size f cdv)) → ∀ E' : XK',
      ∃ t, DSs (cxD P w K mg base N qual st f cdv A outer s H E) ⟨E', E⟩ (defBody st) t ∧ ∀ ds h Q, sp ds h Q E' → t (ends Q) (slots N ds) h) : FnD P w K mg base (k + 1) f fd ps sp := by
  obtain ⟨oc, od, kV, doc, pm, an, cdv, ct, osl, rfl, lk, hcd⟩ := F.ex
  refine fn_of lk hcd S (fun vs H Q E h => ?_) fun A outer s H vs Q E hr h => ?_
  · obtain ⟨ds, h, Q', E', rs, _, q, _⟩ := h
    rw [rs.length]
    exact len ds h Q' E' q
  · obtain ⟨ds, h, Q', E', rs, hr', q, fn, fx⟩ := h
    obtain ⟨t, ht, hq⟩ := hb cdv A outer s H E hr E'
    refine ⟨_, ht, slots N ds, h, ends Q', ⟨?_, ?_, hr', fx⟩, hq ds h Q' q, ?_⟩
    · unfold slots L2.start
      rw [List.length_append, List.length_append, List.length_map, List.length_map, List.length_replicate, List.length_replicate, rs.length]
    · intro i d e
      unfold slots at e
      unfold L2.start
      by_cases hi : i < ds.length
      · rw [List.getElem?_append_left (by rw [List.length_map]; exact hi), List.getElem?_map] at e
        cases ed : ds[i]? with
        | none => rw [ed] at e; cases e
        | some d' =>
          rw [ed] at e
          cases e
          obtain ⟨v, ev, rv⟩ := rs.get ed
          refine ⟨v, ?_, rv⟩
          rw [List.getElem?_append_left (by rw [List.length_map, rs.length]; exact hi), List.getElem?_map, ev]
          rfl
      · rw [List.getElem?_append_right (by rw [List.length_map]; omega), List.getElem?_replicate] at e
        split at e <;> cases e
    · refine ⟨fun τ h' σ H' k' hr2 _ _ q2 => ?_, fun d h' v H' k' hr2 rd q2 => ?_, fun _ _ _ _ _ _ _ _ z => z, fun _ _ _ _ _ _ _ _ z => z⟩
      · obtain ⟨h2, sb, q2⟩ := q2
        exact fn .non h2 .non H' (k'.sub sb) (hr2.sub sb) rfl q2
      · obtain ⟨h2, sb, q2⟩ := q2
        exact fn d h2 v H' (k'.sub sb) (hr2.sub sb) (RD.sub sb _ _ rd) q2
theorem FnD.mono {j k : Nat} {f : Addr} {fd : FuncData} {ps : List Str} {sp : Sp'} (F : FnD P w K mg base j f fd ps sp) (h : j ≤ k) : FnD P w K mg base k f fd ps sp := FnOk.mono F h
/-- a weaker promise -/
theorem FnD.imp {k : Nat} {f : Addr} {fd : FuncData} {ps : List Str} {sp sp' : Sp'} (F : FnD P w K mg base k f fd ps sp) (h : ∀ ds g Q E, sp' ds g Q E → sp ds g Q E) : FnD P w K mg base k f fd ps sp' :=
  FnOk.imp F fun vs H Q E ⟨ds, g, Q', E', a, b, c, d⟩ => ⟨ds, g, Q', E', a, b, h _ _ _ _ c, d⟩
/-- no call is left -/
theorem FnD.none {f : Addr} {fd : FuncData} {ps : List Str} {k : Nat} {sp : Sp'} (no : ∀ ds h Q E, ¬ sp ds h Q E) : FnD P w K mg base k f fd ps sp :=
  ⟨fun vs H Q E ⟨ds, g, Q', E', _, _, c, _⟩ => (no _ _ _ _ c).elim, fun _ _ _ _ _ _ _ _ _ _ _ _ _ ⟨ds, g, Q', E', _, _, c, _⟩ => (no _ _ _ _ c).elim⟩
end
/-- what the law promises: True for at most 63 ints -/
def spLaw : Sp' := fun ds h Q _ => ∃ ns : List Int, ds = [.scr ns] ∧ ns.length ≤ 63 ∧ (∀ a, h a = none) ∧ ∀ h', Q (.bl true) h'
end DL
namespace DL
open PySem
theorem boot'_len : bootBuiltins "len" = some (.builtin "len") := by first | exact PySem.boot_len | exact PyProof.Rows.boot_len | decide +kernel
theorem boot'_isinstance : bootBuiltins "isinstance" = some (.builtin "isinstance") := by first | exact PySem.boot_isinstance | exact PyProof.Rows.boot_isinstance | decide +kernel
theorem boot'_abs : bootBuiltins "abs" = some (.builtin "abs") := by first | exact PySem.boot_abs | exact PyProof.Rows.boot_abs | decide +kernel
theorem boot'_max : bootBuiltins "max" = some (.builtin "max") := by first | exact PySem.boot_max | exact PyProof.Rows.boot_max | decide +kernel
theorem boot'_min : bootBuiltins "min" = some (.builtin "min") := by first | exact PySem.boot_min | exact PyProof.Rows.boot_min | decide +kernel
theorem boot'_sum : bootBuiltins "sum" = some (.builtin "sum") := by first | exact PySem.boot_sum | exact PyProof.Rows.boot_sum | decide +kernel
theorem boot'_int : bootBuiltins "int" = some (.type "int") := by first | exact PySem.boot_int | exact PyProof.Rows.boot_int | decide +kernel
theorem boot'_bool : bootBuiltins "bool" = some (.type "bool") := by first | exact PySem.boot_bool | exact PyProof.Rows.boot_bool | decide +kernel
theorem boot'_str : bootBuiltins "str" = some (.type "str") := by first | exact PySem.boot_str | exact PyProof.Rows.boot_str | decide +kernel
theorem boot'_tuple : bootBuiltins "tuple" = some (.type "tuple") := by first | exact PySem.boot_tuple | exact PyProof.Rows.boot_tuple | decide +kernel
theorem boot'_list : bootBuiltins "list" = some (.type "list") := by first | exact PySem.boot_list | exact PyProof.Rows.boot_list | decide +kernel
end DL

set_option Elab.async false
set_option linter.all false
set_option maxRecDepth 100000
/-! DL7: rewriting rules for the readings (head first), and the tactic walk_at "dl". Printed in part by mkdl7.py. -/
namespace DL
open PySem PySem.Spec PyProof.Rows L2
/-- if, whose ways are left alone -/
structure Tag (A B : Prop) : Type where
def sif (c : Bool) (A B : Prop) (_ : Tag A B) : Prop := if c = true then A else B
structure TagQ (Q : VK') : Type where
/-- a call, whose sequel is left alone -/
def pcall (sp : Sp') (ds : List D) (h : DH) (Q : VK') (E : XK') (_ : TagQ Q) : Prop := sp ds h Q E
theorem sif_t {A B : Prop} : sif true A B ⟨⟩ = A := if_pos rfl
theorem sif_f {A B : Prop} : sif false A B ⟨⟩ = B := if_neg Bool.false_ne_true
theorem sif_i {c : Bool} {A B : Prop} (h1 : c = true → A) (h2 : c = false → B) : sif c A B ⟨⟩ := by
  cases c with
  | true => exact h1 rfl
  | false => exact h2 rfl
section
variable {D' : Ends'} {τ : St'} {h : DH} {Q : VK'} {R : Bool → DH → Prop} {S : List D → DH → Prop} {N : St' → DH → Prop} {d x y : D} {i j : Int} {a : Addr}
theorem q_nx : tnx D' τ h = D'.nx τ h := id rfl
theorem q_seq {t u : TS'} : tseq t u D' τ h = t { D' with nx := u D' } τ h := id rfl
theorem q_br : tbr D' τ h = D'.bk τ h := id rfl
theorem q_ct : tct D' τ h = D'.ct τ h := id rfl
theorem q_drop {te : TE'} : tdrop te D' τ h = te τ h fun _ h1 => D'.nx τ h1 := id rfl
theorem q_ret {te : TE'} : tret te D' τ h = te τ h D'.rt := id rfl
theorem q_retn : tretn D' τ h = D'.rt .non h := id rfl
theorem q_ifs {c : TT'} {t u : TS'} : tifs c t u D' τ h = c τ h fun b h1 => sif b (t D' τ h1) (u D' τ h1) ⟨⟩ := id rfl
theorem q_asg {te : TE'} {g : TG'} : tasg te g D' τ h = te τ h fun x h1 => g x τ h1 D'.nx := id rfl
theorem q_gn {n : Nat} : gn n d τ h N = N (τ.set n (some d)) h := id rfl
theorem q_gsub {to ti : TE'} : gsub to ti d τ h N = to τ h fun o h1 => ti τ h1 fun i h2 => setD o i d h2 fun h3 => N τ h3 := id rfl
theorem q_gtup {n : Nat} {t : TGs'} {ds : List D} : gtup n t (.tup ds) τ h N = (ds.length = n ∧ t ds τ h N) := id rfl
theorem q_gco {t : TG'} {u : TGs'} {ds : List D} : gco t u (d :: ds) τ h N ↔ t d τ h fun τ1 h1 => u ds τ1 h1 N :=
  ⟨fun ⟨_, _, e, q⟩ => by cases e; exact q, fun q => ⟨_, _, rfl, q⟩⟩
theorem q_gni : gni [] τ h N ↔ N τ h := ⟨fun q => q.2, fun q => ⟨rfl, q⟩⟩
theorem q_for {ti : TI'} {g : TG'} {tb : TS'} : tfor ti g tb D' τ h = ti τ h fun xs C h1 => forS g tb C D' xs τ h1 := id rfl
theorem q_fnil {g : TG'} {tb : TS'} {C : DH → Prop} : forS g tb C D' [] τ h = (C h ∧ D'.nx τ h) := id rfl
theorem q_fcons {g : TG'} {tb : TS'} {C : DH → Prop} {xs : List D} : forS g tb C D' (x :: xs) τ h = (C h ∧ g x τ h fun τ1 h1 =>
  tb { nx := fun τ2 h2 => forS g tb C D' xs τ2 h2, rt := D'.rt, bk := D'.nx, ct := fun τ2 h2 => forS g tb C D' xs τ2 h2 } τ1 h1) := id rfl
theorem q_seqit {tl : TE'} {T : List D → (DH → Prop) → DH → Prop} : tse tl τ h T = tl τ h fun x h1 => match x with
  | .tup xs => T xs (fun _ => True) h1
  | .lis xs => T xs (fun _ => True) h1
  | .scr ns => T (ns.map .int) (fun _ => True) h1
  | .ref a => ∃ xs, h1 a = some (.lst xs) ∧ T xs (fun h => h a = some (.lst xs)) h1
  | _ => False := id rfl
theorem q_rg1 {ta : TA'} {T : List D → (DH → Prop) → DH → Prop} : trg1 ta τ h T = ta τ h fun ds h1 => match ds with
  | [.int j] => -4611686018427387904 ≤ j ∧ j < 4611686018427387904 ∧ T (rngD 0 j.toNat) (fun _ => True) h1
  | _ => False := id rfl
theorem q_lc {ti : TI'} {n : Nat} {tt : TT'} {te : TE'} : tlc ti n tt te τ h Q = ti τ h fun xs C h1 => ∀ p, h1 p = none → lcS n tt te C τ (fun ds h2 => Q (.lis ds) (del h2 p)) xs [] (put h1 p .hid) := id rfl
theorem q_lnil {n : Nat} {tt : TT'} {te : TE'} {C : DH → Prop} {acc : List D} : lcS n tt te C τ S [] acc h = (C h ∧ S acc h) := id rfl
theorem q_lcons {n : Nat} {tt : TT'} {te : TE'} {C : DH → Prop} {acc xs : List D} : lcS n tt te C τ S (x :: xs) acc h = (C h ∧ tt (τ.set n (some x)) h fun b h1 =>
  sif b (te (τ.set n (some x)) h1 fun y h2 => acc.length < sizeLine ∧ lcS n tt te C τ S xs (acc ++ [y]) h2) (lcS n tt te C τ S xs acc h1) ⟨⟩) := id rfl
theorem q_yes : tyes τ h R = R true h := id rfl
theorem q_c : tc d τ h Q = Q d h := id rfl
theorem q_to {r : DR2} {ta tb : TE'} : to r ta tb τ h Q = ta τ h fun x h1 => tb τ h1 fun y h2 => r x y h2 Q := id rfl
theorem q_tu {r : DR1} {ta : TE'} : tu r ta τ h Q = ta τ h fun x h1 => r x h1 Q := id rfl
theorem q_tb {t : TE'} : tb' t τ h R = t τ h fun x h1 => isB x fun c => R c h1 := id rfl
theorem q_isB {c : Bool} {k : Bool → Prop} : isB (.bl c) k = k c := id rfl
theorem q_isI {k : Int → Prop} : isI (.int i) k = k i := id rfl
theorem q_ch {r r' : DR2} {ta tb tc : TE'} : tch r r' ta tb tc τ h Q = ta τ h fun x h1 => tb τ h1 fun y h2 => r x y h2 fun z h3 => isB z fun k => sif k (tc τ h3 fun w h4 => r' y w h4 Q) (Q (.bl false) h3) ⟨⟩ := id rfl
theorem q_and {t u : TT'} : tand t u τ h R = t τ h fun c h1 => sif c (u τ h1 R) (R false h1) ⟨⟩ := id rfl
theorem q_or {t u : TT'} : tor t u τ h R = t τ h fun c h1 => sif c (R true h1) (u τ h1 R) ⟨⟩ := id rfl
theorem q_orp {t u : TT'} : torp t u τ h R = t τ h fun c h1 => u τ h1 fun d h2 => R (c || d) h2 := id rfl
theorem q_not {t : TT'} : tnot t τ h R = t τ h fun c h1 => R (!c) h1 := id rfl
theorem q_andv {ta tb : TE'} : tandv ta tb τ h Q = ta τ h fun x h1 => isB x fun c => sif c (tb τ h1 Q) (Q (.bl false) h1) ⟨⟩ := id rfl
theorem q_orv {ta tb : TE'} : torv ta tb τ h Q = ta τ h fun x h1 => isB x fun c => sif c (Q (.bl true) h1) (tb τ h1 Q) ⟨⟩ := id rfl
theorem q_notv {ta : TE'} : tnotv ta τ h Q = ta τ h fun x h1 => isB x fun c => Q (.bl (!c)) h1 := id rfl
theorem q_if {t : TT'} {ta tb : TE'} : tif t ta tb τ h Q = t τ h fun c h1 => sif c (ta τ h1 Q) (tb τ h1 Q) ⟨⟩ := id rfl
theorem q_an : tan τ h S = S [] h := id rfl
theorem q_ac {ta : TE'} {tr : TA'} : tac ta tr τ h S = ta τ h fun x h1 => tr τ h1 fun xs h2 => S (x :: xs) h2 := id rfl
theorem q_tup {t : TA'} : ttup t τ h Q = t τ h fun xs h1 => xs.length ≤ sizeLine ∧ Q (.tup xs) h1 := id rfl
theorem q_lis {t : TA'} : tlis t τ h Q = t τ h fun xs h1 => xs.length ≤ sizeLine ∧ Q (.lis xs) h1 := id rfl
theorem q_own {t : TA'} : town t τ h Q = t τ h fun xs h1 => xs.length ≤ sizeLine ∧ ∀ p, h1 p = none → Q (.ref p) (put h1 p (.lst xs)) := id rfl
theorem q_call {sp : Sp'} {E : XK'} {t : TA'} : tcall sp E t τ h Q = t τ h fun ds h1 => pcall sp ds h1 Q E ⟨⟩ := id rfl
theorem q_cb {r : List D → DH → VK' → Prop} {t : TA'} : tcb r t τ h Q = t τ h fun ds h1 => r ds h1 Q := id rfl
theorem q_bm {t : D → DH → Prop} {r : DM} {to : TE'} {ta : TA'} : tbm t r to ta τ h Q = to τ h fun x h1 => t x h1 ∧ ta τ h1 fun ds h2 => r x ds h2 Q := id rfl
theorem q_sl {te : TE'} {tl th : TO'} : tsl te tl th τ h Q = te τ h fun x h1 => tl τ h1 fun l h2 => th τ h2 fun u h3 => slD x l u h3 Q := id rfl
theorem q_slt {ds : List D} {lo hi : Option Int} : slD (.tup ds) lo hi h Q = Q (.tup (cutD ds lo hi)) h := id rfl
theorem q_sll {ds : List D} {lo hi : Option Int} : slD (.lis ds) lo hi h Q = Q (.lis (cutD ds lo hi)) h := id rfl
theorem q_pn {T : Option Int → DH → Prop} : tpn τ h T = T none h := id rfl
theorem q_pe {t : TE'} {T : Option Int → DH → Prop} : tpe t τ h T = t τ h fun x h1 => isI x fun i => T (some i) h1 := id rfl
theorem q_rt : (ends Q).rt d h = ∃ h2, Sub h2 h ∧ Q d h2 := id rfl
theorem q_enx : (ends Q).nx τ h = ∃ h2, Sub h2 h ∧ Q .non h2 := id rfl
/-! operators at their forms -/
theorem q_addi : opAdd (.int i) (.int j) h Q = Q (.int (i + j)) h := id rfl
theorem q_adds {u v : Str} : opAdd (.str u) (.str v) h Q = (u.length + v.length ≤ sizeLine ∧ Q (.str (u ++ v)) h) := id rfl
theorem q_addt {u v : List D} : opAdd (.tup u) (.tup v) h Q = (u.length + v.length ≤ sizeLine ∧ Q (.tup (u ++ v)) h) := id rfl
theorem q_addl {u v : List D} : opAdd (.lis u) (.lis v) h Q = (u.length + v.length ≤ sizeLine ∧ Q (.lis (u ++ v)) h) := id rfl
theorem q_I2 {C : Int → Int → Prop} {g : Int → Int → D} : opI2 C g (.int i) (.int j) h Q = (C i j ∧ Q (g i j) h) := id rfl
theorem q_neg : unNeg (.int i) h Q = Q (.int (-i)) h := id rfl
theorem q_eqi : opEq (.int i) (.int j) h Q = Q (.bl (decide (i = j))) h := id rfl
theorem q_eqs {u v : Str} : opEq (.str u) (.str v) h Q = Q (.bl (decide (u = v))) h := id rfl
theorem q_eqb {b c : Bool} : opEq (.bl b) (.bl c) h Q = Q (.bl (decide (b = c))) h := id rfl
theorem q_neb {b c : Bool} : opNe (.bl b) (.bl c) h Q = Q (.bl (!decide (b = c))) h := id rfl
theorem q_nei : opNe (.int i) (.int j) h Q = Q (.bl (!decide (i = j))) h := id rfl
theorem q_nes {u v : Str} : opNe (.str u) (.str v) h Q = Q (.bl (!decide (u = v))) h := id rfl
theorem q_eq_non_int : opEq .non (.int i) h Q = Q (.bl false) h := id rfl
theorem q_ne_non_int : opNe .non (.int i) h Q = Q (.bl true) h := id rfl
theorem q_eq_non_bl {b : Bool} : opEq .non (.bl b) h Q = Q (.bl false) h := id rfl
theorem q_ne_non_bl {b : Bool} : opNe .non (.bl b) h Q = Q (.bl true) h := id rfl
theorem q_eq_non_str {u : Str} : opEq .non (.str u) h Q = Q (.bl false) h := id rfl
theorem q_ne_non_str {u : Str} : opNe .non (.str u) h Q = Q (.bl true) h := id rfl
theorem q_eq_int_non : opEq (.int i) .non h Q = Q (.bl false) h := id rfl
theorem q_ne_int_non : opNe (.int i) .non h Q = Q (.bl true) h := id rfl
theorem q_eq_bl_non {b : Bool} : opEq (.bl b) .non h Q = Q (.bl false) h := id rfl
theorem q_ne_bl_non {b : Bool} : opNe (.bl b) .non h Q = Q (.bl true) h := id rfl
theorem q_eq_str_non {u : Str} : opEq (.str u) .non h Q = Q (.bl false) h := id rfl
theorem q_ne_str_non {u : Str} : opNe (.str u) .non h Q = Q (.bl true) h := id rfl
theorem q_eq_int_str {u : Str} : opEq (.int i) (.str u) h Q = Q (.bl false) h := id rfl
theorem q_ne_int_str {u : Str} : opNe (.int i) (.str u) h Q = Q (.bl true) h := id rfl
theorem q_eq_str_int {u : Str} : opEq (.str u) (.int i) h Q = Q (.bl false) h := id rfl
theorem q_ne_str_int {u : Str} : opNe (.str u) (.int i) h Q = Q (.bl true) h := id rfl
theorem q_eq_bl_str {u : Str} {b : Bool} : opEq (.bl b) (.str u) h Q = Q (.bl false) h := id rfl
theorem q_ne_bl_str {u : Str} {b : Bool} : opNe (.bl b) (.str u) h Q = Q (.bl true) h := id rfl
theorem q_eq_str_bl {u : Str} {b : Bool} : opEq (.str u) (.bl b) h Q = Q (.bl false) h := id rfl
theorem q_ne_str_bl {u : Str} {b : Bool} : opNe (.str u) (.bl b) h Q = Q (.bl true) h := id rfl
theorem q_eq_non_non : opEq .non .non h Q = Q (.bl true) h := id rfl
theorem q_ne_non_non : opNe .non .non h Q = Q (.bl false) h := id rfl
theorem q_isnon_bl {b : Bool} : isNon (.bl b) = false := by rfl
theorem q_isnon_int : isNon (.int i) = false := by rfl
theorem q_isnon_str {s : Str} : isNon (.str s) = false := by rfl
theorem q_isnon_tup {l : List D} : isNon (.tup l) = false := by rfl
theorem q_isnon_lis {l : List D} : isNon (.lis l) = false := by rfl
theorem q_isnon_non : isNon .non = true := by rfl
theorem q_int {n : Bool} {ds : List D} : opIn n x (.tup ds) h Q = (flatD x = true ∧ ds.all flatD = true ∧ Q (.bl (if n then !inD x ds else inD x ds)) h) := id rfl
theorem q_inl {n : Bool} {ds : List D} : opIn n x (.lis ds) h Q = (flatD x = true ∧ ds.all flatD = true ∧ Q (.bl (if n then !inD x ds else inD x ds)) h) := id rfl
theorem q_inr {n : Bool} : opIn n x (.ref a) h Q = ∃ ds, h a = some (.lst ds) ∧ flatD x = true ∧ ds.all flatD = true ∧ Q (.bl (if n then !inD x ds else inD x ds)) h := id rfl
theorem q_isn {n : Bool} : opIsN n x .non h Q = Q (.bl (if n then !isNon x else isNon x)) h := id rfl
theorem q_ixt {ds : List D} : opIx (.tup ds) (.int i) h Q = ∃ d, atI ds i = some d ∧ Q d h := id rfl
theorem q_ixl {ds : List D} : opIx (.lis ds) (.int i) h Q = ∃ d, atI ds i = some d ∧ Q d h := id rfl
theorem q_ixr : opIx (.ref a) (.int i) h Q = ∃ ds, h a = some (.lst ds) ∧ ∃ d, atI ds i = some d ∧ Q d h := id rfl
theorem q_ixs {z : Str} : opIx (.str z) (.int i) h Q = (z.length ≤ sizeLine ∧ ∃ c, atI z.cps.toList i = some c ∧ Q (.str ⟨#[c]⟩) h) := id rfl
theorem q_ixc {ns : List Int} : opIx (.scr ns) (.int i) h Q = ∃ n, atI ns i = some n ∧ Q (.int n) h := id rfl
theorem q_lent {xs : List D} : caLen [.tup xs] h Q = Q (.int xs.length) h := id rfl
theorem q_lenl {xs : List D} : caLen [.lis xs] h Q = Q (.int xs.length) h := id rfl
theorem q_lenc {xs : List Int} : caLen [.scr xs] h Q = Q (.int xs.length) h := id rfl
theorem q_lenr : caLen [.ref a] h Q = ∃ xs, h a = some (.lst xs) ∧ Q (.int xs.length) h := id rfl
theorem q_lens {z : Str} : caLen [.str z] h Q = (z.length ≤ sizeLine ∧ Q (.int z.length) h) := id rfl
theorem q_is {n : String} : caIs [x, .ty n] h Q = (isTy n = true ∧ plainD x = true ∧ Q (.bl (instD x n)) h) := id rfl
theorem q_toi : caInt [.int i] h Q = Q (.int i) h := id rfl
theorem q_tob {b : Bool} : caInt [.bl b] h Q = Q (.int (if b then 1 else 0)) h := id rfl
theorem q_abs : caAbs [.int i] h Q = Q (.int (i.natAbs : Int)) h := id rfl
theorem q_max : caMax [.int i, .int j] h Q = Q (.int (max i j)) h := id rfl
theorem q_min : caMin [.int i, .int j] h Q = Q (.int (min i j)) h := id rfl
theorem q_list : caList [x] h Q = itemsK h x fun xs => Q (.lis xs) h := id rfl
theorem q_listo : caListO [x] h Q = itemsK h x fun xs => ∀ p, h p = none → Q (.ref p) (put h p (.lst xs)) := id rfl
theorem q_tuple : caTup [x] h Q = itemsK h x fun xs => Q (.tup xs) h := id rfl
theorem q_sum {xs : List D} : caSum [.lis xs] h Q = ∃ ns : List Int, xs = ns.map .int ∧ Q (.int ns.sum) h := id rfl
theorem q_kt {xs : List D} {k : List D → Prop} : itemsK h (.tup xs) k = k xs := id rfl
theorem q_kl {xs : List D} {k : List D → Prop} : itemsK h (.lis xs) k = k xs := id rfl
theorem q_kc {xs : List Int} {k : List D → Prop} : itemsK h (.scr xs) k = k (xs.map .int) := id rfl
theorem q_kr {k : List D → Prop} : itemsK h (.ref a) k = ∃ xs, h a = some (.lst xs) ∧ k xs := id rfl
theorem q_app : mApp (.ref a) [y] h Q = ∃ xs, h a = some (.lst xs) ∧ xs.length < sizeLine ∧ Q .non (put h a (.lst (xs ++ [y]))) := id rfl
theorem q_lsr : isLs (.ref a) h = ∃ ds, h a = some (.lst ds) := id rfl
theorem q_setD {T : DH → Prop} : setD (.ref a) (.int i) d h T = ∃ ds, h a = some (.lst ds) ∧ ∃ j, ixN ds.length i = some j ∧ T (put h a (.lst (ds.set j d))) := id rfl

theorem q_tv0 {l : St'} : tv 0 (some d :: l) h Q ↔ Q d h := ⟨fun ⟨_, e, q⟩ => by cases e; exact q, fun q => ⟨d, rfl, q⟩⟩
theorem q_st0 {z0 : Option D} {o : Option D} {l : St'} : (z0 :: l).set 0 o = o :: l := id rfl
theorem q_tv1 {z0 : Option D} {l : St'} : tv 1 (z0 :: some d :: l) h Q ↔ Q d h := ⟨fun ⟨_, e, q⟩ => by cases e; exact q, fun q => ⟨d, rfl, q⟩⟩
theorem q_st1 {z0 z1 : Option D} {o : Option D} {l : St'} : (z0 :: z1 :: l).set 1 o = z0 :: o :: l := id rfl
theorem q_tv2 {z0 z1 : Option D} {l : St'} : tv 2 (z0 :: z1 :: some d :: l) h Q ↔ Q d h := ⟨fun ⟨_, e, q⟩ => by cases e; exact q, fun q => ⟨d, rfl, q⟩⟩
theorem q_st2 {z0 z1 z2 : Option D} {o : Option D} {l : St'} : (z0 :: z1 :: z2 :: l).set 2 o = z0 :: z1 :: o :: l := id rfl
theorem q_tv3 {z0 z1 z2 : Option D} {l : St'} : tv 3 (z0 :: z1 :: z2 :: some d :: l) h Q ↔ Q d h := ⟨fun ⟨_, e, q⟩ => by cases e; exact q, fun q => ⟨d, rfl, q⟩⟩
theorem q_st3 {z0 z1 z2 z3 : Option D} {o : Option D} {l : St'} : (z0 :: z1 :: z2 :: z3 :: l).set 3 o = z0 :: z1 :: z2 :: o :: l := id rfl
theorem q_tv4 {z0 z1 z2 z3 : Option D} {l : St'} : tv 4 (z0 :: z1 :: z2 :: z3 :: some d :: l) h Q ↔ Q d h := ⟨fun ⟨_, e, q⟩ => by cases e; exact q, fun q => ⟨d, rfl, q⟩⟩
theorem q_st4 {z0 z1 z2 z3 z4 : Option D} {o : Option D} {l : St'} : (z0 :: z1 :: z2 :: z3 :: z4 :: l).set 4 o = z0 :: z1 :: z2 :: z3 :: o :: l := id rfl
theorem q_tv5 {z0 z1 z2 z3 z4 : Option D} {l : St'} : tv 5 (z0 :: z1 :: z2 :: z3 :: z4 :: some d :: l) h Q ↔ Q d h := ⟨fun ⟨_, e, q⟩ => by cases e; exact q, fun q => ⟨d, rfl, q⟩⟩
theorem q_st5 {z0 z1 z2 z3 z4 z5 : Option D} {o : Option D} {l : St'} : (z0 :: z1 :: z2 :: z3 :: z4 :: z5 :: l).set 5 o = z0 :: z1 :: z2 :: z3 :: z4 :: o :: l := id rfl
theorem q_tv6 {z0 z1 z2 z3 z4 z5 : Option D} {l : St'} : tv 6 (z0 :: z1 :: z2 :: z3 :: z4 :: z5 :: some d :: l) h Q ↔ Q d h := ⟨fun ⟨_, e, q⟩ => by cases e; exact q, fun q => ⟨d, rfl, q⟩⟩
theorem q_st6 {z0 z1 z2 z3 z4 z5 z6 : Option D} {o : Option D} {l : St'} : (z0 :: z1 :: z2 :: z3 :: z4 :: z5 :: z6 :: l).set 6 o = z0 :: z1 :: z2 :: z3 :: z4 :: z5 :: o :: l := id rfl
theorem q_tv7 {z0 z1 z2 z3 z4 z5 z6 : Option D} {l : St'} : tv 7 (z0 :: z1 :: z2 :: z3 :: z4 :: z5 :: z6 :: some d :: l) h Q ↔ Q d h := ⟨fun ⟨_, e, q⟩ => by cases e; exact q, fun q => ⟨d, rfl, q⟩⟩
theorem q_st7 {z0 z1 z2 z3 z4 z5 z6 z7 : Option D} {o : Option D} {l : St'} : (z0 :: z1 :: z2 :: z3 :: z4 :: z5 :: z6 :: z7 :: l).set 7 o = z0 :: z1 :: z2 :: z3 :: z4 :: z5 :: z6 :: o :: l := id rfl
theorem q_tv8 {z0 z1 z2 z3 z4 z5 z6 z7 : Option D} {l : St'} : tv 8 (z0 :: z1 :: z2 :: z3 :: z4 :: z5 :: z6 :: z7 :: some d :: l) h Q ↔ Q d h := ⟨fun ⟨_, e, q⟩ => by cases e; exact q, fun q => ⟨d, rfl, q⟩⟩
theorem q_st8 {z0 z1 z2 z3 z4 z5 z6 z7 z8 : Option D} {o : Option D} {l : St'} : (z0 :: z1 :: z2 :: z3 :: z4 :: z5 :: z6 :: z7 :: z8 :: l).set 8 o = z0 :: z1 :: z2 :: z3 :: z4 :: z5 :: z6 :: z7 :: o :: l := id rfl
theorem q_tv9 {z0 z1 z2 z3 z4 z5 z6 z7 z8 : Option D} {l : St'} : tv 9 (z0 :: z1 :: z2 :: z3 :: z4 :: z5 :: z6 :: z7 :: z8 :: some d :: l) h Q ↔ Q d h := ⟨fun ⟨_, e, q⟩ => by cases e; exact q, fun q => ⟨d, rfl, q⟩⟩
theorem q_st9 {z0 z1 z2 z3 z4 z5 z6 z7 z8 z9 : Option D} {o : Option D} {l : St'} : (z0 :: z1 :: z2 :: z3 :: z4 :: z5 :: z6 :: z7 :: z8 :: z9 :: l).set 9 o = z0 :: z1 :: z2 :: z3 :: z4 :: z5 :: z6 :: z7 :: z8 :: o :: l := id rfl
theorem q_tv10 {z0 z1 z2 z3 z4 z5 z6 z7 z8 z9 : Option D} {l : St'} : tv 10 (z0 :: z1 :: z2 :: z3 :: z4 :: z5 :: z6 :: z7 :: z8 :: z9 :: some d :: l) h Q ↔ Q d h := ⟨fun ⟨_, e, q⟩ => by cases e; exact q, fun q => ⟨d, rfl, q⟩⟩
theorem q_st10 {z0 z1 z2 z3 z4 z5 z6 z7 z8 z9 z10 : Option D} {o : Option D} {l : St'} : (z0 :: z1 :: z2 :: z3 :: z4 :: z5 :: z6 :: z7 :: z8 :: z9 :: z10 :: l).set 10 o = z0 :: z1 :: z2 :: z3 :: z4 :: z5 :: z6 :: z7 :: z8 :: z9 :: o :: l := id rfl
theorem q_tv11 {z0 z1 z2 z3 z4 z5 z6 z7 z8 z9 z10 : Option D} {l : St'} : tv 11 (z0 :: z1 :: z2 :: z3 :: z4 :: z5 :: z6 :: z7 :: z8 :: z9 :: z10 :: some d :: l) h Q ↔ Q d h := ⟨fun ⟨_, e, q⟩ => by cases e; exact q, fun q => ⟨d, rfl, q⟩⟩
theorem q_st11 {z0 z1 z2 z3 z4 z5 z6 z7 z8 z9 z10 z11 : Option D} {o : Option D} {l : St'} : (z0 :: z1 :: z2 :: z3 :: z4 :: z5 :: z6 :: z7 :: z8 :: z9 :: z10 :: z11 :: l).set 11 o = z0 :: z1 :: z2 :: z3 :: z4 :: z5 :: z6 :: z7 :: z8 :: z9 :: z10 :: o :: l := id rfl
theorem q_tv12 {z0 z1 z2 z3 z4 z5 z6 z7 z8 z9 z10 z11 : Option D} {l : St'} : tv 12 (z0 :: z1 :: z2 :: z3 :: z4 :: z5 :: z6 :: z7 :: z8 :: z9 :: z10 :: z11 :: some d :: l) h Q ↔ Q d h := ⟨fun ⟨_, e, q⟩ => by cases e; exact q, fun q => ⟨d, rfl, q⟩⟩
theorem q_st12 {z0 z1 z2 z3 z4 z5 z6 z7 z8 z9 z10 z11 z12 : Option D} {o : Option D} {l : St'} : (z0 :: z1 :: z2 :: z3 :: z4 :: z5 :: z6 :: z7 :: z8 :: z9 :: z10 :: z11 :: z12 :: l).set 12 o = z0 :: z1 :: z2 :: z3 :: z4 :: z5 :: z6 :: z7 :: z8 :: z9 :: z10 :: z11 :: o :: l := id rfl
theorem q_tv13 {z0 z1 z2 z3 z4 z5 z6 z7 z8 z9 z10 z11 z12 : Option D} {l : St'} : tv 13 (z0 :: z1 :: z2 :: z3 :: z4 :: z5 :: z6 :: z7 :: z8 :: z9 :: z10 :: z11 :: z12 :: some d :: l) h Q ↔ Q d h := ⟨fun ⟨_, e, q⟩ => by cases e; exact q, fun q => ⟨d, rfl, q⟩⟩
theorem q_st13 {z0 z1 z2 z3 z4 z5 z6 z7 z8 z9 z10 z11 z12 z13 : Option D} {o : Option D} {l : St'} : (z0 :: z1 :: z2 :: z3 :: z4 :: z5 :: z6 :: z7 :: z8 :: z9 :: z10 :: z11 :: z12 :: z13 :: l).set 13 o = z0 :: z1 :: z2 :: z3 :: z4 :: z5 :: z6 :: z7 :: z8 :: z9 :: z10 :: z11 :: z12 :: o :: l := id rfl
theorem q_tv14 {z0 z1 z2 z3 z4 z5 z6 z7 z8 z9 z10 z11 z12 z13 : Option D} {l : St'} : tv 14 (z0 :: z1 :: z2 :: z3 :: z4 :: z5 :: z6 :: z7 :: z8 :: z9 :: z10 :: z11 :: z12 :: z13 :: some d :: l) h Q ↔ Q d h := ⟨fun ⟨_, e, q⟩ => by cases e; exact q, fun q => ⟨d, rfl, q⟩⟩
theorem q_st14 {z0 z1 z2 z3 z4 z5 z6 z7 z8 z9 z10 z11 z12 z13 z14 : Option D} {o : Option D} {l : St'} : (z0 :: z1 :: z2 :: z3 :: z4 :: z5 :: z6 :: z7 :: z8 :: z9 :: z10 :: z11 :: z12 :: z13 :: z14 :: l).set 14 o = z0 :: z1 :: z2 :: z3 :: z4 :: z5 :: z6 :: z7 :: z8 :: z9 :: z10 :: z11 :: z12 :: z13 :: o :: l := id rfl
theorem q_tv15 {z0 z1 z2 z3 z4 z5 z6 z7 z8 z9 z10 z11 z12 z13 z14 : Option D} {l : St'} : tv 15 (z0 :: z1 :: z2 :: z3 :: z4 :: z5 :: z6 :: z7 :: z8 :: z9 :: z10 :: z11 :: z12 :: z13 :: z14 :: some d :: l) h Q ↔ Q d h := ⟨fun ⟨_, e, q⟩ => by cases e; exact q, fun q => ⟨d, rfl, q⟩⟩
theorem q_st15 {z0 z1 z2 z3 z4 z5 z6 z7 z8 z9 z10 z11 z12 z13 z14 z15 : Option D} {o : Option D} {l : St'} : (z0 :: z1 :: z2 :: z3 :: z4 :: z5 :: z6 :: z7 :: z8 :: z9 :: z10 :: z11 :: z12 :: z13 :: z14 :: z15 :: l).set 15 o = z0 :: z1 :: z2 :: z3 :: z4 :: z5 :: z6 :: z7 :: z8 :: z9 :: z10 :: z11 :: z12 :: z13 :: z14 :: o :: l := id rfl
theorem q_ixt0 {l : List D} : opIx (.tup (d :: l)) (.int 0) h Q ↔ Q d h := by
  have e : atI (d :: l) 0 = some d := atI_nat (j := 0) rfl
  exact ⟨fun ⟨_, e2, q⟩ => by rw [e] at e2; cases e2; exact q, fun q => ⟨d, e, q⟩⟩
theorem q_ixl0 {l : List D} : opIx (.lis (d :: l)) (.int 0) h Q ↔ Q d h := by
  have e : atI (d :: l) 0 = some d := atI_nat (j := 0) rfl
  exact ⟨fun ⟨_, e2, q⟩ => by rw [e] at e2; cases e2; exact q, fun q => ⟨d, e, q⟩⟩
theorem q_ixt1 {z0 : D} {l : List D} : opIx (.tup (z0 :: d :: l)) (.int 1) h Q ↔ Q d h := by
  have e : atI (z0 :: d :: l) 1 = some d := atI_nat (j := 1) rfl
  exact ⟨fun ⟨_, e2, q⟩ => by rw [e] at e2; cases e2; exact q, fun q => ⟨d, e, q⟩⟩
theorem q_ixl1 {z0 : D} {l : List D} : opIx (.lis (z0 :: d :: l)) (.int 1) h Q ↔ Q d h := by
  have e : atI (z0 :: d :: l) 1 = some d := atI_nat (j := 1) rfl
  exact ⟨fun ⟨_, e2, q⟩ => by rw [e] at e2; cases e2; exact q, fun q => ⟨d, e, q⟩⟩
theorem q_ixt2 {z0 z1 : D} {l : List D} : opIx (.tup (z0 :: z1 :: d :: l)) (.int 2) h Q ↔ Q d h := by
  have e : atI (z0 :: z1 :: d :: l) 2 = some d := atI_nat (j := 2) rfl
  exact ⟨fun ⟨_, e2, q⟩ => by rw [e] at e2; cases e2; exact q, fun q => ⟨d, e, q⟩⟩
theorem q_ixl2 {z0 z1 : D} {l : List D} : opIx (.lis (z0 :: z1 :: d :: l)) (.int 2) h Q ↔ Q d h := by
  have e : atI (z0 :: z1 :: d :: l) 2 = some d := atI_nat (j := 2) rfl
  exact ⟨fun ⟨_, e2, q⟩ => by rw [e] at e2; cases e2; exact q, fun q => ⟨d, e, q⟩⟩
theorem q_ixt3 {z0 z1 z2 : D} {l : List D} : opIx (.tup (z0 :: z1 :: z2 :: d :: l)) (.int 3) h Q ↔ Q d h := by
  have e : atI (z0 :: z1 :: z2 :: d :: l) 3 = some d := atI_nat (j := 3) rfl
  exact ⟨fun ⟨_, e2, q⟩ => by rw [e] at e2; cases e2; exact q, fun q => ⟨d, e, q⟩⟩
theorem q_ixl3 {z0 z1 z2 : D} {l : List D} : opIx (.lis (z0 :: z1 :: z2 :: d :: l)) (.int 3) h Q ↔ Q d h := by
  have e : atI (z0 :: z1 :: z2 :: d :: l) 3 = some d := atI_nat (j := 3) rfl
  exact ⟨fun ⟨_, e2, q⟩ => by rw [e] at e2; cases e2; exact q, fun q => ⟨d, e, q⟩⟩
theorem q_ixt4 {z0 z1 z2 z3 : D} {l : List D} : opIx (.tup (z0 :: z1 :: z2 :: z3 :: d :: l)) (.int 4) h Q ↔ Q d h := by
  have e : atI (z0 :: z1 :: z2 :: z3 :: d :: l) 4 = some d := atI_nat (j := 4) rfl
  exact ⟨fun ⟨_, e2, q⟩ => by rw [e] at e2; cases e2; exact q, fun q => ⟨d, e, q⟩⟩
theorem q_ixl4 {z0 z1 z2 z3 : D} {l : List D} : opIx (.lis (z0 :: z1 :: z2 :: z3 :: d :: l)) (.int 4) h Q ↔ Q d h := by
  have e : atI (z0 :: z1 :: z2 :: z3 :: d :: l) 4 = some d := atI_nat (j := 4) rfl
  exact ⟨fun ⟨_, e2, q⟩ => by rw [e] at e2; cases e2; exact q, fun q => ⟨d, e, q⟩⟩

def isStr (x : D) (s : Str) : Bool := match x with | .str a => decide (a = s) | _ => false
theorem eqx {s : Str} (hx : dOk x) (hs : dOk (.str s)) : opEq x (.str s) h Q = Q (.bl (isStr x s)) h := by
  have key : ∀ y : D, sc y (.str s) = none → dOk y → deq y (.str s) = false → opEq y (.str s) h Q = Q (.bl false) h := fun y e h1 h2 => by
    unfold opEq
    rw [e, h2]
    exact propext ⟨fun q => q.2.2, fun q => ⟨h1, hs, q⟩⟩
  cases x with
  | tup xs =>
    refine key _ rfl hx ?_
    unfold deq
    cases e : toPy (.tup xs) with
    | none => rfl
    | some p =>
      simp only [toPy] at e
      cases e2 : toPys xs with
      | none => rw [e2] at e; cases e
      | some ps => rw [e2] at e; cases e; rfl
  | lis xs =>
    refine key _ rfl hx ?_
    unfold deq
    cases e : toPy (.lis xs) with
    | none => rfl
    | some p =>
      simp only [toPy] at e
      cases e2 : toPys xs with
      | none => rw [e2] at e; cases e
      | some ps => rw [e2] at e; cases e; rfl
  | scr _ => exact hx.elim
  | ref _ => exact hx.elim
  | ty _ => exact hx.elim
  | _ => rfl
theorem nex {s : Str} (hx : dOk x) (hs : dOk (.str s)) : opNe x (.str s) h Q = Q (.bl (!isStr x s)) h := by
  have e := @eqx h (fun d g => Q (match d with | .bl b => .bl (!b) | d => d) g) x s hx hs
  unfold opEq at e
  unfold opNe
  cases e2 : sc x (.str s) with
  | none => rw [e2] at e; exact e
  | some b => rw [e2] at e; exact e
theorem dok_str {s : Str} : dOk (.str s) ↔ PyData.strOk s = true := by
  show SeqAt.shaped (.str s) = true ↔ _
  unfold SeqAt.shaped
  simp [PyData.canLay0, PyData.depth]
/-! own lists -/
def ownK (h : DH) (a : Addr) (k : List D → Prop) : Prop := match h a with | some (.lst ds) => k ds | _ => False
theorem own_iff {k : List D → Prop} : (∃ ds, h a = some (.lst ds) ∧ k ds) ↔ ownK h a k := by
  unfold ownK
  constructor
  · rintro ⟨ds, e, q⟩
    rw [e]
    exact q
  · intro q
    split at q
    · exact ⟨_, by assumption, q⟩
    · exact q.elim
theorem q_oixr : opIx (.ref a) (.int i) h Q ↔ ownK h a fun ds => opIx (.lis ds) (.int i) h Q := by rw [← own_iff]; exact Iff.rfl
theorem q_oinr {n : Bool} : opIn n x (.ref a) h Q ↔ ownK h a fun ds => opIn n x (.lis ds) h Q := by rw [← own_iff]; exact Iff.rfl
theorem q_olen : caLen [.ref a] h Q ↔ ownK h a fun ds => Q (.int ds.length) h := by rw [← own_iff]; exact Iff.rfl
theorem q_okr {k : List D → Prop} : itemsK h (.ref a) k ↔ ownK h a k := by rw [← own_iff]; exact Iff.rfl
theorem q_oapp : mApp (.ref a) [y] h Q ↔ ownK h a fun xs => xs.length < sizeLine ∧ Q .non (put h a (.lst (xs ++ [y]))) := by rw [← own_iff]; exact Iff.rfl
theorem q_olsr : isLs (.ref a) h ↔ ownK h a fun _ => True := by rw [← own_iff]; exact ⟨fun ⟨ds, e⟩ => ⟨ds, e, trivial⟩, fun ⟨ds, e, _⟩ => ⟨ds, e⟩⟩
def setL (ds : List D) (i : Int) (d : D) (k : List D → Prop) : Prop := ∃ j, ixN ds.length i = some j ∧ k (ds.set j d)
theorem q_osetD {T : DH → Prop} : setD (.ref a) (.int i) d h T ↔ ownK h a fun ds => setL ds i d fun es => T (put h a (.lst es)) := by rw [← own_iff]; exact Iff.rfl
theorem q_ln0 : ((([] : List D).length : Nat) : Int) = 0 := id rfl
theorem q_sz0 : (0 ≤ sizeLine) = True := eq_true (by decide)
theorem q_ln1 {z0 : D} : (([z0].length : Nat) : Int) = 1 := id rfl
theorem q_sz1 : (1 ≤ sizeLine) = True := eq_true (by decide)
theorem q_ln2 {z0 z1 : D} : (([z0, z1].length : Nat) : Int) = 2 := id rfl
theorem q_sz2 : (2 ≤ sizeLine) = True := eq_true (by decide)
theorem q_ln3 {z0 z1 z2 : D} : (([z0, z1, z2].length : Nat) : Int) = 3 := id rfl
theorem q_sz3 : (3 ≤ sizeLine) = True := eq_true (by decide)
theorem q_ln4 {z0 z1 z2 z3 : D} : (([z0, z1, z2, z3].length : Nat) : Int) = 4 := id rfl
theorem q_sz4 : (4 ≤ sizeLine) = True := eq_true (by decide)
theorem q_ln5 {z0 z1 z2 z3 z4 : D} : (([z0, z1, z2, z3, z4].length : Nat) : Int) = 5 := id rfl
theorem q_sz5 : (5 ≤ sizeLine) = True := eq_true (by decide)
theorem q_ln6 {z0 z1 z2 z3 z4 z5 : D} : (([z0, z1, z2, z3, z4, z5].length : Nat) : Int) = 6 := id rfl
theorem q_sz6 : (6 ≤ sizeLine) = True := eq_true (by decide)
theorem q_ln7 {z0 z1 z2 z3 z4 z5 z6 : D} : (([z0, z1, z2, z3, z4, z5, z6].length : Nat) : Int) = 7 := id rfl
theorem q_sz7 : (7 ≤ sizeLine) = True := eq_true (by decide)
theorem q_ln8 {z0 z1 z2 z3 z4 z5 z6 z7 : D} : (([z0, z1, z2, z3, z4, z5, z6, z7].length : Nat) : Int) = 8 := id rfl
theorem q_sz8 : (8 ≤ sizeLine) = True := eq_true (by decide)
def walkD (x : D) (h : DH) (T : List D → (DH → Prop) → DH → Prop) : Prop := match x with
  | .tup xs => T xs (fun _ => True) h
  | .lis xs => T xs (fun _ => True) h
  | .scr ns => T (ns.map .int) (fun _ => True) h
  | .ref a => ∃ xs, h a = some (.lst xs) ∧ T xs (fun h => h a = some (.lst xs)) h
  | _ => False
theorem q_wseq {tl : TE'} {T : List D → (DH → Prop) → DH → Prop} : tse tl τ h T = tl τ h fun x h1 => walkD x h1 T := id rfl
theorem q_wt {xs : List D} {T : List D → (DH → Prop) → DH → Prop} : walkD (.tup xs) h T = T xs (fun _ => True) h := id rfl
theorem q_wl {xs : List D} {T : List D → (DH → Prop) → DH → Prop} : walkD (.lis xs) h T = T xs (fun _ => True) h := id rfl
theorem q_wc {xs : List Int} {T : List D → (DH → Prop) → DH → Prop} : walkD (.scr xs) h T = T (xs.map .int) (fun _ => True) h := id rfl
theorem q_wr {T : List D → (DH → Prop) → DH → Prop} : walkD (.ref a) h T ↔ ownK h a fun xs => T xs (fun h => h a = some (.lst xs)) h := by rw [← own_iff]; exact Iff.rfl
def rngK (ds : List D) (h : DH) (T : List D → (DH → Prop) → DH → Prop) : Prop := match ds with
  | [.int j] => -4611686018427387904 ≤ j ∧ j < 4611686018427387904 ∧ T (rngD 0 j.toNat) (fun _ => True) h
  | _ => False
theorem q_wr1 {ta : TA'} {T : List D → (DH → Prop) → DH → Prop} : trg1 ta τ h T = ta τ h fun ds h1 => rngK ds h1 T := id rfl
theorem q_wr1' {T : List D → (DH → Prop) → DH → Prop} : rngK [.int j] h T = (-4611686018427387904 ≤ j ∧ j < 4611686018427387904 ∧ T (rngD 0 j.toNat) (fun _ => True) h) := id rfl
theorem q_setL0 {z0 : D} {l : List D} {k : List D → Prop} : setL (z0 :: l) 0 d k ↔ k (d :: l) := by
  have e : ixN (z0 :: l).length 0 = some 0 := by
    unfold ixN
    rw [if_pos (by decide), if_pos (by simp only [List.length_cons]; omega)]
    rfl
  exact ⟨fun ⟨_, e2, q⟩ => by rw [e] at e2; cases e2; exact q, fun q => ⟨0, e, q⟩⟩
theorem q_setL1 {z0 z1 : D} {l : List D} {k : List D → Prop} : setL (z0 :: z1 :: l) 1 d k ↔ k (z0 :: d :: l) := by
  have e : ixN (z0 :: z1 :: l).length 1 = some 1 := by
    unfold ixN
    rw [if_pos (by decide), if_pos (by simp only [List.length_cons]; omega)]
    rfl
  exact ⟨fun ⟨_, e2, q⟩ => by rw [e] at e2; cases e2; exact q, fun q => ⟨1, e, q⟩⟩
theorem q_setL2 {z0 z1 z2 : D} {l : List D} {k : List D → Prop} : setL (z0 :: z1 :: z2 :: l) 2 d k ↔ k (z0 :: z1 :: d :: l) := by
  have e : ixN (z0 :: z1 :: z2 :: l).length 2 = some 2 := by
    unfold ixN
    rw [if_pos (by decide), if_pos (by simp only [List.length_cons]; omega)]
    rfl
  exact ⟨fun ⟨_, e2, q⟩ => by rw [e] at e2; cases e2; exact q, fun q => ⟨2, e, q⟩⟩
theorem q_setL3 {z0 z1 z2 z3 : D} {l : List D} {k : List D → Prop} : setL (z0 :: z1 :: z2 :: z3 :: l) 3 d k ↔ k (z0 :: z1 :: z2 :: d :: l) := by
  have e : ixN (z0 :: z1 :: z2 :: z3 :: l).length 3 = some 3 := by
    unfold ixN
    rw [if_pos (by decide), if_pos (by simp only [List.length_cons]; omega)]
    rfl
  exact ⟨fun ⟨_, e2, q⟩ => by rw [e] at e2; cases e2; exact q, fun q => ⟨3, e, q⟩⟩
theorem q_setL4 {z0 z1 z2 z3 z4 : D} {l : List D} {k : List D → Prop} : setL (z0 :: z1 :: z2 :: z3 :: z4 :: l) 4 d k ↔ k (z0 :: z1 :: z2 :: z3 :: d :: l) := by
  have e : ixN (z0 :: z1 :: z2 :: z3 :: z4 :: l).length 4 = some 4 := by
    unfold ixN
    rw [if_pos (by decide), if_pos (by simp only [List.length_cons]; omega)]
    rfl
  exact ⟨fun ⟨_, e2, q⟩ => by rw [e] at e2; cases e2; exact q, fun q => ⟨4, e, q⟩⟩
theorem q_pl_non : (plainD .non = true) = True := eq_true rfl
theorem q_in_non_int : instD .non "int" = false := by rfl
theorem q_in_non_bool : instD .non "bool" = false := by rfl
theorem q_in_non_str : instD .non "str" = false := by rfl
theorem q_in_non_tuple : instD .non "tuple" = false := by rfl
theorem q_in_non_list : instD .non "list" = false := by rfl
theorem q_pl_bl {b : Bool} : (plainD (.bl b) = true) = True := eq_true rfl
theorem q_in_bl_int {b : Bool} : instD (.bl b) "int" = true := by rfl
theorem q_in_bl_bool {b : Bool} : instD (.bl b) "bool" = true := by rfl
theorem q_in_bl_str {b : Bool} : instD (.bl b) "str" = false := by rfl
theorem q_in_bl_tuple {b : Bool} : instD (.bl b) "tuple" = false := by rfl
theorem q_in_bl_list {b : Bool} : instD (.bl b) "list" = false := by rfl
theorem q_pl_int : (plainD (.int i) = true) = True := eq_true rfl
theorem q_in_int_int : instD (.int i) "int" = true := by rfl
theorem q_in_int_bool : instD (.int i) "bool" = false := by rfl
theorem q_in_int_str : instD (.int i) "str" = false := by rfl
theorem q_in_int_tuple : instD (.int i) "tuple" = false := by rfl
theorem q_in_int_list : instD (.int i) "list" = false := by rfl
theorem q_pl_str {s : Str} : (plainD (.str s) = true) = True := eq_true rfl
theorem q_in_str_int {s : Str} : instD (.str s) "int" = false := by rfl
theorem q_in_str_bool {s : Str} : instD (.str s) "bool" = false := by rfl
theorem q_in_str_str {s : Str} : instD (.str s) "str" = true := by rfl
theorem q_in_str_tuple {s : Str} : instD (.str s) "tuple" = false := by rfl
theorem q_in_str_list {s : Str} : instD (.str s) "list" = false := by rfl
theorem q_pl_tup {l : List D} : (plainD (.tup l) = true) = True := eq_true rfl
theorem q_in_tup_int {l : List D} : instD (.tup l) "int" = false := by rfl
theorem q_in_tup_bool {l : List D} : instD (.tup l) "bool" = false := by rfl
theorem q_in_tup_str {l : List D} : instD (.tup l) "str" = false := by rfl
theorem q_in_tup_tuple {l : List D} : instD (.tup l) "tuple" = true := by rfl
theorem q_in_tup_list {l : List D} : instD (.tup l) "list" = false := by rfl
theorem q_pl_lis {l : List D} : (plainD (.lis l) = true) = True := eq_true rfl
theorem q_in_lis_int {l : List D} : instD (.lis l) "int" = false := by rfl
theorem q_in_lis_bool {l : List D} : instD (.lis l) "bool" = false := by rfl
theorem q_in_lis_str {l : List D} : instD (.lis l) "str" = false := by rfl
theorem q_in_lis_tuple {l : List D} : instD (.lis l) "tuple" = false := by rfl
theorem q_in_lis_list {l : List D} : instD (.lis l) "list" = true := by rfl
theorem q_ty_int : (isTy "int" = true) = True := eq_true rfl
theorem q_ty_bool : (isTy "bool" = true) = True := eq_true rfl
theorem q_ty_str : (isTy "str" = true) = True := eq_true rfl
theorem q_ty_tuple : (isTy "tuple" = true) = True := eq_true rfl
theorem q_ty_list : (isTy "list" = true) = True := eq_true rfl
end
theorem ofStr_inj {a b : String} : (Str.ofString a = Str.ofString b) ↔ a = b := by
  constructor
  · intro e
    rw [Str.ofString_eq_toList, Str.ofString_eq_toList] at e
    have e1 : a.toList.map Char.toNat = b.toList.map Char.toNat := by
      have := congrArg (fun s : Str => s.cps.toList) e
      simpa using this
    have inj : ∀ (l m : List Char), l.map Char.toNat = m.map Char.toNat → l = m := by
      intro l
      induction l with
      | nil => intro m h; cases m with
        | nil => rfl
        | cons c m => simp at h
      | cons c l ih => intro m h; cases m with
        | nil => simp at h
        | cons c' m =>
          simp only [List.map_cons, List.cons.injEq] at h
          rw [ih m h.2, Char.toNat_inj.mp h.1]
    exact String.toList_inj.mp (inj _ _ e1)
  · intro e; rw [e]

theorem sok_of (s : String) : PyData.strOk (Str.ofString s) = true := by
  rw [Str.ofString_eq_toList]
  show (List.map Char.toNat s.toList).toArray.all (fun a => decide (a < 1114112)) = true
  rw [List.all_toArray, List.all_map, List.all_eq_true]
  intro c _
  refine decide_eq_true ?_
  have v := c.valid
  show _ < 1114112
  rcases v with v | v
  · exact Nat.lt_trans v (by decide)
  · exact v.2
theorem eqS {x : D} {h : DH} {Q : VK'} (hx : dOk x) {s : String} : opEq x (.str (Str.ofString s)) h Q = Q (.bl (isStr x (Str.ofString s))) h := eqx hx (dok_str.mpr (sok_of s))
theorem neS {x : D} {h : DH} {Q : VK'} (hx : dOk x) {s : String} : opNe x (.str (Str.ofString s)) h Q = Q (.bl (!isStr x (Str.ofString s))) h := nex hx (dok_str.mpr (sok_of s))
end DL

set_option Elab.async false
set_option linter.all false
set_option maxRecDepth 100000
/-! DK: kinds, letters, plain values; no program in sight. -/
namespace DL
open PySem PySem.Spec PyProof.Rows L2
/-! ### plain values: no deeper than n -/
mutual
def val : D → Nat → Bool
  | .non, _ => true
  | .bl _, _ => true
  | .int _, _ => true
  | .str x, _ => PyData.strOk x
  | .tup xs, n + 1 => vals xs n
  | _, _ => false
def vals : List D → Nat → Bool
  | [], _ => true
  | x :: xs, n => val x n && vals xs n
end
mutual
theorem val_py : ∀ (d : D) (n : Nat), val d n = true → ∃ p, toPy d = some p ∧ p.canLay0 = true ∧ p.depth ≤ n
  | .non, n, _ => ⟨.none, rfl, by simp [PyData.canLay0], by simp [PyData.depth]⟩
  | .bl b, n, _ => ⟨.bool b, rfl, by simp [PyData.canLay0], by simp [PyData.depth]⟩
  | .int i, n, _ => ⟨.int i, rfl, by simp [PyData.canLay0], by simp [PyData.depth]⟩
  | .str x, n, h => ⟨.str x, rfl, by simpa [PyData.canLay0, val] using h, by simp [PyData.depth]⟩
  | .tup xs, 0, h => by simp [val] at h
  | .tup xs, n + 1, h => by
    obtain ⟨ps, e, c, d⟩ := vals_py xs n (by simpa [val] using h)
    exact ⟨.tuple ps, by simp only [toPy, e, Option.map_some], by simpa [PyData.canLay0] using c, by simp only [PyData.depth]; omega⟩
  | .lis _, n, h => by simp [val] at h
  | .scr _, n, h => by simp [val] at h
  | .ref _, n, h => by simp [val] at h
  | .ty _, n, h => by simp [val] at h
theorem vals_py : ∀ (ds : List D) (n : Nat), vals ds n = true → ∃ ps, toPys ds = some ps ∧ PyData.canLayAll0 ps = true ∧ PyData.depthAll ps ≤ n
  | [], n, _ => ⟨[], rfl, by simp [PyData.canLayAll0], by simp [PyData.depthAll]⟩
  | d :: ds, n, h => by
    simp only [vals, Bool.and_eq_true] at h
    obtain ⟨p, e1, c1, d1⟩ := val_py d n h.1
    obtain ⟨ps, e2, c2, d2⟩ := vals_py ds n h.2
    exact ⟨p :: ps, by simp only [toPys, e1, e2], by simp only [PyData.canLayAll0, c1, c2, Bool.and_self], by simp only [PyData.depthAll]; omega⟩
end
theorem val_ok {d : D} {n : Nat} (h : val d n = true) (hn : n ≤ 64 := by decide) : dOk d := by
  obtain ⟨p, e, c, dp⟩ := val_py d n h
  unfold dOk
  rw [e]
  show SeqAt.shaped p = true
  unfold SeqAt.shaped
  rw [c, decide_eq_true (by omega)]
  rfl
theorem val_plain {d : D} {n : Nat} (h : val d n = true) : plainD d = true := by
  cases d <;> first | rfl | (simp [val] at h)
theorem vals_mem {xs : List D} {n : Nat} : vals xs n = true ↔ ∀ x ∈ xs, val x n = true := by
  induction xs with
  | nil => simp [vals]
  | cons x xs ih => simp [vals, ih]
mutual
theorem val_mono : ∀ (d : D) (n m : Nat), n ≤ m → val d n = true → val d m = true
  | .non, _, _, _, _ => rfl
  | .bl _, _, _, _, _ => rfl
  | .int _, _, _, _, _ => rfl
  | .str x, _, _, _, h => by simpa [val] using h
  | .tup xs, 0, _, _, h => by simp [val] at h
  | .tup xs, n + 1, 0, hm, h => by omega
  | .tup xs, n + 1, m + 1, hm, h => by
    simp only [val] at h ⊢
    exact vals_mono xs n m (by omega) h
  | .lis _, _, _, _, h => by simp [val] at h
  | .scr _, _, _, _, h => by simp [val] at h
  | .ref _, _, _, _, h => by simp [val] at h
  | .ty _, _, _, _, h => by simp [val] at h
theorem vals_mono : ∀ (ds : List D) (n m : Nat), n ≤ m → vals ds n = true → vals ds m = true
  | [], _, _, _, _ => rfl
  | d :: ds, n, m, hm, h => by
    simp only [vals, Bool.and_eq_true] at h ⊢
    exact ⟨val_mono d n m hm h.1, vals_mono ds n m hm h.2⟩
end
/-! ### no tuple is longer than w -/
mutual
def wid : D → Nat → Bool
  | .tup xs, w => decide (xs.length ≤ w) && wids xs w
  | _, _ => true
def wids : List D → Nat → Bool
  | [], _ => true
  | x :: xs, w => wid x w && wids xs w
end
theorem wids_mem {xs : List D} {n : Nat} : wids xs n = true ↔ ∀ x ∈ xs, wid x n = true := by
  induction xs with
  | nil => simp [wids]
  | cons x xs ih => simp [wids, ih]
mutual
theorem wid_mono : ∀ (d : D) (n m : Nat), n ≤ m → wid d n = true → wid d m = true
  | .tup xs, n, m, hm, h => by
    simp only [wid, Bool.and_eq_true, decide_eq_true_eq] at h ⊢
    exact ⟨by omega, wids_mono xs n m hm h.2⟩
  | .non, _, _, _, _ => rfl
  | .bl _, _, _, _, _ => rfl
  | .int _, _, _, _, _ => rfl
  | .str _, _, _, _, _ => rfl
  | .lis _, _, _, _, _ => rfl
  | .scr _, _, _, _, _ => rfl
  | .ref _, _, _, _, _ => rfl
  | .ty _, _, _, _, _ => rfl
theorem wids_mono : ∀ (ds : List D) (n m : Nat), n ≤ m → wids ds n = true → wids ds m = true
  | [], _, _, _, _ => rfl
  | d :: ds, n, m, hm, h => by
    simp only [wids, Bool.and_eq_true] at h ⊢
    exact ⟨wid_mono d n m hm h.1, wids_mono ds n m hm h.2⟩
end
/-! ### kinds -/
inductive Kd where
  | nm (ns : List Str) | it | pr (a b : Kd) | ei (ks : List Kd) | mb (k : Kd)
mutual
def kD : Kd → D
  | .nm ns => .tup [.str "names", .tup (ns.map .str)]
  | .it => .tup [.str "integers"]
  | .pr a b => .tup [.str "pair", kD a, kD b]
  | .ei ks => .tup [.str "either", .tup (kDs ks)]
  | .mb k => .tup [.str "maybe", kD k]
def kDs : List Kd → List D
  | [] => []
  | k :: ks => kD k :: kDs ks
end
theorem kDs_map : ∀ ks : List Kd, kDs ks = ks.map kD
  | [] => rfl
  | k :: ks => by rw [kDs, kDs_map ks]; rfl
mutual
def Kd.depth : Kd → Nat
  | .nm _ => 1
  | .it => 1
  | .pr a b => 1 + max a.depth b.depth
  | .ei ks => 1 + Kd.depths ks
  | .mb k => 1 + k.depth
def Kd.depths : List Kd → Nat
  | [] => 0
  | k :: ks => max k.depth (Kd.depths ks)
end
mutual
/-- how many kinds are in it -/
def Kd.cnt : Kd → Nat
  | .nm _ => 1
  | .it => 1
  | .pr a b => 1 + a.cnt + b.cnt
  | .ei ks => 1 + Kd.cnts ks
  | .mb k => 1 + k.cnt
def Kd.cnts : List Kd → Nat
  | [] => 0
  | k :: ks => k.cnt + Kd.cnts ks
end
theorem Kd.depth_pos (k : Kd) : 1 ≤ k.depth := by cases k <;> simp only [Kd.depth] <;> omega
theorem Kd.cnt_pos (k : Kd) : 1 ≤ k.cnt := by cases k <;> simp only [Kd.cnt] <;> omega
theorem Kd.depth_mem {ks : List Kd} {k : Kd} (h : k ∈ ks) : k.depth ≤ Kd.depths ks := by
  induction ks with
  | nil => cases h
  | cons x xs ih =>
    simp only [Kd.depths]
    rcases List.mem_cons.mp h with rfl | h
    · omega
    · have := ih h; omega
theorem Kd.cnt_mem {ks : List Kd} {k : Kd} (h : k ∈ ks) : k.cnt ≤ Kd.cnts ks := by
  induction ks with
  | nil => cases h
  | cons x xs ih =>
    simp only [Kd.cnts]
    rcases List.mem_cons.mp h with rfl | h
    · omega
    · have := ih h; omega
theorem Kd.cnts_app (xs ys : List Kd) : Kd.cnts (xs ++ ys) = Kd.cnts xs + Kd.cnts ys := by
  induction xs with
  | nil => simp [Kd.cnts]
  | cons x xs ih => simp only [List.cons_append, Kd.cnts, ih]; omega
theorem Kd.depths_app (xs ys : List Kd) : Kd.depths (xs ++ ys) = max (Kd.depths xs) (Kd.depths ys) := by
  induction xs with
  | nil => simp [Kd.depths]
  | cons x xs ih => simp only [List.cons_append, Kd.depths, ih]; omega
theorem kDs_app (xs ys : List Kd) : kDs (xs ++ ys) = kDs xs ++ kDs ys := by rw [kDs_map, kDs_map, kDs_map, List.map_append]
theorem Kd.len_cnts (ks : List Kd) : ks.length ≤ Kd.cnts ks := by
  induction ks with
  | nil => simp
  | cons x xs ih => simp only [List.length_cons, Kd.cnts]; have := x.cnt_pos; omega
/-- a kind's names -/
def namesOk (ns : List Str) : Prop := 1 ≤ ns.length ∧ ns.length ≤ 4 ∧ ∀ x ∈ ns, PyData.strOk x = true ∧ x.length ≤ 20
mutual
def Kd.ok : Kd → Prop
  | .nm ns => namesOk ns
  | .it => True
  | .pr a b => a.ok ∧ b.ok
  | .ei ks => 1 ≤ ks.length ∧ Kd.oks ks
  | .mb k => k.ok
def Kd.oks : List Kd → Prop
  | [] => True
  | k :: ks => k.ok ∧ Kd.oks ks
end
theorem Kd.oks_mem {ks : List Kd} : Kd.oks ks ↔ ∀ k ∈ ks, k.ok := by
  induction ks with
  | nil => simp [Kd.oks]
  | cons x xs ih => simp [Kd.oks, ih]
mutual
/-- whether a value is a letter -/
def isL : Kd → D → Bool
  | .nm ns, .str x => ns.contains x
  | .nm _, _ => false
  | .it, .int _ => true
  | .it, _ => false
  | .pr a b, .tup [t, x, y] => isStr t "pair" && isL a x && isL b y
  | .pr _ _, _ => false
  | .ei ks, .tup [t, .int i, x] => isStr t "case" && (decide (0 ≤ i) && isLn ks i.toNat x)
  | .ei _, _ => false
  | .mb _, .tup [t] => isStr t "none"
  | .mb k, .tup [t, x] => isStr t "some" && isL k x
  | .mb _, _ => false
def isLn : List Kd → Nat → D → Bool
  | [], _, _ => false
  | k :: _, 0, x => isL k x
  | _ :: ks, n + 1, x => isLn ks n x
end
theorem isL_pr {a b : Kd} {xs : List D} (h : xs.length ≠ 3) : isL (.pr a b) (.tup xs) = false := by
  unfold isL; split <;> simp_all
theorem isL_ei {ks : List Kd} {xs : List D} (h : xs.length ≠ 3) : isL (.ei ks) (.tup xs) = false := by
  unfold isL; split <;> simp_all
theorem isL_mb {k : Kd} {xs : List D} (h : xs.length ≠ 1) (h2 : xs.length ≠ 2) : isL (.mb k) (.tup xs) = false := by
  unfold isL; split <;> simp_all
theorem isLn_get : ∀ (ks : List Kd) (i : Nat) (x : D), isLn ks i x = match ks[i]? with | some k => isL k x | none => false
  | [], i, x => by simp [isLn]
  | k :: ks, 0, x => by simp [isLn]
  | k :: ks, i + 1, x => by rw [isLn, isLn_get ks i x]; simp
theorem inD_str (x : Str) (ns : List Str) : inD (.str x) (ns.map .str) = ns.contains x := by
  unfold inD inV
  induction ns with
  | nil => rfl
  | cons n ns ih =>
    simp only [List.map_cons, List.any_cons, List.contains_cons]
    rw [ih]
    show (n == x || _) = (x == n || _)
    rw [BEq.comm]
theorem flat_str (ns : List Str) : (ns.map D.str).all flatD = true := by
  induction ns with
  | nil => rfl
  | cons n ns ih => simpa [flatD] using ih
theorem len_kDs (ks : List Kd) : (kDs ks).length = ks.length := by rw [kDs_map, List.length_map]
theorem atI_kDs {ks : List Kd} {i : Int} {k : Kd} (h0 : 0 ≤ i) (e : ks[i.toNat]? = some k) : atI (kDs ks) i = some (kD k) := by
  have q : atI (kDs ks) ((i.toNat : Nat) : Int) = some (kD k) := atI_nat (by rw [kDs_map, List.getElem?_map, e]; rfl)
  rwa [show ((i.toNat : Nat) : Int) = i by omega] at q
end DL

set_option Elab.async false
set_option linter.all false
set_option maxRecDepth 100000
set_option maxHeartbeats 2000000
/-! DX1: < and > of nested data: the first place that differs decides, what stands behind it is not asked. -/
namespace DL.Ord
open PySem PySem.SeqAt PySem.AutoSeq1 PySem.MeetsSeq PySem.MeetsSeq2 PySem.MeetsSeq3 PySem.SeqRoads2
/-- how two rows of items compare: k; f tells of their lengths -/
def Lx (op : CmpOp) (f : Nat → Nat → Bool) (A : Around) (s : Shared) : List Value → List Value → Bool → Prop
  | x :: xs, y :: ys, k => ∃ e, EqAt A s x y e ∧ if e = true then Lx op f A s xs ys k else RcOp op A s x y k
  | xs, ys, k => k = f xs.length ys.length
theorem Lx.end_ {op : CmpOp} {f : Nat → Nat → Bool} {A : Around} {s : Shared} {xs ys : List Value} {k : Bool} (h : Lx op f A s xs ys k) (z : xs.zip ys = []) : k = f xs.length ys.length := by
  cases xs with
  | nil => exact h
  | cons x xs =>
    cases ys with
    | nil => exact h
    | cons y ys => cases z
def fLt (a b : Nat) : Bool := decide (a < b)
def fGt (a b : Nat) : Bool := decide (b < a)
theorem tup_lt (l b : Addr) (us ws : Array Value) (n n2 : Nat) (dd dd2 : Option Addr) (sl sl2 : Array (Option Value)) (k : Bool) :
    Meets (Builtin.«tuple.__lt__» ⟨[.ref l, .ref b], []⟩) (fun A R s => s.heap.get? l = some ⟨.type "tuple", dd, .seq us n, sl⟩ ∧ s.heap.get? b = some ⟨.type "tuple", dd2, .seq ws n2, sl2⟩ ∧
        Lx .Lt fLt A.in1 s us.toList ws.toList k ∧ R (.ok (.ret (.bool k))) s) := by
  refine Meets.of_wp fun prog w A R s h => ?_
  obtain ⟨hp, g, d, tk, os⟩ := s
  obtain ⟨g1, g2, lx, h⟩ := h
  have sub := AutoSeq1.sub_tuple_tuple
  wp_walk using wpAny_loadPart' g1, wpAny_loadPart' g2, wpAny_forIn_list _ (fun rest b s' => b.1 = none ∧ s' = ⟨hp, g, d, tk, os⟩ ∧ ∃ xs ys c, rest = xs.zip ys ∧ us.size = c + xs.length ∧ ws.size = c + ys.length ∧ Lx .Lt fLt A.in1 ⟨hp, g, d, tk, os⟩ xs ys k) _
  case turn =>
    rintro ⟨y, x⟩ rest b s' ⟨hb, rfl, xs, ys, c, hz, c1, c2, lx⟩
    cases xs with
    | nil => cases hz
    | cons u xs =>
      cases ys with
      | nil => cases hz
      | cons v ys =>
        cases hz
        obtain ⟨e, he, lx⟩ := lx
        refine wpAny_bind (he prog w _ _ ?_)
        cases e with
        | true =>
          wp_walk
          exact ⟨rfl, rfl, xs, ys, c + 1, rfl, by rw [c1, List.length_cons]; omega, by rw [c2, List.length_cons]; omega, lx⟩
        | false =>
          have rc := (show RcOp .Lt A.in1 _ _ _ k from lx) prog w
          wp_walk using rc
          exact ⟨_, rfl, by simpa using h⟩
  case fin =>
    rintro ⟨b1, b2⟩ s' ⟨hb, rfl, xs, ys, c, hz, c1, c2, lx⟩
    cases hb
    have ek := lx.end_ hz.symm
    wp_walk
    refine ⟨_, rfl, ?_⟩
    have e2 : decide (us.size < ws.size) = k := by rw [ek, c1, c2]; unfold fLt; exact decide_eq_decide.mpr (by omega)
    simpa [Builtin.Tuple.tupleCompareSizes, e2] using h
  case h =>
    exact ⟨rfl, rfl, _, _, 0, rfl, by simp, by simp, lx⟩
theorem tup_gt (l b : Addr) (us ws : Array Value) (n n2 : Nat) (dd dd2 : Option Addr) (sl sl2 : Array (Option Value)) (k : Bool) :
    Meets (Builtin.«tuple.__gt__» ⟨[.ref l, .ref b], []⟩) (fun A R s => s.heap.get? l = some ⟨.type "tuple", dd, .seq us n, sl⟩ ∧ s.heap.get? b = some ⟨.type "tuple", dd2, .seq ws n2, sl2⟩ ∧
        Lx .Gt fGt A.in1 s us.toList ws.toList k ∧ R (.ok (.ret (.bool k))) s) := by
  refine Meets.of_wp fun prog w A R s h => ?_
  obtain ⟨hp, g, d, tk, os⟩ := s
  obtain ⟨g1, g2, lx, h⟩ := h
  have sub := AutoSeq1.sub_tuple_tuple
  wp_walk using wpAny_loadPart' g1, wpAny_loadPart' g2, wpAny_forIn_list _ (fun rest b s' => b.1 = none ∧ s' = ⟨hp, g, d, tk, os⟩ ∧ ∃ xs ys c, rest = xs.zip ys ∧ us.size = c + xs.length ∧ ws.size = c + ys.length ∧ Lx .Gt fGt A.in1 ⟨hp, g, d, tk, os⟩ xs ys k) _
  case turn =>
    rintro ⟨y, x⟩ rest b s' ⟨hb, rfl, xs, ys, c, hz, c1, c2, lx⟩
    cases xs with
    | nil => cases hz
    | cons u xs =>
      cases ys with
      | nil => cases hz
      | cons v ys =>
        cases hz
        obtain ⟨e, he, lx⟩ := lx
        refine wpAny_bind (he prog w _ _ ?_)
        cases e with
        | true =>
          wp_walk
          exact ⟨rfl, rfl, xs, ys, c + 1, rfl, by rw [c1, List.length_cons]; omega, by rw [c2, List.length_cons]; omega, lx⟩
        | false =>
          have rc := (show RcOp .Gt A.in1 _ _ _ k from lx) prog w
          wp_walk using rc
          exact ⟨_, rfl, by simpa using h⟩
  case fin =>
    rintro ⟨b1, b2⟩ s' ⟨hb, rfl, xs, ys, c, hz, c1, c2, lx⟩
    cases hb
    have ek := lx.end_ hz.symm
    wp_walk
    refine ⟨_, rfl, ?_⟩
    have e2 : decide (us.size > ws.size) = k := by rw [ek, c1, c2]; unfold fGt; exact decide_eq_decide.mpr (by omega)
    simpa [Builtin.Tuple.tupleCompareSizes, e2] using h
  case h =>
    exact ⟨rfl, rfl, _, _, 0, rfl, by simp, by simp, lx⟩
end DL.Ord

set_option Elab.async false
set_option linter.all false
set_option maxRecDepth 100000
set_option maxHeartbeats 2000000
/-! DX2: < and > of nested data as rules. -/
namespace DL.Ord
open PySem PySem.SeqAt PySem.W PySem.AutoSeq1 PySem.MeetsSeq PySem.MeetsSeq2 PySem.MeetsSeq3 PySem.SeqRoads2
mutual
/-- x < y, where the first difference is one of numbers or of lengths -/
def cmpP : PyData → PyData → Option Bool
  | .int i, .int j => some (decide (i < j))
  | .tuple xs, .tuple ys => cmpPs xs ys
  | _, _ => none
def cmpPs : List PyData → List PyData → Option Bool
  | [], [] => some false
  | [], _ :: _ => some true
  | _ :: _, [] => some false
  | x :: xs, y :: ys => if PyData.eqv x y = true then cmpPs xs ys else cmpP x y
end
mutual
theorem rcl : ∀ (da db : PyData) (A : Around) (s : Shared) (a b : Value) (as bs : List Addr) (k : Bool), Reads s.heap a da as → Reads s.heap b db bs → da.canLay0 = true → db.canLay0 = true → cmpP da db = some k → A.units + min da.depth db.depth < cLine → RcOp .Lt A s a b k
  | .int i, db, A, s, a, b, as, bs, k, ra, rb, ca, cb, h, hu => by
    cases db with
    | int j =>
      have z := rcLt_alike (.int i) (.int j) A s a b as bs ra rb rfl (fun e => nomatch e) hu
      rw [dataLt_int] at z
      cases (Option.some.inj (show some (decide (i < j)) = some k by simpa [cmpP] using h))
      exact z
    | _ => exact absurd h (by simp [cmpP])
  | .tuple xs, db, A, s, a, b, as, bs, k, ra, rb, ca, cb, h, hu => by
    cases db with
    | tuple ys =>
      have h' : cmpPs xs ys = some k := by simpa [cmpP] using h
      cases ra with
      | @tuple l o vs n _ as₁ h1 h2 h3 h4 =>
        cases rb with
        | @tuple l' o' vs' n' _ bs₁ k1 k2 k3 k4 =>
          have lx := lxl xs ys A.in1 s vs.toList vs'.toList _ _ k h4 k4 (by simpa [PyData.canLay0] using ca) (by simpa [PyData.canLay0] using cb) h' (room_in hu)
          obtain ⟨c1, dd1, da1, sl1⟩ := o
          obtain ⟨c2, dd2, da2, sl2⟩ := o'
          simp only at h2 h3 k2 k3
          subst h2 h3 k2 k3
          intro prog w E Q hq
          exact richCompare_meets_room (op := .Lt) ⟨_, h1, rfl⟩ ⟨_, k1, rfl⟩ F.slot_tuple_lt F.entry_tuple_lt (F.args_tuple_lt_2 _ _) (tup_lt l l' vs vs' n n' dd1 dd2 sl1 sl2 k) ⟨h1, k1, lx, show Value.bool k ≠ Value.notImplemented ∧ Q (.bool k) s from ⟨(fun e => nomatch e), hq⟩⟩ (room_here hu)
    | _ => exact absurd h (by simp [cmpP])
  | .none, db, _, _, _, _, _, _, _, _, _, _, _, h, _ => absurd h (by simp [cmpP])
  | .bool _, db, _, _, _, _, _, _, _, _, _, _, _, h, _ => absurd h (by simp [cmpP])
  | .str _, db, _, _, _, _, _, _, _, _, _, _, _, h, _ => absurd h (by simp [cmpP])
  | .list _, db, _, _, _, _, _, _, _, _, _, _, _, h, _ => absurd h (by simp [cmpP])
  | .dict _, db, _, _, _, _, _, _, _, _, _, _, _, h, _ => absurd h (by simp [cmpP])
theorem lxl : ∀ (xs ys : List PyData) (A : Around) (s : Shared) (vs ws : List Value) (as bs : List Addr) (k : Bool), ReadsAll s.heap vs xs as → ReadsAll s.heap ws ys bs → PyData.canLayAll0 xs = true → PyData.canLayAll0 ys = true → cmpPs xs ys = some k →
    A.units + min (PyData.depthAll xs) (PyData.depthAll ys) < cLine → Lx .Lt fLt A s vs ws k
  | [], [], _, _, _, _, _, _, k, ra, rb, _, _, h, _ => by cases ra; cases rb; cases (Option.some.inj (show some false = some k by simpa [cmpPs] using h)); rfl
  | [], y :: ys, _, _, _, _, _, _, k, ra, rb, _, _, h, _ => by
    cases ra; cases rb; cases (Option.some.inj (show some true = some k by simpa [cmpPs] using h))
    show true = fLt 0 _
    simp [fLt]
  | x :: xs, [], _, _, _, _, _, _, k, ra, rb, _, _, h, _ => by
    cases ra; cases rb; cases (Option.some.inj (show some false = some k by simpa [cmpPs] using h))
    show false = fLt _ 0
    simp [fLt]
  | x :: xs, y :: ys, A, s, _, _, _, _, k, ra, rb, ca, cb, h, hu => by
    have ca' : x.canLay0 = true ∧ PyData.canLayAll0 xs = true := by simpa [PyData.canLayAll0] using ca
    have cb' : y.canLay0 = true ∧ PyData.canLayAll0 ys = true := by simpa [PyData.canLayAll0] using cb
    cases ra with
    | cons r rs =>
      cases rb with
      | cons r' rs' =>
        refine ⟨PyData.eqv x y, eqAt_reads x y A s _ _ _ _ r r' ca'.1 cb'.1 (room_head hu), ?_⟩
        simp only [cmpPs] at h
        by_cases e : PyData.eqv x y = true
        · rw [if_pos e] at h ⊢
          exact lxl xs ys A s _ _ _ _ k rs rs' ca'.2 cb'.2 h (room_tail hu)
        · rw [if_neg e] at h ⊢
          exact rcl x y A s _ _ _ _ k r r' ca'.1 cb'.1 h (room_head hu)
end
mutual
theorem rcg : ∀ (da db : PyData) (A : Around) (s : Shared) (a b : Value) (as bs : List Addr) (k : Bool), Reads s.heap a da as → Reads s.heap b db bs → da.canLay0 = true → db.canLay0 = true → cmpP db da = some k → A.units + min da.depth db.depth < cLine → RcOp .Gt A s a b k
  | .int i, db, A, s, a, b, as, bs, k, ra, rb, ca, cb, h, hu => by
    cases db with
    | int j =>
      have z := rcGt_alike (.int i) (.int j) A s a b as bs ra rb rfl (fun e => nomatch e) hu
      rw [dataLt_int] at z
      cases (Option.some.inj (show some (decide (j < i)) = some k by simpa [cmpP] using h))
      exact z
    | _ => exact absurd h (by simp [cmpP])
  | .tuple xs, db, A, s, a, b, as, bs, k, ra, rb, ca, cb, h, hu => by
    cases db with
    | tuple ys =>
      have h' : cmpPs ys xs = some k := by simpa [cmpP] using h
      cases ra with
      | @tuple l o vs n _ as₁ h1 h2 h3 h4 =>
        cases rb with
        | @tuple l' o' vs' n' _ bs₁ k1 k2 k3 k4 =>
          have lx := lxg xs ys A.in1 s vs.toList vs'.toList _ _ k h4 k4 (by simpa [PyData.canLay0] using ca) (by simpa [PyData.canLay0] using cb) h' (room_in hu)
          obtain ⟨c1, dd1, da1, sl1⟩ := o
          obtain ⟨c2, dd2, da2, sl2⟩ := o'
          simp only at h2 h3 k2 k3
          subst h2 h3 k2 k3
          intro prog w E Q hq
          exact richCompare_meets_room (op := .Gt) ⟨_, h1, rfl⟩ ⟨_, k1, rfl⟩ F.slot_tuple_gt F.entry_tuple_gt (F.args_tuple_gt_2 _ _) (tup_gt l l' vs vs' n n' dd1 dd2 sl1 sl2 k) ⟨h1, k1, lx, show Value.bool k ≠ Value.notImplemented ∧ Q (.bool k) s from ⟨(fun e => nomatch e), hq⟩⟩ (room_here hu)
    | _ => exact absurd h (by simp [cmpP])
  | .none, db, _, _, _, _, _, _, _, _, _, _, _, h, _ => absurd h (by cases db <;> simp [cmpP])
  | .bool _, db, _, _, _, _, _, _, _, _, _, _, _, h, _ => absurd h (by cases db <;> simp [cmpP])
  | .str _, db, _, _, _, _, _, _, _, _, _, _, _, h, _ => absurd h (by cases db <;> simp [cmpP])
  | .list _, db, _, _, _, _, _, _, _, _, _, _, _, h, _ => absurd h (by cases db <;> simp [cmpP])
  | .dict _, db, _, _, _, _, _, _, _, _, _, _, _, h, _ => absurd h (by cases db <;> simp [cmpP])
theorem lxg : ∀ (xs ys : List PyData) (A : Around) (s : Shared) (vs ws : List Value) (as bs : List Addr) (k : Bool), ReadsAll s.heap vs xs as → ReadsAll s.heap ws ys bs → PyData.canLayAll0 xs = true → PyData.canLayAll0 ys = true → cmpPs ys xs = some k →
    A.units + min (PyData.depthAll xs) (PyData.depthAll ys) < cLine → Lx .Gt fGt A s vs ws k
  | [], [], _, _, _, _, _, _, k, ra, rb, _, _, h, _ => by cases ra; cases rb; cases (Option.some.inj (show some false = some k by simpa [cmpPs] using h)); rfl
  | [], y :: ys, _, _, _, _, _, _, k, ra, rb, _, _, h, _ => by
    cases ra; cases rb; cases (Option.some.inj (show some false = some k by simpa [cmpPs] using h))
    show false = fGt 0 _
    simp [fGt]
  | x :: xs, [], _, _, _, _, _, _, k, ra, rb, _, _, h, _ => by
    cases ra; cases rb; cases (Option.some.inj (show some true = some k by simpa [cmpPs] using h))
    show true = fGt _ 0
    simp [fGt]
  | x :: xs, y :: ys, A, s, _, _, _, _, k, ra, rb, ca, cb, h, hu => by
    have ca' : x.canLay0 = true ∧ PyData.canLayAll0 xs = true := by simpa [PyData.canLayAll0] using ca
    have cb' : y.canLay0 = true ∧ PyData.canLayAll0 ys = true := by simpa [PyData.canLayAll0] using cb
    cases ra with
    | cons r rs =>
      cases rb with
      | cons r' rs' =>
        refine ⟨PyData.eqv x y, eqAt_reads x y A s _ _ _ _ r r' ca'.1 cb'.1 (room_head hu), ?_⟩
        simp only [cmpPs] at h
        rw [eqv_comm y x] at h
        by_cases e : PyData.eqv x y = true
        · rw [if_pos e] at h ⊢
          exact lxg xs ys A s _ _ _ _ k rs rs' ca'.2 cb'.2 h (room_tail hu)
        · rw [if_neg e] at h ⊢
          exact rcg x y A s _ _ _ _ k r r' ca'.1 cb'.1 h (room_head hu)
end
end DL.Ord

set_option Elab.async false
set_option linter.all false
set_option maxRecDepth 100000
/-! DX3: < and > of nested data, xs.count, xs.index, t.index as rules of the data layer. -/
namespace DL
open PySem PySem.Spec PyProof.Rows L2
def rLtN (K : PySem.W.Frag) : R2 := fun x y H Q => ∃ d e k, Dp K H x d ∧ Dp K H y e ∧ SeqAt.shaped d = true ∧ SeqAt.shaped e = true ∧ Ord.cmpP d e = some k ∧ Q (.bl k) H
def rGtN (K : PySem.W.Frag) : R2 := fun x y H Q => ∃ d e k, Dp K H x d ∧ Dp K H y e ∧ SeqAt.shaped d = true ∧ SeqAt.shaped e = true ∧ Ord.cmpP e d = some k ∧ Q (.bl k) H
section
variable {X : Cx}
theorem op_ltN (hu : X.A.units + 64 < cLine) : OpR X (compareOp .Lt) (rLtN X.K) := by
  intro pins s σ H x y v u Q I rx ry h
  obtain ⟨d, e, k, hd, he, sd, se, ek, q⟩ := h
  obtain ⟨as, r1⟩ := Dp.reads I d x v hd rx
  obtain ⟨bs, r2⟩ := Dp.reads I e y u he ry
  exact Ord.rcl d e _ _ _ _ _ _ k r1 r2 (SeqAt.canLay_of_shaped sd) (SeqAt.canLay_of_shaped se) ek (SeqAt.room_of_shaped sd hu) _ _ _ _ ⟨.bl k, H, I, rfl, q⟩
theorem op_gtN (hu : X.A.units + 64 < cLine) : OpR X (compareOp .Gt) (rGtN X.K) := by
  intro pins s σ H x y v u Q I rx ry h
  obtain ⟨d, e, k, hd, he, sd, se, ek, q⟩ := h
  obtain ⟨as, r1⟩ := Dp.reads I d x v hd rx
  obtain ⟨bs, r2⟩ := Dp.reads I e y u he ry
  exact Ord.rcg d e _ _ _ _ _ _ k r1 r2 (SeqAt.canLay_of_shaped sd) (SeqAt.canLay_of_shaped se) ek (SeqAt.room_of_shaped sd hu) _ _ _ _ ⟨.bl k, H, I, rfl, q⟩
end
mutual
def cmpD : D → D → Option Bool
  | .int i, .int j => some (decide (i < j))
  | .tup xs, .tup ys => cmpDs xs ys
  | _, _ => none
def cmpDs : List D → List D → Option Bool
  | [], [] => some false
  | [], _ :: _ => some true
  | _ :: _, [] => some false
  | x :: xs, y :: ys => if deq x y = true then cmpDs xs ys else cmpD x y
end
mutual
theorem cmp_of : ∀ (x y : D) (a b : PyData) (k : Bool), toPy x = some a → toPy y = some b → cmpD x y = some k → Ord.cmpP a b = some k
  | .int i, y, a, b, k, ea, eb, h => by
    cases y with
    | int j => cases ea; cases eb; simpa [cmpD, Ord.cmpP] using h
    | _ => simp [cmpD] at h
  | .tup xs, y, a, b, k, ea, eb, h => by
    cases y with
    | tup ys =>
      simp only [toPy] at ea eb
      cases e1 : toPys xs with
      | none => rw [e1] at ea; cases ea
      | some ps =>
        cases e2 : toPys ys with
        | none => rw [e2] at eb; cases eb
        | some qs =>
          rw [e1] at ea; rw [e2] at eb
          cases ea; cases eb
          simp only [Ord.cmpP]
          exact cmps_of xs ys ps qs k e1 e2 (by simpa [cmpD] using h)
    | _ => simp [cmpD] at h
  | .non, y, _, _, _, _, _, h => by simp [cmpD] at h
  | .bl _, y, _, _, _, _, _, h => by simp [cmpD] at h
  | .str _, y, _, _, _, _, _, h => by simp [cmpD] at h
  | .lis _, y, _, _, _, _, _, h => by simp [cmpD] at h
  | .scr _, y, _, _, _, _, _, h => by simp [cmpD] at h
  | .ref _, y, _, _, _, _, _, h => by simp [cmpD] at h
  | .ty _, y, _, _, _, _, _, h => by simp [cmpD] at h
theorem cmps_of : ∀ (xs ys : List D) (ps qs : List PyData) (k : Bool), toPys xs = some ps → toPys ys = some qs → cmpDs xs ys = some k → Ord.cmpPs ps qs = some k
  | [], [], ps, qs, k, e1, e2, h => by cases e1; cases e2; simpa [cmpDs, Ord.cmpPs] using h
  | [], y :: ys, ps, qs, k, e1, e2, h => by
    cases e1
    simp only [toPys] at e2
    split at e2
    · cases e2; simpa [cmpDs, Ord.cmpPs] using h
    · cases e2
  | x :: xs, [], ps, qs, k, e1, e2, h => by
    cases e2
    simp only [toPys] at e1
    split at e1
    · cases e1; simpa [cmpDs, Ord.cmpPs] using h
    · cases e1
  | x :: xs, y :: ys, ps, qs, k, e1, e2, h => by
    simp only [toPys] at e1 e2
    cases a1 : toPy x with
    | none => rw [a1] at e1; cases e1
    | some a =>
    cases a2 : toPys xs with
    | none => rw [a1, a2] at e1; cases e1
    | some as =>
    cases b1 : toPy y with
    | none => rw [b1] at e2; cases e2
    | some b =>
    cases b2 : toPys ys with
    | none => rw [b1, b2] at e2; cases e2
    | some bs =>
      rw [a1, a2] at e1
      rw [b1, b2] at e2
      cases e1; cases e2
      simp only [cmpDs, deq_of a1 b1] at h
      simp only [Ord.cmpPs]
      split at h
      · rename_i z; rw [if_pos z]; exact cmps_of xs ys as bs k a2 b2 h
      · rename_i z; rw [if_neg z]; exact cmp_of x y a b k a1 b1 h
end
def opLtN : DR2 := fun x y h Q => dOk x ∧ dOk y ∧ ∃ k, cmpD x y = some k ∧ Q (.bl k) h
def opGtN : DR2 := fun x y h Q => dOk x ∧ dOk y ∧ ∃ k, cmpD y x = some k ∧ Q (.bl k) h
section
variable {K : PySem.W.Frag}
theorem opl_ltN : OpL K (rLtN K) opLtN := by
  intro x y v u h H Q' Q rx ry hr q f
  obtain ⟨a, ea, sa⟩ := dok_get q.1
  obtain ⟨b, eb, sb⟩ := dok_get q.2.1
  obtain ⟨k, ek, q⟩ := q.2.2
  exact ⟨a, b, k, dp_of _ _ _ ea rx, dp_of _ _ _ eb ry, sa, sb, cmp_of _ _ _ _ _ ea eb ek, f (.bl k) h _ H .refl hr rfl q⟩
theorem opl_gtN : OpL K (rGtN K) opGtN := by
  intro x y v u h H Q' Q rx ry hr q f
  obtain ⟨a, ea, sa⟩ := dok_get q.1
  obtain ⟨b, eb, sb⟩ := dok_get q.2.1
  obtain ⟨k, ek, q⟩ := q.2.2
  exact ⟨a, b, k, dp_of _ _ _ ea rx, dp_of _ _ _ eb ry, sa, sb, cmp_of _ _ _ _ _ eb ea ek, f (.bl k) h _ H .refl hr rfl q⟩
end
end DL

set_option Elab.async false
set_option linter.all false
set_option maxRecDepth 100000
/-! DX4: t[::-1], methods of tuples (a tuple is kept with its object, so it has no dict), xs.count, xs.index. -/
namespace DL.Ord
open PySem PySem.Spec PyProof.Rows PySem.Calls
section
variable {prog : Program} {w : World} {A : Around} {E : Value → Shared → Prop} {s : Shared}
theorem places_rev (n : Nat) : Builtin.Slice.slicePlaces ((n : Int) - 1) (-1) (-1) = n := by
  unfold Builtin.Slice.slicePlaces
  rw [if_neg (by decide), show (-(-1) : Int) = 1 by decide, Int.ediv_one]
  split <;> omega
theorem pick_rev (xs : Array Value) : ((List.range xs.size).filterMap fun (k : Nat) => xs[(((xs.size : Nat) : Int) - 1 + (k : Int) * (-1)).toNat]?).toArray = xs.toList.reverse.toArray := by
  congr 1
  show List.filterMap ((fun j : Nat => xs[j]?) ∘ fun (k : Nat) => (((xs.size : Nat) : Int) - 1 + (k : Int) * (-1)).toNat) _ = _
  rw [← List.filterMap_map]
  have r : (List.range xs.size).map (fun (k : Nat) => (((xs.size : Nat) : Int) - 1 + (k : Int) * (-1)).toNat) = (List.range xs.size).reverse := by
    apply List.ext_getElem
    · simp
    · intro i h1 h2
      simp at h1 ⊢
      omega
  rw [r, List.filterMap_reverse, PySem.W.krv_all]
theorem tuple_rev {t sl : Addr} {xs : Array Value} {vl vu vs : Value} {Q : Value → Shared → Prop} (ht : IsTup s.heap t xs) (hs : s.heap.IsSliceOf sl vl vu vs) (pl : IsPart vl none) (pu : IsPart vu none) (ps : IsPart vs (some (-1))) (hz : xs.size ≤ sizeLine)
    (h : Q (.ref s.heap.objs.size) { s with heap := s.heap.push { cls := .type "tuple", data := .seq xs.toList.reverse.toArray } }) : wpAny (model prog w) A (getItem (.ref t) (.ref sl)) Q E s := by
  obtain ⟨os, g1, g2, g3⟩ := id hs
  have ty : s.TypeIs (.ref sl) "slice" := ⟨os, g1, g2⟩
  unfold getItem
  try with_reducible refine wpAny_holding ?_
  first
    | refine wpAny_bind (wpAny_pure ?_)
    | skip
  refine wpAny_bind (wpAny_sequenceKey ht.typeIs
    (by decide) ?_)
  refine wpAny_bind (wpAny_callSpecial?_slot
    (name := Str.ofString "__getitem__") ht.typeIs slot_tuple_getitem
    (wpAny_call_entry slot_tuple_getitem ht.typeIs
      entry_tuple_getitem ?_ (args_tuple_getitem _ _)))
  show wpAny _ _ (Builtin.Tuple.tupleItemsOf (.ref t)
    >>= _) _ _ s
  refine wpAny_bind (tupleItemsOf_ ht
    ?_)
  refine wpAny_bind (wpAny_typeOf ty ?_)
  rw [if_pos (by
    decide)]
  refine wpAny_bind ?_
  unfold Builtin.Slice.sliceApplied Builtin.Slice.sliceFields
  refine wpAny_bind (wpAny_bind (wpAny_field g1 g3 (x := vl) rfl (wpAny_bind (wpAny_field g1 g3 (x := vu) rfl (wpAny_bind (wpAny_field g1 g3 (x := vs) rfl (wpAny_pure ?_)))))))
  refine wpAny_bind (HT.slicePart_ ps ?_)
  show wpAny _ _ (if ((-1 : Int) == 0) = true then _ else _) _ _ s
  rw [if_neg (by decide)]
  refine wpAny_bind (HT.slicePart_ pl (wpAny_bind (HT.slicePart_ pu (wpAny_bind (wpAny_pure ?_)))))
  show wpAny _ _ (pure (((xs.size : Nat) : Int) - 1, (-1 : Int), Builtin.Slice.slicePlaces (((xs.size : Nat) : Int) - 1) (-1) (-1))) _ _ s
  rw [places_rev]
  refine wpAny_pure ?_
  show wpAny _ _ (if ((((xs.size : Nat) : Int) - 1) == 0 && (-1 : Int) == 1 && xs.size == xs.size) = true then _ else _) _ _ s
  rw [if_neg (by simp), pick_rev]
  have hok : sizeOk (.seq xs.toList.reverse.toArray) := by
    show xs.toList.reverse.toArray.size ≤ sizeLine
    simpa using hz
  first
    | exact wpAny_bind (m := Builtin.Tuple.tupleExact _) (wpAny_newObj_type (wpAny_pure ⟨_, rfl, wpAny_pure h⟩) hok)
    | exact wpAny_bind (m := Builtin.Tuple.tupleExact _) (wpAny_newObj_type (wpAny_bind (wpAny_pure (wpAny_pure ⟨_, rfl, wpAny_pure h⟩))) hok)
    | exact wpAny_bind (wpAny_bind (m := Builtin.Tuple.tupleExact _) (wpAny_newObj_type (wpAny_pure (wpAny_pure ⟨_, rfl, wpAny_pure h⟩)) hok))
end
end DL.Ord
namespace DL
open PySem PySem.Spec PyProof.Rows L2
section
variable {X : Cx} {Y : Wsh} {K : PySem.W.Frag} {pos : Pos}
def tRevT (K : PySem.W.Frag) (te : TE) : TE := fun σ H Q => te σ H fun x H1 => ∃ a vs, x = .ref a ∧ SqT K H1 a vs ∧ Nt Q H1 vs.reverse
theorem pe_revT {e : Expr} {te : TE} {k : Nat} {p1 p2 p3 : Pos} (he : PE X e te) : PE X (.Subscript e (.Slice none none (some (.UnaryOp .USub (.Constant (.int 1) k p1) p2)) p3) pos) (tRevT X.K te) := by
  refine ⟨fun pins s σ H Q I h => ?_⟩
  refine Subscript_ (thn (he.run pins s σ H _ I h) fun v s1 ⟨x, H1, J1, r1, a, zs, ex, hx, q⟩ => ?_)
  subst ex
  cases r1
  have step : PO X (some (.UnaryOp .USub (.Constant (.int 1) k p1) p2)) (tPart (tUn (rU fun i => .int (-i)) (tC (.int 1)))) := po_some (pe_un un_neg pe_int)
  refine wpAny_Slice (thn (po_none.run pins s1 σ H1 (fun o G => o = none ∧ G = H1) J1 ⟨rfl, rfl⟩) fun vl s2 ⟨l, H2, J2, pl, el, e2⟩ => ?_)
  cases el; cases e2
  refine thn (po_none.run pins s2 σ H1 (fun o G => o = none ∧ G = H1) J2 ⟨rfl, rfl⟩) fun vu s3 ⟨u, H3, J3, pu, eu, e3⟩ => ?_
  cases eu; cases e3
  refine thn (step.run pins s3 σ H1 (fun o G => o = some (-1) ∧ G = H1) J3 ⟨1, rfl, -1, rfl, rfl, rfl⟩) fun vs s4 ⟨o, H4, J4, ps, eo, e4⟩ => ?_
  cases eo; cases e4
  have J5 : Inv X pins σ H1 { s4 with heap := s4.heap.push { cls := .type "slice", data := .fields #[vl, vu, vs] } } := J4.kept (t' := s4.toks) fun b ob q => Heap.get?_push_of_some _ q
  obtain ⟨its, r, ht, hz⟩ := J5.tuple hx
  have hlen := r.length
  show wpAny (model X.prog X.w) X.A (subscriptTail e (.Slice none none (some (.UnaryOp .USub (.Constant (.int 1) k p1) p2)) p3) (.ref a) (.ref s4.heap.objs.size)) (EP X pins σ Q) X.xe _
  refine tail_any (ops := [.ref a, .ref s4.heap.objs.size]) ht.typeIs (PyProof.Rows.slot_tuple_getitem.lookup) ?_ (by with_unfolding_all rfl)
  refine Ord.tuple_rev ht (Heap.IsSliceOf.new _ vl vu vs) pl pu ps (by rw [List.size_toArray]; omega) ?_
  refine ⟨V.ref _, _, J5.laid (o := .frz ⟨.type "tuple", none, .seq its.reverse.toArray 0, #[]⟩ (.tup zs.reverse)) (t' := s4.toks) (fun b ob q => Heap.get?_push_of_some _ q) (Nat.le_refl _) ?_, rfl, q _ _ rfl (J5.hok.fresh (Nat.le_refl _))⟩
  exact ⟨Heap.get?_push_size _ rfl, by rw [List.length_reverse]; exact hz, _, r.reverse, IsTup.new _ _⟩
def trev (te : TE') : TE' := fun τ h Q => te τ h fun x h1 => match x with | .tup ds => Q (.tup ds.reverse) h1 | _ => False
theorem RDs.reverse {h : DH} {H : Hp} : ∀ {ds : List D} {vs : List V}, RDs K h H ds vs → RDs K h H ds.reverse vs.reverse
  | [], vs, r => by cases (show vs = [] from r); exact rfl
  | d :: ds, vs, r => by
    obtain ⟨v, w, rfl, r1, r2⟩ := r
    rw [List.reverse_cons, List.reverse_cons]
    exact RDs.append (RDs.reverse r2) (.cons r1 .nil)
theorem de_rev {e : Expr} {te : TE'} {k : Nat} {p1 p2 p3 : Pos} (he : DE X Y e te) : DE X Y (.Subscript e (.Slice none none (some (.UnaryOp .USub (.Constant (.int 1) k p1) p2)) p3) pos) (trev te) :=
  (pe_revT he).imp fun σ H Q ⟨τ, h, Q', at', q, f⟩ => ⟨τ, h, _, at', q, fun x h1 v H1 k1 hr1 rx q1 => by
    cases x with
    | tup ds =>
      obtain ⟨a, vs, rfl, t, r⟩ := rx
      exact ⟨a, vs, rfl, t.sq, (f.after k1).tup hr1 r.reverse q1⟩
    | _ => exact q1.elim⟩
/-- a method of a tuple -/
def tBMt (K : PySem.W.Frag) (r : V → List V → Hp → VK → Prop) (to : TE) (t : TA) : TE := fun σ H Q => to σ H fun x H1 => (∃ a ob, x = .ref a ∧ ob.dict = none ∧ ((∃ vs, H1 a = some (.frz ob (.tup vs))) ∨ (K.lookup a = some ob ∧ ob.cls = .type "tuple"))) ∧ t σ H1 fun xs H2 => r x xs H2 Q
section
variable {o e : Expr} {es : List Expr} {to : TE} {t : TA} {name : Str} {apos cpos : Pos} {id : String} {r : V → List V → Hp → VK → Prop}
theorem pe_bmT (slot : Slot "tuple" name id) (hty : typeOf (.builtin id) = pure (.type "method_descriptor")) (hm : MtR X id r) (ho : PE X o to) (ha : PA X (e :: es) t)
    (hbase : attributeBase o name X.env (eval o X.env) = eval o X.env := by rfl)
    (hfew : ((backTo cpos (starEach (e :: es) X.env)).all (fun x => !x.1) && (backToKw cpos (keywordEach [] X.env)).all (fun x => x.1.isSome)
      && decide ((e :: es).length + ([] : List Keyword).length + (if ([] : List Keyword).isEmpty then 0 else 1) < 30)) = true := by rfl)
    (hline : (apos.endLine == cpos.line) = true := by rfl) (hs : starEach (e :: es) X.env = (false, eval e X.env) :: starEach es X.env := by rfl) (hplain : (backTo cpos (starEach es X.env)).any (·.1) = false := by rfl) :
    PE X (.Call (.Attribute o name apos) (e :: es) [] cpos) (tBMt X.K r to t) := by
  refine ⟨fun pins s σ H Q I h => ?_⟩
  refine wpAny_Call_method_late hbase hfew hline rfl (thn (ho.run pins s σ H _ I h) fun v s1 ⟨x, H1, J, r1, ⟨a, ob, ex, nd, ea⟩, q1⟩ => ?_)
  subst ex
  cases r1
  have got : s1.heap.get? a = some ob ∧ ob.cls = .type "tuple" := by
    rcases ea with ⟨vs, ea⟩ | ⟨hk, hc⟩
    · obtain ⟨g0, _, its, _, o2, g, c, _⟩ := J.hok a _ ea
      rw [g0] at g
      cases g
      exact ⟨g0, c⟩
    · exact ⟨J.kIn a ob hk, hc⟩
  refine ⟨"tuple", id, PySem.F.plainAttrs_tuple, slot, hty, ⟨ob, got⟩, fun b e => ?_, ?_⟩
  · cases e
    exact ⟨ob, got.1, nd⟩
  · have go := ha.run cpos pins s1 σ H1 _ J q1
    rw [hs] at go ⊢
    refine Calls.callWith_builtin ?_ (Calls.evalArgs_plain ?_)
    · show (false || (backTo cpos (starEach es X.env)).any (·.1)) = false
      rw [hplain]; rfl
    · exact thn go fun us s2 ⟨ws, H2, J2, r2, q2⟩ => hm pins s2 σ H2 (V.ref a) ws _ us Q J2 rfl r2 q2
end
/-- t.index(x), x a text that is there -/
def rTix (K : PySem.W.Frag) : V → List V → Hp → VK → Prop := fun x xs H Q => ∃ p, ∃ ys : List Str, ∃ z j, x = .ref p ∧ xs = [.str z] ∧ SqT K H p (ys.map V.str) ∧ ys[j]? = some z ∧ (∀ m, m < j → ys[m]? ≠ some z) ∧ Q (.int (j : Nat)) H
def ixK (xs : List D) (z : Str) (k : Nat → Prop) : Prop := ∃ ys : List Str, xs = ys.map D.str ∧ ∃ j, ys[j]? = some z ∧ (∀ m, m < j → ys[m]? ≠ some z) ∧ k j
def mIx : DM := fun x ds h Q => match x, ds with
  | .tup xs, [.str z] => ixK xs z fun j => Q (.int (j : Nat)) h
  | _, _ => False
theorem rds_strs_inv {h : DH} {H : Hp} : ∀ {ns : List Str} {vs : List V}, RDs K h H (ns.map D.str) vs → vs = ns.map V.str
  | [], vs, r => r
  | n :: ns, vs, r => by
    obtain ⟨v, w, rfl, r1, r2⟩ := r
    rw [show v = .str n from r1, rds_strs_inv r2]
    rfl
theorem ml_tix : MtL K (rTix K) mIx := by
  intro x ds v vs h H Q' Q rx rs hr q f
  unfold mIx at q
  split at q
  · obtain ⟨ys, rfl, j, e1, e2, q⟩ := q
    obtain ⟨w, rfl, r1⟩ := rs.one
    obtain ⟨a, ws, rfl, t, r2⟩ := rx
    cases rds_strs_inv r2
    exact ⟨a, ys, _, j, rfl, by rw [show w = _ from r1], t.sq, e1, e2, f (.int (j : Nat)) h _ H .refl hr rfl q⟩
  · exact q.elim
def isTp (x : D) : Prop := match x with | .tup _ => True | _ => False
def tbmT (r : DM) (to : TE') (ta : TA') : TE' := fun τ h Q => to τ h fun x h1 => isTp x ∧ ta τ h1 fun ds h2 => r x ds h2 Q
/-- xs.count(b), xs a list of truths -/
def rCntB (K : PySem.W.Frag) : V → List V → Hp → VK → Prop := fun x xs H Q => ∃ (a : Addr) (bs : List Bool) (b : Bool), x = V.ref a ∧ xs = [.bl b] ∧ SqL K H a (bs.map V.bl) ∧ Q (.int (bs.count b : Nat)) H
theorem reads_bls {h : Heap} : ∀ (bs : List Bool) (us : List Value), Vals (bs.map V.bl) us → ∃ as, ReadsAll h us (bs.map PyData.bool) as
  | [], us, r => by
    cases r
    exact ⟨_, .nil⟩
  | b :: bs, us, r => by
    obtain ⟨u, us, rfl, ru, rs⟩ : ∃ u ws, us = u :: ws ∧ RelV (V.bl b) u ∧ Vals (bs.map V.bl) ws := by
      cases r with
      | cons p q => exact ⟨_, _, rfl, p, q⟩
    cases ru
    obtain ⟨as, z⟩ := reads_bls bs us rs
    exact ⟨_, .cons (.bool _) z⟩
theorem count_bls (b : Bool) : ∀ bs : List Bool, (bs.map PyData.bool).countP (fun y => PyData.eqv y (.bool b)) = bs.count b
  | [] => rfl
  | c :: bs => by
    rw [List.map_cons, List.countP_cons, List.count_cons, count_bls b bs]
    cases b <;> cases c <;> rfl
theorem plain_bls : ∀ bs : List Bool, PyData.plainAll (bs.map PyData.bool) = true
  | [] => by simp [PyData.plainAll]
  | c :: bs => by simp [PyData.plainAll, PyData.plain, plain_bls bs]
theorem mt_cntB (hu : X.A.units + 64 < cLine) : MtR X "list.count" (rCntB X.K) := by
  intro pins s σ H x xs v us Q I rx rxs h
  obtain ⟨a, bs, b, rfl, rfl, hq, q⟩ := h
  cases rx
  obtain ⟨u, rfl, ru⟩ := rxs.one
  cases ru
  obtain ⟨its, r, pl, hz⟩ := I.list hq
  obtain ⟨as, ra⟩ := reads_bls (h := s.heap) bs its r
  refine SeqAt.count_list_data (vs := its.toArray) (xs := bs.map PyData.bool) (d := .bool b) pl.isList (by simpa using ra) (.bool _) (plain_bls bs) rfl ?_ ?_
  · have : min (PyData.depthAll (bs.map PyData.bool)) (PyData.bool b).depth ≤ (PyData.bool b).depth := Nat.min_le_right _ _
    have e : (PyData.bool b).depth = 0 := by simp [PyData.depth]
    omega
  · rw [count_bls]
    exact ⟨.int (bs.count b : Nat), H, I.tok _, ⟨_, rfl⟩, q⟩
def mCnt : DM := fun x ds h Q => match x, ds with
  | .lis xs, [.bl b] => ∃ bs : List Bool, xs = bs.map D.bl ∧ Q (.int (bs.count b : Nat)) h
  | _, _ => False
theorem rds_bls_inv {h : DH} {H : Hp} : ∀ {ns : List Bool} {vs : List V}, RDs K h H (ns.map D.bl) vs → vs = ns.map V.bl
  | [], vs, r => r
  | n :: ns, vs, r => by
    obtain ⟨v, w, rfl, r1, r2⟩ := r
    rw [show v = .bl n from r1, rds_bls_inv r2]
    rfl
theorem ml_cnt : MtL K (rCntB K) mCnt := by
  intro x ds v vs h H Q' Q rx rs hr q f
  unfold mCnt at q
  split at q
  · obtain ⟨bs, rfl, q⟩ := q
    obtain ⟨w, rfl, r1⟩ := rs.one
    obtain ⟨a, ws, rfl, n, t, r2⟩ := rx
    cases rds_bls_inv r2
    exact ⟨a, bs, _, rfl, by rw [show w = _ from r1], SqL.of t, f (.int (bs.count _ : Nat)) h _ H .refl hr rfl q⟩
  · exact q.elim
/-- xs.index(b), xs a list of truths -/
def mIxB : DM := fun x ds h Q => match x, ds with
  | .lis xs, [.bl b] => ∃ bs : List Bool, xs = bs.map D.bl ∧ ∃ j, bs[j]? = some b ∧ (∀ m, m < j → bs[m]? = some (!b)) ∧ Q (.int (j : Nat)) h
  | _, _ => False
theorem ml_ixB : MtL K (rIndex K) mIxB := by
  intro x ds v vs h H Q' Q rx rs hr q f
  unfold mIxB at q
  split at q
  · rename_i xs b
    obtain ⟨bs, rfl, j, e1, e2, q⟩ := q
    obtain ⟨w, rfl, r1⟩ := rs.one
    cases (show w = V.bl b from r1)
    obtain ⟨a, ws, rfl, n, t, r2⟩ := rx
    cases rds_bls_inv r2
    refine ⟨a, _, .bl b, j, .bl b, rfl, rfl, SqL.of t, rfl, ?_, by rw [List.getElem?_map, e1]; rfl, by cases b <;> rfl, fun m z hm hz => ?_, f (.int (j : Nat)) h _ H .refl hr rfl q⟩
    · rw [List.all_map]; exact List.all_eq_true.mpr fun _ _ => rfl
    · rw [List.getElem?_map, e2 m hm] at hz
      cases hz
      cases b <;> rfl
  · exact q.elim
end
end DL

set_option Elab.async false
set_option linter.all false
set_option maxRecDepth 100000
/-! DX5: errors of own classes over the data layer: raise, a try with one call and one clause, defs that are called with the error while it is handled. -/
namespace DL
open PySem PySem.Spec PyProof.Rows L2
open L2H (RoomH Hot1 PinOk cxH inv_startH HotC)
section
variable {X : Cx} {Y : Wsh} {K : PySem.W.Frag} {pos : Pos}
/-! ### a class, raise -/
theorem de_cls {x : Str} {C : Addr} (hg : Gl X x) (hm : X.mg x = some (.ref C)) (hd : (x == ("__debug__" : Str)) = false := by decide) : DE X Y (.Name x pos) (tc (.ref C)) :=
  (pe_glob (v := V.ref C) hg hm rfl hd).imp fun σ H Q ⟨τ, h, Q', at', q, f⟩ => f (.ref C) h _ H .refl at'.hr rfl q
def traise (E : XK') (c : Value) : TS' := fun _ _ h => E c h
theorem ds_raise {C : Addr} {bmB : List Value} {B newId initId : String} {x m : Str} {j : Nat} {p p2 pos' : Pos} (hc : X.calm = true) (tk : L2N.Takes X fun cls d _ H => Y.v cls d H)
    (F : ExcBaseFacts B newId initId bmB) (q : PySem.W.excIn X.K C bmB newId = true) (gC : X.mg x = some (.ref C)) (kC : PySem.W.keepIn X.K (.ref C) = true) (r : Raises X (.ref C)) (hg : Gl X x) (hd : (x == ("__debug__" : Str)) = false := by decide) :
    DS X Y (.Raise (some (.Call (.Name x p) [.Constant (.str m) j p2] [] pos)) none pos') (traise Y.d (.ref C)) :=
  (L2N.ps_raise hc tk (L2N.pmk_own F q gC kC r hg hd)).imp fun D σ H ⟨τ, h, D', at', q, f⟩ => at'.fx _ h H .refl at'.hr q
/-- a raise that is never reached -/
def tno : TS' := fun _ _ _ => False
theorem ds_never {st : Stmt} : DS X Y st tno := ⟨fun _ _ _ _ _ _ ⟨_, _, _, _, q, _⟩ => q.elim⟩
/-! ### isinstance of the handled error -/
theorem call_isP {p : Addr × Obj} {C : Addr} (hp : p ∈ X.pn) (T : ExcC X.K C) (hz : Zc (.ref C) none p.2) (hf : ∃ vs, p.2.data = .fields vs) : CallR X (.builtin "isinstance") (rIsE X.K C p.1) := by
  intro pins s σ H xs us Q I r h
  obtain ⟨c, cv, b, rfl, uq, e, q⟩ := h
  obtain ⟨u1, ws, rfl, r1, r2⟩ : ∃ u ws, us = u :: ws ∧ RelV (V.ref p.1) u ∧ Vals [c] ws := by
    cases r with
    | cons a b => exact ⟨_, _, rfl, a, b⟩
  obtain ⟨u2, rfl, r3⟩ := vals1 r2
  cases r1
  cases uq _ r3
  have got := (I.pin p (List.mem_append_left _ hp)).1
  have J : PySem.W.InstAt s.heap p.1 p.2 C none := by
    obtain ⟨a, oc, od, oda, osl⟩ := p
    obtain ⟨vs, hv⟩ := hf
    obtain ⟨h1, h2⟩ := hz
    dsimp only at h1 h2 hv
    subst h1 h2 hv
    exact ⟨got, rfl, rfl, trivial⟩
  exact PySem.W.kia_one (PySem.W.handS_kitx_exc T.hg T.hk T.hs T.hd T.ha T.hn T.ht T.hm) I.kIn J e (fun z => nomatch z) fun tk => ⟨.bl b, H, I.kept (t' := tk) fun _ _ z => z, rfl, q⟩
/-- what isinstance says of an error of the class C -/
def isx (K : PySem.W.Frag) (C : Addr) : D → Option Bool
  | .ref c => PySem.W.kitOne K (.ref C) (.ref c)
  | .ty n => PySem.W.kitOne K (.ref C) (.type n)
  | _ => none
def caIsE (is : D → Option Bool) (a : Addr) : List D → DH → VK' → Prop := fun ds h Q => match ds with
  | [.ref b, c] => b = a ∧ ∃ k, is c = some k ∧ Q (.bl k) h
  | _ => False
theorem cl_isE {C a : Addr} : CallL K (rIsE K C a) (caIsE (isx K C) a) := by
  intro ds vs h H Q' Q r hr q f
  unfold caIsE at q
  split at q
  · rename_i b c
    obtain ⟨rfl, k, e, q⟩ := q
    obtain ⟨v, w, rfl, r1, r2⟩ := r
    obtain ⟨u, rfl, r3⟩ := r2.one
    cases (show v = V.ref b from r1)
    cases c with
    | ref c =>
      cases (show u = V.ref c from r3)
      exact ⟨_, .ref c, k, rfl, fun u z => z, e, f (.bl k) h _ H .refl hr rfl q⟩
    | ty n =>
      cases (show u = V.ty n from r3)
      exact ⟨_, .type n, k, rfl, fun u z => z, e, f (.bl k) h _ H .refl hr rfl q⟩
    | _ => cases e
  · exact q.elim
end
/-! ### a def that is called with the handled error: c its class, a its place -/
section
variable {P : Program} {w : World} {K : PySem.W.Frag} {mg : Str → Option Value} {base : Heap}
structure FnE (P : Program) (w : World) (K : PySem.W.Frag) (mg : Str → Option Value) (base : Heap) (k : Nat) (f : Addr) (fd : FuncData) (ps : List Str) (sp : Value → Addr → Sp') : Prop where
  len : ∀ c a ds h Q E, sp c a ds h Q E → ds.length = ps.length
  run : ∀ (A : Around) (outer : List Env) (s : Shared) (H : Hp) (args : Args) (us : List Value) (vs : List V) (Q : VK) (E : XK) (p : Addr × Obj), RoomH k A → Hot1 A p → p.2.dict = none → PinOk outer H s p → Env0 P w K mg base A outer s H → BindsTo s fd args (ps.zip us) → Vals vs us →
    lSp K (sp p.2.cls p.1) vs H Q E → codeAny (model P w) A (.call (.ref f) args) (CR (L2N.CX P w) outer P w H s Q E) s
theorem FnE.mono {j k : Nat} {f : Addr} {fd : FuncData} {ps : List Str} {sp : Value → Addr → Sp'} (F : FnE P w K mg base j f fd ps sp) (h : j ≤ k) : FnE P w K mg base k f fd ps sp :=
  ⟨F.len, fun A outer s H args us vs Q E p hr => F.run A outer s H args us vs Q E p (hr.mono h)⟩
theorem fnE {x qual : Str} {st : Stmt} {f : Addr} {fd : FuncData} {N ps : List Str} {k : Nat} {sp : Value → Addr → Sp'} (F : Fun K x qual st f fd) (S : FnScope N ps (defScope st)) (len : ∀ c a ds h Q E, sp c a ds h Q E → ds.length = ps.length)
    (hb : ∀ (cdv : Value) (A : Around) (outer : List Env) (s : Shared) (H : Hp) (E : XK) (p : Addr × Obj), RoomH k (A.deeper (envOfC qual (defScope st) s.heap.objs.size f cdv)) → Zc p.2.cls none p.2 → (∃ vs, p.2.data = .fields vs) → ∀ ds h Q E', sp p.2.cls p.1 ds h Q E' →
      ∃ t, DSs (cxH (L2N.CX P w) P w K mg base N qual (defScope st) f cdv A outer s H E p) ⟨E', E⟩ (defBody st) t ∧ t (ends Q) (slots N ds) h) : FnE P w K mg base (k + 1) f fd ps sp := by
  obtain ⟨oc, od, kV, doc, pm, an, cdv, ct, osl, rfl, lk, hcd⟩ := F.ex
  refine ⟨len, fun A outer s H args us vs Q E p hr hot nd pin e0 hbind r q0 => ?_⟩
  obtain ⟨ds, h, Q', E', rs, hr', q, fn, fx⟩ := q0
  have hl : vs.length = ps.length := by rw [rs.length]; exact len _ _ _ _ _ _ q
  have inK : K.In s.heap := e0.mod.kin.keeps fun b o e => (e0.bs b o e).1
  have noL : s.heap.NoLimit := e0.mod.nolimit.keeps fun b o e => (e0.bs b o e).1
  have kinds : ∀ y ∈ ps.zip us, (defScope st).names.lookup y.1 = some .local ∨ ((defScope st).names.lookup y.1 = some .cell ∧ ((cellsFrom (s.heap.objs.size + 1) (defScope st).names []).lookup y.1).isSome = true) := by
    rintro ⟨n, v⟩ hy
    rcases S.par n (List.of_mem_zip hy).1 with z | z
    · exact .inl z
    · exact .inr ⟨z, PySem.W.cellsFrom_some _ _ _ (.inl z)⟩
  refine codeAny_call_function hr.depth (inK _ _ lk) rfl S.co S.gen rfl (PySem.W.codeRec_of inK hcd) (hbind _ _ _ _ ?_)
  refine wpAny_newFunctionEnv_cells S.kind kinds fun env he s1 xc => ?_
  subst he
  refine ⟨noL.keeps xc.toInCall.keep, codeAny_func ?_⟩
  obtain ⟨fv, efs, _⟩ := hot.2
  obtain ⟨t, ht, hq⟩ := hb cdv A outer s H E p (hr.deeper _) ⟨rfl, nd⟩ ⟨fv, efs⟩ ds h Q' E' q
  have J := inv_startH (CX := L2N.CX P w) (E := E) S pin e0 hl r xc
  refine wpAny_mono (ht.run [] s1 (L2.start N vs) H { nx := fun _ H' => Q .non H', rt := Q } J ⟨slots N ds, h, ends Q', ⟨?_, ?_, hr', fx⟩, hq, ?_⟩) (fun fl s' hs => ?_) fun e s' hs => hs
  · unfold slots L2.start
    rw [List.length_append, List.length_append, List.length_map, List.length_map, List.length_replicate, List.length_replicate, rs.length]
  · intro i d e
    unfold slots at e
    unfold L2.start
    by_cases hi : i < ds.length
    · rw [List.getElem?_append_left (by rw [List.length_map]; exact hi), List.getElem?_map] at e
      cases ed : ds[i]? with
      | none => rw [ed] at e; cases e
      | some d' =>
        rw [ed] at e
        cases e
        obtain ⟨v, ev, rv⟩ := rs.get ed
        refine ⟨v, ?_, rv⟩
        rw [List.getElem?_append_left (by rw [List.length_map, rs.length]; exact hi), List.getElem?_map, ev]
        rfl
    · rw [List.getElem?_append_right (by rw [List.length_map]; omega), List.getElem?_replicate] at e
      split at e <;> cases e
  · refine ⟨fun τ h' σ H' k' hr2 _ _ q2 => ?_, fun d h' v H' k' hr2 rd q2 => ?_, fun _ _ _ _ _ _ _ _ z => z, fun _ _ _ _ _ _ _ _ z => z⟩
    · obtain ⟨h2, sb, q2⟩ := q2
      exact fn .non h2 .non H' (k'.sub sb) (hr2.sub sb) rfl q2
    · obtain ⟨h2, sb, q2⟩ := q2
      exact fn d h2 v H' (k'.sub sb) (hr2.sub sb) (RD.sub sb _ _ rd) q2
  · cases fl with
    | ret u =>
      obtain ⟨v, σ', H', J', rv, q⟩ := hs
      exact ⟨v, H', J'.os, J'.bare, J'.base, J'.hok, rv, q⟩
    | next =>
      obtain ⟨σ', H', J', q⟩ := hs
      exact ⟨V.non, H', J'.os, J'.bare, J'.base, J'.hok, rfl, q⟩
    | brk => exact hs.elim fun _ z => z.elim fun _ z => z.2.elim
    | cont => exact hs.elim fun _ z => z.elim fun _ z => z.2.elim
end
end DL

set_option Elab.async false
set_option linter.all false
set_option maxRecDepth 100000
/-! DX6: f(e) in an except suite; try: f(..) except X as e: suite. -/
namespace DL
open PySem PySem.Spec PyProof.Rows L2
open L2H (RoomH Hot1 PinOk)
section
variable {X : Cx} {Y : Wsh} {K : PySem.W.Frag} {pos : Pos}
section
variable {k : Nat} {f : Addr} {fd : FuncData} {ps : List Str} {x : Str} {p : Pos} {a : Expr} {es : List Expr} {tr : TA'}
/-- f(..) while the error at q is handled -/
theorem de_callE {sp : Value → Addr → Sp'} {q : Addr × Obj} (F : FnE X.prog X.w X.K X.mg X.base k f fd ps sp) (hr : RoomH k X.A) (hot : Hot1 X.A q) (nd : q.2.dict = none) (hq : q ∈ X.pn) (hg : Gl X x) (hm : X.mg x = some (.ref f)) (hk : PySem.W.keepIn X.K (.ref f) = true) (hb : Binds X.K fd ps [])
    (ha : DA X Y (a :: es) tr) (hdb : (x == ("__debug__" : Str)) = false := by decide) (he : starEach (a :: es) X.env = (false, eval a X.env) :: starEach es X.env := by rfl) (hpl : (backTo pos (starEach es X.env)).any (·.1) = false := by rfl) :
    DE X Y (.Call (.Name x p) (a :: es) [] pos) (tcall (sp q.2.cls q.1) (fun _ _ => False) tr) := by
  refine ⟨fun pins s σ H Q I h => ?_⟩
  obtain ⟨τ, h, Q', at', z, fin⟩ := h
  refine wpAny_Call_Name_kw (ld_glob I hg hm ?_ hdb)
  refine PySem.W.callWith_K (h₀ := X.base) I.ok.mod.kin hk (thn (ha.run pos pins s σ H (fun vs H1 => ∃ ds h1, KP h H h1 H1 ∧ HR X.K h1 H1 ∧ RDs X.K h1 H1 ds vs ∧ sp q.2.cls q.1 ds h1 Q' fun _ _ => False) I ⟨τ, h, _, at', z, fun ds h1 vs H1 k1 r1 rs q1 => ⟨ds, h1, k1, r1, rs, q1⟩⟩) fun us s1 ⟨vs, H1, J, r, ds, h1, k1, r1, rs, q1⟩ => ⟨J.kIn, ?_⟩) he hpl
  have hl : us.length = ps.length := by rw [← r.length, rs.length]; exact F.len _ _ _ _ _ _ q1
  have b := hb s1 us J.kIn (by rw [List.append_nil]; exact hl)
  rw [List.append_nil] at b
  have P1 := J.pin q (List.mem_append_left _ hq)
  have pin : PinOk X.stack H1 s1 q := ⟨P1.1, P1.2.1, fun hm => (List.mem_cons.mp (J.stkSub q.1 hm)).elim P1.2.2.1 P1.2.2.2.1, P1.2.2.2.2⟩
  refine wpAny_call (codeAny_mono (F.run X.A X.stack s1 H1 ⟨us, []⟩ us vs Q (fun _ _ _ => False) q hr hot nd pin J.env0 b r ⟨ds, h1, Q', _, rs, r1, q1, fin.after k1, fun _ _ _ _ _ z => z⟩) fun res s' hh => ?_)
  cases res with
  | error e =>
    obtain ⟨_, _, _, _, _, _, _, _, _, _, _, _, z⟩ := hh
    exact z.elim
  | ok fl =>
    cases fl with
    | ret u => exact J.after hh
    | next => exact hh.elim
    | brk => exact hh.elim
    | cont => exact hh.elim
end
/-! ### try -/
theorem SR.unset {h : DH} {H : Hp} {σ : L2.St} {τ : St'} {i : Nat} (r : SR K h H σ τ) : SR K h H (σ.set i none) (τ.set i none) := fun j e ej => by
  by_cases hij : i = j
  · subst hij
    by_cases hi : i < τ.length
    · rw [List.getElem?_set_self hi] at ej; cases ej
    · rw [List.getElem?_eq_none (by rw [List.length_set]; omega)] at ej; cases ej
  · rw [List.getElem?_set_ne hij] at ej
    obtain ⟨u, e1, q1⟩ := r j e ej
    exact ⟨u, by rw [List.getElem?_set_ne hij]; exact e1, q1⟩
/-- behind the suite slot i is empty -/
def unE (i : Nat) (D : Ends') : Ends' := { nx := fun τ h => D.nx (τ.set i none) h, rt := D.rt, bk := fun τ h => D.bk (τ.set i none) h, ct := fun τ h => D.ct (τ.set i none) h }
/-- try: f(args) except C as e: suite -/
def ttry (sp : Sp') (ta : TA') (ct : Value → Option Bool) (i : Nat) (ts : Value → Addr → TS') : TS' := fun D τ h => ta τ h fun ds h1 => sp ds h1 (fun _ h2 => D.nx τ h2) fun c h2 => ct c = some true ∧ ∀ a, h2 a = none → ts c a (unE i D) (τ.set i (some (.ref a))) h2
/-- nothing is let out -/
theorem takes0N : L2N.Takes X (fun _ _ _ _ => False) := fun _ _ x => by
  obtain ⟨_, _, _, _, _, _, _, _, _, _, _, _, _, _, _, _, z⟩ := x
  exact z.elim
section
variable {k : Nat} {f : Addr} {fd : FuncData} {ps : List Str} {sp : Sp'} {x n g : Str} {c : Value} {i : Nat} {gp np pos' epos : Pos} {a : Expr} {es : List Expr} {b₀ : Stmt} {suite : List Stmt} {tr : TA'} {ts : Value → Addr → TS'}
theorem ds_try (hs : X.stack = X.env :: X.outer) (hf : X.env.frame = some X.env.locals) (hN : X.N.Nodup) (hi : X.N[i]? = some n) (hln : X.env.kindOf n = some .local) (hc : Names X x c)
    (F : FnD X.prog X.w X.K X.mg X.base k f fd ps sp) (hr : Room k X.A) (hg : Gl X g) (hm : X.mg g = some (.ref f)) (hk : PySem.W.keepIn X.K (.ref f) = true) (hb : Binds X.K fd ps [])
    (ha : ∀ pn xe, DA (X.tr pn xe) Y (a :: es) tr) (hsu : ∀ (e : Addr) (oe : Obj) (pn : List (Addr × Obj)), oe.dict = none → Hot1 (X.A.mark (some (.ref e))) (e, oe) → DSs (X.suite e ((e, oe) :: pn)) Y (b₀ :: suite) (ts oe.cls e))
    (he : starEach (a :: es) X.env = (false, eval a X.env) :: starEach es X.env := by rfl) (hpl : (backTo epos (starEach es X.env)).any (·.1) = false := by rfl) (hdb : (g == ("__debug__" : Str)) = false := by decide)
    (hsw : swapsWith (.Call (.Name g gp) (a :: es) [] epos) none epos.line X.env = pure false := by rfl) :
    DS X Y (.Try [.Expr (.Call (.Name g gp) (a :: es) [] epos) epos] [.ExceptHandler (some (.Name x np)) (some n) (b₀ :: suite) pos'] [] [] pos) (ttry sp tr (fun cl => PySem.W.exmOne X.K cl c) i ts) := by
  refine PS.imp (L2N.ps_try_as (i := i) (Wout := fun _ _ _ _ => False) (tb := fun W => tDrop (tCallS (lSp X.K sp) (WE W) (lA X.K Y tr))) (ts := fun e cls d => match d with | none => lS X.K Y (ts cls e) | some _ => fun _ _ _ => False) hs hf hN hi hln hc takes0N (fun W pn xe tk _ => ?_) (fun e oe cls d pn hz hfs => ?_)) ?_
  · exact pss_one (ps_expr (pe_callS (X := X.tr pn xe) F hr hg hm hk hb (fun σ => L2N.passAt tk σ) (ha pn xe) hdb he hpl) hsw)
  · cases d with
    | none =>
      obtain ⟨vs, ev⟩ := hfs
      have ec := hz.1
      subst ec
      exact hsu e oe pn hz.2.1 ⟨rfl, vs, ev, hz.2.2 vs ev⟩
    | some d => exact ⟨fun _ _ _ _ _ _ z => z.elim⟩
  · rintro D σ H ⟨τ, h, D', at', q, f⟩
    refine ⟨τ, h, _, at', q, fun ds h1 vs H1 k1 hr1 rs q1 => ⟨ds, h1, _, _, rs, hr1, q1, fun d h2 v H2 k2 hr2 _ q2 => ?_, fun cl h2 H2 k2 hr2 q2 => ?_⟩⟩
    · exact f.nx τ h2 σ H2 (k1.trans k2) hr2 at'.len (at'.sr.mono (k1.trans k2)) q2
    · refine ⟨true, q2.1, fun _ e ne => ?_, fun z => nomatch z⟩
      have kk := k1.trans k2
      have A2 := at'.after kk hr2
      refine ⟨τ.set i (some (.ref e)), h2, unE i D', ⟨by rw [List.length_set, List.length_set]; exact A2.len, A2.sr.set A2.len rfl, hr2, A2.fx⟩, q2.2 e (hr2.fresh ne), ⟨?_, f.rt.after kk, ?_, ?_⟩⟩
      · exact fun τ3 h3 σ3 H3 k3 hr3 l3 s3 q3 => f.nx _ h3 _ H3 (kk.trans k3) hr3 (by rw [List.length_set, List.length_set]; exact l3) s3.unset q3
      · exact fun τ3 h3 σ3 H3 k3 hr3 l3 s3 q3 => f.bk _ h3 _ H3 (kk.trans k3) hr3 (by rw [List.length_set, List.length_set]; exact l3) s3.unset q3
      · exact fun τ3 h3 σ3 H3 k3 hr3 l3 s3 q3 => f.ct _ h3 _ H3 (kk.trans k3) hr3 (by rw [List.length_set, List.length_set]; exact l3) s3.unset q3
end
/-! ### methods of tuples -/
theorem de_bmT {r : V → List V → Hp → VK → Prop} {r' : DM} {o e : Expr} {es : List Expr} {to' : TE'} {ta : TA'} {nm : Str} {id : String} {ap : Pos} (slot : Slot "tuple" nm id) (hty : typeOf (.builtin id) = pure (.type "method_descriptor")) (hm : MtR X id r) (hl : MtL X.K r r') (ho : DE X Y o to') (ha : DA X Y (e :: es) ta)
    (hbase : attributeBase o nm X.env (eval o X.env) = eval o X.env := by rfl)
    (hfew : ((backTo pos (starEach (e :: es) X.env)).all (fun x => !x.1) && (backToKw pos (keywordEach [] X.env)).all (fun x => x.1.isSome)
      && decide ((e :: es).length + ([] : List Keyword).length + (if ([] : List Keyword).isEmpty then 0 else 1) < 30)) = true := by rfl)
    (hline : (ap.endLine == pos.line) = true := by rfl) (hs : starEach (e :: es) X.env = (false, eval e X.env) :: starEach es X.env := by rfl) (hplain : (backTo pos (starEach es X.env)).any (·.1) = false := by rfl) :
    DE X Y (.Call (.Attribute o nm ap) (e :: es) [] pos) (tbmT r' to' ta) :=
  (pe_bmT slot hty hm ho ha hbase hfew hline hs hplain).imp fun σ H Q ⟨τ, h, Q', at', q, f⟩ => ⟨τ, h, _, at', q, fun x h1 v H1 k1 hr1 rx q1 => by
    cases x with
    | tup ds =>
      have rx0 := rx
      obtain ⟨a, vs, rfl, t, rs⟩ := rx
      rcases t with ⟨na, ob, nd, ea⟩ | ⟨o, its, m, e1, e2, e3, _⟩
      · exact ⟨⟨a, ob, rfl, nd, .inl ⟨vs, ea⟩⟩, τ, h1, _, at'.after k1 hr1, q1.2, fun ds2 h2 vs2 H2 k2 hr2 rs2 q2 => hl _ ds2 _ vs2 h2 H2 Q' Q (RD.mono k2 _ _ rx0) rs2 hr2 q2 (f.after (k1.trans k2))⟩
      · exact ⟨⟨a, o, rfl, e3, .inr ⟨e1, e2⟩⟩, τ, h1, _, at'.after k1 hr1, q1.2, fun ds2 h2 vs2 H2 k2 hr2 rs2 q2 => hl _ ds2 _ vs2 h2 H2 Q' Q (RD.mono k2 _ _ rx0) rs2 hr2 q2 (f.after (k1.trans k2))⟩
    | _ => exact q1.1.elim⟩
end
theorem _root_.L2H.RoomH.units {k : Nat} {A : Around} (r : RoomH k A) : A.units + 64 < cLine := by have := r.un; omega
theorem boot'_ValueError : bootBuiltins "ValueError" = some (.type "ValueError") := by first | exact PySem.boot_ValueError | exact PyProof.Rows.boot_ValueError | decide +kernel
end DL

set_option Elab.async false
set_option linter.all false
set_option maxRecDepth 100000
/-! DX7: for c in text, text[lo:hi]. -/
namespace DL
open PySem PySem.Spec PyProof.Rows L2
section
variable {X : Cx} {Y : Wsh} {K : PySem.W.Frag} {pos : Pos}
def signs (z : Str) : List D := z.cps.toList.map fun c => D.str ⟨#[c]⟩
def tstr (t : TE') : TI' := fun τ h Q => t τ h fun x h1 => match x with
  | .str z => Q (signs z) (fun _ => True) h1
  | _ => False
theorem walks_str {z : Str} {h1 : DH} {H1 : Hp} : WalksD K (Its z) (signs z) (fun _ => True) h1 H1 where
  stop := fun h H k hr hc => by
    show z.cps.size ≤ (signs z).length
    unfold signs
    simp
  go := fun h H i d k hr hc e => by
    have := get_lt e
    unfold signs at this
    show i < z.cps.size
    simpa using this
  yld := fun h H i d x H' k hr hc e y => by
    obtain ⟨rfl, c, ec, rfl⟩ := y
    unfold signs at e
    rw [List.getElem?_map, Array.getElem?_toList, ec] at e
    cases e
    exact ⟨.refl, hr, rfl⟩
theorem di_str {tg l : Expr} {tl : TE'} (p : DE X Y l tl) : DI X Y tg l (tstr tl) := PI.imp (pi_str p) fun σ H R ⟨τ, h, Q', at', q, f⟩ => ⟨τ, h, _, at', q, fun x h1 v H1 k1 hr1 rx q1 => by
  cases x with
  | str z => exact ⟨z, rx, f _ _ _ _ _ k1 hr1 walks_str q1⟩
  | _ => exact q1.elim⟩
def slS (x : D) (lo hi : Option Int) (h : DH) (Q : VK') : Prop := match x with
  | .str z => z.length ≤ sizeLine ∧ Q (.str (cutS z lo hi)) h
  | _ => False
def tslS (te : TE') (tl th : TO') : TE' := fun τ h Q => te τ h fun x h1 => tl τ h1 fun l h2 => th τ h2 fun u h3 => slS x l u h3 Q
theorem de_sliceS {e : Expr} {lo hi : Option Expr} {te : TE'} {tl th : TO'} {p2 : Pos} (he : DE X Y e te) (hl : DO' X Y lo tl) (hu : DO' X Y hi th) : DE X Y (.Subscript e (.Slice lo hi none p2) pos) (tslS te tl th) :=
  (pe_slice sl_str he hl hu).imp fun σ H Q ⟨τ, h, Q', at', q, f⟩ => ⟨τ, h, _, at', q, fun x h1 v H1 k1 hr1 rx q1 => ⟨τ, h1, _, at'.after k1 hr1, q1, fun l h2 H2 k2 hr2 q2 => ⟨τ, h2, _, at'.after (k1.trans k2) hr2, q2, fun u h3 H3 k3 hr3 q3 => by
    cases x with
    | str z => exact ⟨z, rx, q3.1, f (.str (cutS z l u)) h3 _ H3 (k1.trans (k2.trans k3)) hr3 rfl q3.2⟩
    | _ => exact q3.elim⟩⟩⟩
/-- an expression that is never reached -/
def tnoE : TE' := fun _ _ _ => False
theorem de_never {e : Expr} : DE X Y e tnoE := ⟨fun _ _ _ _ _ _ ⟨_, _, _, _, q, _⟩ => q.elim⟩
end
end DL

set_option Elab.async false
set_option linter.all false
set_option maxRecDepth 100000
set_option maxHeartbeats 1000000
/-! DO: how letters stand to each other: ranks, keys, three ways; kinds turned. No program in sight. -/
namespace DL
open PySem PySem.Spec PyProof.Rows L2
/-- a and b, compared -/
def Tri (a b : D) (o : Ordering) : Prop := cmpD a b = some (o == .lt) ∧ cmpD b a = some (o == .gt) ∧ deq a b = (o == .eq) ∧ deq b a = (o == .eq)
theorem deq_nil : deq (.tup []) (.tup []) = true := by simp [deq, toPy, toPys, PyData.eqv, PyData.eqvAll]
theorem deq_cons (x y : D) (xs ys : List D) : deq (.tup (x :: xs)) (.tup (y :: ys)) = (deq x y && deq (.tup xs) (.tup ys)) := by
  unfold deq
  simp only [toPy, toPys]
  cases toPy x <;> cases toPy y <;> cases toPys xs <;> cases toPys ys <;> simp [PyData.eqv, PyData.eqvAll]
theorem deq_int (i j : Int) : deq (.int i) (.int j) = decide (i = j) := by
  show (i == j) = _
  rw [Bool.beq_eq_decide_eq]
theorem tri_int (i j : Int) : Tri (.int i) (.int j) (compare i j) := by
  unfold Tri
  rw [deq_int, deq_int]
  simp only [cmpD]
  rcases Int.lt_trichotomy i j with h | h | h
  · have e : compare i j = .lt := by simp [compare, compareOfLessAndEq, h]
    rw [e]
    refine ⟨by simp [h], by simp; omega, by simp; omega, by simp; omega⟩
  · subst h
    have e : compare i i = .eq := by simp [compare, compareOfLessAndEq]
    rw [e]
    refine ⟨by simp, by simp, by simp, by simp⟩
  · have e : compare i j = .gt := by
      have h1 : ¬ i < j := by omega
      have h2 : ¬ i = j := by omega
      simp [compare, compareOfLessAndEq, h1, h2]
    rw [e]
    refine ⟨by simp; omega, by simp [h], by simp; omega, by simp; omega⟩
theorem tri_nil : Tri (.tup []) (.tup []) .eq := ⟨rfl, rfl, deq_nil, deq_nil⟩
theorem tri_cons {x y : D} {xs ys : List D} {o o2 : Ordering} (a : Tri x y o) (b : Tri (.tup xs) (.tup ys) o2) : Tri (.tup (x :: xs)) (.tup (y :: ys)) (o.then o2) := by
  obtain ⟨a1, a2, a3, a4⟩ := a
  obtain ⟨b1, b2, b3, b4⟩ := b
  simp only [cmpD] at b1 b2
  refine ⟨?_, ?_, ?_, ?_⟩
  · simp only [cmpD, cmpDs, a3]
    cases o <;> simp_all
  · simp only [cmpD, cmpDs, a4]
    cases o <;> simp_all
  · rw [deq_cons, a3, b3]; cases o <;> simp
  · rw [deq_cons, a4, b4]; cases o <;> simp
theorem tri_ne {x y : D} {xs ys : List D} {o : Ordering} (a : Tri x y o) (n : o ≠ .eq) : Tri (.tup (x :: xs)) (.tup (y :: ys)) o := by
  obtain ⟨a1, a2, a3, a4⟩ := a
  have e : (o == .eq) = false := by cases o <;> simp_all
  refine ⟨?_, ?_, ?_, ?_⟩
  · simp only [cmpD, cmpDs, a3, e, a1]; simp
  · simp only [cmpD, cmpDs, a4, e, a2]; simp
  · rw [deq_cons, a3, e]; rfl
  · rw [deq_cons, a4, e]; rfl
theorem tri_one {x y : D} {o : Ordering} (a : Tri x y o) : Tri (.tup [x]) (.tup [y]) o := by
  have := tri_cons a tri_nil
  rwa [show o.then .eq = o by cases o <;> rfl] at this
theorem tri_two {x y u v : D} {o o2 : Ordering} (a : Tri x y o) (b : Tri u v o2) : Tri (.tup [x, u]) (.tup [y, v]) (o.then o2) := tri_cons a (tri_one b)
/-! ### ranks (w: each number in a tuple) -/
def wr (w : Bool) (i : Int) : D := if w then .tup [.int i] else .int i
def ixf : List Str → Str → Nat
  | [], _ => 0
  | x :: xs, z => if x = z then 0 else ixf xs z + 1
theorem ixf_ok : ∀ {ns : List Str} {x : Str}, x ∈ ns → ns[ixf ns x]? = some x ∧ ∀ j, j < ixf ns x → ns[j]? ≠ some x
  | y :: ns, x, m => by
    by_cases e : y = x
    · subst e
      simp [ixf]
    · have m' : x ∈ ns := by
        rcases List.mem_cons.mp m with z | z
        · exact absurd z.symm e
        · exact z
      obtain ⟨a, b⟩ := ixf_ok m'
      simp only [ixf, if_neg e]
      refine ⟨by simpa using a, fun j hj => ?_⟩
      cases j with
      | zero => simpa using e
      | succ j => simpa using b j (by omega)
def zz (i : Int) : Int := if 0 < i then 2 * i - 1 else -2 * i
mutual
def rk (w : Bool) : Kd → D → D
  | .nm ns, .str x => wr w ((ixf ns x : Nat) : Int)
  | .it, .int i => wr w (zz i)
  | .pr a b, .tup [_, x, y] => .tup [rk w a x, rk w b y]
  | .ei ks, .tup [_, .int i, x] => .tup [.int i, rkn w ks i.toNat x]
  | .mb _, .tup [_] => .tup [.int 0]
  | .mb k, .tup [_, x] => .tup [.int 1, rk w k x]
  | _, _ => .non
def rkn (w : Bool) : List Kd → Nat → D → D
  | [], _, _ => .non
  | k :: _, 0, x => rk w k x
  | _ :: ks, n + 1, x => rkn w ks n x
end
theorem rkn_get (w : Bool) : ∀ (ks : List Kd) (i : Nat) (x : D) (k : Kd), ks[i]? = some k → rkn w ks i x = rk w k x
  | [], i, x, k, e => by simp at e
  | k :: ks, 0, x, k', e => by simp at e; subst e; simp [rkn]
  | k :: ks, i + 1, x, k', e => by rw [rkn]; exact rkn_get w ks i x k' (by simpa using e)
theorem isStr_eq' {t : D} {s : Str} (h : isStr t s = true) : t = .str s := by
  cases t with
  | str a => simp only [isStr, decide_eq_true_eq] at h; rw [h]
  | _ => cases h
/-! ### a kind's letters, by form -/
theorem nm_form {ns : List Str} {v : D} (h : isL (.nm ns) v = true) : ∃ x, v = .str x ∧ x ∈ ns := by
  cases v with
  | str x => exact ⟨x, rfl, by simpa [isL] using h⟩
  | _ => simp [isL] at h
theorem it_form {v : D} (h : isL .it v = true) : ∃ i, v = .int i := by
  cases v with
  | int i => exact ⟨i, rfl⟩
  | _ => simp [isL] at h
theorem len1 {xs : List D} (h : xs.length = 1) : ∃ x, xs = [x] := by
  match xs, h with
  | [x], _ => exact ⟨x, rfl⟩
theorem len2 {xs : List D} (h : xs.length = 2) : ∃ x y, xs = [x, y] := by
  match xs, h with
  | [x, y], _ => exact ⟨x, y, rfl⟩
theorem len3 {xs : List D} (h : xs.length = 3) : ∃ x y z, xs = [x, y, z] := by
  match xs, h with
  | [x, y, z], _ => exact ⟨x, y, z, rfl⟩
theorem pr_form {a b : Kd} {v : D} (h : isL (.pr a b) v = true) : ∃ x y, v = .tup [.str "pair", x, y] ∧ isL a x = true ∧ isL b y = true := by
  cases v with
  | tup xs =>
    by_cases hl : xs.length = 3
    · obtain ⟨t, x, y, rfl⟩ := len3 hl
      simp only [isL, Bool.and_eq_true] at h
      exact ⟨x, y, by rw [isStr_eq' h.1.1], h.1.2, h.2⟩
    · rw [isL_pr hl] at h; cases h
  | _ => simp [isL] at h
theorem ei_form {ks : List Kd} {v : D} (h : isL (.ei ks) v = true) : ∃ i x k, v = .tup [.str "case", .int i, x] ∧ 0 ≤ i ∧ ks[i.toNat]? = some k ∧ isL k x = true := by
  cases v with
  | tup xs =>
    by_cases hl : xs.length = 3
    · obtain ⟨t, x, y, rfl⟩ := len3 hl
      cases x with
      | int i =>
        simp only [isL, Bool.and_eq_true, decide_eq_true_eq] at h
        rw [isLn_get] at h
        cases e : ks[i.toNat]? with
        | none => rw [e] at h; cases h.2.2
        | some k => rw [e] at h; exact ⟨i, y, k, by rw [isStr_eq' h.1], h.2.1, e, h.2.2⟩
      | _ => simp [isL] at h
    · rw [isL_ei hl] at h; cases h
  | _ => simp [isL] at h
theorem mb_form {k : Kd} {v : D} (h : isL (.mb k) v = true) : v = .tup [.str "none"] ∨ ∃ x, v = .tup [.str "some", x] ∧ isL k x = true := by
  cases v with
  | tup xs =>
    by_cases h1 : xs.length = 1
    · obtain ⟨t, rfl⟩ := len1 h1
      simp only [isL] at h
      exact .inl (by rw [isStr_eq' h])
    · by_cases h2 : xs.length = 2
      · obtain ⟨t, x, rfl⟩ := len2 h2
        simp only [isL, Bool.and_eq_true] at h
        exact .inr ⟨x, by rw [isStr_eq' h.1], h.2⟩
      · rw [isL_mb h1 h2] at h; cases h
  | _ => simp [isL] at h
theorem wr_tri (w : Bool) (i j : Int) : Tri (wr w i) (wr w j) (compare i j) := by
  cases w
  · exact tri_int i j
  · exact tri_one (tri_int i j)
/-- ranks and keys stand to each other alike -/
theorem tri_rk : ∀ (n : Nat) (k : Kd) (x y : D), k.depth ≤ n → isL k x = true → isL k y = true → ∃ o, ∀ w, Tri (rk w k x) (rk w k y) o
  | 0, k, x, y, h, _, _ => by have := k.depth_pos; omega
  | n + 1, k, x, y, h, hx, hy => by
    cases k with
    | nm ns =>
      obtain ⟨u, rfl, _⟩ := nm_form hx
      obtain ⟨v, rfl, _⟩ := nm_form hy
      exact ⟨_, fun w => by simp only [rk]; exact wr_tri w _ _⟩
    | it =>
      obtain ⟨u, rfl⟩ := it_form hx
      obtain ⟨v, rfl⟩ := it_form hy
      exact ⟨_, fun w => by simp only [rk]; exact wr_tri w _ _⟩
    | pr a b =>
      simp only [Kd.depth] at h
      obtain ⟨x1, x2, rfl, p1, p2⟩ := pr_form hx
      obtain ⟨y1, y2, rfl, q1, q2⟩ := pr_form hy
      obtain ⟨o1, t1⟩ := tri_rk n a x1 y1 (by omega) p1 q1
      obtain ⟨o2, t2⟩ := tri_rk n b x2 y2 (by omega) p2 q2
      exact ⟨_, fun w => by simp only [rk]; exact tri_two (t1 w) (t2 w)⟩
    | ei ks =>
      simp only [Kd.depth] at h
      obtain ⟨i, u, k1, rfl, i0, e1, p1⟩ := ei_form hx
      obtain ⟨j, v, k2, rfl, j0, e2, p2⟩ := ei_form hy
      by_cases ij : i = j
      · subst ij
        rw [e1] at e2
        cases e2
        have := Kd.depth_mem (List.mem_of_getElem? e1)
        obtain ⟨o, t⟩ := tri_rk n k1 u v (by omega) p1 p2
        exact ⟨_, fun w => by simp only [rk, rkn_get w ks _ _ _ e1]; exact tri_two (tri_int i i) (t w)⟩
      · have ne : compare i j ≠ .eq := fun z => by
          have := (tri_int i j).2.2.1
          rw [z, deq_int] at this
          simp at this
          exact ij this
        exact ⟨_, fun w => by simp only [rk]; exact tri_ne (tri_int i j) ne⟩
    | mb k =>
      simp only [Kd.depth] at h
      rcases mb_form hx with rfl | ⟨u, rfl, p1⟩ <;> rcases mb_form hy with rfl | ⟨v, rfl, p2⟩
      · exact ⟨_, fun w => by simp only [rk]; exact tri_one (tri_int 0 0)⟩
      · exact ⟨_, fun w => by simp only [rk]; exact tri_ne (tri_int 0 1) (by decide)⟩
      · exact ⟨_, fun w => by simp only [rk]; exact tri_ne (tri_int 1 0) (by decide)⟩
      · obtain ⟨o, t⟩ := tri_rk n k u v (by omega) p1 p2
        exact ⟨_, fun w => by simp only [rk]; exact tri_two (tri_int 1 1) (t w)⟩
theorem rk_val (w : Bool) : ∀ (n : Nat) (k : Kd) (x : D), k.depth ≤ n → isL k x = true → val (rk w k x) (n + 1) = true
  | 0, k, x, h, _ => by have := k.depth_pos; omega
  | n + 1, k, x, h, hx => by
    cases k with
    | nm ns =>
      obtain ⟨u, rfl, _⟩ := nm_form hx
      cases w <;> simp [rk, wr, val, vals]
    | it =>
      obtain ⟨u, rfl⟩ := it_form hx
      cases w <;> simp [rk, wr, val, vals]
    | pr a b =>
      simp only [Kd.depth] at h
      obtain ⟨x1, x2, rfl, p1, p2⟩ := pr_form hx
      simp only [rk, val, vals, Bool.and_true, Bool.and_eq_true]
      exact ⟨rk_val w n a x1 (by omega) p1, rk_val w n b x2 (by omega) p2⟩
    | ei ks =>
      simp only [Kd.depth] at h
      obtain ⟨i, u, k1, rfl, i0, e1, p1⟩ := ei_form hx
      have := Kd.depth_mem (List.mem_of_getElem? e1)
      simp only [rk, rkn_get w ks _ _ _ e1, val, vals, Bool.and_true, Bool.true_and]
      exact rk_val w n k1 u (by omega) p1
    | mb k =>
      simp only [Kd.depth] at h
      rcases mb_form hx with rfl | ⟨u, rfl, p1⟩
      · simp [rk, val, vals]
      · simp only [rk, val, vals, Bool.and_true, Bool.true_and]
        exact rk_val w n k u (by omega) p1
/-! ### the kind with its names turned -/
mutual
def turn : Kd → Kd
  | .nm ns => .nm ns.reverse
  | .it => .it
  | .pr a b => .pr (turn a) (turn b)
  | .ei ks => .ei (turns ks)
  | .mb k => .mb (turn k)
def turns : List Kd → List Kd
  | [] => []
  | k :: ks => turn k :: turns ks
end
mutual
theorem turn_depth : ∀ k : Kd, (turn k).depth = k.depth
  | .nm ns => rfl
  | .it => rfl
  | .pr a b => by simp only [turn, Kd.depth, turn_depth a, turn_depth b]
  | .ei ks => by simp only [turn, Kd.depth, turns_depth ks]
  | .mb k => by simp only [turn, Kd.depth, turn_depth k]
theorem turns_depth : ∀ ks : List Kd, Kd.depths (turns ks) = Kd.depths ks
  | [] => rfl
  | k :: ks => by simp only [turns, Kd.depths, turn_depth k, turns_depth ks]
end
theorem turns_map : ∀ ks : List Kd, turns ks = ks.map turn
  | [] => rfl
  | k :: ks => by rw [turns, turns_map ks]; rfl
theorem isL_turn : ∀ (n : Nat) (k : Kd) (v : D), k.depth ≤ n → isL k v = true → isL (turn k) v = true
  | 0, k, x, h, _ => by have := k.depth_pos; omega
  | n + 1, k, x, h, hx => by
    cases k with
    | nm ns =>
      obtain ⟨u, rfl, m⟩ := nm_form hx
      simpa [turn, isL] using m
    | it => exact hx
    | pr a b =>
      simp only [Kd.depth] at h
      obtain ⟨x1, x2, rfl, p1, p2⟩ := pr_form hx
      simp only [turn, isL, isStr, decide_true, Bool.true_and, isL_turn n a x1 (by omega) p1, isL_turn n b x2 (by omega) p2]
    | ei ks =>
      simp only [Kd.depth] at h
      obtain ⟨i, u, k1, rfl, i0, e1, p1⟩ := ei_form hx
      have := Kd.depth_mem (List.mem_of_getElem? e1)
      simp only [turn, isL, isStr, decide_true, Bool.true_and, isLn_get, turns_map, List.getElem?_map, e1, Option.map_some, isL_turn n k1 u (by omega) p1, decide_eq_true i0]
    | mb k =>
      simp only [Kd.depth] at h
      rcases mb_form hx with rfl | ⟨u, rfl, p1⟩
      · simp only [turn, isL, isStr, decide_true]
      · simp only [turn, isL, isStr, decide_true, Bool.true_and, isL_turn n k u (by omega) p1]
/-- what compared tells -/
def ov : Ordering → Int | .lt => -1 | .eq => 0 | .gt => 1
end DL

set_option Elab.async false
set_option linter.all false
set_option maxRecDepth 100000
/-! DC: conditions, plainly. -/
namespace DL
open PySem PySem.Spec PyProof.Rows L2
/-! ### letter sets -/
mutual
inductive Ls where
  | nm (xs : List Str) | it (lo : Int) (bel : List Bool) (mem : List Int) (hi : Int) (abv : List Bool) | pr (r : Rw) | ei (p : Lp) | mb (b : Bool) (s : Ls)
/-- rows of a set of pairs -/
inductive Rw where
  | nil | cons (f r : Ls) (t : Rw)
inductive Lp where
  | nil | cons (s : Ls) (t : Lp)
end
mutual
def sD : Ls → D
  | .nm xs => .tup [.str "names", .tup (xs.map .str)]
  | .it lo bel mem hi abv => .tup [.str "integers", .tup [.int lo, .tup (bel.map .bl)], .tup (mem.map .int), .tup [.int hi, .tup (abv.map .bl)]]
  | .pr r => .tup [.str "pairs", .tup (rwD r)]
  | .ei p => .tup [.str "either", .tup (lpD p)]
  | .mb b s => .tup [.str "maybe", .bl b, sD s]
def rwD : Rw → List D
  | .nil => []
  | .cons f r t => .tup [sD f, sD r] :: rwD t
def lpD : Lp → List D
  | .nil => []
  | .cons s t => sD s :: lpD t
end
/-- the truth at a place, or false -/
def atB (bs : List Bool) (i : Int) : Bool := bs.getD i.toNat false
def inI (lo : Int) (bel : List Bool) (mem : List Int) (hi : Int) (abv : List Bool) (i : Int) : Bool :=
  if hi ≤ i then atB abv ((i - hi) % abv.length) else if i ≤ lo then atB bel ((lo - i) % bel.length) else mem.contains i
mutual
/-- whether a letter is in a set -/
def inS : Ls → D → Bool
  | .nm xs, .str x => xs.contains x
  | .it lo bel mem hi abv, .int i => inI lo bel mem hi abv i
  | .pr r, .tup [_, x, y] => inRw r x y
  | .ei p, .tup [_, .int i, x] => inLp p i.toNat x
  | .mb b _, .tup [_] => b
  | .mb _ s, .tup [_, x] => inS s x
  | _, _ => false
def inRw : Rw → D → D → Bool
  | .nil, _, _ => false
  | .cons f r t, x, y => if inS f x = true then inS r y else inRw t x y
def inLp : Lp → Nat → D → Bool
  | .nil, _, _ => false
  | .cons s _, 0, x => inS s x
  | .cons _ t, n + 1, x => inLp t n x
end
def tailOk (bs : List Bool) : Prop := 1 ≤ bs.length ∧ bs.length ≤ 1000
mutual
/-- a set of letters of the kind, in form -/
def wfS : Kd → Ls → Prop
  | .nm _, .nm xs => xs.length ≤ 1000
  | .it, .it _ bel mem _ abv => tailOk bel ∧ tailOk abv ∧ mem.length ≤ 1000
  | .pr a b, .pr r => wfRw a b r
  | .ei ks, .ei p => wfLp ks p
  | .mb k, .mb _ s => wfS k s
  | _, _ => False
def wfRw : Kd → Kd → Rw → Prop
  | _, _, .nil => True
  | a, b, .cons f r t => wfS a f ∧ wfS b r ∧ wfRw a b t
def wfLp : List Kd → Lp → Prop
  | [], .nil => True
  | k :: ks, .cons s t => wfS k s ∧ wfLp ks t
  | _, _ => False
end
inductive Cn where
  | tt | ff | is (s : Str) | lt (i : Int) | eq (i : Int) | gt (i : Int) | md (m r : Int) | no | inn (s : Ls)
  | ng (c : Cn) | an (a b : Cn) | orr (a b : Cn) | fs (c : Cn) | sn (c : Cn) | so (c : Cn) | cs (i : Int) (c : Cn)
def cD : Cn → D
  | .tt => .tup [.str "true"]
  | .ff => .tup [.str "false"]
  | .is s => .tup [.str "is", .str s]
  | .lt i => .tup [.str "<", .int i]
  | .eq i => .tup [.str "=", .int i]
  | .gt i => .tup [.str ">", .int i]
  | .md m r => .tup [.str "mod", .int m, .int r]
  | .no => .tup [.str "none"]
  | .inn s => .tup [.str "in", sD s]
  | .ng c => .tup [.str "not", cD c]
  | .an a b => .tup [.str "and", cD a, cD b]
  | .orr a b => .tup [.str "or", cD a, cD b]
  | .fs c => .tup [.str "first", cD c]
  | .sn c => .tup [.str "second", cD c]
  | .so c => .tup [.str "some", cD c]
  | .cs i c => .tup [.str "case", .int i, cD c]
/-- how many conditions are in it -/
def Cn.cnt : Cn → Nat
  | .ng c => 1 + c.cnt
  | .an a b => 1 + a.cnt + b.cnt
  | .orr a b => 1 + a.cnt + b.cnt
  | .fs c => 1 + c.cnt
  | .sn c => 1 + c.cnt
  | .so c => 1 + c.cnt
  | .cs _ c => 1 + c.cnt
  | _ => 1
def Cn.depth : Cn → Nat
  | .ng c => 1 + c.depth
  | .an a b => 1 + max a.depth b.depth
  | .orr a b => 1 + max a.depth b.depth
  | .fs c => 1 + c.depth
  | .sn c => 1 + c.depth
  | .so c => 1 + c.depth
  | .cs _ c => 1 + c.depth
  | _ => 1
theorem Cn.depth_cnt : ∀ c : Cn, c.depth ≤ c.cnt
  | .tt | .ff | .is _ | .lt _ | .eq _ | .gt _ | .md _ _ | .no | .inn _ => Nat.le_refl _
  | .ng c => by simp only [Cn.depth, Cn.cnt]; have := c.depth_cnt; omega
  | .an a b => by simp only [Cn.depth, Cn.cnt]; have := a.depth_cnt; have := b.depth_cnt; omega
  | .orr a b => by simp only [Cn.depth, Cn.cnt]; have := a.depth_cnt; have := b.depth_cnt; omega
  | .fs c => by simp only [Cn.depth, Cn.cnt]; have := c.depth_cnt; omega
  | .sn c => by simp only [Cn.depth, Cn.cnt]; have := c.depth_cnt; omega
  | .so c => by simp only [Cn.depth, Cn.cnt]; have := c.depth_cnt; omega
  | .cs _ c => by simp only [Cn.depth, Cn.cnt]; have := c.depth_cnt; omega
/-- whether it fits the kind; S tells it of letter sets -/
def fitsC (S : Kd → Ls → Bool) : Kd → Cn → Bool
  | _, .tt => true
  | _, .ff => true
  | k, .ng c => fitsC S k c
  | k, .an a b => fitsC S k a && fitsC S k b
  | k, .orr a b => fitsC S k a && fitsC S k b
  | k, .inn s => S k s
  | .nm ns, .is s => ns.contains s
  | .it, .lt _ => true
  | .it, .eq _ => true
  | .it, .gt _ => true
  | .it, .md _ _ => true
  | .pr a _, .fs c => fitsC S a c
  | .pr _ b, .sn c => fitsC S b c
  | .ei ks, .cs i c => match ks[i.toNat]? with | some k => fitsC S k c | none => false
  | .mb _, .no => true
  | .mb k, .so c => fitsC S k c
  | _, _ => false
/-- the letter sets in it stand at kinds as dm says -/
def domC (dm : Kd → Ls → Prop) : Kd → Cn → Prop
  | k, .inn s => dm k s
  | k, .ng c => domC dm k c
  | k, .an a b => domC dm k a ∧ domC dm k b
  | k, .orr a b => domC dm k a ∧ domC dm k b
  | .pr a _, .fs c => domC dm a c
  | .pr _ b, .sn c => domC dm b c
  | .ei ks, .cs i c => ∀ k, ks[i.toNat]? = some k → domC dm k c
  | .mb k, .so c => domC dm k c
  | _, _ => True
/-- whether a letter meets it; C tells it of letter sets -/
def metC (C : Ls → D → Bool) : Cn → D → Bool
  | .tt, _ => true
  | .inn s, v => C s v
  | .ng c, v => !metC C c v
  | .an a b, v => metC C a v && metC C b v
  | .orr a b, v => metC C a v || metC C b v
  | .lt i, .int j => decide (j < i)
  | .gt i, .int j => decide (i < j)
  | .eq i, .int j => decide (j = i)
  | .md m r, .int j => decide ((j - r) % m = 0)
  | .is s, .str x => decide (x = s)
  | .fs c, .tup [_, x, _] => metC C c x
  | .sn c, .tup [_, _, y] => metC C c y
  | .cs i c, .tup [_, .int j, x] => decide (j = i) && metC C c x
  | .no, .tup [_] => true
  | .so c, .tup [_, x] => metC C c x
  | _, _ => false
/-- places of cases are not below 0, moduli above 0 -/
def okC : Cn → Prop
  | .cs i c => 0 ≤ i ∧ okC c
  | .md m _ => 0 < m
  | .ng c => okC c
  | .an a b => okC a ∧ okC b
  | .orr a b => okC a ∧ okC b
  | .fs c => okC c
  | .sn c => okC c
  | .so c => okC c
  | _ => True
/-- what fits without any letter set -/
def fits0 (k : Kd) (c : Cn) : Prop := fitsC (fun _ _ => false) k c = true
theorem fits0_dom {dm : Kd → Ls → Prop} : ∀ (c : Cn) (k : Kd), fits0 k c → domC dm k c
  | .tt, k, _ => by cases k <;> simp [domC]
  | .ff, k, _ => by cases k <;> simp [domC]
  | .is _, k, _ => by cases k <;> simp [domC]
  | .lt _, k, _ => by cases k <;> simp [domC]
  | .eq _, k, _ => by cases k <;> simp [domC]
  | .gt _, k, _ => by cases k <;> simp [domC]
  | .md _ _, k, _ => by cases k <;> simp [domC]
  | .no, k, _ => by cases k <;> simp [domC]
  | .inn _, k, h => by simp [fits0, fitsC] at h
  | .ng c, k, h => by simp only [domC]; exact fits0_dom c k (by simpa [fits0, fitsC] using h)
  | .an a b, k, h => by
    simp only [fits0, fitsC, Bool.and_eq_true] at h
    simp only [domC]
    exact ⟨fits0_dom a k h.1, fits0_dom b k h.2⟩
  | .orr a b, k, h => by
    simp only [fits0, fitsC, Bool.and_eq_true] at h
    simp only [domC]
    exact ⟨fits0_dom a k h.1, fits0_dom b k h.2⟩
  | .fs c, .pr a b, h => by simp only [domC]; exact fits0_dom c a (by simpa [fits0, fitsC] using h)
  | .sn c, .pr a b, h => by simp only [domC]; exact fits0_dom c b (by simpa [fits0, fitsC] using h)
  | .so c, .mb a, h => by simp only [domC]; exact fits0_dom c a (by simpa [fits0, fitsC] using h)
  | .cs i c, .ei ks, h => by
    simp only [domC]
    intro k e
    simp only [fits0, fitsC, e] at h
    exact fits0_dom c k h
  | .fs c, .nm _, _ => by simp [domC]
  | .fs c, .it, _ => by simp [domC]
  | .fs c, .ei _, _ => by simp [domC]
  | .fs c, .mb _, _ => by simp [domC]
  | .sn c, .nm _, _ => by simp [domC]
  | .sn c, .it, _ => by simp [domC]
  | .sn c, .ei _, _ => by simp [domC]
  | .sn c, .mb _, _ => by simp [domC]
  | .so c, .nm _, _ => by simp [domC]
  | .so c, .it, _ => by simp [domC]
  | .so c, .ei _, _ => by simp [domC]
  | .so c, .pr _ _, _ => by simp [domC]
  | .cs _ c, .nm _, _ => by simp [domC]
  | .cs _ c, .it, _ => by simp [domC]
  | .cs _ c, .mb _, _ => by simp [domC]
  | .cs _ c, .pr _ _, _ => by simp [domC]
theorem fits_mono {S S' : Kd → Ls → Bool} (hs : ∀ k s, S k s = true → S' k s = true) : ∀ (c : Cn) (k : Kd), fitsC S k c = true → fitsC S' k c = true
  | .tt, k, _ => by cases k <;> simp [fitsC]
  | .ff, k, _ => by cases k <;> simp [fitsC]
  | .is _, k, h => by cases k <;> simp_all [fitsC]
  | .lt _, k, h => by cases k <;> simp_all [fitsC]
  | .eq _, k, h => by cases k <;> simp_all [fitsC]
  | .gt _, k, h => by cases k <;> simp_all [fitsC]
  | .md _ _, k, h => by cases k <;> simp_all [fitsC]
  | .no, k, h => by cases k <;> simp_all [fitsC]
  | .inn _, k, h => by simp only [fitsC] at h ⊢; exact hs _ _ h
  | .ng c, k, h => by simp only [fitsC] at h ⊢; exact fits_mono hs c k h
  | .an a b, k, h => by
    simp only [fitsC, Bool.and_eq_true] at h ⊢
    exact ⟨fits_mono hs a k h.1, fits_mono hs b k h.2⟩
  | .orr a b, k, h => by
    simp only [fitsC, Bool.and_eq_true] at h ⊢
    exact ⟨fits_mono hs a k h.1, fits_mono hs b k h.2⟩
  | .fs c, .pr a b, h => by simp only [fitsC] at h ⊢; exact fits_mono hs c a h
  | .sn c, .pr a b, h => by simp only [fitsC] at h ⊢; exact fits_mono hs c b h
  | .so c, .mb a, h => by simp only [fitsC] at h ⊢; exact fits_mono hs c a h
  | .cs i c, .ei ks, h => by
    simp only [fitsC] at h ⊢
    cases e : ks[i.toNat]? with
    | none => simp [e] at h
    | some k => simp only [e] at h ⊢; exact fits_mono hs c k h
  | .fs c, .nm _, h => by simp [fitsC] at h
  | .fs c, .it, h => by simp [fitsC] at h
  | .fs c, .ei _, h => by simp [fitsC] at h
  | .fs c, .mb _, h => by simp [fitsC] at h
  | .sn c, .nm _, h => by simp [fitsC] at h
  | .sn c, .it, h => by simp [fitsC] at h
  | .sn c, .ei _, h => by simp [fitsC] at h
  | .sn c, .mb _, h => by simp [fitsC] at h
  | .so c, .nm _, h => by simp [fitsC] at h
  | .so c, .it, h => by simp [fitsC] at h
  | .so c, .ei _, h => by simp [fitsC] at h
  | .so c, .pr _ _, h => by simp [fitsC] at h
  | .cs _ c, .nm _, h => by simp [fitsC] at h
  | .cs _ c, .it, h => by simp [fitsC] at h
  | .cs _ c, .mb _, h => by simp [fitsC] at h
  | .cs _ c, .pr _ _, h => by simp [fitsC] at h
theorem fits0_fits {S : Kd → Ls → Bool} {c : Cn} {k : Kd} (h : fits0 k c) : fitsC S k c = true := fits_mono (fun _ _ z => by cases z) c k h
/-- in a display of texts -/
theorem inD_sc {a b : Str} {ds : List D} : inD (.str a) (.str b :: ds) = (decide (b = a) || inD (.str a) ds) := by
  show ((b == a) || _) = _
  rw [Bool.beq_eq_decide_eq]; rfl
theorem inD_ic {a : Int} {b : Str} {ds : List D} : inD (.int a) (.str b :: ds) = inD (.int a) ds := rfl
theorem inD_ii {a b : Int} {ds : List D} : inD (.int a) (.int b :: ds) = (decide (b = a) || inD (.int a) ds) := by
  show ((b == a) || _) = _
  rw [Bool.beq_eq_decide_eq]; rfl
theorem inD_nil {a : D} : inD a [] = false := rfl
theorem Cn.depth_pos (c : Cn) : 1 ≤ c.depth := by cases c <;> simp only [Cn.depth] <;> omega
theorem Cn.cnt_pos (c : Cn) : 1 ≤ c.cnt := by cases c <;> simp only [Cn.cnt] <;> omega
end DL

set_option Elab.async false
set_option linter.all false
set_option maxRecDepth 100000
/-! DV: comprehensions whose test and element change nothing; a def called with one of two errors. -/
namespace DL
open PySem PySem.Spec PyProof.Rows L2
theorem lc_pure {n : Nat} {tt : TT'} {te : TE'} {C : DH → Prop} {τ : St'} {Q : List D → DH → Prop} {h : DH} (b : D → Bool) (f : D → D) (hc : C h) : ∀ (xs acc : List D), acc.length + xs.length ≤ sizeLine →
    (∀ x ∈ xs, ∀ R : Bool → DH → Prop, R (b x) h → tt (τ.set n (some x)) h R) → (∀ x ∈ xs, b x = true → ∀ R : VK', R (f x) h → te (τ.set n (some x)) h R) →
    Q (acc ++ (xs.filter b).map f) h → lcS n tt te C τ Q xs acc h
  | [], acc, _, _, _, q => ⟨hc, by simpa using q⟩
  | x :: xs, acc, hl, ht, he, q => by
    simp only [List.length_cons] at hl
    rw [q_lcons]
    refine ⟨hc, ht x List.mem_cons_self _ ?_⟩
    cases e : b x with
    | true =>
      rw [sif_t]
      refine he x List.mem_cons_self e _ ⟨by omega, lc_pure b f hc xs _ (by simp only [List.length_append, List.length_cons, List.length_nil]; omega) (fun y m => ht y (List.mem_cons_of_mem _ m)) (fun y m => he y (List.mem_cons_of_mem _ m)) ?_⟩
      rw [List.filter_cons_of_pos e] at q
      simpa using q
    | false =>
      rw [sif_f]
      refine lc_pure b f hc xs _ (by omega) (fun y m => ht y (List.mem_cons_of_mem _ m)) (fun y m => he y (List.mem_cons_of_mem _ m)) ?_
      rw [List.filter_cons_of_neg (by simp [e])] at q
      exact q
section
variable {P : Program} {w : World} {K : PySem.W.Frag} {mg : Str → Option Value} {base : Heap}
theorem FnE.or {k : Nat} {f : Addr} {fd : FuncData} {ps : List Str} {s1 s2 : Value → Addr → Sp'} (F : FnE P w K mg base k f fd ps s1) (G : FnE P w K mg base k f fd ps s2) : FnE P w K mg base k f fd ps fun c a ds h Q E => s1 c a ds h Q E ∨ s2 c a ds h Q E :=
  ⟨fun c a ds h Q E z => z.elim (F.len c a ds h Q E) (G.len c a ds h Q E), fun A outer s H args us vs Q E p hr hot nd pin e0 hb r q0 => by
    obtain ⟨ds, h, Q', E', rs, hr', q, fn, fx⟩ := q0
    exact q.elim (fun q => F.run A outer s H args us vs Q E p hr hot nd pin e0 hb r ⟨ds, h, Q', E', rs, hr', q, fn, fx⟩) fun q => G.run A outer s H args us vs Q E p hr hot nd pin e0 hb r ⟨ds, h, Q', E', rs, hr', q, fn, fx⟩⟩
end
end DL

set_option Elab.async false
set_option linter.all false
set_option maxRecDepth 100000
set_option maxHeartbeats 2000000
/-! DS1: set comprehensions of ints: the judgement of the hand layer. -/
namespace DL
open PySem PySem.Spec PyProof.Rows L2
/-- what a set comprehension of ints asks: r is the new set -/
def tSi (w : World) (wi : TI) (g : TG) (tt : TT) (te : TE) (sl : List Nat) : TE := fun σ Ha Q => wi σ Ha fun J Hb => ∀ r, Hb r = none →
  ∃ U : Nat → Nat → Hp → Prop, (∃ k, U 0 k (upd Hb r (SetO w r (fun _ => false) 0))) ∧ ∀ i k Hc, U i k Hc →
    (J.stop i Hc ∧ Q (.ref r) Hc) ∨
    (J.go i Hc ∧ ∃ Z : Hp → Prop, (∀ Hd, Z Hd → ∃ j, j < k ∧ U (i + 1) j Hd) ∧ ∀ x Hd, J.yld i Hc x Hd →
      g x (wipe σ sl) Hd fun ρ He => wipe ρ sl = wipe σ sl ∧ tt ρ He fun b Hf =>
        if b = true then te ρ Hf fun y Hg => ∃ (c : Int) (S : Int → Bool) (m : Nat), y = .int c ∧ Hg r = some (SetO w r S m) ∧ m + 1 < scanBound ∧
          Z (upd Hg r (SetO w r (fun z => S z || decide (z = c)) (if S c = true then m else m + 1)))
        else Z Hf)
section
variable {X : Cx}
theorem pe_si {elt tg iter : Expr} {ifs : List Expr} {scope : Scope} {own : List (Str × Nat)} {pos : Pos} {wi : TI} {g : TG} {tt : TT} {te : TE}
    (calm : X.calm = true) (nd : X.N.Nodup) (pit : PI X tg iter wi) (blk : BlkOk X.N X.env.scope scope own)
    (ptg : ∀ (s1 : Shared) (G : Hp) (c : Addr) (ce : List (Str × Addr)) (fr : List Addr), PG (X.blk s1 G scope (compEnvC scope ce c X.env) fr) tg g)
    (pif : ∀ (s1 : Shared) (G : Hp) (c : Addr) (ce : List (Str × Addr)) (fr : List Addr), PTs (X.blk s1 G scope (compEnvC scope ce c X.env) fr) ifs tt)
    (pel : ∀ (s1 : Shared) (G : Hp) (c : Addr) (ce : List (Str × Addr)) (fr : List Addr), PE (X.blk s1 G scope (compEnvC scope ce c X.env) fr) elt te)
    (fold : ∀ z, foldedSetIterable iter X.env z = pure z := by intro _; rfl) :
    PE X (.SetComp elt [⟨tg, iter, ifs, 0⟩] scope pos) (tSi X.w wi g tt te (own.map (·.2))) := by
  refine ⟨fun pins s σ Ha Q inv ask => ?_⟩
  rw [PpSet.eval_SetComp]
  have clo : ∀ y ∈ scope.names, y.2 = .free → ∃ a, X.env.cells.lookup y.1 = some a := fun y m fr => (blk.free y m fr).elim (fun z => inv.ok.has _ (.inl z)) fun z => inv.ok.has _ (.inr z)
  refine wpAny_comprehension_free (use := none) rfl fold (closure_ok clo) blk.kind (fun y m fr => (blk.uniq y m).trans (congrArg some fr)) (thn (pit.run pins s σ Ha _ inv ask) fun _ _ got => thn got fun _ sb ⟨itA, fr, tn, J, Hb, eit, invB, T, stB, frB, q⟩ => ?_)
  subst eit
  refine PpSet.newSet_ok (newEnv_comp ?_)
  obtain ⟨r, er⟩ : ∃ r, sb.heap.objs.size = r := ⟨_, rfl⟩
  have freeR : Hb r = none := invB.hok.fresh (Nat.le_of_eq er)
  obtain ⟨U, ⟨k0, u0⟩, turn⟩ := q r freeR
  let sc : Shared := { sb with heap := sb.heap.push { cls := .type "set", dict := none, data := .set #[] 0 (.fresh 0 0 (!X.w.params.followText "set-order")) } }
  let Hc := upd Hb r (SetO X.w r (fun _ => false) 0)
  have grow : ∀ b o, sb.heap.get? b = some o → sc.heap.get? b = some o := fun b o e => Heap.get?_push_of_some _ e
  have szC : sc.heap.objs.size = sb.heap.objs.size + 1 := Heap.size_push ..
  have setR : SetR X.w sc.heap r (fun _ => false) 0 := by
    rw [← er]
    exact setR_fresh X.w
  have invC : Inv X pins σ Hc sc := invB.laid (t' := sb.toks) grow (Nat.le_of_eq er) (setO_new setR)
  have inB : ∀ b ∈ fr, b < sb.heap.objs.size := fun b m => by
    obtain ⟨o, e, _⟩ := T.obj _ _ stB b m
    exact Heap.lt_size e
  have frC : ∀ b ∈ fr, FpOk X pins Hc b ∧ b < sc.heap.objs.size := fun b m => by
    have lt := inB b m
    have ne : b ≠ r := by rw [← er]; exact Nat.ne_of_lt lt
    exact ⟨⟨(upd_ne ne).trans (frB b m).1, (frB b m).2⟩, by rw [szC]; exact Nat.lt_succ_of_lt lt⟩
  have stC : tn 0 sc.heap := T.keep _ _ _ stB fun b _ o e => grow b o e
  have start := block_start invC blk nd frC
  let cl := cellsFrom (sc.heap.objs.size + 1) scope.names (cloFrom X.env.cells scope.names [])
  have rtg := ptg sc Hc sc.heap.objs.size cl fr
  have rif := pif sc Hc sc.heap.objs.size cl fr
  have rel := pel sc Hc sc.heap.objs.size cl fr
  let sd : Shared := { sc with heap := pushCells (sc.heap.push { cls := .type "dict", data := .dict #[] }) scope.names }
  have stD : tn 0 sd.heap := T.keep _ _ _ stC fun b _ o e => pushCells_keeps _ _ _ _ (Heap.get?_push_of_some _ e)
  have locE : (compEnvC scope cl sc.heap.objs.size X.env).locals = sc.heap.objs.size := rfl
  generalize hE : compEnvC scope cl sc.heap.objs.size X.env = ev at start rtg rif rel locE
  have clean : ∀ {ρ : L2.St} {G : Hp} {s' : Shared}, Inv (X.blk sc Hc scope ev fr) [] ρ G s' → (∀ b ∈ fr, G b = none) → ∀ b ∈ fr, FpOk (X.blk sc Hc scope ev fr) [] G b := fun {ρ G s'} i z b m =>
    ⟨z b m, (i.ok.exf b m).1, i.ok.exfs b m, .inl m, fun x a e => (i.ok.exf b m).2 x a e, fun p hp => absurd (show p ∈ ([] : List (Addr × Obj)) ++ [] from hp) (by simp)⟩
  have run : codeAny (model X.prog X.w) X.A (.compLoop (.SetComp elt [⟨tg, iter, ifs, 0⟩] scope pos) 0 (.ref itA) (.ref r) ev)
      (compPost (model X.prog X.w) X.A X.xe none (EP X pins σ Q) (.ref r) sc.heap.objs.size) sd := by
    refine PpSet.compLoopS_any (fun k s' => ∃ i G, Inv (X.blk sc Hc scope ev fr) [] (wipe σ (own.map (·.2))) G s' ∧ tn i s'.heap ∧ (∀ b ∈ fr, G b = none) ∧ U i k G) ?_ k0 ⟨0, Hc, start, stD, fun b m => (frC b m).1.1, u0⟩
    rintro k s5 ⟨i, G, invG, stG, noG, uG⟩
    rcases turn i k G uG with ⟨stop, done⟩ | ⟨go, Z, next, step⟩
    · refine thnF (T.done (X.blk sc Hc scope ev fr) rfl rfl rfl calm i [] s5 _ G (fun _ _ => False) invG (clean invG noG) stG stop) fun o s6 ⟨eo, inv6⟩ => ?_
      subst eo
      have back : Inv X pins σ G s6 := invC.call' (ch := fr) inv6.os inv6.base inv6.hok inv6.bare fun b m => ⟨(frC b m).1.2.2.2.1, (frC b m).1.2.1, (frC b m).1.2.2.2.2.1, (frC b m).1.2.2.2.2.2⟩
      have noL : G sc.heap.objs.size = none := by rw [← locE]; exact inv6.free
      obtain ⟨ns, hns, _⟩ := inv6.loc
      have hns : s6.heap.Ns ev.locals ns := hns
      rw [locE] at hns
      obtain ⟨f0, f1, f2, f3, f4, f5⟩ := invC.fpOk (H' := G) (Nat.le_refl _) noL
      exact ⟨ns, hns, fun h2 sb2 => ⟨.ref r, G, back.turned (t' := s6.toks) (fun b o hb e => (sb2.2 b hb).trans e) f0 f1 f3 f4 f5, rfl, done⟩⟩
    · refine thnF (T.item (X.blk sc Hc scope ev fr) rfl rfl rfl calm i [] s5 _ G (fun _ _ => False) invG (clean invG noG) stG go) fun o s6 ⟨u, eo, h6⟩ => ?_
      subst eo
      refine thnF h6 fun _ s7 ⟨x, G7, inv7, rx, yx, st7, no7⟩ => ?_
      refine thnF (rtg.run _ s7 _ G7 x u _ (inv7.pinned (clean inv7 no7) (T.obj _ _ st7)) rx (step x G7 yx)) fun _ s8 ⟨ρ, G8, inv8, ew, q8⟩ => ?_
      refine thnF (rif.run _ s8 ρ G8 _ inv8 q8) fun b s9 ⟨G9, inv9, q9⟩ => ?_
      have again : ∀ {s' : Shared} {G' : Hp}, Inv (X.blk sc Hc scope ev fr) ([] ++ pinsAt fr s7.heap) ρ G' s' → Z G' →
          ∃ j, j < k ∧ ∃ i G, Inv (X.blk sc Hc scope ev fr) [] (wipe σ (own.map (·.2))) G s' ∧ tn i s'.heap ∧ (∀ b ∈ fr, G b = none) ∧ U i j G := fun {s' G'} inv' z => by
        obtain ⟨j, lt, u'⟩ := next G' z
        have held : ∀ b ∈ fr, ∀ o, s7.heap.get? b = some o → s'.heap.get? b = some o ∧ G' b = none := fun b m o e => by
          have p := inv'.pin (b, o) (List.mem_append_right _ (List.mem_append_right _ (mem_pinsAt m e)))
          exact ⟨p.1, p.2.1⟩
        refine ⟨j, lt, i + 1, G', (inv'.unpinned (pins := [])).weak (by rw [← ew, wipe_length]) (fun n v e => (wipe_some (by rw [← ew] at e; exact e)).1), T.keep _ _ _ st7 fun b m o e => (held b m o e).1, fun b m => ?_, u'⟩
        obtain ⟨o, e, _⟩ := T.obj _ _ st7 b m
        exact (held b m o e).2
      cases b with
      | false =>
        rw [if_neg Bool.false_ne_true] at q9
        rw [if_neg Bool.false_ne_true]
        exact again inv9 q9
      | true =>
        rw [if_pos rfl] at q9
        rw [if_pos rfl]
        refine thnF (rel.run _ s9 ρ G9 _ inv9 q9) fun u s10 ⟨y, G10, inv10, ry, c, S, m, ey, hr, room, z⟩ => ?_
        subst ey
        refine thnF (mt_sadd (X := X.blk sc Hc scope ev fr) _ s10 ρ G10 (.ref r) [.int c] (.ref r) [u] (fun _ G' => Z G') inv10 rfl (.cons ry .nil) ⟨r, c, S, m, rfl, rfl, hr, room, z⟩) fun _ s11 ⟨_, G11, inv11, _, z11⟩ => again inv11 z11
  subst hE
  subst er
  exact PpSet.codeAny_compStart_set run (T.self X.A 0 _ _ _ stD run)
end
end DL

set_option Elab.async false
set_option linter.all false
set_option maxRecDepth 100000
/-! DS2: sorted({.. for x in .. if ..}) of ints, over data. -/
namespace DL
open PySem PySem.Spec PyProof.Rows L2
/-- the walk of a set comprehension: acc is what was added, in order -/
def scS (i : Nat) (tt : TT') (te : TE') (C : DH → Prop) (τ : St') (Q : List Int → DH → Prop) : List D → List Int → DH → Prop
  | [], acc, h => C h ∧ Q acc h
  | x :: xs, acc, h => C h ∧ tt (τ.set i (some x)) h fun b h1 => if b = true then te (τ.set i (some x)) h1 fun y h2 => ∃ c : Int, y = .int c ∧ acc.length + 1 < 64 ∧ scS i tt te C τ Q xs (acc ++ [c]) h2 else scS i tt te C τ Q xs acc h1
/-- the set's members, ascending -/
def SrtOf (acc ns : List Int) : Prop := ns.Pairwise (· < ·) ∧ ∀ k : Int, k ∈ ns ↔ k ∈ acc
def tsrt (ti : TI') (i : Nat) (tt : TT') (te : TE') : TE' := fun τ h Q => ti τ h fun xs C h1 => ∀ p, h1 p = none → scS i tt te C τ (fun acc h2 => ∀ ns, SrtOf acc ns → Q (.lis (ns.map .int)) (del h2 p)) xs [] (put h1 p .hid)
section
variable {X : Cx} {Y : Wsh} {K : PySem.W.Frag} {pos : Pos}
theorem RDs.ints {h : DH} {H : Hp} : ∀ ns : List Int, RDs K h H (ns.map D.int) (ns.map V.int)
  | [] => rfl
  | n :: ns => ⟨.int n, ns.map V.int, rfl, rfl, RDs.ints ns⟩
theorem srt_imp {w : World} {ti : TI'} {i : Nat} {tt : TT'} {te : TE'} {σ : L2.St} {H : Hp} {Q : VK} (q : lE K Y (tsrt ti i tt te) σ H Q) :
    tCB (rSortedSet w) (tCons (tSi w (lI K Y ti) (gName i) (lT K Y tt) (lE K Y te) [i]) tNil) σ H Q := by
  obtain ⟨τ, h, Q', at', q, f⟩ := q
  refine ⟨τ, h, _, at', q, fun xs C h1 H1 J k1 hr1 wd q1 p np => ?_⟩
  have q1 := q1 p (hr1.fresh np)
  -- what stands while the walk goes on
  let St (j : Nat) (h2 : DH) (H2 : Hp) (rest : List D) (acc : List Int) : Prop := ∃ S n, KP h1 H1 h2 H2 ∧ HR K h2 H2 ∧ h2 p = some .hid ∧ H2 p = some (SetO w p S n) ∧ (∀ k : Int, S k = true ↔ k ∈ acc) ∧ n ≤ acc.length ∧ acc.length < 64 ∧
    scS i tt te C τ (fun acc h2 => ∀ ns, SrtOf acc ns → Q' (.lis (ns.map .int)) (del h2 p)) rest acc h2
  refine ⟨fun j m H2 => ∃ h2 acc, j + m = xs.length ∧ St j h2 H2 (xs.drop j) acc,
    ⟨xs.length, put h1 p .hid, [], Nat.zero_add _, _, _, KP.newL np, hr1.newH np, put_same, upd_same, by simp, Nat.le_refl _, by decide, q1⟩, fun j m H2 hW => ?_⟩
  obtain ⟨h2, acc, em, S, n, k2, hr2, hp, Hp2, mem, nl, al, q2⟩ := hW
  cases ed : xs.drop j with
  | nil =>
    rw [ed] at q2
    have hl : xs.length ≤ j := by
      have := congrArg List.length ed
      rw [List.length_drop] at this
      simp only [List.length_nil] at this
      omega
    have hj : j = xs.length := by omega
    rw [hj]
    refine .inl ⟨wd.stop h2 H2 k2 hr2 q2.1, p, S, n, rfl, Hp2, by omega, fun ns p2 pw mm len np2 => ?_⟩
    have kd : KP h1 H1 (del h2 p) H2 := fun a o st e => by
      obtain ⟨e1, e2⟩ := k2 a o st e
      have ne : a ≠ p := fun z => by rw [z, np] at e; cases e
      exact ⟨by rw [del_ne ne]; exact e1, e2⟩
    have hrd : HR K (del h2 p) H2 := fun a o e => by
      have ne : a ≠ p := fun z => by rw [z, del_same] at e; cases e
      rw [del_ne ne] at e
      exact (hr2 a o e).on (fun b u nb eb => ⟨by by_cases z : b = p; rw [z]; exact del_same; rw [del_ne z]; exact nb, eb⟩) fun _ z => z
    have kn := KP.new (h := del h2 p) (o := .lst (ns.map V.int)) np2
    refine f (.lis (ns.map .int)) (del h2 p) (.ref p2) _ ((k1.trans kd).trans kn) (hrd.new np2) ⟨p2, ns.map V.int, rfl, hrd.fresh np2, upd_same, RDs.ints ns⟩ (q2.2 ns ⟨pw, fun k => (mm k).trans (mem k)⟩)
  | cons x r =>
    rw [ed] at q2
    obtain ⟨ex, er, hlt⟩ := drop_cons ed
    refine .inr ⟨wd.go h2 H2 j x k2 hr2 q2.1 ex, fun H' => ∃ h2 acc, St j h2 H' r acc, fun H' ⟨h', a', z⟩ => ⟨m - 1, by omega, h', a', by omega, by rw [er]; exact z⟩, fun v H3 hy => ?_⟩
    obtain ⟨k3, hr3, rv⟩ := wd.yld h2 H2 j x v H3 k2 hr2 q2.1 ex hy
    have pst : still (h2 p) = true := by rw [hp]; rfl
    have Hp3 := (k3 p _ pst Hp2).2
    have kk := k2.trans k3
    refine ⟨by simp only [wipe1, List.set_set], τ.set i (some x), h2, _, at'.next (k1.trans kk) hr3 (by rw [List.length_set, List.length_set, wipe_length]; exact at'.len) (sr_wipe (at'.sr.mono (k1.trans kk)) at'.len rv), q2.2, fun b h4 H4 k4 hr4 q4 => ?_⟩
    have e4 := k4 p _ pst Hp3
    have k14 := kk.trans k4
    cases b with
    | false =>
      rw [if_neg Bool.false_ne_true] at q4
      exact iteF ⟨h4, acc, S, n, k14, hr4, e4.1.trans hp, e4.2, mem, nl, al, q4⟩
    | true =>
      rw [if_pos rfl] at q4
      refine iteT ⟨τ.set i (some x), h4, _, at'.next (k1.trans k14) hr4 (by rw [List.length_set, List.length_set, wipe_length]; exact at'.len) (sr_wipe (at'.sr.mono (k1.trans k14)) at'.len (RD.mono k4 _ _ rv)), q4, fun y h5 u H5 k5 hr5 ry q5 => ?_⟩
      obtain ⟨c, rfl, room, q5⟩ := q5
      have pst4 : still (h4 p) = true := by rw [e4.1, hp]; rfl
      have e5 := k5 p _ pst4 e4.2
      have hp5 : h5 p = some .hid := e5.1.trans (e4.1.trans hp)
      have kn : ∀ {o : HO}, KN h5 H5 h5 (upd H5 p o) := fun {o} b u nb eb => by
        have ne : b ≠ p := fun z => by rw [z, hp5] at nb; cases nb
        exact ⟨nb, by rw [upd_ne ne]; exact eb⟩
      refine ⟨c, S, n, ry, e5.2, Nat.lt_of_lt_of_le (show n + 1 < 65 by omega) (by decide), h5, acc ++ [c], _, _, fun a o st e => ?_, fun a o e => ?_, hp5, upd_same, fun k => ?_, ?_, by simpa using room, q5⟩
      · obtain ⟨z1, z2⟩ := (k14.trans k5) a o st e
        have ne : a ≠ p := fun z => by rw [z, np] at e; cases e
        exact ⟨z1, by rw [upd_ne ne]; exact z2⟩
      · by_cases z : a = p
        · rw [z, hp5] at e; cases e; rw [z]; exact ⟨_, upd_same⟩
        · exact (hr5 a o e).on kn fun u e1 => by rw [upd_ne z]; exact e1
      · simp only [Bool.or_eq_true, decide_eq_true_eq, List.mem_append, List.mem_singleton]
        rw [mem k]
      · rw [List.length_append]
        simp only [List.length_cons, List.length_nil]
        split <;> omega
theorem de_srt {elt iter : Expr} {x : Str} {px : Pos} {ifs : List Expr} {scope : Scope} {i : Nat} {ti : TI'} {tt : TT'} {te : TE'} {p spos : Pos} (hc : X.calm = true) (hN : X.N.Nodup) (hg0 : Gl X "sorted") (hm0 : X.mg "sorted" = none) (hv0 : bootBuiltins "sorted" = some (.builtin "sorted"))
    (hi : DI X Y (.Name x px) iter ti) (ok : BlkOk X.N X.env.scope scope [(x, i)])
    (hg : ∀ (s : Shared) (H : Hp) (C : Addr) (cl : List (Str × Addr)) (fp : List Addr), PG (X.blk s H scope (compEnvC scope cl C X.env) fp) (.Name x px) (gName i))
    (ht : ∀ (s : Shared) (H : Hp) (C : Addr) (cl : List (Str × Addr)) (fp : List Addr), DTs (X.blk s H scope (compEnvC scope cl C X.env) fp) Y ifs tt)
    (he : ∀ (s : Shared) (H : Hp) (C : Addr) (cl : List (Str × Addr)) (fp : List Addr), DE (X.blk s H scope (compEnvC scope cl C X.env) fp) Y elt te) (hs : ∀ x, foldedSetIterable iter X.env x = pure x := by intro _; rfl)
    (hst : starEach [.SetComp elt [⟨.Name x px, iter, ifs, 0⟩] scope spos] X.env = (false, eval (.SetComp elt [⟨.Name x px, iter, ifs, 0⟩] scope spos) X.env) :: starEach [] X.env := by rfl) (hpl : (backTo pos (starEach [] X.env)).any (·.1) = false := by rfl) :
    DE X Y (.Call (.Name "sorted" p) [.SetComp elt [⟨.Name x px, iter, ifs, 0⟩] scope spos] [] pos) (tsrt ti i tt te) :=
  (pe_callB (cr_sortedSet hc) hg0 hm0 hv0 (pa_cons (pe_si (own := [(x, i)]) (g := gName i) (tt := lT X.K Y tt) (te := lE X.K Y te) hc hN hi ok hg ht he hs) pa_nil hst) (by decide) (by decide) hst hpl).imp fun _ _ _ q => srt_imp q
theorem boot'_sorted : bootBuiltins "sorted" = some (.builtin "sorted") := by first | exact PySem.boot_sorted | exact PyProof.Rows.boot_sorted | decide +kernel
end
end DL

set_option Elab.async false
set_option linter.all false
set_option maxRecDepth 100000
/-! DS3: any, all; dicts with int and text keys: {}, d[k], d[k] = v, d.get(k, x), k in d. -/
namespace DL
open PySem PySem.Spec PyProof.Rows L2
section
variable {X : Cx} {Y : Wsh} {K : PySem.W.Frag} {pos : Pos}
/-! ### any, all of truths -/
def caAny : List D → DH → VK' → Prop := fun ds h Q => match ds with
  | [.lis xs] => ∃ bs : List Bool, xs = bs.map .bl ∧ Q (.bl (bs.any id)) h
  | _ => False
def caAll : List D → DH → VK' → Prop := fun ds h Q => match ds with
  | [.lis xs] => ∃ bs : List Bool, xs = bs.map .bl ∧ Q (.bl (bs.all id)) h
  | _ => False
theorem cl_any : CallL K (rAny K) caAny := by
  intro ds vs h H Q' Q r hr q f
  unfold caAny at q
  split at q
  · obtain ⟨bs, rfl, q⟩ := q
    obtain ⟨v, rfl, a, ws, rfl, n, t, rs⟩ := r.one
    cases rds_bls_inv rs
    exact ⟨a, bs, rfl, SqL.of t, f (.bl _) h _ H .refl hr rfl q⟩
  · exact q.elim
theorem cl_all : CallL K (rAll K) caAll := by
  intro ds vs h H Q' Q r hr q f
  unfold caAll at q
  split at q
  · obtain ⟨bs, rfl, q⟩ := q
    obtain ⟨v, rfl, a, ws, rfl, n, t, rs⟩ := r.one
    cases rds_bls_inv rs
    exact ⟨a, bs, rfl, SqL.of t, f (.bl _) h _ H .refl hr rfl q⟩
  · exact q.elim
theorem boot'_any : bootBuiltins "any" = some (.builtin "any") := by first | exact PySem.boot_any | exact PyProof.Rows.boot_any | decide +kernel
theorem boot'_all : bootBuiltins "all" = some (.builtin "all") := by first | exact PySem.boot_all | exact PyProof.Rows.boot_all | decide +kernel
/-! ### dicts -/
def dkey : D → Option Key
  | .int i => some (.inl i)
  | .str s => some (.inr s)
  | _ => none
def dV (ps : List (Key × D)) (k : Key) : Option D := (ps.find? fun p => decide (p.1 = k)).map (·.2)
def dPut (ps : List (Key × D)) (k : Key) (d : D) : List (Key × D) :=
  if (ps.any fun p => decide (p.1 = k)) = true then ps.map (fun p => if p.1 = k then (p.1, d) else p) else ps ++ [(k, d)]
theorem dkey_v {h : DH} {H : Hp} {d : D} {v : V} {k : Key} (e : dkey d = some k) (r : RD K h H d v) : v = kV k := by
  cases d <;> cases e <;> exact r
/-- entries beside entries -/
inductive RE (K : PySem.W.Frag) (h : DH) (H : Hp) : List (Key × D) → List (Key × V) → Prop
  | nil : RE K h H [] []
  | cons {k : Key} {d : D} {v : V} {ps : List (Key × D)} {kvs : List (Key × V)} : RD K h H d v → RE K h H ps kvs → RE K h H ((k, d) :: ps) ((k, v) :: kvs)
theorem RE.of {h : DH} {H : Hp} : ∀ {ps : List (Key × D)} {kvs : List (Key × V)}, RDd K h H ps kvs → RE K h H ps kvs
  | [], kvs, ⟨e, _⟩ => by
    cases kvs with
    | nil => exact .nil
    | cons _ _ => cases e
  | (k, d) :: ps, kvs, ⟨e, r⟩ => by
    cases kvs with
    | nil => cases e
    | cons kv kvs =>
      obtain ⟨k', v⟩ := kv
      simp only [List.map_cons, List.cons.injEq] at e
      obtain ⟨rfl, e⟩ := e
      obtain ⟨v', w, e1, r1, r2⟩ := r
      simp only [List.map_cons, List.cons.injEq] at e1
      obtain ⟨rfl, rfl⟩ := e1
      exact .cons r1 (RE.of ⟨e, r2⟩)
theorem RE.to {h : DH} {H : Hp} {ps : List (Key × D)} {kvs : List (Key × V)} (r : RE K h H ps kvs) : RDd K h H ps kvs := by
  induction r with
  | nil => exact ⟨rfl, rfl⟩
  | cons r1 _ ih => exact ⟨by simp only [List.map_cons, ih.1], ⟨_, _, rfl, r1, ih.2⟩⟩
theorem RE.length {h : DH} {H : Hp} {ps : List (Key × D)} {kvs : List (Key × V)} (r : RE K h H ps kvs) : kvs.length = ps.length := by
  induction r with
  | nil => rfl
  | cons _ _ ih => simp only [List.length_cons, ih]
theorem RE.val {h : DH} {H : Hp} {ps : List (Key × D)} {kvs : List (Key × V)} (r : RE K h H ps kvs) (k : Key) : (dV ps k = none ∧ valV kvs k = none) ∨ ∃ d v, dV ps k = some d ∧ valV kvs k = some v ∧ RD K h H d v := by
  induction r with
  | nil => exact .inl ⟨rfl, rfl⟩
  | @cons k' d v ps kvs r1 _ ih =>
    by_cases e : k' = k
    · exact .inr ⟨d, v, by simp [dV, List.find?_cons, e], by simp [valV, List.find?_cons, e], r1⟩
    · have e1 : dV ((k', d) :: ps) k = dV ps k := by simp [dV, List.find?_cons, e]
      have e2 : valV ((k', v) :: kvs) k = valV kvs k := by simp [valV, List.find?_cons, e]
      rw [e1, e2]; exact ih
theorem RE.any {h : DH} {H : Hp} {ps : List (Key × D)} {kvs : List (Key × V)} (r : RE K h H ps kvs) (k : Key) : (kvs.any fun p => decide (p.1 = k)) = ps.any fun p => decide (p.1 = k) := by
  induction r with
  | nil => rfl
  | cons _ _ ih => simp only [List.any_cons, ih]
theorem RE.repl {h : DH} {H : Hp} {ps : List (Key × D)} {kvs : List (Key × V)} (r : RE K h H ps kvs) (k : Key) {d : D} {v : V} (q : RD K h H d v) : RE K h H (ps.map fun p => if p.1 = k then (p.1, d) else p) (kvs.map fun p => if p.1 = k then (p.1, v) else p) := by
  induction r with
  | nil => exact .nil
  | cons r1 _ ih =>
    simp only [List.map_cons]
    split
    · exact .cons q ih
    · exact .cons r1 ih
theorem RE.snoc {h : DH} {H : Hp} {ps : List (Key × D)} {kvs : List (Key × V)} (r : RE K h H ps kvs) (k : Key) {d : D} {v : V} (q : RD K h H d v) : RE K h H (ps ++ [(k, d)]) (kvs ++ [(k, v)]) := by
  induction r with
  | nil => exact .cons q .nil
  | cons r1 _ ih => exact .cons r1 ih
theorem RE.put {h : DH} {H : Hp} {ps : List (Key × D)} {kvs : List (Key × V)} (r : RE K h H ps kvs) (k : Key) {d : D} {v : V} (q : RD K h H d v) : RE K h H (dPut ps k d) (putK kvs k v) := by
  unfold dPut putK
  rw [r.any k]
  split
  · exact r.repl k q
  · exact r.snoc k q
def tdnew : TE' := fun _ h Q => ∀ p, h p = none → Q (.ref p) (put h p (.dct []))
theorem de_dnew : DE X Y (.Dict [] [] pos) tdnew := pe_dnewK.imp fun σ H Q ⟨τ, h, Q', at', q, f⟩ p np =>
  f (.ref p) _ _ _ (KP.newL np) (at'.hr.newD np (RE.to .nil)) rfl (q p (at'.hr.fresh np))
def isDc (x : D) (h : DH) : Prop := match x with | .ref a => ∃ ps, h a = some (.dct ps) | _ => False
def tdget (td ty tx : TE') : TE' := fun τ h Q => td τ h fun x h1 => isDc x h1 ∧ ty τ h1 fun y h2 => tx τ h2 fun z h3 => ∃ a ps k, x = .ref a ∧ dkey y = some k ∧ h3 a = some (.dct ps) ∧ Q ((dV ps k).getD z) h3
theorem de_dget {o e e2 : Expr} {td ty tx : TE'} {apos cpos : Pos} (hu : X.A.units + 1 < cLine) (ho : DE X Y o td) (he : DE X Y e ty) (hf : DE X Y e2 tx) (m : M2 X o "get" apos e e2 cpos := by exact ⟨rfl, rfl, rfl, rfl⟩) :
    DE X Y (.Call (.Attribute o "get" apos) [e, e2] [] cpos) (tdget td ty tx) := (pe_dget2 hu ho he hf m).imp fun σ H Q ⟨τ, h, Q', at', q, f⟩ =>
  ⟨τ, h, _, at', q, fun x h1 v H1 k1 hr1 rx ⟨dx, q1⟩ => by
    cases x with
    | ref a =>
      obtain ⟨ps, ep⟩ := dx
      obtain ⟨kvs, e1, _⟩ := hr1.dct ep
      refine ⟨a, rx, .inl ⟨kvs, .inl e1⟩, τ, h1, _, at'.after k1 hr1, q1, fun y h2 u H2 k2 hr2 ry q2 => ⟨τ, h2, _, (at'.after k1 hr1).after k2 hr2, q2, fun z h3 w H3 k3 hr3 rz q3 => ?_⟩⟩
      obtain ⟨a', ps, k, e2, ek, ep, q3⟩ := q3
      cases e2
      obtain ⟨kvs, e1, rd⟩ := hr3.dct ep
      have eu := dkey_v ek ry
      subst eu
      refine ⟨valV kvs k, DGet.k e1, ?_⟩
      rcases (RE.of rd).val k with ⟨z1, z2⟩ | ⟨d, v, z1, z2, r⟩
      · rw [z1] at q3; rw [z2]; exact f _ h3 _ H3 (k1.trans (k2.trans k3)) hr3 rz q3
      · rw [z1] at q3; rw [z2]; exact f _ h3 _ H3 (k1.trans (k2.trans k3)) hr3 r q3
    | _ => exact dx.elim⟩
def tdix (td ty : TE') : TE' := fun τ h Q => td τ h fun x h1 => ty τ h1 fun y h2 => ∃ a ps k d, x = .ref a ∧ dkey y = some k ∧ h2 a = some (.dct ps) ∧ dV ps k = some d ∧ Q d h2
theorem de_dix {o i : Expr} {td ty : TE'} (hu : X.A.units + 1 < cLine) (ho : DE X Y o td) (hi : DE X Y i ty) (hs : NoSl i := by intro _ _; rfl) : DE X Y (.Subscript o i pos) (tdix td ty) := (pe_dget hu ho hi hs).imp fun σ H Q ⟨τ, h, Q', at', q, f⟩ =>
  ⟨τ, h, _, at', q, fun x h1 v H1 k1 hr1 rx q1 => ⟨τ, h1, _, at'.after k1 hr1, q1, fun y h2 u H2 k2 hr2 ry q2 => by
    obtain ⟨a, ps, k, d, rfl, ek, ep, ev, q2⟩ := q2
    obtain ⟨kvs, e1, rd⟩ := hr2.dct ep
    have eu := dkey_v ek ry
    subst eu
    rcases (RE.of rd).val k with ⟨z1, z2⟩ | ⟨d', v', z1, z2, r⟩
    · rw [z1] at ev; cases ev
    · rw [z1] at ev
      cases ev
      exact ⟨a, v', rx, by have := DGet.k (k := k) e1; rw [z2] at this; exact this, f _ h2 _ H2 (k1.trans k2) hr2 r q2⟩⟩⟩
def tdput (td ty tv : TE') : TS' := fun E τ h => tv τ h fun v h1 => td τ h1 fun x h2 => ty τ h2 fun y h3 => ∃ a ps k, x = .ref a ∧ dkey y = some k ∧ h3 a = some (.dct ps) ∧ ps.length < sizeLine ∧ E.nx τ (put h3 a (.dct (dPut ps k v)))
theorem ds_dput {o i value : Expr} {td ty tv : TE'} {p2 : Pos} (hu : X.A.units + 1 < cLine) (ho : DE X Y o td) (hi : DE X Y i ty) (hv : DE X Y value tv) (hs : swapsWith value (some (.Subscript o i p2)) pos.line X.env = pure false := by rfl) :
    DS X Y (.Assign [.Subscript o i p2] value pos) (tdput td ty tv) := (ps_dput hu ho hi hv hs).imp fun D σ H ⟨τ, h, D', at', q, f⟩ =>
  ⟨τ, h, _, at', q, fun v h1 rv H1 k1 hr1 rrv q1 => ⟨τ, h1, _, at'.after k1 hr1, q1, fun x h2 rx H2 k2 hr2 rrx q2 => ⟨τ, h2, _, (at'.after k1 hr1).after k2 hr2, q2, fun y h3 ry H3 k3 hr3 rry q3 => by
    obtain ⟨a, ps, k, rfl, ek, ep, hl, q3⟩ := q3
    obtain ⟨kvs, e1, rd⟩ := hr3.dct ep
    have eu := dkey_v ek rry
    subst eu
    have re := RE.of rd
    have kw : KP h3 H3 (put h3 a (.dct (dPut ps k v))) (upd H3 a (.dK (putK kvs k rv))) := KP.wrO (by rw [ep]; rfl)
    refine ⟨a, _, rrx, DPut.k e1 (by rw [re.length]; exact hl), f.nx τ _ σ _ ((k1.trans (k2.trans k3)).trans kw) (hr3.wrD ep (re.put k (RD.mono (k2.trans k3) _ _ rrv)).to) at'.len (at'.sr.mono ((k1.trans (k2.trans k3)).trans kw)) q3⟩⟩⟩⟩
/-- k in d -/
def tdin (n : Bool) (ty td : TE') : TE' := fun τ h Q => ty τ h fun y h1 => td τ h1 fun x h2 => ∃ a ps k, x = .ref a ∧ dkey y = some k ∧ h2 a = some (.dct ps) ∧ Q (.bl (if n then !(dV ps k).isSome else (dV ps k).isSome)) h2
theorem din_imp {n : Bool} {ty td : TE'} {σ : L2.St} {H : Hp} {Q : VK} (q : lE K Y (tdin n ty td) σ H Q) :
    lE K Y ty σ H fun y H1 => lE K Y td σ H1 fun x H2 => ∃ a o, x = .ref a ∧ DGet H2 a y o ∧ Q (.bl (if n then !o.isSome else o.isSome)) H2 := by
  obtain ⟨τ, h, Q', at', q, f⟩ := q
  refine ⟨τ, h, _, at', q, fun y h1 v H1 k1 hr1 ry q1 => ⟨τ, h1, _, at'.after k1 hr1, q1, fun x h2 u H2 k2 hr2 rx q2 => ?_⟩⟩
  obtain ⟨a, ps, k, rfl, ek, ep, q2⟩ := q2
  obtain ⟨kvs, e1, rd⟩ := hr2.dct ep
  have eu := dkey_v ek ry
  subst eu
  refine ⟨a, valV kvs k, rx, DGet.k e1, ?_⟩
  have es : (valV kvs k).isSome = (dV ps k).isSome := by
    rcases (RE.of rd).val k with ⟨z1, z2⟩ | ⟨d', v', z1, z2, r⟩ <;> rw [z1, z2] <;> rfl
  rw [es]
  exact f (.bl _) h2 _ H2 (k1.trans k2) hr2 rfl q2
end
end DL

set_option Elab.async false
set_option linter.all false
set_option maxRecDepth 100000
/-! DS4: truth of any data; rewriting rules for DS1 to DS4; a set comprehension that changes nothing. -/
namespace DL
open PySem PySem.Spec PyProof.Rows L2
/-- the truth of a value -/
def truD (x : D) (h : DH) (k : Bool → Prop) : Prop := match x with
  | .bl c => k c
  | .int i => k (!decide (i = 0))
  | .tup xs => k (!xs.isEmpty)
  | .lis xs => k (!xs.isEmpty)
  | .ref a => ∃ xs, h a = some (.lst xs) ∧ k (!xs.isEmpty)
  | _ => False
def ttru (t : TE') : TT' := fun τ h Q => t τ h fun x h1 => truD x h1 fun c => Q c h1
section
variable {X : Cx} {Y : Wsh} {K : PySem.W.Frag} {pos : Pos}
theorem RDs.isEmpty {h : DH} {H : Hp} {ds : List D} {vs : List V} (r : RDs K h H ds vs) : vs.isEmpty = ds.isEmpty := by
  have := r.length
  cases ds <;> cases vs <;> simp_all
theorem dt_tru {e : Expr} {t : TE'} (h : DE X Y e t) (he : ∀ whole, isTrue e X.env whole = (do let v ← whole; standAt e.pos; holding [v] (truthy v)) := by intro _; rfl) : DT X Y e (ttru t) :=
  (pt_truth h he).imp fun σ H Q ⟨τ, h, Q', at', q, f⟩ => ⟨τ, h, _, at', q, fun x h1 v H1 k1 hr1 rx q1 => by
    cases x with
    | bl c => cases (show v = .bl c from rx); exact ⟨c, rfl, f c h1 H1 k1 hr1 q1⟩
    | int i =>
      cases (show v = .int i from rx)
      refine ⟨_, rfl, ?_⟩
      have e : (i != 0) = !decide (i = 0) := by
        show (!(i == 0)) = _
        rw [Bool.beq_eq_decide_eq]
      rw [e]
      exact f _ h1 H1 k1 hr1 q1
    | tup xs =>
      obtain ⟨a, vs, rfl, t, r⟩ := rx
      exact ⟨_, .inr (.inl ⟨vs, t.sq, rfl⟩), f _ h1 H1 k1 hr1 (by rw [r.isEmpty]; exact q1)⟩
    | lis xs =>
      obtain ⟨a, vs, rfl, n, t, r⟩ := rx
      exact ⟨_, .inl ⟨vs, SqL.of t, rfl⟩, f _ h1 H1 k1 hr1 (by rw [r.isEmpty]; exact q1)⟩
    | ref a =>
      obtain ⟨xs, e, q1⟩ := q1
      obtain ⟨vs, t, r⟩ := hr1.lst e
      cases (show v = .ref a from rx)
      exact ⟨_, .inl ⟨vs, SqL.of t, rfl⟩, f _ h1 H1 k1 hr1 (by rw [r.isEmpty]; exact q1)⟩
    | _ => exact q1.elim⟩
end
section
variable {D' : Ends'} {τ : St'} {h : DH} {Q : VK'} {R : Bool → DH → Prop} {x y : D} {i : Int} {a : Addr}
theorem q_tru {t : TE'} : ttru t τ h R = t τ h fun x h1 => truD x h1 fun c => R c h1 := id rfl
theorem q_truB {c : Bool} {k : Bool → Prop} : truD (.bl c) h k = k c := id rfl
theorem q_truI {k : Bool → Prop} : truD (.int i) h k = k (!decide (i = 0)) := id rfl
theorem q_truT {xs : List D} {k : Bool → Prop} : truD (.tup xs) h k = k (!xs.isEmpty) := id rfl
theorem q_truL {xs : List D} {k : Bool → Prop} : truD (.lis xs) h k = k (!xs.isEmpty) := id rfl
theorem q_any {xs : List D} : caAny [.lis xs] h Q = ∃ bs : List Bool, xs = bs.map .bl ∧ Q (.bl (bs.any id)) h := id rfl
theorem q_all {xs : List D} : caAll [.lis xs] h Q = ∃ bs : List Bool, xs = bs.map .bl ∧ Q (.bl (bs.all id)) h := id rfl
theorem q_dnew : tdnew τ h Q = ∀ p, h p = none → Q (.ref p) (put h p (.dct [])) := id rfl
theorem q_dget {td ty tx : TE'} : tdget td ty tx τ h Q = td τ h fun x h1 => isDc x h1 ∧ ty τ h1 fun y h2 => tx τ h2 fun z h3 => ∃ a ps k, x = .ref a ∧ dkey y = some k ∧ h3 a = some (.dct ps) ∧ Q ((dV ps k).getD z) h3 := id rfl
theorem q_dix {td ty : TE'} : tdix td ty τ h Q = td τ h fun x h1 => ty τ h1 fun y h2 => ∃ a ps k d, x = .ref a ∧ dkey y = some k ∧ h2 a = some (.dct ps) ∧ dV ps k = some d ∧ Q d h2 := id rfl
theorem q_dput {td ty tv : TE'} : tdput td ty tv D' τ h = tv τ h fun v h1 => td τ h1 fun x h2 => ty τ h2 fun y h3 => ∃ a ps k, x = .ref a ∧ dkey y = some k ∧ h3 a = some (.dct ps) ∧ ps.length < sizeLine ∧ D'.nx τ (put h3 a (.dct (dPut ps k v))) := id rfl
theorem q_srt {ti : TI'} {n : Nat} {tt : TT'} {te : TE'} : tsrt ti n tt te τ h Q = ti τ h fun xs C h1 => ∀ p, h1 p = none → scS n tt te C τ (fun acc h2 => ∀ ns, SrtOf acc ns → Q (.lis (ns.map .int)) (del h2 p)) xs [] (put h1 p .hid) := id rfl
theorem q_ext1 {xs : List D} : mExt (.ref a) [.lis xs] h Q = ∃ ys, h a = some (.lst ys) ∧ ys.length + xs.length ≤ sizeLine ∧ Q .non (put h a (.lst (ys ++ xs))) := id rfl
end
/-- a set comprehension of ints whose test and element change nothing -/
theorem sc_pure {n : Nat} {tt : TT'} {te : TE'} {C : DH → Prop} {τ : St'} {Q : List Int → DH → Prop} {h : DH} (b : D → Bool) (f : D → Int) (hc : C h) : ∀ (xs : List D) (acc : List Int), acc.length + xs.length < 64 →
    (∀ x ∈ xs, ∀ R : Bool → DH → Prop, R (b x) h → tt (τ.set n (some x)) h R) → (∀ x ∈ xs, b x = true → ∀ R : VK', R (.int (f x)) h → te (τ.set n (some x)) h R) →
    Q (acc ++ (xs.filter b).map f) h → scS n tt te C τ Q xs acc h
  | [], acc, _, _, _, q => ⟨hc, by simpa using q⟩
  | x :: xs, acc, hl, ht, he, q => by
    simp only [List.length_cons] at hl
    refine ⟨hc, ht x List.mem_cons_self _ ?_⟩
    cases e : b x with
    | true =>
      rw [if_pos rfl]
      refine he x List.mem_cons_self e _ ⟨f x, rfl, by omega, sc_pure b f hc xs _ (by simp only [List.length_append, List.length_cons, List.length_nil]; omega) (fun y m => ht y (List.mem_cons_of_mem _ m)) (fun y m => he y (List.mem_cons_of_mem _ m)) ?_⟩
      rw [List.filter_cons_of_pos e] at q
      simpa using q
    | false =>
      rw [if_neg Bool.false_ne_true]
      refine sc_pure b f hc xs _ (by omega) (fun y m => ht y (List.mem_cons_of_mem _ m)) (fun y m => he y (List.mem_cons_of_mem _ m)) ?_
      rw [List.filter_cons_of_neg (by simp [e])] at q
      exact q
end DL

set_option Elab.async false
set_option linter.all false
set_option maxRecDepth 100000
/-! DS5: comprehensions over a mapped list; ascending lists of ints. -/
namespace DL
open PySem PySem.Spec PyProof.Rows L2
theorem lc_map {α : Type} {n : Nat} {tt : TT'} {te : TE'} {C : DH → Prop} {τ : St'} {Q : List D → DH → Prop} {h : DH} (g : α → D) (b : α → Bool) (f : α → D) (hc : C h) : ∀ (l : List α) (acc : List D), acc.length + l.length ≤ sizeLine →
    (∀ a ∈ l, ∀ R : Bool → DH → Prop, R (b a) h → tt (τ.set n (some (g a))) h R) → (∀ a ∈ l, b a = true → ∀ R : VK', R (f a) h → te (τ.set n (some (g a))) h R) →
    Q (acc ++ (l.filter b).map f) h → lcS n tt te C τ Q (l.map g) acc h
  | [], acc, _, _, _, q => ⟨hc, by simpa using q⟩
  | x :: xs, acc, hl, ht, he, q => by
    simp only [List.length_cons] at hl
    rw [List.map_cons, q_lcons]
    refine ⟨hc, ht x List.mem_cons_self _ ?_⟩
    cases e : b x with
    | true =>
      rw [sif_t]
      refine he x List.mem_cons_self e _ ⟨by omega, lc_map g b f hc xs _ (by simp only [List.length_append, List.length_cons, List.length_nil]; omega) (fun y m => ht y (List.mem_cons_of_mem _ m)) (fun y m => he y (List.mem_cons_of_mem _ m)) ?_⟩
      rw [List.filter_cons_of_pos e] at q
      simpa using q
    | false =>
      rw [sif_f]
      refine lc_map g b f hc xs _ (by omega) (fun y m => ht y (List.mem_cons_of_mem _ m)) (fun y m => he y (List.mem_cons_of_mem _ m)) ?_
      rw [List.filter_cons_of_neg (by simp [e])] at q
      exact q
theorem lc_all {α : Type} {n : Nat} {te : TE'} {C : DH → Prop} {τ : St'} {Q : List D → DH → Prop} {h : DH} (g : α → D) (f : α → D) (hc : C h) (l : List α) (acc : List D) (hl : acc.length + l.length ≤ sizeLine)
    (he : ∀ a ∈ l, ∀ R : VK', R (f a) h → te (τ.set n (some (g a))) h R) (q : Q (acc ++ l.map f) h) : lcS n tyes te C τ Q (l.map g) acc h :=
  lc_map g (fun _ => true) f hc l acc hl (fun _ _ _ r => r) (fun a m _ => he a m) (by rw [List.filter_eq_self.mpr (fun _ _ => rfl)]; exact q)
theorem sc_map {α : Type} {n : Nat} {tt : TT'} {te : TE'} {C : DH → Prop} {τ : St'} {Q : List Int → DH → Prop} {h : DH} (g : α → D) (b : α → Bool) (f : α → Int) (hc : C h) : ∀ (l : List α) (acc : List Int), acc.length + l.length < 64 →
    (∀ a ∈ l, ∀ R : Bool → DH → Prop, R (b a) h → tt (τ.set n (some (g a))) h R) → (∀ a ∈ l, b a = true → ∀ R : VK', R (.int (f a)) h → te (τ.set n (some (g a))) h R) →
    Q (acc ++ (l.filter b).map f) h → scS n tt te C τ Q (l.map g) acc h
  | [], acc, _, _, _, q => ⟨hc, by simpa using q⟩
  | x :: xs, acc, hl, ht, he, q => by
    simp only [List.length_cons] at hl
    rw [List.map_cons]
    refine ⟨hc, ht x List.mem_cons_self _ ?_⟩
    cases e : b x with
    | true =>
      rw [if_pos rfl]
      refine he x List.mem_cons_self e _ ⟨f x, rfl, by omega, sc_map g b f hc xs _ (by simp only [List.length_append, List.length_cons, List.length_nil]; omega) (fun y m => ht y (List.mem_cons_of_mem _ m)) (fun y m => he y (List.mem_cons_of_mem _ m)) ?_⟩
      rw [List.filter_cons_of_pos e] at q
      simpa using q
    | false =>
      rw [if_neg Bool.false_ne_true]
      refine sc_map g b f hc xs _ (by omega) (fun y m => ht y (List.mem_cons_of_mem _ m)) (fun y m => he y (List.mem_cons_of_mem _ m)) ?_
      rw [List.filter_cons_of_neg (by simp [e])] at q
      exact q
theorem asc_eq : ∀ (a b : List Int), a.Pairwise (· < ·) → b.Pairwise (· < ·) → (∀ x, x ∈ a ↔ x ∈ b) → a = b
  | [], [], _, _, _ => rfl
  | [], y :: ys, _, _, h => absurd ((h y).mpr List.mem_cons_self) (by simp)
  | x :: xs, [], _, _, h => absurd ((h x).mp List.mem_cons_self) (by simp)
  | x :: xs, y :: ys, ha, hb, h => by
    have ha' := List.pairwise_cons.mp ha
    have hb' := List.pairwise_cons.mp hb
    have e : x = y := by
      rcases List.mem_cons.mp ((h x).mp List.mem_cons_self) with e | m
      · exact e
      · rcases List.mem_cons.mp ((h y).mpr List.mem_cons_self) with e | m2
        · exact e.symm
        · have := hb'.1 x m; have := ha'.1 y m2; omega
    subst e
    congr 1
    refine asc_eq xs ys ha'.2 hb'.2 fun z => ⟨fun m => ?_, fun m => ?_⟩
    · rcases List.mem_cons.mp ((h z).mp (List.mem_cons_of_mem _ m)) with e | m2
      · have := ha'.1 z m; omega
      · exact m2
    · rcases List.mem_cons.mp ((h z).mpr (List.mem_cons_of_mem _ m)) with e | m2
      · have := hb'.1 z m; omega
      · exact m2
/-- 0 to n - 1 -/
def rngI (n : Int) : List Int := (List.range n.toNat).map fun k : Nat => (k : Int)
theorem rngD_I (n : Int) : rngD 0 n.toNat = (rngI n).map D.int := by
  unfold rngD rngI
  rw [List.map_map]
  apply List.map_congr_left
  intro i _
  simp
theorem rngI_mem {n x : Int} : x ∈ rngI n ↔ 0 ≤ x ∧ x < n := by
  unfold rngI
  simp only [List.mem_map, List.mem_range]
  constructor
  · rintro ⟨k, h, rfl⟩; omega
  · intro h; exact ⟨x.toNat, by omega, by omega⟩
theorem rngI_asc (n : Int) : (rngI n).Pairwise (· < ·) := by
  unfold rngI
  rw [List.pairwise_map]
  exact List.pairwise_lt_range.imp fun h => by omega
theorem rngI_len (n : Int) : (rngI n).length = n.toNat := by unfold rngI; simp
/-! range(a, b) -/
def rg2K (ds : List D) (h : DH) (T : List D → (DH → Prop) → DH → Prop) : Prop := match ds with
  | [.int i, .int j] => (-4611686018427387904 ≤ i ∧ i < 4611686018427387904 ∧ -4611686018427387904 ≤ j ∧ j < 4611686018427387904) ∧ T (rngD i (j - i).toNat) (fun _ => True) h
  | _ => False
theorem q_rg2 {ta : TA'} {τ : St'} {h : DH} {T : List D → (DH → Prop) → DH → Prop} : trg2 ta τ h T = ta τ h fun ds h1 => rg2K ds h1 T := id rfl
theorem q_rg2K {i j : Int} {h : DH} {T : List D → (DH → Prop) → DH → Prop} : rg2K [.int i, .int j] h T = ((-4611686018427387904 ≤ i ∧ i < 4611686018427387904 ∧ -4611686018427387904 ≤ j ∧ j < 4611686018427387904) ∧ T (rngD i (j - i).toNat) (fun _ => True) h) := id rfl
/-! slots from 16 on -/
section
variable {h : DH} {Q : VK'} {d : D}
theorem q_tv16 {z0 z1 z2 z3 z4 z5 z6 z7 z8 z9 z10 z11 z12 z13 z14 z15 : Option D} {l : St'} : tv 16 (z0 :: z1 :: z2 :: z3 :: z4 :: z5 :: z6 :: z7 :: z8 :: z9 :: z10 :: z11 :: z12 :: z13 :: z14 :: z15 :: some d :: l) h Q ↔ Q d h := ⟨fun ⟨_, e, q⟩ => by cases e; exact q, fun q => ⟨d, rfl, q⟩⟩
theorem q_st16 {z0 z1 z2 z3 z4 z5 z6 z7 z8 z9 z10 z11 z12 z13 z14 z15 z16 : Option D} {o : Option D} {l : St'} : (z0 :: z1 :: z2 :: z3 :: z4 :: z5 :: z6 :: z7 :: z8 :: z9 :: z10 :: z11 :: z12 :: z13 :: z14 :: z15 :: z16 :: l).set 16 o = z0 :: z1 :: z2 :: z3 :: z4 :: z5 :: z6 :: z7 :: z8 :: z9 :: z10 :: z11 :: z12 :: z13 :: z14 :: z15 :: o :: l := id rfl
theorem q_tv17 {z0 z1 z2 z3 z4 z5 z6 z7 z8 z9 z10 z11 z12 z13 z14 z15 z16 : Option D} {l : St'} : tv 17 (z0 :: z1 :: z2 :: z3 :: z4 :: z5 :: z6 :: z7 :: z8 :: z9 :: z10 :: z11 :: z12 :: z13 :: z14 :: z15 :: z16 :: some d :: l) h Q ↔ Q d h := ⟨fun ⟨_, e, q⟩ => by cases e; exact q, fun q => ⟨d, rfl, q⟩⟩
theorem q_st17 {z0 z1 z2 z3 z4 z5 z6 z7 z8 z9 z10 z11 z12 z13 z14 z15 z16 z17 : Option D} {o : Option D} {l : St'} : (z0 :: z1 :: z2 :: z3 :: z4 :: z5 :: z6 :: z7 :: z8 :: z9 :: z10 :: z11 :: z12 :: z13 :: z14 :: z15 :: z16 :: z17 :: l).set 17 o = z0 :: z1 :: z2 :: z3 :: z4 :: z5 :: z6 :: z7 :: z8 :: z9 :: z10 :: z11 :: z12 :: z13 :: z14 :: z15 :: z16 :: o :: l := id rfl
theorem q_tv18 {z0 z1 z2 z3 z4 z5 z6 z7 z8 z9 z10 z11 z12 z13 z14 z15 z16 z17 : Option D} {l : St'} : tv 18 (z0 :: z1 :: z2 :: z3 :: z4 :: z5 :: z6 :: z7 :: z8 :: z9 :: z10 :: z11 :: z12 :: z13 :: z14 :: z15 :: z16 :: z17 :: some d :: l) h Q ↔ Q d h := ⟨fun ⟨_, e, q⟩ => by cases e; exact q, fun q => ⟨d, rfl, q⟩⟩
theorem q_st18 {z0 z1 z2 z3 z4 z5 z6 z7 z8 z9 z10 z11 z12 z13 z14 z15 z16 z17 z18 : Option D} {o : Option D} {l : St'} : (z0 :: z1 :: z2 :: z3 :: z4 :: z5 :: z6 :: z7 :: z8 :: z9 :: z10 :: z11 :: z12 :: z13 :: z14 :: z15 :: z16 :: z17 :: z18 :: l).set 18 o = z0 :: z1 :: z2 :: z3 :: z4 :: z5 :: z6 :: z7 :: z8 :: z9 :: z10 :: z11 :: z12 :: z13 :: z14 :: z15 :: z16 :: z17 :: o :: l := id rfl
theorem q_tv19 {z0 z1 z2 z3 z4 z5 z6 z7 z8 z9 z10 z11 z12 z13 z14 z15 z16 z17 z18 : Option D} {l : St'} : tv 19 (z0 :: z1 :: z2 :: z3 :: z4 :: z5 :: z6 :: z7 :: z8 :: z9 :: z10 :: z11 :: z12 :: z13 :: z14 :: z15 :: z16 :: z17 :: z18 :: some d :: l) h Q ↔ Q d h := ⟨fun ⟨_, e, q⟩ => by cases e; exact q, fun q => ⟨d, rfl, q⟩⟩
theorem q_st19 {z0 z1 z2 z3 z4 z5 z6 z7 z8 z9 z10 z11 z12 z13 z14 z15 z16 z17 z18 z19 : Option D} {o : Option D} {l : St'} : (z0 :: z1 :: z2 :: z3 :: z4 :: z5 :: z6 :: z7 :: z8 :: z9 :: z10 :: z11 :: z12 :: z13 :: z14 :: z15 :: z16 :: z17 :: z18 :: z19 :: l).set 19 o = z0 :: z1 :: z2 :: z3 :: z4 :: z5 :: z6 :: z7 :: z8 :: z9 :: z10 :: z11 :: z12 :: z13 :: z14 :: z15 :: z16 :: z17 :: z18 :: o :: l := id rfl
theorem q_tv20 {z0 z1 z2 z3 z4 z5 z6 z7 z8 z9 z10 z11 z12 z13 z14 z15 z16 z17 z18 z19 : Option D} {l : St'} : tv 20 (z0 :: z1 :: z2 :: z3 :: z4 :: z5 :: z6 :: z7 :: z8 :: z9 :: z10 :: z11 :: z12 :: z13 :: z14 :: z15 :: z16 :: z17 :: z18 :: z19 :: some d :: l) h Q ↔ Q d h := ⟨fun ⟨_, e, q⟩ => by cases e; exact q, fun q => ⟨d, rfl, q⟩⟩
theorem q_st20 {z0 z1 z2 z3 z4 z5 z6 z7 z8 z9 z10 z11 z12 z13 z14 z15 z16 z17 z18 z19 z20 : Option D} {o : Option D} {l : St'} : (z0 :: z1 :: z2 :: z3 :: z4 :: z5 :: z6 :: z7 :: z8 :: z9 :: z10 :: z11 :: z12 :: z13 :: z14 :: z15 :: z16 :: z17 :: z18 :: z19 :: z20 :: l).set 20 o = z0 :: z1 :: z2 :: z3 :: z4 :: z5 :: z6 :: z7 :: z8 :: z9 :: z10 :: z11 :: z12 :: z13 :: z14 :: z15 :: z16 :: z17 :: z18 :: z19 :: o :: l := id rfl
theorem q_tv21 {z0 z1 z2 z3 z4 z5 z6 z7 z8 z9 z10 z11 z12 z13 z14 z15 z16 z17 z18 z19 z20 : Option D} {l : St'} : tv 21 (z0 :: z1 :: z2 :: z3 :: z4 :: z5 :: z6 :: z7 :: z8 :: z9 :: z10 :: z11 :: z12 :: z13 :: z14 :: z15 :: z16 :: z17 :: z18 :: z19 :: z20 :: some d :: l) h Q ↔ Q d h := ⟨fun ⟨_, e, q⟩ => by cases e; exact q, fun q => ⟨d, rfl, q⟩⟩
theorem q_st21 {z0 z1 z2 z3 z4 z5 z6 z7 z8 z9 z10 z11 z12 z13 z14 z15 z16 z17 z18 z19 z20 z21 : Option D} {o : Option D} {l : St'} : (z0 :: z1 :: z2 :: z3 :: z4 :: z5 :: z6 :: z7 :: z8 :: z9 :: z10 :: z11 :: z12 :: z13 :: z14 :: z15 :: z16 :: z17 :: z18 :: z19 :: z20 :: z21 :: l).set 21 o = z0 :: z1 :: z2 :: z3 :: z4 :: z5 :: z6 :: z7 :: z8 :: z9 :: z10 :: z11 :: z12 :: z13 :: z14 :: z15 :: z16 :: z17 :: z18 :: z19 :: z20 :: o :: l := id rfl
theorem q_tv22 {z0 z1 z2 z3 z4 z5 z6 z7 z8 z9 z10 z11 z12 z13 z14 z15 z16 z17 z18 z19 z20 z21 : Option D} {l : St'} : tv 22 (z0 :: z1 :: z2 :: z3 :: z4 :: z5 :: z6 :: z7 :: z8 :: z9 :: z10 :: z11 :: z12 :: z13 :: z14 :: z15 :: z16 :: z17 :: z18 :: z19 :: z20 :: z21 :: some d :: l) h Q ↔ Q d h := ⟨fun ⟨_, e, q⟩ => by cases e; exact q, fun q => ⟨d, rfl, q⟩⟩
theorem q_st22 {z0 z1 z2 z3 z4 z5 z6 z7 z8 z9 z10 z11 z12 z13 z14 z15 z16 z17 z18 z19 z20 z21 z22 : Option D} {o : Option D} {l : St'} : (z0 :: z1 :: z2 :: z3 :: z4 :: z5 :: z6 :: z7 :: z8 :: z9 :: z10 :: z11 :: z12 :: z13 :: z14 :: z15 :: z16 :: z17 :: z18 :: z19 :: z20 :: z21 :: z22 :: l).set 22 o = z0 :: z1 :: z2 :: z3 :: z4 :: z5 :: z6 :: z7 :: z8 :: z9 :: z10 :: z11 :: z12 :: z13 :: z14 :: z15 :: z16 :: z17 :: z18 :: z19 :: z20 :: z21 :: o :: l := id rfl
theorem q_tv23 {z0 z1 z2 z3 z4 z5 z6 z7 z8 z9 z10 z11 z12 z13 z14 z15 z16 z17 z18 z19 z20 z21 z22 : Option D} {l : St'} : tv 23 (z0 :: z1 :: z2 :: z3 :: z4 :: z5 :: z6 :: z7 :: z8 :: z9 :: z10 :: z11 :: z12 :: z13 :: z14 :: z15 :: z16 :: z17 :: z18 :: z19 :: z20 :: z21 :: z22 :: some d :: l) h Q ↔ Q d h := ⟨fun ⟨_, e, q⟩ => by cases e; exact q, fun q => ⟨d, rfl, q⟩⟩
theorem q_st23 {z0 z1 z2 z3 z4 z5 z6 z7 z8 z9 z10 z11 z12 z13 z14 z15 z16 z17 z18 z19 z20 z21 z22 z23 : Option D} {o : Option D} {l : St'} : (z0 :: z1 :: z2 :: z3 :: z4 :: z5 :: z6 :: z7 :: z8 :: z9 :: z10 :: z11 :: z12 :: z13 :: z14 :: z15 :: z16 :: z17 :: z18 :: z19 :: z20 :: z21 :: z22 :: z23 :: l).set 23 o = z0 :: z1 :: z2 :: z3 :: z4 :: z5 :: z6 :: z7 :: z8 :: z9 :: z10 :: z11 :: z12 :: z13 :: z14 :: z15 :: z16 :: z17 :: z18 :: z19 :: z20 :: z21 :: z22 :: o :: l := id rfl
theorem q_tv24 {z0 z1 z2 z3 z4 z5 z6 z7 z8 z9 z10 z11 z12 z13 z14 z15 z16 z17 z18 z19 z20 z21 z22 z23 : Option D} {l : St'} : tv 24 (z0 :: z1 :: z2 :: z3 :: z4 :: z5 :: z6 :: z7 :: z8 :: z9 :: z10 :: z11 :: z12 :: z13 :: z14 :: z15 :: z16 :: z17 :: z18 :: z19 :: z20 :: z21 :: z22 :: z23 :: some d :: l) h Q ↔ Q d h := ⟨fun ⟨_, e, q⟩ => by cases e; exact q, fun q => ⟨d, rfl, q⟩⟩
theorem q_st24 {z0 z1 z2 z3 z4 z5 z6 z7 z8 z9 z10 z11 z12 z13 z14 z15 z16 z17 z18 z19 z20 z21 z22 z23 z24 : Option D} {o : Option D} {l : St'} : (z0 :: z1 :: z2 :: z3 :: z4 :: z5 :: z6 :: z7 :: z8 :: z9 :: z10 :: z11 :: z12 :: z13 :: z14 :: z15 :: z16 :: z17 :: z18 :: z19 :: z20 :: z21 :: z22 :: z23 :: z24 :: l).set 24 o = z0 :: z1 :: z2 :: z3 :: z4 :: z5 :: z6 :: z7 :: z8 :: z9 :: z10 :: z11 :: z12 :: z13 :: z14 :: z15 :: z16 :: z17 :: z18 :: z19 :: z20 :: z21 :: z22 :: z23 :: o :: l := id rfl
theorem q_tv25 {z0 z1 z2 z3 z4 z5 z6 z7 z8 z9 z10 z11 z12 z13 z14 z15 z16 z17 z18 z19 z20 z21 z22 z23 z24 : Option D} {l : St'} : tv 25 (z0 :: z1 :: z2 :: z3 :: z4 :: z5 :: z6 :: z7 :: z8 :: z9 :: z10 :: z11 :: z12 :: z13 :: z14 :: z15 :: z16 :: z17 :: z18 :: z19 :: z20 :: z21 :: z22 :: z23 :: z24 :: some d :: l) h Q ↔ Q d h := ⟨fun ⟨_, e, q⟩ => by cases e; exact q, fun q => ⟨d, rfl, q⟩⟩
theorem q_st25 {z0 z1 z2 z3 z4 z5 z6 z7 z8 z9 z10 z11 z12 z13 z14 z15 z16 z17 z18 z19 z20 z21 z22 z23 z24 z25 : Option D} {o : Option D} {l : St'} : (z0 :: z1 :: z2 :: z3 :: z4 :: z5 :: z6 :: z7 :: z8 :: z9 :: z10 :: z11 :: z12 :: z13 :: z14 :: z15 :: z16 :: z17 :: z18 :: z19 :: z20 :: z21 :: z22 :: z23 :: z24 :: z25 :: l).set 25 o = z0 :: z1 :: z2 :: z3 :: z4 :: z5 :: z6 :: z7 :: z8 :: z9 :: z10 :: z11 :: z12 :: z13 :: z14 :: z15 :: z16 :: z17 :: z18 :: z19 :: z20 :: z21 :: z22 :: z23 :: z24 :: o :: l := id rfl
theorem q_tv26 {z0 z1 z2 z3 z4 z5 z6 z7 z8 z9 z10 z11 z12 z13 z14 z15 z16 z17 z18 z19 z20 z21 z22 z23 z24 z25 : Option D} {l : St'} : tv 26 (z0 :: z1 :: z2 :: z3 :: z4 :: z5 :: z6 :: z7 :: z8 :: z9 :: z10 :: z11 :: z12 :: z13 :: z14 :: z15 :: z16 :: z17 :: z18 :: z19 :: z20 :: z21 :: z22 :: z23 :: z24 :: z25 :: some d :: l) h Q ↔ Q d h := ⟨fun ⟨_, e, q⟩ => by cases e; exact q, fun q => ⟨d, rfl, q⟩⟩
theorem q_st26 {z0 z1 z2 z3 z4 z5 z6 z7 z8 z9 z10 z11 z12 z13 z14 z15 z16 z17 z18 z19 z20 z21 z22 z23 z24 z25 z26 : Option D} {o : Option D} {l : St'} : (z0 :: z1 :: z2 :: z3 :: z4 :: z5 :: z6 :: z7 :: z8 :: z9 :: z10 :: z11 :: z12 :: z13 :: z14 :: z15 :: z16 :: z17 :: z18 :: z19 :: z20 :: z21 :: z22 :: z23 :: z24 :: z25 :: z26 :: l).set 26 o = z0 :: z1 :: z2 :: z3 :: z4 :: z5 :: z6 :: z7 :: z8 :: z9 :: z10 :: z11 :: z12 :: z13 :: z14 :: z15 :: z16 :: z17 :: z18 :: z19 :: z20 :: z21 :: z22 :: z23 :: z24 :: z25 :: o :: l := id rfl
theorem q_tv27 {z0 z1 z2 z3 z4 z5 z6 z7 z8 z9 z10 z11 z12 z13 z14 z15 z16 z17 z18 z19 z20 z21 z22 z23 z24 z25 z26 : Option D} {l : St'} : tv 27 (z0 :: z1 :: z2 :: z3 :: z4 :: z5 :: z6 :: z7 :: z8 :: z9 :: z10 :: z11 :: z12 :: z13 :: z14 :: z15 :: z16 :: z17 :: z18 :: z19 :: z20 :: z21 :: z22 :: z23 :: z24 :: z25 :: z26 :: some d :: l) h Q ↔ Q d h := ⟨fun ⟨_, e, q⟩ => by cases e; exact q, fun q => ⟨d, rfl, q⟩⟩
theorem q_st27 {z0 z1 z2 z3 z4 z5 z6 z7 z8 z9 z10 z11 z12 z13 z14 z15 z16 z17 z18 z19 z20 z21 z22 z23 z24 z25 z26 z27 : Option D} {o : Option D} {l : St'} : (z0 :: z1 :: z2 :: z3 :: z4 :: z5 :: z6 :: z7 :: z8 :: z9 :: z10 :: z11 :: z12 :: z13 :: z14 :: z15 :: z16 :: z17 :: z18 :: z19 :: z20 :: z21 :: z22 :: z23 :: z24 :: z25 :: z26 :: z27 :: l).set 27 o = z0 :: z1 :: z2 :: z3 :: z4 :: z5 :: z6 :: z7 :: z8 :: z9 :: z10 :: z11 :: z12 :: z13 :: z14 :: z15 :: z16 :: z17 :: z18 :: z19 :: z20 :: z21 :: z22 :: z23 :: z24 :: z25 :: z26 :: o :: l := id rfl
theorem q_tv28 {z0 z1 z2 z3 z4 z5 z6 z7 z8 z9 z10 z11 z12 z13 z14 z15 z16 z17 z18 z19 z20 z21 z22 z23 z24 z25 z26 z27 : Option D} {l : St'} : tv 28 (z0 :: z1 :: z2 :: z3 :: z4 :: z5 :: z6 :: z7 :: z8 :: z9 :: z10 :: z11 :: z12 :: z13 :: z14 :: z15 :: z16 :: z17 :: z18 :: z19 :: z20 :: z21 :: z22 :: z23 :: z24 :: z25 :: z26 :: z27 :: some d :: l) h Q ↔ Q d h := ⟨fun ⟨_, e, q⟩ => by cases e; exact q, fun q => ⟨d, rfl, q⟩⟩
theorem q_st28 {z0 z1 z2 z3 z4 z5 z6 z7 z8 z9 z10 z11 z12 z13 z14 z15 z16 z17 z18 z19 z20 z21 z22 z23 z24 z25 z26 z27 z28 : Option D} {o : Option D} {l : St'} : (z0 :: z1 :: z2 :: z3 :: z4 :: z5 :: z6 :: z7 :: z8 :: z9 :: z10 :: z11 :: z12 :: z13 :: z14 :: z15 :: z16 :: z17 :: z18 :: z19 :: z20 :: z21 :: z22 :: z23 :: z24 :: z25 :: z26 :: z27 :: z28 :: l).set 28 o = z0 :: z1 :: z2 :: z3 :: z4 :: z5 :: z6 :: z7 :: z8 :: z9 :: z10 :: z11 :: z12 :: z13 :: z14 :: z15 :: z16 :: z17 :: z18 :: z19 :: z20 :: z21 :: z22 :: z23 :: z24 :: z25 :: z26 :: z27 :: o :: l := id rfl
theorem q_tv29 {z0 z1 z2 z3 z4 z5 z6 z7 z8 z9 z10 z11 z12 z13 z14 z15 z16 z17 z18 z19 z20 z21 z22 z23 z24 z25 z26 z27 z28 : Option D} {l : St'} : tv 29 (z0 :: z1 :: z2 :: z3 :: z4 :: z5 :: z6 :: z7 :: z8 :: z9 :: z10 :: z11 :: z12 :: z13 :: z14 :: z15 :: z16 :: z17 :: z18 :: z19 :: z20 :: z21 :: z22 :: z23 :: z24 :: z25 :: z26 :: z27 :: z28 :: some d :: l) h Q ↔ Q d h := ⟨fun ⟨_, e, q⟩ => by cases e; exact q, fun q => ⟨d, rfl, q⟩⟩
theorem q_st29 {z0 z1 z2 z3 z4 z5 z6 z7 z8 z9 z10 z11 z12 z13 z14 z15 z16 z17 z18 z19 z20 z21 z22 z23 z24 z25 z26 z27 z28 z29 : Option D} {o : Option D} {l : St'} : (z0 :: z1 :: z2 :: z3 :: z4 :: z5 :: z6 :: z7 :: z8 :: z9 :: z10 :: z11 :: z12 :: z13 :: z14 :: z15 :: z16 :: z17 :: z18 :: z19 :: z20 :: z21 :: z22 :: z23 :: z24 :: z25 :: z26 :: z27 :: z28 :: z29 :: l).set 29 o = z0 :: z1 :: z2 :: z3 :: z4 :: z5 :: z6 :: z7 :: z8 :: z9 :: z10 :: z11 :: z12 :: z13 :: z14 :: z15 :: z16 :: z17 :: z18 :: z19 :: z20 :: z21 :: z22 :: z23 :: z24 :: z25 :: z26 :: z27 :: z28 :: o :: l := id rfl
theorem q_tv30 {z0 z1 z2 z3 z4 z5 z6 z7 z8 z9 z10 z11 z12 z13 z14 z15 z16 z17 z18 z19 z20 z21 z22 z23 z24 z25 z26 z27 z28 z29 : Option D} {l : St'} : tv 30 (z0 :: z1 :: z2 :: z3 :: z4 :: z5 :: z6 :: z7 :: z8 :: z9 :: z10 :: z11 :: z12 :: z13 :: z14 :: z15 :: z16 :: z17 :: z18 :: z19 :: z20 :: z21 :: z22 :: z23 :: z24 :: z25 :: z26 :: z27 :: z28 :: z29 :: some d :: l) h Q ↔ Q d h := ⟨fun ⟨_, e, q⟩ => by cases e; exact q, fun q => ⟨d, rfl, q⟩⟩
theorem q_st30 {z0 z1 z2 z3 z4 z5 z6 z7 z8 z9 z10 z11 z12 z13 z14 z15 z16 z17 z18 z19 z20 z21 z22 z23 z24 z25 z26 z27 z28 z29 z30 : Option D} {o : Option D} {l : St'} : (z0 :: z1 :: z2 :: z3 :: z4 :: z5 :: z6 :: z7 :: z8 :: z9 :: z10 :: z11 :: z12 :: z13 :: z14 :: z15 :: z16 :: z17 :: z18 :: z19 :: z20 :: z21 :: z22 :: z23 :: z24 :: z25 :: z26 :: z27 :: z28 :: z29 :: z30 :: l).set 30 o = z0 :: z1 :: z2 :: z3 :: z4 :: z5 :: z6 :: z7 :: z8 :: z9 :: z10 :: z11 :: z12 :: z13 :: z14 :: z15 :: z16 :: z17 :: z18 :: z19 :: z20 :: z21 :: z22 :: z23 :: z24 :: z25 :: z26 :: z27 :: z28 :: z29 :: o :: l := id rfl
theorem q_tv31 {z0 z1 z2 z3 z4 z5 z6 z7 z8 z9 z10 z11 z12 z13 z14 z15 z16 z17 z18 z19 z20 z21 z22 z23 z24 z25 z26 z27 z28 z29 z30 : Option D} {l : St'} : tv 31 (z0 :: z1 :: z2 :: z3 :: z4 :: z5 :: z6 :: z7 :: z8 :: z9 :: z10 :: z11 :: z12 :: z13 :: z14 :: z15 :: z16 :: z17 :: z18 :: z19 :: z20 :: z21 :: z22 :: z23 :: z24 :: z25 :: z26 :: z27 :: z28 :: z29 :: z30 :: some d :: l) h Q ↔ Q d h := ⟨fun ⟨_, e, q⟩ => by cases e; exact q, fun q => ⟨d, rfl, q⟩⟩
theorem q_st31 {z0 z1 z2 z3 z4 z5 z6 z7 z8 z9 z10 z11 z12 z13 z14 z15 z16 z17 z18 z19 z20 z21 z22 z23 z24 z25 z26 z27 z28 z29 z30 z31 : Option D} {o : Option D} {l : St'} : (z0 :: z1 :: z2 :: z3 :: z4 :: z5 :: z6 :: z7 :: z8 :: z9 :: z10 :: z11 :: z12 :: z13 :: z14 :: z15 :: z16 :: z17 :: z18 :: z19 :: z20 :: z21 :: z22 :: z23 :: z24 :: z25 :: z26 :: z27 :: z28 :: z29 :: z30 :: z31 :: l).set 31 o = z0 :: z1 :: z2 :: z3 :: z4 :: z5 :: z6 :: z7 :: z8 :: z9 :: z10 :: z11 :: z12 :: z13 :: z14 :: z15 :: z16 :: z17 :: z18 :: z19 :: z20 :: z21 :: z22 :: z23 :: z24 :: z25 :: z26 :: z27 :: z28 :: z29 :: z30 :: o :: l := id rfl
theorem q_tv32 {z0 z1 z2 z3 z4 z5 z6 z7 z8 z9 z10 z11 z12 z13 z14 z15 z16 z17 z18 z19 z20 z21 z22 z23 z24 z25 z26 z27 z28 z29 z30 z31 : Option D} {l : St'} : tv 32 (z0 :: z1 :: z2 :: z3 :: z4 :: z5 :: z6 :: z7 :: z8 :: z9 :: z10 :: z11 :: z12 :: z13 :: z14 :: z15 :: z16 :: z17 :: z18 :: z19 :: z20 :: z21 :: z22 :: z23 :: z24 :: z25 :: z26 :: z27 :: z28 :: z29 :: z30 :: z31 :: some d :: l) h Q ↔ Q d h := ⟨fun ⟨_, e, q⟩ => by cases e; exact q, fun q => ⟨d, rfl, q⟩⟩
theorem q_st32 {z0 z1 z2 z3 z4 z5 z6 z7 z8 z9 z10 z11 z12 z13 z14 z15 z16 z17 z18 z19 z20 z21 z22 z23 z24 z25 z26 z27 z28 z29 z30 z31 z32 : Option D} {o : Option D} {l : St'} : (z0 :: z1 :: z2 :: z3 :: z4 :: z5 :: z6 :: z7 :: z8 :: z9 :: z10 :: z11 :: z12 :: z13 :: z14 :: z15 :: z16 :: z17 :: z18 :: z19 :: z20 :: z21 :: z22 :: z23 :: z24 :: z25 :: z26 :: z27 :: z28 :: z29 :: z30 :: z31 :: z32 :: l).set 32 o = z0 :: z1 :: z2 :: z3 :: z4 :: z5 :: z6 :: z7 :: z8 :: z9 :: z10 :: z11 :: z12 :: z13 :: z14 :: z15 :: z16 :: z17 :: z18 :: z19 :: z20 :: z21 :: z22 :: z23 :: z24 :: z25 :: z26 :: z27 :: z28 :: z29 :: z30 :: z31 :: o :: l := id rfl
theorem q_tv33 {z0 z1 z2 z3 z4 z5 z6 z7 z8 z9 z10 z11 z12 z13 z14 z15 z16 z17 z18 z19 z20 z21 z22 z23 z24 z25 z26 z27 z28 z29 z30 z31 z32 : Option D} {l : St'} : tv 33 (z0 :: z1 :: z2 :: z3 :: z4 :: z5 :: z6 :: z7 :: z8 :: z9 :: z10 :: z11 :: z12 :: z13 :: z14 :: z15 :: z16 :: z17 :: z18 :: z19 :: z20 :: z21 :: z22 :: z23 :: z24 :: z25 :: z26 :: z27 :: z28 :: z29 :: z30 :: z31 :: z32 :: some d :: l) h Q ↔ Q d h := ⟨fun ⟨_, e, q⟩ => by cases e; exact q, fun q => ⟨d, rfl, q⟩⟩
theorem q_st33 {z0 z1 z2 z3 z4 z5 z6 z7 z8 z9 z10 z11 z12 z13 z14 z15 z16 z17 z18 z19 z20 z21 z22 z23 z24 z25 z26 z27 z28 z29 z30 z31 z32 z33 : Option D} {o : Option D} {l : St'} : (z0 :: z1 :: z2 :: z3 :: z4 :: z5 :: z6 :: z7 :: z8 :: z9 :: z10 :: z11 :: z12 :: z13 :: z14 :: z15 :: z16 :: z17 :: z18 :: z19 :: z20 :: z21 :: z22 :: z23 :: z24 :: z25 :: z26 :: z27 :: z28 :: z29 :: z30 :: z31 :: z32 :: z33 :: l).set 33 o = z0 :: z1 :: z2 :: z3 :: z4 :: z5 :: z6 :: z7 :: z8 :: z9 :: z10 :: z11 :: z12 :: z13 :: z14 :: z15 :: z16 :: z17 :: z18 :: z19 :: z20 :: z21 :: z22 :: z23 :: z24 :: z25 :: z26 :: z27 :: z28 :: z29 :: z30 :: z31 :: z32 :: o :: l := id rfl
theorem q_tv34 {z0 z1 z2 z3 z4 z5 z6 z7 z8 z9 z10 z11 z12 z13 z14 z15 z16 z17 z18 z19 z20 z21 z22 z23 z24 z25 z26 z27 z28 z29 z30 z31 z32 z33 : Option D} {l : St'} : tv 34 (z0 :: z1 :: z2 :: z3 :: z4 :: z5 :: z6 :: z7 :: z8 :: z9 :: z10 :: z11 :: z12 :: z13 :: z14 :: z15 :: z16 :: z17 :: z18 :: z19 :: z20 :: z21 :: z22 :: z23 :: z24 :: z25 :: z26 :: z27 :: z28 :: z29 :: z30 :: z31 :: z32 :: z33 :: some d :: l) h Q ↔ Q d h := ⟨fun ⟨_, e, q⟩ => by cases e; exact q, fun q => ⟨d, rfl, q⟩⟩
theorem q_st34 {z0 z1 z2 z3 z4 z5 z6 z7 z8 z9 z10 z11 z12 z13 z14 z15 z16 z17 z18 z19 z20 z21 z22 z23 z24 z25 z26 z27 z28 z29 z30 z31 z32 z33 z34 : Option D} {o : Option D} {l : St'} : (z0 :: z1 :: z2 :: z3 :: z4 :: z5 :: z6 :: z7 :: z8 :: z9 :: z10 :: z11 :: z12 :: z13 :: z14 :: z15 :: z16 :: z17 :: z18 :: z19 :: z20 :: z21 :: z22 :: z23 :: z24 :: z25 :: z26 :: z27 :: z28 :: z29 :: z30 :: z31 :: z32 :: z33 :: z34 :: l).set 34 o = z0 :: z1 :: z2 :: z3 :: z4 :: z5 :: z6 :: z7 :: z8 :: z9 :: z10 :: z11 :: z12 :: z13 :: z14 :: z15 :: z16 :: z17 :: z18 :: z19 :: z20 :: z21 :: z22 :: z23 :: z24 :: z25 :: z26 :: z27 :: z28 :: z29 :: z30 :: z31 :: z32 :: z33 :: o :: l := id rfl
theorem q_tv35 {z0 z1 z2 z3 z4 z5 z6 z7 z8 z9 z10 z11 z12 z13 z14 z15 z16 z17 z18 z19 z20 z21 z22 z23 z24 z25 z26 z27 z28 z29 z30 z31 z32 z33 z34 : Option D} {l : St'} : tv 35 (z0 :: z1 :: z2 :: z3 :: z4 :: z5 :: z6 :: z7 :: z8 :: z9 :: z10 :: z11 :: z12 :: z13 :: z14 :: z15 :: z16 :: z17 :: z18 :: z19 :: z20 :: z21 :: z22 :: z23 :: z24 :: z25 :: z26 :: z27 :: z28 :: z29 :: z30 :: z31 :: z32 :: z33 :: z34 :: some d :: l) h Q ↔ Q d h := ⟨fun ⟨_, e, q⟩ => by cases e; exact q, fun q => ⟨d, rfl, q⟩⟩
theorem q_st35 {z0 z1 z2 z3 z4 z5 z6 z7 z8 z9 z10 z11 z12 z13 z14 z15 z16 z17 z18 z19 z20 z21 z22 z23 z24 z25 z26 z27 z28 z29 z30 z31 z32 z33 z34 z35 : Option D} {o : Option D} {l : St'} : (z0 :: z1 :: z2 :: z3 :: z4 :: z5 :: z6 :: z7 :: z8 :: z9 :: z10 :: z11 :: z12 :: z13 :: z14 :: z15 :: z16 :: z17 :: z18 :: z19 :: z20 :: z21 :: z22 :: z23 :: z24 :: z25 :: z26 :: z27 :: z28 :: z29 :: z30 :: z31 :: z32 :: z33 :: z34 :: z35 :: l).set 35 o = z0 :: z1 :: z2 :: z3 :: z4 :: z5 :: z6 :: z7 :: z8 :: z9 :: z10 :: z11 :: z12 :: z13 :: z14 :: z15 :: z16 :: z17 :: z18 :: z19 :: z20 :: z21 :: z22 :: z23 :: z24 :: z25 :: z26 :: z27 :: z28 :: z29 :: z30 :: z31 :: z32 :: z33 :: z34 :: o :: l := id rfl
end
end DL


set_option Elab.async false
set_option linter.all false
namespace K00
open PySem PySem.Spec PyProof.Rows L2 DL
abbrev n_is_integer : List Str := ["value"]
def t_is_integer  : TS' :=
    (tret (tandv (tcb caIs (tac (tv 0) (tac (tc (.ty "int")) tan))) (tnotv (tcb caIs (tac (tv 0) (tac (tc (.ty "bool")) tan))))))
abbrev n_is_letter : List Str := ["kind", "value", "shape"]
def t_is_letter (sp_is_integer : Sp') (sp_is_letter : Sp') : TS' :=
    (tseq (tasg (to opIx (tv 0) (tc (.int 0))) (gn 2))
    (tseq (tifs (tb' (to opEq (tv 2) (tc (.str "names")))) (tret (tandv (tcb caIs (tac (tv 1) (tac (tc (.ty "str")) tan))) (to (opIn false) (tv 1) (to opIx (tv 0) (tc (.int 1)))))) tnx)
    (tseq (tifs (tb' (to opEq (tv 2) (tc (.str "integers")))) (tret (tcall sp_is_integer (fun _ _ => False) (tac (tv 1) tan))) tnx)
    (tseq (tifs (tnot (tb' (tcb caIs (tac (tv 1) (tac (tc (.ty "tuple")) tan))))) (tret (tc (.bl false))) tnx)
    (tseq (tifs (tb' (to opEq (tv 2) (tc (.str "pair")))) (tret (tandv (to opEq (tcb caLen (tac (tv 1) tan)) (tc (.int 3))) (tandv (to opEq (to opIx (tv 1) (tc (.int 0))) (tc (.str "pair"))) (tandv (tcall sp_is_letter (fun _ _ => False) (tac (to opIx (tv 0) (tc (.int 1))) (tac (to opIx (tv 1) (tc (.int 1))) tan))) (tcall sp_is_letter (fun _ _ => False) (tac (to opIx (tv 0) (tc (.int 2))) (tac (to opIx (tv 1) (tc (.int 2))) tan))))))) tnx)
    (tseq (tifs (tb' (to opEq (tv 2) (tc (.str "either")))) (tseq (tifs (tor (tb' (to opNe (tcb caLen (tac (tv 1) tan)) (tc (.int 3)))) (tor (tb' (to opNe (to opIx (tv 1) (tc (.int 0))) (tc (.str "case")))) (tnot (tb' (tcall sp_is_integer (fun _ _ => False) (tac (to opIx (tv 1) (tc (.int 1))) tan)))))) (tret (tc (.bl false))) tnx)
    (tret (tandv (tch opLe opLt (tc (.int 0)) (to opIx (tv 1) (tc (.int 1))) (tcb caLen (tac (to opIx (tv 0) (tc (.int 1))) tan))) (tcall sp_is_letter (fun _ _ => False) (tac (to opIx (to opIx (tv 0) (tc (.int 1))) (to opIx (tv 1) (tc (.int 1)))) (tac (to opIx (tv 1) (tc (.int 2))) tan)))))) tnx)
    (tret (torv (to opEq (tv 1) (ttup (tac (tc (.str "none")) tan))) (tandv (to opEq (tcb caLen (tac (tv 1) tan)) (tc (.int 2))) (tandv (to opEq (to opIx (tv 1) (tc (.int 0))) (tc (.str "some"))) (tcall sp_is_letter (fun _ _ => False) (tac (to opIx (tv 0) (tc (.int 1))) (tac (to opIx (tv 1) (tc (.int 1))) tan)))))))))))))
abbrev n__law_tape : List Str := ["script", "mixed", "cell"]
def t__law_tape  : TS' :=
    (tseq (tasg (tc (.int 7)) (gn 1))
    (tseq (tfor (tse (tv 0)) (gn 2) (tasg (to opMod (tcb caInt (tac (to opAdd (to opMul (tv 1) (tc (.int 31))) (tcb caAbs (tac (tcb caInt (tac (tv 2) tan)) tan))) tan)) (tc (.int 2147483647))) (gn 1)))
    (tret (town (tac (tcb caList (tac (tv 0) tan)) (tac (tc (.int 0)) (tac (tc (.int 0)) (tac (tv 1) tan))))))))
abbrev n__law_draw : List Str := ["tape", "many", "place", "number"]
def t__law_draw  : TS' :=
    (tseq (tmid (tifs (tb' (to opEq (to opIx (tv 0) (tc (.int 2))) (tc (.int 0)))) (tseq (tasg (to opIx (tv 0) (tc (.int 1))) (gn 2))
    (tseq (tasg (tc (.int 0)) (gn 3))
    (tseq (tmid (tifs (tb' (to opLt (tv 2) (tcb caLen (tac (to opIx (tv 0) (tc (.int 0))) tan)))) (tasg (tcb caAbs (tac (tcb caInt (tac (to opIx (to opIx (tv 0) (tc (.int 0))) (tv 2)) tan)) tan)) (gn 3)) (tseq (tasg (to opMod (tcb caInt (tac (to opAdd (to opAdd (to opMul (to opIx (tv 0) (tc (.int 3))) (tc (.int 48271))) (tv 2)) (tc (.int 1))) tan)) (tc (.int 2147483647))) (gsub (tv 0) (tc (.int 3))))
    (tasg (to opIx (tv 0) (tc (.int 3))) (gn 3)))))
    (tseq (tasg (to opAdd (tv 2) (tc (.int 1))) (gsub (tv 0) (tc (.int 1))))
    (tseq (tifs (tb' (to opLt (tv 3) (to opPow (tc (.int 10)) (tc (.int 18))))) (tseq (tasg (to opMod (tcb caInt (tac (to opAdd (to opAdd (to opMul (tv 3) (tc (.int 48271))) (to opMul (tv 2) (tc (.int 69621)))) (tc (.int 5))) tan)) (tc (.int 2147483647))) (gn 3))
    (tseq (tasg (to opMod (tcb caInt (tac (to opMul (tv 3) (tc (.int 69621))) tan)) (tc (.int 2147483629))) (gn 3))
    (tret (to opMod (tcb caInt (tac (tv 3) tan)) (tcb caMax (tac (tv 1) (tac (tc (.int 1)) tan))))))) tnx)
    (tasg (tv 3) (gsub (tv 0) (tc (.int 2))))))))) tnx))
    (tseq (tasg (to opIx (tv 0) (tc (.int 2))) (gn 3))
    (tseq (tasg (to opDiv (tv 3) (tcb caMax (tac (tv 1) (tac (tc (.int 2)) tan)))) (gsub (tv 0) (tc (.int 2))))
    (tret (to opMod (tcb caInt (tac (tv 3) tan)) (tcb caMax (tac (tv 1) (tac (tc (.int 1)) tan))))))))
abbrev n__law_whole : List Str := ["told"]
def t__law_whole  : TS' :=
    (tret (tandv (tcb caIs (tac (tv 0) (tac (tc (.ty "int")) tan))) (tnotv (tcb caIs (tac (tv 0) (tac (tc (.ty "bool")) tan))))))
abbrev n__law_names : List Str := ["tape", "signs", "fixed", "stem", "names", "k", "name"]
def t__law_names (sp__law_draw : Sp') : TS' :=
    (tseq (tasg (tc (.str "abcdexyzABZ0189 !\"#$&'()*+,-./:;<=>?\x40[\\]^_{|}~")) (gn 1))
    (tseq (tasg (tlis (tac (tc (.str "none")) (tac (tc (.str "pair")) (tac (tc (.str "case")) (tac (tc (.str "some")) (tac (tc (.str "true")) (tac (tc (.str "0")) tan))))))) (gn 2))
    (tseq (tasg (to opIx (tlis (tac (tc (.str "")) (tac (tc (.str "")) (tac (tc (.str "")) (tac (tc (.str "case")) (tac (tc (.str "a ,")) tan)))))) (tcall sp__law_draw (fun _ _ => False) (tac (tv 0) (tac (tc (.int 5)) tan)))) (gn 3))
    (tseq (tasg (town tan) (gn 4))
    (tseq (tfor (trg1 (tac (to opIx (tlis (tac (tc (.int 1)) (tac (tc (.int 2)) (tac (tc (.int 2)) (tac (tc (.int 3)) (tac (tc (.int 3)) (tac (tc (.int 4)) tan))))))) (tcall sp__law_draw (fun _ _ => False) (tac (tv 0) (tac (tc (.int 6)) tan)))) tan)) (gn 5) (tseq (tasg (to opAdd (tv 3) (to opIx (tv 1) (tcall sp__law_draw (fun _ _ => False) (tac (tv 0) (tac (tcb caLen (tac (tv 1) tan)) tan))))) (gn 6))
    (tseq (tmid (tifs (tb' (to opEq (tcall sp__law_draw (fun _ _ => False) (tac (tv 0) (tac (tc (.int 3)) tan))) (tc (.int 0)))) (tasg (to opAdd (tv 6) (to opIx (tv 1) (tcall sp__law_draw (fun _ _ => False) (tac (tv 0) (tac (tcb caLen (tac (tv 1) tan)) tan))))) (gn 6)) tnx))
    (tseq (tmid (tifs (tb' (to opEq (tcall sp__law_draw (fun _ _ => False) (tac (tv 0) (tac (tc (.int 8)) tan))) (tc (.int 0)))) (tasg (to opIx (tv 2) (tcall sp__law_draw (fun _ _ => False) (tac (tv 0) (tac (tc (.int 6)) tan)))) (gn 6)) tnx))
    (tmid (tifs (tb' (to (opIn true) (tv 6) (tv 4))) (tdrop (tbm isLs mApp (tv 4) (tac (tv 6) tan))) tnx))))))
    (tret (tcb caTup (tac (tv 4) tan))))))))
abbrev n__law_kinds : List Str := ["kind", "piece"]
def t__law_kinds (sp__law_kinds : Sp') : TS' :=
    (tseq (tifs (tb' (to opEq (to opIx (tv 0) (tc (.int 0))) (tc (.str "pair")))) (tret (to opAdd (to opAdd (tc (.int 1)) (tcall sp__law_kinds (fun _ _ => False) (tac (to opIx (tv 0) (tc (.int 1))) tan))) (tcall sp__law_kinds (fun _ _ => False) (tac (to opIx (tv 0) (tc (.int 2))) tan)))) tnx)
    (tseq (tifs (tb' (to opEq (to opIx (tv 0) (tc (.int 0))) (tc (.str "either")))) (tret (to opAdd (tc (.int 1)) (tcb caSum (tac (tlc (tse (to opIx (tv 0) (tc (.int 1)))) 1 tyes (tcall sp__law_kinds (fun _ _ => False) (tac (tv 1) tan))) tan)))) tnx)
    (tseq (tifs (tb' (to opEq (to opIx (tv 0) (tc (.int 0))) (tc (.str "maybe")))) (tret (to opAdd (tc (.int 1)) (tcall sp__law_kinds (fun _ _ => False) (tac (to opIx (tv 0) (tc (.int 1))) tan)))) tnx)
    (tret (tc (.int 1))))))
abbrev n__law_kind : List Str := ["tape", "depth", "many", "choice", "first", "left", "parts", "kinds", "k", "piece"]
def t__law_kind (sp__law_draw : Sp') (sp__law_names : Sp') (sp__law_kind : Sp') (sp__law_kinds : Sp') : TS' :=
    (tseq (tasg (tcall sp__law_draw (fun _ _ => False) (tac (tv 0) (tac (tc (.int 8)) tan))) (gn 3))
    (tseq (tifs (torp (tb' (to opEq (tv 1) (tc (.int 1)))) (torp (tb' (to opEq (tv 2) (tc (.int 1)))) (tb' (to opLt (tv 3) (tc (.int 2)))))) (tseq (tifs (tb' (to opEq (tcall sp__law_draw (fun _ _ => False) (tac (tv 0) (tac (tc (.int 3)) tan))) (tc (.int 0)))) (tret (ttup (tac (tc (.str "names")) (tac (tcall sp__law_names (fun _ _ => False) (tac (tv 0) tan)) tan)))) tnx)
    (tret (ttup (tac (tc (.str "integers")) tan)))) tnx)
    (tseq (tifs (torp (tb' (to opEq (tv 2) (tc (.int 2)))) (tb' (to opEq (tv 3) (tc (.int 2))))) (tret (ttup (tac (tc (.str "maybe")) (tac (tcall sp__law_kind (fun _ _ => False) (tac (tv 0) (tac (to opSub (tv 1) (tc (.int 1))) (tac (to opSub (tv 2) (tc (.int 1))) tan)))) tan)))) tnx)
    (tseq (tifs (tb' (to opLt (tv 3) (tc (.int 6)))) (tseq (tasg (tcall sp__law_kind (fun _ _ => False) (tac (tv 0) (tac (to opSub (tv 1) (tc (.int 1))) (tac (to opSub (tv 2) (tc (.int 2))) tan)))) (gn 4))
    (tret (ttup (tac (tc (.str "pair")) (tac (tv 4) (tac (tcall sp__law_kind (fun _ _ => False) (tac (tv 0) (tac (to opSub (tv 1) (tc (.int 1))) (tac (to opSub (to opSub (tv 2) (tc (.int 1))) (tcall sp__law_kinds (fun _ _ => False) (tac (tv 4) tan))) tan)))) tan)))))) tnx)
    (tseq (tasg (to opSub (tv 2) (tc (.int 1))) (gn 5))
    (tseq (tasg (to opAdd (tc (.int 1)) (tcall sp__law_draw (fun _ _ => False) (tac (tv 0) (tac (tcb caMin (tac (tc (.int 3)) (tac (tv 5) tan))) tan)))) (gn 6))
    (tseq (tasg (town tan) (gn 7))
    (tseq (tfor (trg1 (tac (tv 6) tan)) (gn 8) (tseq (tasg (tcall sp__law_kind (fun _ _ => False) (tac (tv 0) (tac (to opSub (tv 1) (tc (.int 1))) (tac (to opSub (tv 5) (to opSub (to opSub (tv 6) (tc (.int 1))) (tv 8))) tan)))) (gn 9))
    (tseq (tdrop (tbm isLs mApp (tv 7) (tac (tv 9) tan)))
    (tasg (to opSub (tv 5) (tcall sp__law_kinds (fun _ _ => False) (tac (tv 9) tan))) (gn 5)))))
    (tret (ttup (tac (tc (.str "either")) (tac (tcb caTup (tac (tv 7) tan)) tan))))))))))))
abbrev n__law_integer : List Str := ["tape", "top", "choice", "number"]
def t__law_integer (sp__law_draw : Sp') : TS' :=
    (tseq (tasg (tcall sp__law_draw (fun _ _ => False) (tac (tv 0) (tac (tc (.int 5)) tan))) (gn 2))
    (tseq (tasg (tcall sp__law_draw (fun _ _ => False) (tac (tv 0) (tac (to opIx (tlis (tac (tc (.int 2)) (tac (to opAdd (tv 1) (tc (.int 1))) (tac (to opAdd (tv 1) (tc (.int 14))) (tac (to opPow (tc (.int 10)) (tc (.int 9))) (tac (to opSub (to opPow (tc (.int 10)) (tc (.int 30))) (tc (.int 99))) tan)))))) (tv 2)) tan))) (gn 3))
    (tseq (tmid (tifs (tb' (to opEq (tv 2) (tc (.int 3)))) (tasg (to opAdd (to opMul (tv 3) (to opPow (tc (.int 10)) (tc (.int 21)))) (tcall sp__law_draw (fun _ _ => False) (tac (tv 0) (tac (to opPow (tc (.int 10)) (tc (.int 9))) tan)))) (gn 3)) tnx))
    (tret (to opIx (tlis (tac (tv 3) (tac (tu unNeg (tv 3)) tan))) (tcall sp__law_draw (fun _ _ => False) (tac (tv 0) (tac (tc (.int 2)) tan))))))))
abbrev n__law_letter : List Str := ["tape", "kind", "theory", "first", "i"]
def t__law_letter (sp__law_draw : Sp') (sp__law_integer : Sp') (sp__law_letter : Sp') : TS' :=
    (tseq (tifs (tb' (to opEq (to opIx (tv 1) (tc (.int 0))) (tc (.str "names")))) (tret (to opIx (to opIx (tv 1) (tc (.int 1))) (tcall sp__law_draw (fun _ _ => False) (tac (tv 0) (tac (tcb caLen (tac (to opIx (tv 1) (tc (.int 1))) tan)) tan))))) tnx)
    (tseq (tifs (tb' (to opEq (to opIx (tv 1) (tc (.int 0))) (tc (.str "integers")))) (tret (tcall sp__law_integer (fun _ _ => False) (tac (tv 0) (tac (to opIx (tv 2) (tc (.int 0))) tan)))) tnx)
    (tseq (tifs (tb' (to opEq (to opIx (tv 1) (tc (.int 0))) (tc (.str "pair")))) (tseq (tasg (tcall sp__law_letter (fun _ _ => False) (tac (tv 0) (tac (to opIx (tv 1) (tc (.int 1))) (tac (tv 2) tan)))) (gn 3))
    (tret (ttup (tac (tc (.str "pair")) (tac (tv 3) (tac (tcall sp__law_letter (fun _ _ => False) (tac (tv 0) (tac (to opIx (tv 1) (tc (.int 2))) (tac (tv 2) tan)))) tan)))))) tnx)
    (tseq (tifs (tb' (to opEq (to opIx (tv 1) (tc (.int 0))) (tc (.str "either")))) (tseq (tasg (tcall sp__law_draw (fun _ _ => False) (tac (tv 0) (tac (tcb caLen (tac (to opIx (tv 1) (tc (.int 1))) tan)) tan))) (gn 4))
    (tret (ttup (tac (tc (.str "case")) (tac (tv 4) (tac (tcall sp__law_letter (fun _ _ => False) (tac (tv 0) (tac (to opIx (to opIx (tv 1) (tc (.int 1))) (tv 4)) (tac (tv 2) tan)))) tan)))))) tnx)
    (tseq (tifs (tb' (to opEq (tcall sp__law_draw (fun _ _ => False) (tac (tv 0) (tac (tc (.int 3)) tan))) (tc (.int 0)))) (tret (ttup (tac (tc (.str "none")) tan))) tnx)
    (tret (ttup (tac (tc (.str "some")) (tac (tcall sp__law_letter (fun _ _ => False) (tac (tv 0) (tac (to opIx (tv 1) (tc (.int 1))) (tac (tv 2) tan)))) tan)))))))))
abbrev n__law_is_letter : List Str := ["kind", "told"]
def t__law_is_letter (sp__law_whole : Sp') (sp__law_is_letter : Sp') : TS' :=
    (tseq (tifs (tb' (to opEq (to opIx (tv 0) (tc (.int 0))) (tc (.str "names")))) (tret (tandv (tcb caIs (tac (tv 1) (tac (tc (.ty "str")) tan))) (to (opIn false) (tv 1) (to opIx (tv 0) (tc (.int 1)))))) tnx)
    (tseq (tifs (tb' (to opEq (to opIx (tv 0) (tc (.int 0))) (tc (.str "integers")))) (tret (tcall sp__law_whole (fun _ _ => False) (tac (tv 1) tan))) tnx)
    (tseq (tifs (tor (tnot (tb' (tcb caIs (tac (tv 1) (tac (tc (.ty "tuple")) tan))))) (tor (tb' (to opEq (tcb caLen (tac (tv 1) tan)) (tc (.int 0)))) (tnot (tb' (tcb caIs (tac (to opIx (tv 1) (tc (.int 0))) (tac (tc (.ty "str")) tan))))))) (tret (tc (.bl false))) tnx)
    (tseq (tifs (tb' (to opEq (to opIx (tv 0) (tc (.int 0))) (tc (.str "pair")))) (tseq (tifs (tor (tb' (to opNe (to opIx (tv 1) (tc (.int 0))) (tc (.str "pair")))) (tb' (to opNe (tcb caLen (tac (tv 1) tan)) (tc (.int 3))))) (tret (tc (.bl false))) tnx)
    (tret (tandv (tcall sp__law_is_letter (fun _ _ => False) (tac (to opIx (tv 0) (tc (.int 1))) (tac (to opIx (tv 1) (tc (.int 1))) tan))) (tcall sp__law_is_letter (fun _ _ => False) (tac (to opIx (tv 0) (tc (.int 2))) (tac (to opIx (tv 1) (tc (.int 2))) tan)))))) tnx)
    (tseq (tifs (tb' (to opEq (to opIx (tv 0) (tc (.int 0))) (tc (.str "either")))) (tseq (tifs (tor (tb' (to opNe (to opIx (tv 1) (tc (.int 0))) (tc (.str "case")))) (tor (tb' (to opNe (tcb caLen (tac (tv 1) tan)) (tc (.int 3)))) (tnot (tb' (tcall sp__law_whole (fun _ _ => False) (tac (to opIx (tv 1) (tc (.int 1))) tan)))))) (tret (tc (.bl false))) tnx)
    (tseq (tifs (tor (tb' (to opLt (to opIx (tv 1) (tc (.int 1))) (tc (.int 0)))) (tb' (to opGe (to opIx (tv 1) (tc (.int 1))) (tcb caLen (tac (to opIx (tv 0) (tc (.int 1))) tan))))) (tret (tc (.bl false))) tnx)
    (tret (tcall sp__law_is_letter (fun _ _ => False) (tac (to opIx (to opIx (tv 0) (tc (.int 1))) (to opIx (tv 1) (tc (.int 1)))) (tac (to opIx (tv 1) (tc (.int 2))) tan)))))) tnx)
    (tseq (tifs (tb' (to opEq (to opIx (tv 1) (tc (.int 0))) (tc (.str "none")))) (tret (to opEq (tcb caLen (tac (tv 1) tan)) (tc (.int 1)))) tnx)
    (tret (tandv (to opEq (to opIx (tv 1) (tc (.int 0))) (tc (.str "some"))) (tandv (to opEq (tcb caLen (tac (tv 1) tan)) (tc (.int 2))) (tcall sp__law_is_letter (fun _ _ => False) (tac (to opIx (tv 0) (tc (.int 1))) (tac (to opIx (tv 1) (tc (.int 1))) tan))))))))))))
abbrev n__law_wild : List Str := ["tape", "depth", "choice", "k"]
def t__law_wild (sp__law_draw : Sp') (sp__law_integer : Sp') (sp__law_wild : Sp') : TS' :=
    (tseq (tasg (tcall sp__law_draw (fun _ _ => False) (tac (tv 0) (tac (tc (.int 9)) tan))) (gn 2))
    (tseq (tifs (tb' (to opEq (tv 2) (tc (.int 0)))) (tret (to opIx (tlis (tac (tc (.bl true)) (tac (tc (.bl false)) (tac (tc .non) tan)))) (tcall sp__law_draw (fun _ _ => False) (tac (tv 0) (tac (tc (.int 3)) tan))))) tnx)
    (tseq (tifs (tb' (to opLt (tv 2) (tc (.int 3)))) (tret (to opIx (tlis (tac (tc (.int 0)) (tac (tc (.int 1)) (tac (tc (.int 2)) (tac (tu unNeg (tc (.int 1))) (tac (tcall sp__law_integer (fun _ _ => False) (tac (tv 0) (tac (tc (.int 20)) tan))) tan)))))) (tcall sp__law_draw (fun _ _ => False) (tac (tv 0) (tac (tc (.int 5)) tan))))) tnx)
    (tseq (tifs (torp (tb' (to opLt (tv 2) (tc (.int 6)))) (tb' (to opEq (tv 1) (tc (.int 0))))) (tret (to opIx (tlis (tac (tc (.str "pair")) (tac (tc (.str "case")) (tac (tc (.str "some")) (tac (tc (.str "none")) (tac (tc (.str "a")) (tac (tc (.str "")) tan))))))) (tcall sp__law_draw (fun _ _ => False) (tac (tv 0) (tac (tc (.int 6)) tan))))) tnx)
    (tret (tcb caTup (tac (tlc (trg1 (tac (tcall sp__law_draw (fun _ _ => False) (tac (tv 0) (tac (tc (.int 4)) tan))) tan)) 3 tyes (tcall sp__law_wild (fun _ _ => False) (tac (tv 0) (tac (to opSub (tv 1) (tc (.int 1))) tan)))) tan)))))))
abbrev n__law_spoilt : List Str := ["tape", "value", "choice", "k"]
def t__law_spoilt (sp__law_draw : Sp') (sp__law_spoilt : Sp') (sp__law_whole : Sp') (sp__law_wild : Sp') : TS' :=
    (tseq (tasg (tcall sp__law_draw (fun _ _ => False) (tac (tv 0) (tac (tc (.int 6)) tan))) (gn 2))
    (tseq (tifs (tand (tb' (tcb caIs (tac (tv 1) (tac (tc (.ty "tuple")) tan)))) (tand (tb' (to opGt (tcb caLen (tac (tv 1) tan)) (tc (.int 0)))) (tb' (to opLt (tv 2) (tc (.int 5)))))) (tseq (tasg (tcall sp__law_draw (fun _ _ => False) (tac (tv 0) (tac (tcb caLen (tac (tv 1) tan)) tan))) (gn 3))
    (tseq (tifs (tb' (to opLt (tv 2) (tc (.int 3)))) (tret (to opAdd (to opAdd (tsl (tv 1) tpn (tpe (tv 3))) (ttup (tac (tcall sp__law_spoilt (fun _ _ => False) (tac (tv 0) (tac (to opIx (tv 1) (tv 3)) tan))) tan))) (tsl (tv 1) (tpe (to opAdd (tv 3) (tc (.int 1)))) tpn))) tnx)
    (tseq (tifs (tb' (to opEq (tv 2) (tc (.int 3)))) (tret (to opAdd (tsl (tv 1) tpn (tpe (tv 3))) (tsl (tv 1) (tpe (to opAdd (tv 3) (tc (.int 1)))) tpn))) tnx)
    (tret (to opAdd (tv 1) (ttup (tac (tc (.int 0)) tan))))))) tnx)
    (tseq (tifs (tand (tb' (tcall sp__law_whole (fun _ _ => False) (tac (tv 1) tan))) (tand (tb' (to opLe (tc (.int 0)) (tv 1))) (tand (tb' (to opLe (tv 1) (tc (.int 2)))) (tb' (to opLt (tv 2) (tc (.int 5))))))) (tret (to opIx (tlis (tac (to opEq (tv 1) (tc (.int 1))) (tac (to opEq (tv 1) (tc (.int 1))) (tac (tu unNeg (tc (.int 1))) (tac (to opSub (tv 1) (tc (.int 3))) (tac (to opAdd (tv 1) (tc (.int 1))) tan)))))) (tv 2))) tnx)
    (tret (tcall sp__law_wild (fun _ _ => False) (tac (tv 0) (tac (tc (.int 1)) tan)))))))
abbrev n_law : List Str := ["script", "tape", "kind", "other", "letter", "spoilt", "values", "value", "asked", "told"]
def t_law (sp__law_tape : Sp') (sp__law_kind : Sp') (sp__law_letter : Sp') (sp__law_spoilt : Sp') (sp__law_wild : Sp') (sp__law_draw : Sp') (sp_is_letter : Sp') (sp__law_is_letter : Sp') : TS' :=
    (tseq (tasg (tcall sp__law_tape (fun _ _ => False) (tac (tv 0) tan)) (gn 1))
    (tseq (tasg (tcall sp__law_kind (fun _ _ => False) (tac (tv 1) (tac (tc (.int 3)) (tac (tc (.int 6)) tan)))) (gn 2))
    (tseq (tasg (tcall sp__law_kind (fun _ _ => False) (tac (tv 1) (tac (tc (.int 3)) (tac (tc (.int 6)) tan)))) (gn 3))
    (tseq (tasg (tcall sp__law_letter (fun _ _ => False) (tac (tv 1) (tac (tv 2) (tac (ttup (tac (tc (.int 20)) (tac (tc (.int 12)) tan))) tan)))) (gn 4))
    (tseq (tasg (tcall sp__law_spoilt (fun _ _ => False) (tac (tv 1) (tac (tv 4) tan))) (gn 5))
    (tseq (tasg (tlis (tac (tv 4) (tac (tv 5) (tac (tcall sp__law_spoilt (fun _ _ => False) (tac (tv 1) (tac (tv 5) tan))) (tac (tcall sp__law_letter (fun _ _ => False) (tac (tv 1) (tac (tv 3) (tac (ttup (tac (tc (.int 20)) (tac (tc (.int 12)) tan))) tan)))) (tac (tcall sp__law_wild (fun _ _ => False) (tac (tv 1) (tac (tc (.int 2)) tan))) tan)))))) (gn 6))
    (tseq (tasg (to opAdd (tv 6) (tlis (tac (to opIx (tlis (tac (tc (.bl true)) (tac (tc (.bl false)) (tac (tc .non) tan)))) (tcall sp__law_draw (fun _ _ => False) (tac (tv 1) (tac (tc (.int 3)) tan)))) (tac (tv 4) tan)))) (gn 6))
    (tseq (tfor (tse (tv 6)) (gn 7) (tfor (tse (tlis (tac (tv 2) (tac (tv 3) (tac (tv 2) tan))))) (gn 8) (tseq (tasg (tcall sp_is_letter (fun _ _ => False) (tac (tv 8) (tac (tv 7) tan))) (gn 9))
    (tifs (tor (tnot (tb' (tcb caIs (tac (tv 9) (tac (tc (.ty "bool")) tan))))) (tb' (to opNe (tv 9) (tcall sp__law_is_letter (fun _ _ => False) (tac (tv 8) (tac (tv 7) tan)))))) (tret (tc (.bl false))) tnx))))
    (tret (tc (.bl true)))))))))))
end K00

set_option Elab.async false
set_option linter.all false
namespace K01
open PySem PySem.Spec PyProof.Rows L2 DL
abbrev n_integer_rank : List Str := ["number"]
def t_integer_rank  : TS' :=
    (tseq (tifs (tb' (to opGt (tv 0) (tc (.int 0)))) (tret (to opSub (to opMul (tc (.int 2)) (tv 0)) (tc (.int 1)))) tnx)
    (tret (to opMul (tu unNeg (tc (.int 2))) (tv 0))))
abbrev n_check_letter : List Str := ["kind", "letter"]
def t_check_letter (sp_is_letter : Sp') (c_BadLetter : Addr) (E' : XK') : TS' :=
    (tifs (tnot (tb' (tcall sp_is_letter (fun _ _ => False) (tac (tv 0) (tac (tv 1) tan))))) (traise E' (.ref c_BadLetter)) tnx)
abbrev n_check_word : List Str := ["kind", "word", "letter"]
def t_check_word (sp_check_letter : Sp') (E' : XK') : TS' :=
    (tfor (tse (tv 1)) (gn 2) (tdrop (tcall sp_check_letter E' (tac (tv 0) (tac (tv 2) tan)))))
abbrev n_letter_rank : List Str := ["kind", "letter", "shape"]
def t_letter_rank (sp_integer_rank : Sp') (sp_letter_rank : Sp') : TS' :=
    (tseq (tasg (to opIx (tv 0) (tc (.int 0))) (gn 2))
    (tseq (tifs (tb' (to opEq (tv 2) (tc (.str "names")))) (tret (tbmT mIx (to opIx (tv 0) (tc (.int 1))) (tac (tv 1) tan))) tnx)
    (tseq (tifs (tb' (to opEq (tv 2) (tc (.str "integers")))) (tret (tcall sp_integer_rank (fun _ _ => False) (tac (tv 1) tan))) tnx)
    (tseq (tifs (tb' (to opEq (tv 2) (tc (.str "pair")))) (tret (ttup (tac (tcall sp_letter_rank (fun _ _ => False) (tac (to opIx (tv 0) (tc (.int 1))) (tac (to opIx (tv 1) (tc (.int 1))) tan))) (tac (tcall sp_letter_rank (fun _ _ => False) (tac (to opIx (tv 0) (tc (.int 2))) (tac (to opIx (tv 1) (tc (.int 2))) tan))) tan)))) tnx)
    (tseq (tifs (tb' (to opEq (tv 2) (tc (.str "either")))) (tret (ttup (tac (to opIx (tv 1) (tc (.int 1))) (tac (tcall sp_letter_rank (fun _ _ => False) (tac (to opIx (to opIx (tv 0) (tc (.int 1))) (to opIx (tv 1) (tc (.int 1)))) (tac (to opIx (tv 1) (tc (.int 2))) tan))) tan)))) tnx)
    (tseq (tifs (tb' (to opEq (to opIx (tv 1) (tc (.int 0))) (tc (.str "none")))) (tret (ttup (tac (tc (.int 0)) tan))) tnx)
    (tret (ttup (tac (tc (.int 1)) (tac (tcall sp_letter_rank (fun _ _ => False) (tac (to opIx (tv 0) (tc (.int 1))) (tac (to opIx (tv 1) (tc (.int 1))) tan))) tan))))))))))
abbrev n_compared_ranks : List Str := ["first", "second"]
def t_compared_ranks  : TS' :=
    (tseq (tifs (tb' (to opLtN (tv 0) (tv 1))) (tret (tu unNeg (tc (.int 1)))) tnx)
    (tret (tcb caInt (tac (to opNe (tv 0) (tv 1)) tan))))
abbrev n_compared : List Str := ["kind", "first", "second"]
def t_compared (sp_check_word : Sp') (sp_letter_rank : Sp') (sp_compared_ranks : Sp') (E' : XK') : TS' :=
    (tseq (tdrop (tcall sp_check_word E' (tac (tv 0) (tac (ttup (tac (tv 1) (tac (tv 2) tan))) tan))))
    (tret (tcall sp_compared_ranks (fun _ _ => False) (tac (tcall sp_letter_rank (fun _ _ => False) (tac (tv 0) (tac (tv 1) tan))) (tac (tcall sp_letter_rank (fun _ _ => False) (tac (tv 0) (tac (tv 2) tan))) tan)))))
abbrev n__law_strange : List Str := ["names", "name", "sign"]
def t__law_strange  : TS' :=
    (tret (to opIx (tlc (tse (tlc (tstr (tc (.str "pqrst"))) 2 tyes (to opAdd (tslS (to opIx (tv 0) (tc (.int 0))) tpn (tpe (tc (.int 5)))) (tv 2)))) 1 (tb' (to (opIn true) (tv 1) (tv 0))) (tv 1)) (tc (.int 0))))
abbrev n__law_key : List Str := ["kind", "letter"]
def t__law_key (sp__law_key : Sp') : TS' :=
    (tseq (tifs (tb' (to opEq (to opIx (tv 0) (tc (.int 0))) (tc (.str "names")))) (tret (ttup (tac (tbmT mIx (to opIx (tv 0) (tc (.int 1))) (tac (tv 1) tan)) tan))) tnx)
    (tseq (tifs (tb' (to opEq (to opIx (tv 0) (tc (.int 0))) (tc (.str "integers")))) (tret (ttup (tac (to opSub (to opMul (tc (.int 2)) (tcb caAbs (tac (tv 1) tan))) (tcb caInt (tac (to opGt (tv 1) (tc (.int 0))) tan))) tan))) tnx)
    (tseq (tifs (tb' (to opEq (to opIx (tv 0) (tc (.int 0))) (tc (.str "pair")))) (tret (ttup (tac (tcall sp__law_key (fun _ _ => False) (tac (to opIx (tv 0) (tc (.int 1))) (tac (to opIx (tv 1) (tc (.int 1))) tan))) (tac (tcall sp__law_key (fun _ _ => False) (tac (to opIx (tv 0) (tc (.int 2))) (tac (to opIx (tv 1) (tc (.int 2))) tan))) tan)))) tnx)
    (tseq (tifs (tb' (to opEq (to opIx (tv 0) (tc (.int 0))) (tc (.str "either")))) (tret (ttup (tac (to opIx (tv 1) (tc (.int 1))) (tac (tcall sp__law_key (fun _ _ => False) (tac (to opIx (to opIx (tv 0) (tc (.int 1))) (to opIx (tv 1) (tc (.int 1)))) (tac (to opIx (tv 1) (tc (.int 2))) tan))) tan)))) tnx)
    (tseq (tifs (tb' (to opEq (to opIx (tv 1) (tc (.int 0))) (tc (.str "none")))) (tret (ttup (tac (tc (.int 0)) tan))) tnx)
    (tret (ttup (tac (tc (.int 1)) (tac (tcall sp__law_key (fun _ _ => False) (tac (to opIx (tv 0) (tc (.int 1))) (tac (to opIx (tv 1) (tc (.int 1))) tan))) tan)))))))))
abbrev n__law_error : List Str := ["wrong", "flags"]
def t__law_error  (c_BadTerm : Addr) (c_BadCondition : Addr) (c_BadLetter : Addr) (c_NotPlain : Addr) (c_Unread : Addr) (c_OtherKinds : Addr) (c_UnknownName : Addr) (c_TooMany : Addr) (c_NotSingle : Addr) (c_WrongUse : Addr) (c_TooLarge : Addr) (c_Circle : Addr) (c_NothingToUndo : Addr) (c_InUse : Addr) (is : D → Option Bool) (ae : Addr) : TS' :=
    (tseq (tasg (tlis (tac (tcb (caIsE is ae) (tac (tv 0) (tac (tc (.ref c_BadLetter)) tan))) (tac (tcb (caIsE is ae) (tac (tv 0) (tac (tc (.ref c_BadCondition)) tan))) (tac (tcb (caIsE is ae) (tac (tv 0) (tac (tc (.ref c_BadTerm)) tan))) tan)))) (gn 1))
    (tseq (tasg (to opAdd (tv 1) (tlis (tac (tcb (caIsE is ae) (tac (tv 0) (tac (tc (.ref c_OtherKinds)) tan))) (tac (tcb (caIsE is ae) (tac (tv 0) (tac (tc (.ref c_Unread)) tan))) (tac (tcb (caIsE is ae) (tac (tv 0) (tac (tc (.ref c_NotPlain)) tan))) tan))))) (gn 1))
    (tseq (tasg (to opAdd (tv 1) (tlis (tac (tcb (caIsE is ae) (tac (tv 0) (tac (tc (.ref c_NotSingle)) tan))) (tac (tcb (caIsE is ae) (tac (tv 0) (tac (tc (.ref c_TooMany)) tan))) (tac (tcb (caIsE is ae) (tac (tv 0) (tac (tc (.ref c_UnknownName)) tan))) tan))))) (gn 1))
    (tseq (tasg (to opAdd (tv 1) (tlis (tac (tcb (caIsE is ae) (tac (tv 0) (tac (tc (.ref c_Circle)) tan))) (tac (tcb (caIsE is ae) (tac (tv 0) (tac (tc (.ref c_TooLarge)) tan))) (tac (tcb (caIsE is ae) (tac (tv 0) (tac (tc (.ref c_WrongUse)) tan))) tan))))) (gn 1))
    (tseq (tasg (to opAdd (tv 1) (tlis (tac (tcb (caIsE is ae) (tac (tv 0) (tac (tc (.ref c_InUse)) tan))) (tac (tcb (caIsE is ae) (tac (tv 0) (tac (tc (.ref c_NothingToUndo)) tan))) tan)))) (gn 1))
    (tseq (tifs (tor (tnot (tb' (tcb (caIsE is ae) (tac (tv 0) (tac (tc (.ty "ValueError")) tan))))) (tb' (to opNe (tbm isLs mCnt (tv 1) (tac (tc (.bl true)) tan)) (tc (.int 1))))) (tret (tu unNeg (tc (.int 1)))) tnx)
    (tret (tbm isLs mIxB (tv 1) (tac (tc (.bl true)) tan)))))))))
abbrev n__law_turned : List Str := ["kind", "piece"]
def t__law_turned (sp__law_turned : Sp') : TS' :=
    (tseq (tifs (tb' (to opEq (to opIx (tv 0) (tc (.int 0))) (tc (.str "names")))) (tret (ttup (tac (tc (.str "names")) (tac (trev (to opIx (tv 0) (tc (.int 1)))) tan)))) tnx)
    (tseq (tifs (tb' (to opEq (to opIx (tv 0) (tc (.int 0))) (tc (.str "pair")))) (tret (ttup (tac (tc (.str "pair")) (tac (tcall sp__law_turned (fun _ _ => False) (tac (to opIx (tv 0) (tc (.int 1))) tan)) (tac (tcall sp__law_turned (fun _ _ => False) (tac (to opIx (tv 0) (tc (.int 2))) tan)) tan))))) tnx)
    (tseq (tifs (tb' (to opEq (to opIx (tv 0) (tc (.int 0))) (tc (.str "either")))) (tret (ttup (tac (tc (.str "either")) (tac (tcb caTup (tac (tlc (tse (to opIx (tv 0) (tc (.int 1)))) 1 tyes (tcall sp__law_turned (fun _ _ => False) (tac (tv 1) tan))) tan)) tan)))) tnx)
    (tseq (tifs (tb' (to opEq (to opIx (tv 0) (tc (.int 0))) (tc (.str "maybe")))) (tret (ttup (tac (tc (.str "maybe")) (tac (tcall sp__law_turned (fun _ _ => False) (tac (to opIx (tv 0) (tc (.int 1))) tan)) tan)))) tnx)
    (tret (tv 0))))))
abbrev n__law_near : List Str := ["tape", "kind", "letter", "side", "i"]
def t__law_near (sp__law_draw : Sp') (sp__law_near : Sp') (sp__law_letter : Sp') : TS' :=
    (tseq (tifs (tb' (to opEq (to opIx (tv 1) (tc (.int 0))) (tc (.str "names")))) (tret (to opIx (to opIx (tv 1) (tc (.int 1))) (tcall sp__law_draw (fun _ _ => False) (tac (tv 0) (tac (tcb caLen (tac (to opIx (tv 1) (tc (.int 1))) tan)) tan))))) tnx)
    (tseq (tifs (tb' (to opEq (to opIx (tv 1) (tc (.int 0))) (tc (.str "integers")))) (tret (to opIx (tlis (tac (to opAdd (tv 2) (tc (.int 1))) (tac (to opSub (tv 2) (tc (.int 1))) (tac (tu unNeg (tv 2)) (tac (to opAdd (tv 2) (tc (.int 12))) (tac (tc (.int 0)) tan)))))) (tcall sp__law_draw (fun _ _ => False) (tac (tv 0) (tac (tc (.int 5)) tan))))) tnx)
    (tseq (tifs (tb' (to opEq (to opIx (tv 1) (tc (.int 0))) (tc (.str "pair")))) (tseq (tasg (to opAdd (tc (.int 1)) (tcall sp__law_draw (fun _ _ => False) (tac (tv 0) (tac (tc (.int 2)) tan)))) (gn 3))
    (tret (to opAdd (to opAdd (tsl (tv 2) tpn (tpe (tv 3))) (ttup (tac (tcall sp__law_near (fun _ _ => False) (tac (tv 0) (tac (to opIx (tv 1) (tv 3)) (tac (to opIx (tv 2) (tv 3)) tan)))) tan))) (tsl (tv 2) (tpe (to opAdd (tv 3) (tc (.int 1)))) tpn)))) tnx)
    (tseq (tifs (tb' (to opEq (to opIx (tv 1) (tc (.int 0))) (tc (.str "either")))) (tseq (tasg (tcall sp__law_draw (fun _ _ => False) (tac (tv 0) (tac (tcb caLen (tac (to opIx (tv 1) (tc (.int 1))) tan)) tan))) (gn 4))
    (tseq (tifs (tb' (to opEq (tv 4) (to opIx (tv 2) (tc (.int 1))))) (tret (ttup (tac (tc (.str "case")) (tac (tv 4) (tac (tcall sp__law_near (fun _ _ => False) (tac (tv 0) (tac (to opIx (to opIx (tv 1) (tc (.int 1))) (tv 4)) (tac (to opIx (tv 2) (tc (.int 2))) tan)))) tan))))) tnx)
    (tret (ttup (tac (tc (.str "case")) (tac (tv 4) (tac (tcall sp__law_letter (fun _ _ => False) (tac (tv 0) (tac (to opIx (to opIx (tv 1) (tc (.int 1))) (tv 4)) (tac (ttup (tac (tc (.int 20)) (tac (tc (.int 12)) tan))) tan)))) tan))))))) tnx)
    (tseq (tifs (tb' (to opEq (to opIx (tv 2) (tc (.int 0))) (tc (.str "none")))) (tret (ttup (tac (tc (.str "some")) (tac (tcall sp__law_letter (fun _ _ => False) (tac (tv 0) (tac (to opIx (tv 1) (tc (.int 1))) (tac (ttup (tac (tc (.int 20)) (tac (tc (.int 12)) tan))) tan)))) tan)))) tnx)
    (tseq (tifs (tb' (to opEq (tcall sp__law_draw (fun _ _ => False) (tac (tv 0) (tac (tc (.int 4)) tan))) (tc (.int 0)))) (tret (ttup (tac (tc (.str "none")) tan))) tnx)
    (tret (ttup (tac (tc (.str "some")) (tac (tcall sp__law_near (fun _ _ => False) (tac (tv 0) (tac (to opIx (tv 1) (tc (.int 1))) (tac (to opIx (tv 2) (tc (.int 1))) tan)))) tan))))))))))
abbrev n__law_foreign : List Str := ["tape", "kind", "letter", "choice", "side", "others", "left", "one"]
def t__law_foreign (sp__law_draw : Sp') (sp__law_kinds : Sp') (sp__law_foreign : Sp') (sp__law_integer : Sp') (sp__law_strange : Sp') (sp__law_is_letter : Sp') : TS' :=
    (tseq (tasg (tcall sp__law_draw (fun _ _ => False) (tac (tv 0) (tac (tc (.int 4)) tan))) (gn 3))
    (tseq (tmid (tifs (tand (tb' (to opGt (tv 3) (tc (.int 0)))) (tb' (to opLt (tcall sp__law_kinds (fun _ _ => False) (tac (tv 1) tan)) (tc (.int 5))))) (tseq (tifs (tb' (to opEq (to opIx (tv 1) (tc (.int 0))) (tc (.str "pair")))) (tseq (tasg (to opAdd (tc (.int 1)) (tcall sp__law_draw (fun _ _ => False) (tac (tv 0) (tac (tc (.int 2)) tan)))) (gn 4))
    (tret (to opAdd (to opAdd (tsl (tv 2) tpn (tpe (tv 4))) (ttup (tac (tcall sp__law_foreign (fun _ _ => False) (tac (tv 0) (tac (to opIx (tv 1) (tv 4)) (tac (to opIx (tv 2) (tv 4)) tan)))) tan))) (tsl (tv 2) (tpe (to opAdd (tv 4) (tc (.int 1)))) tpn)))) tnx)
    (tseq (tifs (tand (tb' (to opEq (to opIx (tv 1) (tc (.int 0))) (tc (.str "either")))) (tand (tb' (to opEq (tv 3) (tc (.int 1)))) (tb' (to opLt (tcb caLen (tac (to opIx (tv 1) (tc (.int 1))) tan)) (tc (.int 3)))))) (tret (ttup (tac (tc (.str "case")) (tac (tcb caLen (tac (to opIx (tv 1) (tc (.int 1))) tan)) (tac (to opIx (tv 2) (tc (.int 2))) tan))))) tnx)
    (tseq (tifs (tb' (to opEq (to opIx (tv 1) (tc (.int 0))) (tc (.str "either")))) (tret (ttup (tac (tc (.str "case")) (tac (to opIx (tv 2) (tc (.int 1))) (tac (tcall sp__law_foreign (fun _ _ => False) (tac (tv 0) (tac (to opIx (to opIx (tv 1) (tc (.int 1))) (to opIx (tv 2) (tc (.int 1)))) (tac (to opIx (tv 2) (tc (.int 2))) tan)))) tan))))) tnx)
    (tifs (tand (tb' (to opEq (to opIx (tv 1) (tc (.int 0))) (tc (.str "maybe")))) (tb' (to opEq (to opIx (tv 2) (tc (.int 0))) (tc (.str "some"))))) (tret (ttup (tac (tc (.str "some")) (tac (tcall sp__law_foreign (fun _ _ => False) (tac (tv 0) (tac (to opIx (tv 1) (tc (.int 1))) (tac (to opIx (tv 2) (tc (.int 1))) tan)))) tan)))) tnx)))) tnx))
    (tseq (tifs (tb' (to opEq (to opIx (tv 1) (tc (.int 0))) (tc (.str "names")))) (tret (to opIx (tlis (tac (tcall sp__law_strange (fun _ _ => False) (tac (to opIx (tv 1) (tc (.int 1))) tan)) (tac (tc (.int 0)) (tac (tc (.int 1)) (tac (tcall sp__law_integer (fun _ _ => False) (tac (tv 0) (tac (tc (.int 20)) tan))) tan))))) (tcall sp__law_draw (fun _ _ => False) (tac (tv 0) (tac (tc (.int 4)) tan))))) tnx)
    (tseq (tifs (tb' (to opEq (to opIx (tv 1) (tc (.int 0))) (tc (.str "integers")))) (tret (to opIx (tlis (tac (tc (.str "0")) (tac (tc (.str "q")) (tac (tc (.str "some")) tan)))) (tcall sp__law_draw (fun _ _ => False) (tac (tv 0) (tac (tc (.int 3)) tan))))) tnx)
    (tseq (tasg (tlis (tac (tc (.int 0)) (tac (tc (.str "q")) (tac (ttup (tac (tc (.str "none")) tan)) (tac (ttup (tac (tc (.str "some")) (tac (tc (.int 1)) tan))) (tac (ttup (tac (tc (.str "some")) (tac (tc (.str "q")) tan))) (tac (ttup (tac (tc (.str "case")) (tac (tc (.int 0)) (tac (tc (.int 1)) tan)))) (tac (ttup (tac (tc (.str "pair")) (tac (tc (.int 0)) (tac (tc (.str "q")) tan)))) tan)))))))) (gn 5))
    (tseq (tasg (tlc (tse (tv 5)) 7 (tnot (tb' (tcall sp__law_is_letter (fun _ _ => False) (tac (tv 1) (tac (tv 7) tan))))) (tv 7)) (gn 6))
    (tret (to opIx (tv 6) (tcall sp__law_draw (fun _ _ => False) (tac (tv 0) (tac (tcb caLen (tac (tv 6) tan)) tan)))))))))))
abbrev n__law_refused : List Str := ["kind", "first", "second", "e"]
def t__law_refused (sp_compared : Sp') (sp__law_error : Value → Addr → Sp') (ct_GuardError : Value → Option Bool) : TS' :=
    (tseq (ttry sp_compared (tac (tv 0) (tac (tv 1) (tac (tv 2) tan))) ct_GuardError 3 fun cl ae => (tret (to opEq (tcall (sp__law_error cl ae) (fun _ _ => False) (tac (tv 3) tan)) (tc (.int 0)))))
    (tret (tc (.bl false))))
abbrev n__law_answers : List Str := ["kind", "first", "second", "told", "one", "two"]
def t__law_answers (sp_compared : Sp') (sp__law_key : Sp') (sp__law_whole : Sp') : TS' :=
    (tseq (tasg (tcall sp_compared (fun _ _ => False) (tac (tv 0) (tac (tv 1) (tac (tv 2) tan)))) (gn 3))
    (tseq (tasg (tcall sp__law_key (fun _ _ => False) (tac (tv 0) (tac (tv 1) tan))) (gn 4))
    (tseq (tasg (tcall sp__law_key (fun _ _ => False) (tac (tv 0) (tac (tv 2) tan))) (gn 5))
    (tret (tandv (tcall sp__law_whole (fun _ _ => False) (tac (tv 3) tan)) (to opEq (tv 3) (to opSub (tcb caInt (tac (to opGtN (tv 4) (tv 5)) tan)) (tcb caInt (tac (to opLtN (tv 4) (tv 5)) tan)))))))))
abbrev n_law : List Str := ["script", "tape", "kind", "turned", "first", "second", "third", "strange", "asked", "pair"]
def t_law (sp__law_tape : Sp') (sp__law_kind : Sp') (sp__law_turned : Sp') (sp__law_letter : Sp') (sp__law_draw : Sp') (sp__law_near : Sp') (sp__law_foreign : Sp') (sp__law_answers : Sp') (sp__law_refused : Sp') : TS' :=
    (tseq (tasg (tcall sp__law_tape (fun _ _ => False) (tac (tv 0) tan)) (gn 1))
    (tseq (tasg (tcall sp__law_kind (fun _ _ => False) (tac (tv 1) (tac (tc (.int 3)) (tac (tc (.int 6)) tan)))) (gn 2))
    (tseq (tasg (tcall sp__law_turned (fun _ _ => False) (tac (tv 2) tan)) (gn 3))
    (tseq (tasg (tcall sp__law_letter (fun _ _ => False) (tac (tv 1) (tac (tv 2) (tac (ttup (tac (tc (.int 20)) (tac (tc (.int 12)) tan))) tan)))) (gn 4))
    (tseq (tasg (tcall sp__law_letter (fun _ _ => False) (tac (tv 1) (tac (tv 2) (tac (ttup (tac (tc (.int 20)) (tac (tc (.int 12)) tan))) tan)))) (gn 5))
    (tseq (tmid (tifs (tb' (to opEq (tcall sp__law_draw (fun _ _ => False) (tac (tv 1) (tac (tc (.int 2)) tan))) (tc (.int 0)))) (tasg (tcall sp__law_near (fun _ _ => False) (tac (tv 1) (tac (tv 2) (tac (tv 4) tan)))) (gn 5)) tnx))
    (tseq (tasg (tcall sp__law_letter (fun _ _ => False) (tac (tv 1) (tac (tv 2) (tac (ttup (tac (tc (.int 20)) (tac (tc (.int 12)) tan))) tan)))) (gn 6))
    (tseq (tasg (tcall sp__law_foreign (fun _ _ => False) (tac (tv 1) (tac (tv 2) (tac (tv 4) tan)))) (gn 7))
    (tseq (tfor (tse (tlis (tac (tv 2) (tac (tv 3) (tac (tv 2) tan))))) (gn 8) (tfor (tse (tlis (tac (ttup (tac (tv 4) (tac (tv 5) tan))) (tac (ttup (tac (tv 5) (tac (tv 4) tan))) (tac (ttup (tac (tv 4) (tac (tv 6) tan))) tan))))) (gn 9) (tifs (tnot (tb' (tcall sp__law_answers (fun _ _ => False) (tac (tv 8) (tac (to opIx (tv 9) (tc (.int 0))) (tac (to opIx (tv 9) (tc (.int 1))) tan)))))) (tret (tc (.bl false))) tnx)))
    (tseq (tifs (tor (tnot (tb' (tcall sp__law_refused (fun _ _ => False) (tac (tv 2) (tac (tv 7) (tac (tv 5) tan)))))) (tnot (tb' (tcall sp__law_answers (fun _ _ => False) (tac (tv 2) (tac (tv 5) (tac (tv 5) tan))))))) (tret (tc (.bl false))) tnx)
    (tret (tandv (tcall sp__law_refused (fun _ _ => False) (tac (tv 2) (tac (tv 4) (tac (tv 7) tan)))) (tcall sp__law_answers (fun _ _ => False) (tac (tv 2) (tac (tv 6) (tac (tv 5) tan))))))))))))))))
end K01

set_option Elab.async false
set_option linter.all false
namespace K02
open PySem PySem.Spec PyProof.Rows L2 DL
abbrev n_word_rank : List Str := ["kind", "word", "letter"]
def t_word_rank (sp_letter_rank : Sp') : TS' :=
    (tret (ttup (tac (tcb caLen (tac (tv 1) tan)) (tac (tcb caTup (tac (tlc (tse (tv 1)) 2 tyes (tcall sp_letter_rank (fun _ _ => False) (tac (tv 0) (tac (tv 2) tan)))) tan)) tan))))
abbrev n_words_compared : List Str := ["kind", "first", "second"]
def t_words_compared (sp_check_word : Sp') (sp_word_rank : Sp') (sp_compared_ranks : Sp') (E' : XK') : TS' :=
    (tseq (tdrop (tcall sp_check_word E' (tac (tv 0) (tac (to opAdd (tv 1) (tv 2)) tan))))
    (tret (tcall sp_compared_ranks (fun _ _ => False) (tac (tcall sp_word_rank (fun _ _ => False) (tac (tv 0) (tac (tv 1) tan))) (tac (tcall sp_word_rank (fun _ _ => False) (tac (tv 0) (tac (tv 2) tan))) tan)))))
abbrev n__law_word : List Str := ["tape", "kind", "theory", "most", "k"]
def t__law_word (sp__law_draw : Sp') (sp__law_letter : Sp') : TS' :=
    (tret (tcb caTup (tac (tlc (trg1 (tac (tcall sp__law_draw (fun _ _ => False) (tac (tv 0) (tac (to opAdd (tv 3) (tc (.int 1))) tan))) tan)) 4 tyes (tcall sp__law_letter (fun _ _ => False) (tac (tv 0) (tac (tv 1) (tac (tv 2) tan))))) tan)))
abbrev n__law_word_key : List Str := ["kind", "word", "letter"]
def t__law_word_key (sp__law_key : Sp') : TS' :=
    (tret (ttup (tac (tcb caLen (tac (tv 1) tan)) (tac (tcb caTup (tac (tlc (tse (tv 1)) 2 tyes (tcall sp__law_key (fun _ _ => False) (tac (tv 0) (tac (tv 2) tan)))) tan)) tan))))
abbrev n__law_refused : List Str := ["kind", "first", "second", "e"]
def t__law_refused (sp_words_compared : Sp') (sp__law_error : Value → Addr → Sp') (ct_GuardError : Value → Option Bool) : TS' :=
    (tseq (ttry sp_words_compared (tac (tv 0) (tac (tv 1) (tac (tv 2) tan))) ct_GuardError 3 fun cl ae => (tret (to opEq (tcall (sp__law_error cl ae) (fun _ _ => False) (tac (tv 3) tan)) (tc (.int 0)))))
    (tret (tc (.bl false))))
abbrev n__law_answers : List Str := ["kind", "first", "second", "told", "one", "two"]
def t__law_answers (sp_words_compared : Sp') (sp__law_word_key : Sp') (sp__law_whole : Sp') : TS' :=
    (tseq (tasg (tcall sp_words_compared (fun _ _ => False) (tac (tv 0) (tac (tv 1) (tac (tv 2) tan)))) (gn 3))
    (tseq (tasg (tcall sp__law_word_key (fun _ _ => False) (tac (tv 0) (tac (tv 1) tan))) (gn 4))
    (tseq (tasg (tcall sp__law_word_key (fun _ _ => False) (tac (tv 0) (tac (tv 2) tan))) (gn 5))
    (tret (tandv (tcall sp__law_whole (fun _ _ => False) (tac (tv 3) tan)) (to opEq (tv 3) (to opSub (tcb caInt (tac (to opGtN (tv 4) (tv 5)) tan)) (tcb caInt (tac (to opLtN (tv 4) (tv 5)) tan)))))))))
abbrev n__law_changed : List Str := ["tape", "kind", "word", "choice", "k"]
def t__law_changed (sp__law_draw : Sp') (sp__law_word : Sp') (sp__law_letter : Sp') (sp__law_near : Sp') : TS' :=
    (tseq (tasg (tcall sp__law_draw (fun _ _ => False) (tac (tv 0) (tac (tc (.int 6)) tan))) (gn 3))
    (tseq (tifs (tor (tb' (to opEq (tv 3) (tc (.int 0)))) (tb' (to opEq (tcb caLen (tac (tv 2) tan)) (tc (.int 0))))) (tret (tcall sp__law_word (fun _ _ => False) (tac (tv 0) (tac (tv 1) (tac (ttup (tac (tc (.int 20)) (tac (tc (.int 12)) tan))) (tac (tc (.int 8)) tan)))))) tnx)
    (tseq (tasg (tcall sp__law_draw (fun _ _ => False) (tac (tv 0) (tac (tcb caLen (tac (tv 2) tan)) tan))) (gn 4))
    (tseq (tifs (tb' (to opEq (tv 3) (tc (.int 1)))) (tret (tsl (tv 2) tpn (tpe (tv 4)))) tnx)
    (tseq (tifs (tand (tb' (to opEq (tv 3) (tc (.int 2)))) (tb' (to opLt (tcb caLen (tac (tv 2) tan)) (tc (.int 8))))) (tret (to opAdd (to opAdd (tsl (tv 2) tpn (tpe (tv 4))) (ttup (tac (tcall sp__law_letter (fun _ _ => False) (tac (tv 0) (tac (tv 1) (tac (ttup (tac (tc (.int 20)) (tac (tc (.int 12)) tan))) tan)))) tan))) (tsl (tv 2) (tpe (tv 4)) tpn))) tnx)
    (tseq (tifs (tb' (to opEq (tv 3) (tc (.int 3)))) (tret (to opAdd (tsl (tv 2) (tpe (tv 4)) tpn) (tsl (tv 2) tpn (tpe (tv 4))))) tnx)
    (tret (to opAdd (to opAdd (tsl (tv 2) tpn (tpe (tv 4))) (ttup (tac (tcall sp__law_near (fun _ _ => False) (tac (tv 0) (tac (tv 1) (tac (to opIx (tv 2) (tv 4)) tan)))) tan))) (tsl (tv 2) (tpe (to opAdd (tv 4) (tc (.int 1)))) tpn)))))))))
abbrev n_law : List Str := ["script", "tape", "kind", "first", "second", "third", "asked", "pair", "letter", "k", "strange"]
def t_law (sp__law_tape : Sp') (sp__law_kind : Sp') (sp__law_word : Sp') (sp__law_changed : Sp') (sp__law_turned : Sp') (sp__law_answers : Sp') (sp__law_letter : Sp') (sp__law_draw : Sp') (sp__law_foreign : Sp') (sp__law_refused : Sp') : TS' :=
    (tseq (tasg (tcall sp__law_tape (fun _ _ => False) (tac (tv 0) tan)) (gn 1))
    (tseq (tasg (tcall sp__law_kind (fun _ _ => False) (tac (tv 1) (tac (tc (.int 3)) (tac (tc (.int 6)) tan)))) (gn 2))
    (tseq (tasg (tcall sp__law_word (fun _ _ => False) (tac (tv 1) (tac (tv 2) (tac (ttup (tac (tc (.int 20)) (tac (tc (.int 12)) tan))) (tac (tc (.int 8)) tan))))) (gn 3))
    (tseq (tasg (tcall sp__law_changed (fun _ _ => False) (tac (tv 1) (tac (tv 2) (tac (tv 3) tan)))) (gn 4))
    (tseq (tasg (tcall sp__law_changed (fun _ _ => False) (tac (tv 1) (tac (tv 2) (tac (tv 4) tan)))) (gn 5))
    (tseq (tfor (tse (tlis (tac (tv 2) (tac (tcall sp__law_turned (fun _ _ => False) (tac (tv 2) tan)) (tac (tv 2) tan))))) (gn 6) (tfor (tse (tlis (tac (ttup (tac (tv 3) (tac (tv 4) tan))) (tac (ttup (tac (tv 4) (tac (tv 3) tan))) (tac (ttup (tac (tv 3) (tac (tv 5) tan))) tan))))) (gn 7) (tifs (tnot (tb' (tcall sp__law_answers (fun _ _ => False) (tac (tv 6) (tac (to opIx (tv 7) (tc (.int 0))) (tac (to opIx (tv 7) (tc (.int 1))) tan)))))) (tret (tc (.bl false))) tnx)))
    (tseq (tasg (tcall sp__law_letter (fun _ _ => False) (tac (tv 1) (tac (tv 2) (tac (ttup (tac (tc (.int 20)) (tac (tc (.int 12)) tan))) tan)))) (gn 8))
    (tseq (tasg (tcall sp__law_draw (fun _ _ => False) (tac (tv 1) (tac (tc (.int 7)) tan))) (gn 9))
    (tseq (tasg (to opAdd (to opAdd (tsl (tv 3) tpn (tpe (tv 9))) (ttup (tac (tcall sp__law_foreign (fun _ _ => False) (tac (tv 1) (tac (tv 2) (tac (tv 8) tan)))) tan))) (tsl (tv 3) (tpe (to opAdd (tv 9) (tc (.int 1)))) tpn)) (gn 10))
    (tseq (tifs (tor (tnot (tb' (tcall sp__law_refused (fun _ _ => False) (tac (tv 2) (tac (tv 10) (tac (tv 4) tan)))))) (tnot (tb' (tcall sp__law_answers (fun _ _ => False) (tac (tv 2) (tac (tv 4) (tac (tv 5) tan))))))) (tret (tc (.bl false))) tnx)
    (tret (tandv (tcall sp__law_refused (fun _ _ => False) (tac (tv 2) (tac (tv 4) (tac (tv 10) tan)))) (tcall sp__law_answers (fun _ _ => False) (tac (tv 2) (tac (tv 4) (tac (tv 4) tan))))))))))))))))
end K02

set_option Elab.async false
set_option linter.all false
namespace K03
open PySem PySem.Spec PyProof.Rows L2 DL
abbrev n_kind_below : List Str := ["kind", "step", "shape"]
def t_kind_below (sp_is_integer : Sp') : TS' :=
    (tseq (tasg (to opIx (tv 0) (tc (.int 0))) (gn 2))
    (tseq (tifs (tand (tb' (to opEq (tv 2) (tc (.str "pair")))) (tb' (to opEq (tv 1) (tc (.str "first"))))) (tret (to opIx (tv 0) (tc (.int 1)))) tnx)
    (tseq (tifs (tand (tb' (to opEq (tv 2) (tc (.str "pair")))) (tb' (to opEq (tv 1) (tc (.str "second"))))) (tret (to opIx (tv 0) (tc (.int 2)))) tnx)
    (tseq (tifs (tand (tb' (to opEq (tv 2) (tc (.str "maybe")))) (tb' (to opEq (tv 1) (tc (.str "some"))))) (tret (to opIx (tv 0) (tc (.int 1)))) tnx)
    (tseq (tifs (tand (tb' (to opEq (tv 2) (tc (.str "either")))) (tand (tb' (tcall sp_is_integer (fun _ _ => False) (tac (tv 1) tan))) (tb' (tch opLe opLt (tc (.int 0)) (tv 1) (tcb caLen (tac (to opIx (tv 0) (tc (.int 1))) tan)))))) (tret (to opIx (to opIx (tv 0) (tc (.int 1))) (tv 1))) tnx)
    (tret (tc .non)))))))
abbrev n_kind_at : List Str := ["kind", "path", "step"]
def t_kind_at (sp_kind_below : Sp') : TS' :=
    (tseq (tfor (tse (tv 1)) (gn 2) (tseq (tasg (tcall sp_kind_below (fun _ _ => False) (tac (tv 0) (tac (tv 2) tan))) (gn 0))
    (tifs (tb' (to (opIsN false) (tv 0) (tc .non))) (tret (tc .non)) tnx)))
    (tret (tv 0)))
abbrev n_part_below : List Str := ["letter", "step"]
def t_part_below  : TS' :=
    (tseq (tifs (tnot (tb' (tcb caIs (tac (tv 0) (tac (tc (.ty "tuple")) tan))))) (tret (tc .non)) tnx)
    (tseq (tifs (tand (tb' (to opEq (to opIx (tv 0) (tc (.int 0))) (tc (.str "pair")))) (tb' (to opEq (tv 1) (tc (.str "first"))))) (tret (to opIx (tv 0) (tc (.int 1)))) tnx)
    (tseq (tifs (tand (tb' (to opEq (to opIx (tv 0) (tc (.int 0))) (tc (.str "pair")))) (tb' (to opEq (tv 1) (tc (.str "second"))))) (tret (to opIx (tv 0) (tc (.int 2)))) tnx)
    (tseq (tifs (tand (tb' (to opEq (to opIx (tv 0) (tc (.int 0))) (tc (.str "some")))) (tb' (to opEq (tv 1) (tc (.str "some"))))) (tret (to opIx (tv 0) (tc (.int 1)))) tnx)
    (tseq (tifs (tand (tb' (to opEq (to opIx (tv 0) (tc (.int 0))) (tc (.str "case")))) (tb' (to opEq (to opIx (tv 0) (tc (.int 1))) (tv 1)))) (tret (to opIx (tv 0) (tc (.int 2)))) tnx)
    (tret (tc .non)))))))
abbrev n_part_at : List Str := ["letter", "path", "step"]
def t_part_at (sp_part_below : Sp') : TS' :=
    (tseq (tfor (tse (tv 1)) (gn 2) (tseq (tasg (tcall sp_part_below (fun _ _ => False) (tac (tv 0) (tac (tv 2) tan))) (gn 0))
    (tifs (tb' (to (opIsN false) (tv 0) (tc .non))) (tret (tc .non)) tnx)))
    (tret (tv 0)))
abbrev n__law_same : List Str := ["told", "due", "k"]
def t__law_same (sp__law_same : Sp') (sp__law_whole : Sp') : TS' :=
    (tseq (tifs (tb' (to (opIsN false) (tv 1) (tc .non))) (tret (to (opIsN false) (tv 0) (tc .non))) tnx)
    (tseq (tifs (tb' (tcb caIs (tac (tv 1) (tac (tc (.ty "tuple")) tan)))) (tseq (tifs (tor (tnot (tb' (tcb caIs (tac (tv 0) (tac (tc (.ty "tuple")) tan))))) (tb' (to opNe (tcb caLen (tac (tv 0) tan)) (tcb caLen (tac (tv 1) tan))))) (tret (tc (.bl false))) tnx)
    (tseq (tfor (trg1 (tac (tcb caLen (tac (tv 1) tan)) tan)) (gn 2) (tifs (tnot (tb' (tcall sp__law_same (fun _ _ => False) (tac (to opIx (tv 0) (tv 2)) (tac (to opIx (tv 1) (tv 2)) tan))))) (tret (tc (.bl false))) tnx))
    (tret (tc (.bl true))))) tnx)
    (tseq (tifs (tb' (tcb caIs (tac (tv 1) (tac (tc (.ty "bool")) tan)))) (tret (tandv (tcb caIs (tac (tv 0) (tac (tc (.ty "bool")) tan))) (to opEq (tv 0) (tv 1)))) tnx)
    (tseq (tifs (tb' (tcb caIs (tac (tv 1) (tac (tc (.ty "str")) tan)))) (tret (tandv (tcb caIs (tac (tv 0) (tac (tc (.ty "str")) tan))) (to opEq (tv 0) (tv 1)))) tnx)
    (tret (tandv (tcall sp__law_whole (fun _ _ => False) (tac (tv 0) tan)) (to opEq (tv 0) (tv 1))))))))
abbrev n__law_kind_at : List Str := ["kind", "path", "step"]
def t__law_kind_at (sp__law_whole : Sp') : TS' :=
    (tseq (tfor (tse (tv 1)) (gn 2) (tmid (tifs (tand (tb' (to opEq (to opIx (tv 0) (tc (.int 0))) (tc (.str "pair")))) (tb' (to (opIn false) (tv 2) (tlis (tac (tc (.str "first")) (tac (tc (.str "second")) tan)))))) (tasg (to opIx (tv 0) (to opAdd (tc (.int 1)) (tcb caInt (tac (to opEq (tv 2) (tc (.str "second"))) tan)))) (gn 0)) (tmid (tifs (tand (tb' (to opEq (to opIx (tv 0) (tc (.int 0))) (tc (.str "maybe")))) (tb' (to opEq (tv 2) (tc (.str "some"))))) (tasg (to opIx (tv 0) (tc (.int 1))) (gn 0)) (tifs (tand (tb' (to opEq (to opIx (tv 0) (tc (.int 0))) (tc (.str "either")))) (tand (tb' (tcall sp__law_whole (fun _ _ => False) (tac (tv 2) tan))) (tb' (to opLt (tv 2) (tcb caLen (tac (to opIx (tv 0) (tc (.int 1))) tan)))))) (tasg (to opIx (to opIx (tv 0) (tc (.int 1))) (tv 2)) (gn 0)) (tret (tc .non))))))))
    (tret (tv 0)))
abbrev n__law_part_at : List Str := ["letter", "path", "step"]
def t__law_part_at (sp__law_whole : Sp') : TS' :=
    (tseq (tfor (tse (tv 1)) (gn 2) (tseq (tifs (tnot (tb' (tcb caIs (tac (tv 0) (tac (tc (.ty "tuple")) tan))))) (tret (tc .non)) tnx)
    (tmid (tifs (tand (tb' (to opEq (to opIx (tv 0) (tc (.int 0))) (tc (.str "pair")))) (tb' (to (opIn false) (tv 2) (tlis (tac (tc (.str "first")) (tac (tc (.str "second")) tan)))))) (tasg (to opIx (tv 0) (to opAdd (tc (.int 1)) (tcb caInt (tac (to opEq (tv 2) (tc (.str "second"))) tan)))) (gn 0)) (tmid (tifs (tand (tb' (to opEq (to opIx (tv 0) (tc (.int 0))) (tc (.str "some")))) (tb' (to opEq (tv 2) (tc (.str "some"))))) (tasg (to opIx (tv 0) (tc (.int 1))) (gn 0)) (tifs (tand (tb' (to opEq (to opIx (tv 0) (tc (.int 0))) (tc (.str "case")))) (tand (tb' (tcall sp__law_whole (fun _ _ => False) (tac (tv 2) tan))) (tb' (to opEq (tv 2) (to opIx (tv 0) (tc (.int 1))))))) (tasg (to opIx (tv 0) (tc (.int 2))) (gn 0)) (tret (tc .non)))))))))
    (tret (tv 0)))
abbrev n__law_path : List Str := ["tape", "kind", "path", "k", "step", "along"]
def t__law_path (sp__law_draw : Sp') (sp__law_kind_at : Sp') : TS' :=
    (tseq (tasg (ttup tan) (gn 2))
    (tseq (tfor (trg1 (tac (tcall sp__law_draw (fun _ _ => False) (tac (tv 0) (tac (tc (.int 4)) tan))) tan)) (gn 3) (tseq (tasg (to opIx (tlis (tac (tc (.str "first")) (tac (tc (.str "second")) (tac (tc (.str "some")) (tac (tc (.int 0)) (tac (tc (.int 1)) (tac (tc (.int 2)) tan))))))) (tcall sp__law_draw (fun _ _ => False) (tac (tv 0) (tac (tc (.int 6)) tan)))) (gn 4))
    (tseq (tasg (tcall sp__law_kind_at (fun _ _ => False) (tac (tv 1) (tac (tv 2) tan))) (gn 5))
    (tseq (tmid (tifs (tand (tb' (to opGt (tcall sp__law_draw (fun _ _ => False) (tac (tv 0) (tac (tc (.int 5)) tan))) (tc (.int 0)))) (tb' (to (opIsN true) (tv 5) (tc .non)))) (tseq (tmid (tifs (tb' (to opEq (to opIx (tv 5) (tc (.int 0))) (tc (.str "pair")))) (tasg (to opIx (tlis (tac (tc (.str "first")) (tac (tc (.str "second")) tan))) (tcall sp__law_draw (fun _ _ => False) (tac (tv 0) (tac (tc (.int 2)) tan)))) (gn 4)) tnx))
    (tseq (tmid (tifs (tb' (to opEq (to opIx (tv 5) (tc (.int 0))) (tc (.str "maybe")))) (tasg (tc (.str "some")) (gn 4)) tnx))
    (tmid (tifs (tb' (to opEq (to opIx (tv 5) (tc (.int 0))) (tc (.str "either")))) (tasg (tcall sp__law_draw (fun _ _ => False) (tac (tv 0) (tac (tcb caLen (tac (to opIx (tv 5) (tc (.int 1))) tan)) tan))) (gn 4)) tnx)))) tnx))
    (tasg (to opAdd (tv 2) (ttup (tac (tv 4) tan))) (gn 2))))))
    (tret (tv 2))))
abbrev n_law : List Str := ["script", "tape", "kinds", "letters", "paths", "late", "path", "k", "which", "kind"]
def t_law (sp__law_tape : Sp') (sp__law_kind : Sp') (sp__law_letter : Sp') (sp__law_path : Sp') (sp__law_draw : Sp') (sp__law_kind_at : Sp') (sp_kind_at : Sp') (sp__law_same : Sp') (sp__law_part_at : Sp') (sp_part_at : Sp') : TS' :=
    (tseq (tasg (tcall sp__law_tape (fun _ _ => False) (tac (tv 0) tan)) (gn 1))
    (tseq (tasg (tlis (tac (tcall sp__law_kind (fun _ _ => False) (tac (tv 1) (tac (tc (.int 3)) (tac (tc (.int 6)) tan)))) (tac (tcall sp__law_kind (fun _ _ => False) (tac (tv 1) (tac (tc (.int 3)) (tac (tc (.int 6)) tan)))) tan))) (gn 2))
    (tseq (tasg (tlc (tse (tv 2)) 9 tyes (tcall sp__law_letter (fun _ _ => False) (tac (tv 1) (tac (tv 9) (tac (ttup (tac (tc (.int 20)) (tac (tc (.int 12)) tan))) tan))))) (gn 3))
    (tseq (tasg (tlis (tac (tcall sp__law_path (fun _ _ => False) (tac (tv 1) (tac (to opIx (tv 2) (tc (.int 0))) tan))) (tac (tcall sp__law_path (fun _ _ => False) (tac (tv 1) (tac (to opIx (tv 2) (tc (.int 0))) tan))) (tac (tcall sp__law_path (fun _ _ => False) (tac (tv 1) (tac (to opIx (tv 2) (tc (.int 1))) tan))) tan)))) (gn 4))
    (tseq (tasg (tcall sp__law_draw (fun _ _ => False) (tac (tv 1) (tac (tc (.int 2)) tan))) (gn 5))
    (tseq (tfor (tse (to opAdd (tv 4) (tsl (tv 4) tpn (tpe (tc (.int 1)))))) (gn 6) (tfor (trg1 (tac (tc (.int 2)) tan)) (gn 7) (tfor (tse (tlis (tac (tv 5) (tac (to opSub (tc (.int 1)) (tv 5)) tan)))) (gn 8) (tseq (tifs (tand (tb' (to opEq (tv 8) (tc (.int 0)))) (tnot (tb' (tcall sp__law_same (fun _ _ => False) (tac (tcall sp_kind_at (fun _ _ => False) (tac (to opIx (tv 2) (tv 7)) (tac (tv 6) tan))) (tac (tcall sp__law_kind_at (fun _ _ => False) (tac (to opIx (tv 2) (tv 7)) (tac (tv 6) tan))) tan)))))) (tret (tc (.bl false))) tnx)
    (tifs (tand (tb' (to opEq (tv 8) (tc (.int 1)))) (tnot (tb' (tcall sp__law_same (fun _ _ => False) (tac (tcall sp_part_at (fun _ _ => False) (tac (to opIx (tv 3) (tv 7)) (tac (tv 6) tan))) (tac (tcall sp__law_part_at (fun _ _ => False) (tac (to opIx (tv 3) (tv 7)) (tac (tv 6) tan))) tan)))))) (tret (tc (.bl false))) tnx)))))
    (tret (tc (.bl true)))))))))
end K03

set_option Elab.async false
set_option linter.all false
namespace K04
open PySem PySem.Spec PyProof.Rows L2 DL
abbrev n_has_integer : List Str := ["letters", "number", "low", "below", "high", "above"]
def t_has_integer  : TS' :=
    (tseq (tasg (to opIx (tv 0) (tc (.int 1))) (gtup 2 (gco (gn 2) (gco (gn 3) gni))))
    (tseq (tasg (to opIx (tv 0) (tc (.int 3))) (gtup 2 (gco (gn 4) (gco (gn 5) gni))))
    (tseq (tifs (tb' (to opGe (tv 1) (tv 4))) (tret (to opIx (tv 5) (to opMod (to opSub (tv 1) (tv 4)) (tcb caLen (tac (tv 5) tan))))) tnx)
    (tseq (tifs (tb' (to opLe (tv 1) (tv 2))) (tret (to opIx (tv 3) (to opMod (to opSub (tv 2) (tv 1)) (tcb caLen (tac (tv 3) tan))))) tnx)
    (tret (to (opIn false) (tv 1) (to opIx (tv 0) (tc (.int 2)))))))))
abbrev n_least_from : List Str := ["letters", "start", "number"]
def t_least_from (sp_has_integer : Sp') : TS' :=
    (tseq (tfor (trg2 (tac (tv 1) (tac (to opAdd (tcb caMax (tac (tv 1) (tac (to opIx (to opIx (tv 0) (tc (.int 3))) (tc (.int 0))) tan))) (tcb caLen (tac (to opIx (to opIx (tv 0) (tc (.int 3))) (tc (.int 1))) tan))) tan))) (gn 2) (tifs (tb' (tcall sp_has_integer (fun _ _ => False) (tac (tv 0) (tac (tv 2) tan)))) (tret (tv 2)) tnx))
    (tret (tc .non)))
abbrev n_greatest_to : List Str := ["letters", "stop", "number"]
def t_greatest_to  : TS' :=
    (tseq tno
    (tret (tc .non)))
abbrev n_first_beyond : List Str := ["letters", "most", "least", "found", "number"]
def t_first_beyond (sp_greatest_to : Sp') (sp_least_from : Sp') : TS' :=
    (tseq (tasg (tlc (tse (ttup (tac (tcall sp_least_from (fun _ _ => False) (tac (tv 0) (tac (tv 1) tan))) (tac (tcall sp_greatest_to (fun _ _ => False) (tac (tv 0) (tac (tv 2) tan))) tan)))) 4 (tb' (to (opIsN true) (tv 4) (tc .non))) (tv 4)) (gn 3))
    (tret tnoE))
abbrev n_is_empty : List Str := ["letters", "shape", "part"]
def t_is_empty (sp_is_empty : Sp') : TS' :=
    (tseq (tasg (to opIx (tv 0) (tc (.int 0))) (gn 1))
    (tseq (tifs (torp (tb' (to opEq (tv 1) (tc (.str "names")))) (tb' (to opEq (tv 1) (tc (.str "pairs"))))) (tret (to opEq (to opIx (tv 0) (tc (.int 1))) (ttup tan))) tnx)
    (tseq (tifs (tb' (to opEq (tv 1) (tc (.str "integers")))) (tret (to opEq (tv 0) tnoE)) tnx)
    (tseq (tifs (tb' (to opEq (tv 1) (tc (.str "either")))) (tret tnoE) tnx)
    (tret (tandv (tnotv (to opIx (tv 0) (tc (.int 1)))) (tcall sp_is_empty (fun _ _ => False) (tac (to opIx (tv 0) (tc (.int 2))) tan))))))))
abbrev n_contains : List Str := ["kind", "letters", "letter", "shape", "row"]
def t_contains (sp_has_integer : Sp') (sp_row_of : Sp') (sp_contains : Sp') : TS' :=
    (tseq (tasg (to opIx (tv 0) (tc (.int 0))) (gn 3))
    (tseq (tifs (tb' (to opEq (tv 3) (tc (.str "names")))) (tret (to (opIn false) (tv 2) (to opIx (tv 1) (tc (.int 1))))) tnx)
    (tseq (tifs (tb' (to opEq (tv 3) (tc (.str "integers")))) (tret (tcall sp_has_integer (fun _ _ => False) (tac (tv 1) (tac (tv 2) tan)))) tnx)
    (tseq (tifs (tb' (to opEq (tv 3) (tc (.str "pair")))) (tseq (tasg (tcall sp_row_of (fun _ _ => False) (tac (tv 0) (tac (tv 1) (tac (to opIx (tv 2) (tc (.int 1))) tan)))) (gn 4))
    (tret (tandv (to (opIsN true) (tv 4) (tc .non)) (tcall sp_contains (fun _ _ => False) (tac (to opIx (tv 0) (tc (.int 2))) (tac (tv 4) (tac (to opIx (tv 2) (tc (.int 2))) tan))))))) tnx)
    (tseq (tifs (tb' (to opEq (tv 3) (tc (.str "either")))) (tret (tcall sp_contains (fun _ _ => False) (tac (to opIx (to opIx (tv 0) (tc (.int 1))) (to opIx (tv 2) (tc (.int 1)))) (tac (to opIx (to opIx (tv 1) (tc (.int 1))) (to opIx (tv 2) (tc (.int 1)))) (tac (to opIx (tv 2) (tc (.int 2))) tan))))) tnx)
    (tseq (tifs (tb' (to opEq (to opIx (tv 2) (tc (.int 0))) (tc (.str "none")))) (tret (to opIx (tv 1) (tc (.int 1)))) tnx)
    (tret (tcall sp_contains (fun _ _ => False) (tac (to opIx (tv 0) (tc (.int 1))) (tac (to opIx (tv 1) (tc (.int 2))) (tac (to opIx (tv 2) (tc (.int 1))) tan)))))))))))
abbrev n_row_of : List Str := ["kind", "letters", "first", "firsts", "row"]
def t_row_of (sp_contains : Sp') : TS' :=
    (tseq (tfor (tse (to opIx (tv 1) (tc (.int 1)))) (gtup 2 (gco (gn 3) (gco (gn 4) gni))) (tifs (tb' (tcall sp_contains (fun _ _ => False) (tac (to opIx (tv 0) (tc (.int 1))) (tac (tv 3) (tac (tv 2) tan))))) (tret (tv 4)) tnx))
    (tret (tc .non)))
abbrev n_first_of : List Str := ["kind", "letters", "shape", "firsts", "row", "found", "number", "part"]
def t_first_of (sp_is_empty : Sp') (sp_first_beyond : Sp') (sp_first_of : Sp') : TS' :=
    (tseq (tasg (to opIx (tv 0) (tc (.int 0))) (gn 2))
    (tseq (tifs (tb' (tcall sp_is_empty (fun _ _ => False) (tac (tv 1) tan))) (tret (tc .non)) tnx)
    (tseq (tifs (tb' (to opEq (tv 2) (tc (.str "names")))) (tret (to opIx (to opIx (tv 1) (tc (.int 1))) (tc (.int 0)))) tnx)
    (tseq (tifs (tb' (to opEq (tv 2) (tc (.str "integers")))) (tret (tcall sp_first_beyond (fun _ _ => False) (tac (tv 1) (tac (tc (.int 0)) (tac (tu unNeg (tc (.int 1))) tan))))) tnx)
    (tseq (tifs (tb' (to opEq (tv 2) (tc (.str "pair")))) (tseq (tasg (to opIx (to opIx (tv 1) (tc (.int 1))) (tc (.int 0))) (gtup 2 (gco (gn 3) (gco (gn 4) gni))))
    (tret (ttup (tac (tc (.str "pair")) (tac (tcall sp_first_of (fun _ _ => False) (tac (to opIx (tv 0) (tc (.int 1))) (tac (tv 3) tan))) (tac (tcall sp_first_of (fun _ _ => False) (tac (to opIx (tv 0) (tc (.int 2))) (tac (tv 4) tan))) tan)))))) tnx)
    (tseq (tifs (tb' (to opEq (tv 2) (tc (.str "either")))) (tseq tno
    (tret (ttup (tac (tc (.str "case")) (tac (to opIx (tv 5) (tc (.int 0))) (tac (tcall sp_first_of (fun _ _ => False) (tac (to opIx (to opIx (tv 0) (tc (.int 1))) (to opIx (tv 5) (tc (.int 0)))) (tac (to opIx (to opIx (tv 1) (tc (.int 1))) (to opIx (tv 5) (tc (.int 0)))) tan))) tan)))))) tnx)
    (tseq (tifs (tb' (to opIx (tv 1) (tc (.int 1)))) (tret (ttup (tac (tc (.str "none")) tan))) tnx)
    (tret (ttup (tac (tc (.str "some")) (tac (tcall sp_first_of (fun _ _ => False) (tac (to opIx (tv 0) (tc (.int 1))) (tac (to opIx (tv 1) (tc (.int 2))) tan))) tan)))))))))))
abbrev n_is_set : List Str := ["kind", "letters", "shape", "place", "part", "name"]
def t_is_set (sp_are_rows : Sp') (sp_is_set : Sp') : TS' :=
    (tseq (tasg (to opIx (tv 0) (tc (.int 0))) (gn 2))
    (tseq (tifs (tb' (to opEq (tv 2) (tc (.str "names")))) (tret (tandv (to opEq (to opIx (tv 1) (tc (.int 0))) (tc (.str "names"))) (to opEq (to opIx (tv 1) (tc (.int 1))) (tcb caTup (tac (tlc (tse (to opIx (tv 0) (tc (.int 1)))) 5 (tb' (to (opIn false) (tv 5) (to opIx (tv 1) (tc (.int 1))))) (tv 5)) tan))))) tnx)
    (tseq (tifs (tb' (to opEq (tv 2) (tc (.str "integers")))) (tret (to opEq (to opIx (tv 1) (tc (.int 0))) (tc (.str "integers")))) tnx)
    (tseq (tifs (tb' (to opEq (tv 2) (tc (.str "pair")))) (tret (tandv (to opEq (to opIx (tv 1) (tc (.int 0))) (tc (.str "pairs"))) (tcall sp_are_rows (fun _ _ => False) (tac (tv 0) (tac (to opIx (tv 1) (tc (.int 1))) tan))))) tnx)
    (tseq (tifs (tb' (to opEq (tv 2) (tc (.str "either")))) (tseq (tifs (tor (tb' (to opNe (to opIx (tv 1) (tc (.int 0))) (tc (.str "either")))) (tb' (to opNe (tcb caLen (tac (to opIx (tv 1) (tc (.int 1))) tan)) (tcb caLen (tac (to opIx (tv 0) (tc (.int 1))) tan))))) (tret (tc (.bl false))) tnx)
    (tret tnoE)) tnx)
    (tret (tandv (to opEq (to opIx (tv 1) (tc (.int 0))) (tc (.str "maybe"))) (tcall sp_is_set (fun _ _ => False) (tac (to opIx (tv 0) (tc (.int 1))) (tac (to opIx (tv 1) (tc (.int 2))) tan))))))))))
abbrev n_are_rows : List Str := ["kind", "rows", "ranks", "firsts", "row"]
def t_are_rows  : TS' :=
    (tseq (tifs (tnot (tb' tnoE)) (tret (tc (.bl false))) tnx)
    (tseq tno
    (tret (to opEq (tv 2) tnoE))))
abbrev n_fits : List Str := ["kind", "condition", "word"]
def t_fits (sp_fits : Sp') (sp_is_set : Sp') (sp_fits_shape : Sp') : TS' :=
    (tseq (tasg (to opIx (tv 1) (tc (.int 0))) (gn 2))
    (tseq (tifs (torp (tb' (to opEq (tv 2) (tc (.str "true")))) (tb' (to opEq (tv 2) (tc (.str "false"))))) (tret (tc (.bl true))) tnx)
    (tseq (tifs (tb' (to opEq (tv 2) (tc (.str "not")))) (tret (tcall sp_fits (fun _ _ => False) (tac (tv 0) (tac (to opIx (tv 1) (tc (.int 1))) tan)))) tnx)
    (tseq (tifs (torp (tb' (to opEq (tv 2) (tc (.str "and")))) (tb' (to opEq (tv 2) (tc (.str "or"))))) (tret (tandv (tcall sp_fits (fun _ _ => False) (tac (tv 0) (tac (to opIx (tv 1) (tc (.int 1))) tan))) (tcall sp_fits (fun _ _ => False) (tac (tv 0) (tac (to opIx (tv 1) (tc (.int 2))) tan))))) tnx)
    (tseq (tifs (tb' (to opEq (tv 2) (tc (.str "in")))) (tret (tcall sp_is_set (fun _ _ => False) (tac (tv 0) (tac (to opIx (tv 1) (tc (.int 1))) tan)))) tnx)
    (tret (tcall sp_fits_shape (fun _ _ => False) (tac (tv 0) (tac (tv 1) tan)))))))))
abbrev n_fits_shape : List Str := ["kind", "condition", "word", "shape"]
def t_fits_shape (sp_fits : Sp') : TS' :=
    (tseq (tasg (to opIx (tv 1) (tc (.int 0))) (gn 2))
    (tseq (tasg (to opIx (tv 0) (tc (.int 0))) (gn 3))
    (tseq (tifs (tb' (to opEq (tv 2) (tc (.str "is")))) (tret (tandv (to opEq (tv 3) (tc (.str "names"))) (to (opIn false) (to opIx (tv 1) (tc (.int 1))) (to opIx (tv 0) (tc (.int 1)))))) tnx)
    (tseq (tifs (torp (tb' (to opEq (tv 2) (tc (.str "<")))) (torp (tb' (to opEq (tv 2) (tc (.str "=")))) (torp (tb' (to opEq (tv 2) (tc (.str ">")))) (tb' (to opEq (tv 2) (tc (.str "mod"))))))) (tret (to opEq (tv 3) (tc (.str "integers")))) tnx)
    (tseq (tifs (tb' (to opEq (tv 2) (tc (.str "first")))) (tret (tandv (to opEq (tv 3) (tc (.str "pair"))) (tcall sp_fits (fun _ _ => False) (tac (to opIx (tv 0) (tc (.int 1))) (tac (to opIx (tv 1) (tc (.int 1))) tan))))) tnx)
    (tseq (tifs (tb' (to opEq (tv 2) (tc (.str "second")))) (tret (tandv (to opEq (tv 3) (tc (.str "pair"))) (tcall sp_fits (fun _ _ => False) (tac (to opIx (tv 0) (tc (.int 2))) (tac (to opIx (tv 1) (tc (.int 1))) tan))))) tnx)
    (tseq (tifs (tb' (to opEq (tv 2) (tc (.str "case")))) (tret (tandv (to opEq (tv 3) (tc (.str "either"))) (tandv (to opLt (to opIx (tv 1) (tc (.int 1))) (tcb caLen (tac (to opIx (tv 0) (tc (.int 1))) tan))) (tcall sp_fits (fun _ _ => False) (tac (to opIx (to opIx (tv 0) (tc (.int 1))) (to opIx (tv 1) (tc (.int 1)))) (tac (to opIx (tv 1) (tc (.int 2))) tan)))))) tnx)
    (tseq (tifs (tb' (to opEq (tv 2) (tc (.str "none")))) (tret (to opEq (tv 3) (tc (.str "maybe")))) tnx)
    (tret (tandv (to opEq (tv 3) (tc (.str "maybe"))) (tcall sp_fits (fun _ _ => False) (tac (to opIx (tv 0) (tc (.int 1))) (tac (to opIx (tv 1) (tc (.int 1))) tan)))))))))))))
abbrev n_check_condition : List Str := ["kind", "condition"]
def t_check_condition (sp_fits : Sp') (c_BadCondition : Addr) (E' : XK') : TS' :=
    (tifs (tnot (tb' (tcall sp_fits (fun _ _ => False) (tac (tv 0) (tac (tv 1) tan))))) (traise E' (.ref c_BadCondition)) tnx)
abbrev n_met : List Str := ["kind", "condition", "letter", "word"]
def t_met (sp_met : Sp') (sp_contains : Sp') (sp_met_by_value : Sp') : TS' :=
    (tseq (tasg (to opIx (tv 1) (tc (.int 0))) (gn 3))
    (tseq (tifs (torp (tb' (to opEq (tv 3) (tc (.str "true")))) (tb' (to opEq (tv 3) (tc (.str "false"))))) (tret (to opEq (tv 3) (tc (.str "true")))) tnx)
    (tseq (tifs (tb' (to opEq (tv 3) (tc (.str "not")))) (tret (tnotv (tcall sp_met (fun _ _ => False) (tac (tv 0) (tac (to opIx (tv 1) (tc (.int 1))) (tac (tv 2) tan)))))) tnx)
    (tseq (tifs (tb' (to opEq (tv 3) (tc (.str "and")))) (tret (tandv (tcall sp_met (fun _ _ => False) (tac (tv 0) (tac (to opIx (tv 1) (tc (.int 1))) (tac (tv 2) tan)))) (tcall sp_met (fun _ _ => False) (tac (tv 0) (tac (to opIx (tv 1) (tc (.int 2))) (tac (tv 2) tan)))))) tnx)
    (tseq (tifs (tb' (to opEq (tv 3) (tc (.str "or")))) (tret (torv (tcall sp_met (fun _ _ => False) (tac (tv 0) (tac (to opIx (tv 1) (tc (.int 1))) (tac (tv 2) tan)))) (tcall sp_met (fun _ _ => False) (tac (tv 0) (tac (to opIx (tv 1) (tc (.int 2))) (tac (tv 2) tan)))))) tnx)
    (tseq (tifs (tb' (to opEq (tv 3) (tc (.str "in")))) (tret (tcall sp_contains (fun _ _ => False) (tac (tv 0) (tac (to opIx (tv 1) (tc (.int 1))) (tac (tv 2) tan))))) tnx)
    (tseq (tifs (tb' (to opEq (tv 3) (tc (.str "first")))) (tret (tcall sp_met (fun _ _ => False) (tac (to opIx (tv 0) (tc (.int 1))) (tac (to opIx (tv 1) (tc (.int 1))) (tac (to opIx (tv 2) (tc (.int 1))) tan))))) tnx)
    (tseq (tifs (tb' (to opEq (tv 3) (tc (.str "second")))) (tret (tcall sp_met (fun _ _ => False) (tac (to opIx (tv 0) (tc (.int 2))) (tac (to opIx (tv 1) (tc (.int 1))) (tac (to opIx (tv 2) (tc (.int 2))) tan))))) tnx)
    (tseq (tifs (tb' (to opEq (tv 3) (tc (.str "case")))) (tret (tandv (to opEq (to opIx (tv 2) (tc (.int 1))) (to opIx (tv 1) (tc (.int 1)))) (tcall sp_met (fun _ _ => False) (tac (to opIx (to opIx (tv 0) (tc (.int 1))) (to opIx (tv 1) (tc (.int 1)))) (tac (to opIx (tv 1) (tc (.int 2))) (tac (to opIx (tv 2) (tc (.int 2))) tan)))))) tnx)
    (tseq (tifs (tb' (to opEq (tv 3) (tc (.str "none")))) (tret (to opEq (to opIx (tv 2) (tc (.int 0))) (tc (.str "none")))) tnx)
    (tseq (tifs (tb' (to opEq (tv 3) (tc (.str "some")))) (tret (tandv (to opEq (to opIx (tv 2) (tc (.int 0))) (tc (.str "some"))) (tcall sp_met (fun _ _ => False) (tac (to opIx (tv 0) (tc (.int 1))) (tac (to opIx (tv 1) (tc (.int 1))) (tac (to opIx (tv 2) (tc (.int 1))) tan)))))) tnx)
    (tret (tcall sp_met_by_value (fun _ _ => False) (tac (tv 1) (tac (tv 2) tan)))))))))))))))
abbrev n_met_by_value : List Str := ["condition", "letter", "word"]
def t_met_by_value  : TS' :=
    (tseq (tasg (to opIx (tv 0) (tc (.int 0))) (gn 2))
    (tseq (tifs (tb' (to opEq (tv 2) (tc (.str "<")))) (tret (to opLt (tv 1) (to opIx (tv 0) (tc (.int 1))))) tnx)
    (tseq (tifs (tb' (to opEq (tv 2) (tc (.str ">")))) (tret (to opGt (tv 1) (to opIx (tv 0) (tc (.int 1))))) tnx)
    (tseq (tifs (tb' (to opEq (tv 2) (tc (.str "mod")))) (tret (to opEq (to opMod (to opSub (tv 1) (to opIx (tv 0) (tc (.int 2)))) (to opIx (tv 0) (tc (.int 1)))) (tc (.int 0)))) tnx)
    (tret (to opEq (tv 1) (to opIx (tv 0) (tc (.int 1)))))))))
abbrev n_meets : List Str := ["kind", "condition", "letter"]
def t_meets (sp_check_condition : Sp') (sp_check_letter : Sp') (sp_met : Sp') (E' : XK') : TS' :=
    (tseq (tdrop (tcall sp_check_condition E' (tac (tv 0) (tac (tv 1) tan))))
    (tseq (tdrop (tcall sp_check_letter E' (tac (tv 0) (tac (tv 2) tan))))
    (tret (tcall sp_met (fun _ _ => False) (tac (tv 0) (tac (tv 1) (tac (tv 2) tan)))))))
abbrev n__law_any_kind : List Str := ["tape", "choice"]
def t__law_any_kind (sp__law_draw : Sp') (sp__law_kind : Sp') : TS' :=
    (tseq (tasg (tcall sp__law_draw (fun _ _ => False) (tac (tv 0) (tac (tc (.int 5)) tan))) (gn 1))
    (tseq (tifs (tb' (to opLt (tv 1) (tc (.int 2)))) (tret (ttup (tac (tc (.str "integers")) tan))) tnx)
    (tret (tcall sp__law_kind (fun _ _ => False) (tac (tv 0) (tac (tc (.int 3)) (tac (to opIx (tlis (tac (tc (.int 6)) (tac (tc (.int 3)) (tac (tc (.int 6)) tan)))) (to opSub (tv 1) (tc (.int 2)))) tan)))))))
abbrev n__law_conditions : List Str := ["condition"]
def t__law_conditions (sp__law_conditions : Sp') : TS' :=
    (tseq (tifs (tb' (to (opIn false) (to opIx (tv 0) (tc (.int 0))) (tlis (tac (tc (.str "not")) (tac (tc (.str "first")) (tac (tc (.str "second")) (tac (tc (.str "some")) tan))))))) (tret (to opAdd (tc (.int 1)) (tcall sp__law_conditions (fun _ _ => False) (tac (to opIx (tv 0) (tc (.int 1))) tan)))) tnx)
    (tseq (tifs (tb' (to (opIn false) (to opIx (tv 0) (tc (.int 0))) (tlis (tac (tc (.str "and")) (tac (tc (.str "or")) tan))))) (tret (to opAdd (to opAdd (tc (.int 1)) (tcall sp__law_conditions (fun _ _ => False) (tac (to opIx (tv 0) (tc (.int 1))) tan))) (tcall sp__law_conditions (fun _ _ => False) (tac (to opIx (tv 0) (tc (.int 2))) tan)))) tnx)
    (tseq (tifs (tb' (to opEq (to opIx (tv 0) (tc (.int 0))) (tc (.str "case")))) (tret (to opAdd (tc (.int 1)) (tcall sp__law_conditions (fun _ _ => False) (tac (to opIx (tv 0) (tc (.int 2))) tan)))) tnx)
    (tret (tc (.int 1))))))
abbrev n__law_comparison : List Str := ["tape", "theory", "choice", "number"]
def t__law_comparison (sp__law_draw : Sp') : TS' :=
    (tseq (tasg (tcall sp__law_draw (fun _ _ => False) (tac (tv 0) (tac (tc (.int 6)) tan))) (gn 2))
    (tseq (tasg (to opSub (tcall sp__law_draw (fun _ _ => False) (tac (tv 0) (tac (to opAdd (to opMul (tc (.int 2)) (to opIx (tv 1) (tc (.int 0)))) (tc (.int 1))) tan))) (to opIx (tv 1) (tc (.int 0)))) (gn 3))
    (tseq (tmid (tifs (tb' (to opLt (tv 2) (tc (.int 3)))) (tasg (to opIx (tlis (tac (tc (.int 0)) (tac (to opIx (tv 1) (tc (.int 0))) (tac (tu unNeg (to opIx (tv 1) (tc (.int 0)))) tan)))) (tv 2)) (gn 3)) tnx))
    (tret (ttup (tac (to opIx (tlis (tac (tc (.str "<")) (tac (tc (.str "=")) (tac (tc (.str ">")) tan)))) (tcall sp__law_draw (fun _ _ => False) (tac (tv 0) (tac (tc (.int 3)) tan)))) (tac (tv 3) tan)))))))
abbrev n__law_modulus : List Str := ["tape", "theory", "m", "moduli"]
def t__law_modulus (sp__law_draw : Sp') : TS' :=
    (tseq (tasg (tlc (tse (tlis (tac (tc (.int 1)) (tac (tc (.int 2)) (tac (tc (.int 3)) (tac (tc (.int 4)) tan)))))) 2 (tb' (to opEq (to opMod (tcb caInt (tac (to opIx (tv 1) (tc (.int 1))) tan)) (tv 2)) (tc (.int 0)))) (tv 2)) (gn 3))
    (tseq (tasg (to opIx (tv 3) (tcb caMax (tac (tcall sp__law_draw (fun _ _ => False) (tac (tv 0) (tac (tcb caLen (tac (tv 3) tan)) tan))) (tac (tcall sp__law_draw (fun _ _ => False) (tac (tv 0) (tac (tcb caLen (tac (tv 3) tan)) tan))) tan)))) (gn 2))
    (tret (ttup (tac (tc (.str "mod")) (tac (tv 2) (tac (tcall sp__law_draw (fun _ _ => False) (tac (tv 0) (tac (tv 2) tan))) tan)))))))
abbrev n__law_leaf : List Str := ["tape", "kind", "theory", "room", "choice", "side", "i"]
def t__law_leaf (sp__law_draw : Sp') (sp__law_modulus : Sp') (sp__law_comparison : Sp') (sp__law_condition : Sp') : TS' :=
    (tseq (tasg (tcall sp__law_draw (fun _ _ => False) (tac (tv 0) (tac (tc (.int 9)) tan))) (gn 4))
    (tseq (tifs (tb' (to opEq (tv 4) (tc (.int 0)))) (tret (to opIx (tlis (tac (ttup (tac (tc (.str "true")) tan)) (tac (ttup (tac (tc (.str "false")) tan)) tan))) (tcall sp__law_draw (fun _ _ => False) (tac (tv 0) (tac (tc (.int 2)) tan))))) tnx)
    (tseq (tifs (tb' (to opEq (to opIx (tv 1) (tc (.int 0))) (tc (.str "names")))) (tret (ttup (tac (tc (.str "is")) (tac (to opIx (to opIx (tv 1) (tc (.int 1))) (tcall sp__law_draw (fun _ _ => False) (tac (tv 0) (tac (tcb caLen (tac (to opIx (tv 1) (tc (.int 1))) tan)) tan)))) tan)))) tnx)
    (tseq (tifs (tb' (to opEq (to opIx (tv 1) (tc (.int 0))) (tc (.str "integers")))) (tseq (tifs (tand (tb' (to opLt (tv 4) (tc (.int 4)))) (tb' (to opGt (to opIx (tv 2) (tc (.int 1))) (tc (.int 1))))) (tret (tcall sp__law_modulus (fun _ _ => False) (tac (tv 0) (tac (tv 2) tan)))) tnx)
    (tret (tcall sp__law_comparison (fun _ _ => False) (tac (tv 0) (tac (tv 2) tan))))) tnx)
    (tseq (tifs (tand (tb' (to opEq (to opIx (tv 1) (tc (.int 0))) (tc (.str "maybe")))) (torp (tb' (to opEq (tv 3) (tc (.int 1)))) (tb' (to opEq (tv 4) (tc (.int 1)))))) (tret (ttup (tac (tc (.str "none")) tan))) tnx)
    (tseq (tifs (tb' (to opEq (tv 3) (tc (.int 1)))) (tret (ttup (tac (tc (.str "true")) tan))) tnx)
    (tseq (tifs (tb' (to opEq (to opIx (tv 1) (tc (.int 0))) (tc (.str "pair")))) (tseq (tasg (tcall sp__law_draw (fun _ _ => False) (tac (tv 0) (tac (tc (.int 2)) tan))) (gn 5))
    (tret (ttup (tac (to opIx (tlis (tac (tc (.str "first")) (tac (tc (.str "second")) tan))) (tv 5)) (tac (tcall sp__law_condition (fun _ _ => False) (tac (tv 0) (tac (to opIx (tv 1) (to opAdd (tc (.int 1)) (tv 5))) (tac (tv 2) (tac (to opSub (tv 3) (tc (.int 1))) tan))))) tan))))) tnx)
    (tseq (tifs (tb' (to opEq (to opIx (tv 1) (tc (.int 0))) (tc (.str "either")))) (tseq (tasg (tcall sp__law_draw (fun _ _ => False) (tac (tv 0) (tac (tcb caLen (tac (to opIx (tv 1) (tc (.int 1))) tan)) tan))) (gn 6))
    (tret (ttup (tac (tc (.str "case")) (tac (tv 6) (tac (tcall sp__law_condition (fun _ _ => False) (tac (tv 0) (tac (to opIx (to opIx (tv 1) (tc (.int 1))) (tv 6)) (tac (tv 2) (tac (to opSub (tv 3) (tc (.int 1))) tan))))) tan)))))) tnx)
    (tret (ttup (tac (tc (.str "some")) (tac (tcall sp__law_condition (fun _ _ => False) (tac (tv 0) (tac (to opIx (tv 1) (tc (.int 1))) (tac (tv 2) (tac (to opSub (tv 3) (tc (.int 1))) tan))))) tan))))))))))))
abbrev n__law_condition : List Str := ["tape", "kind", "theory", "room", "choice", "first", "second"]
def t__law_condition (sp__law_draw : Sp') (sp__law_condition : Sp') (sp__law_conditions : Sp') (sp__law_leaf : Sp') : TS' :=
    (tseq (tasg (tcall sp__law_draw (fun _ _ => False) (tac (tv 0) (tac (tc (.int 10)) tan))) (gn 4))
    (tseq (tifs (tand (tb' (to opGt (tv 3) (tc (.int 1)))) (tb' (to opEq (tv 4) (tc (.int 0))))) (tret (ttup (tac (tc (.str "not")) (tac (tcall sp__law_condition (fun _ _ => False) (tac (tv 0) (tac (tv 1) (tac (tv 2) (tac (to opSub (tv 3) (tc (.int 1))) tan))))) tan)))) tnx)
    (tseq (tifs (tand (tb' (to opGt (tv 3) (tc (.int 2)))) (tb' (to opLt (tv 4) (tc (.int 6))))) (tseq (tasg (tcall sp__law_condition (fun _ _ => False) (tac (tv 0) (tac (tv 1) (tac (tv 2) (tac (to opSub (tv 3) (tc (.int 2))) tan))))) (gn 5))
    (tseq (tasg (tcall sp__law_condition (fun _ _ => False) (tac (tv 0) (tac (tv 1) (tac (tv 2) (tac (to opSub (to opSub (tv 3) (tc (.int 1))) (tcall sp__law_conditions (fun _ _ => False) (tac (tv 5) tan))) tan))))) (gn 6))
    (tret (ttup (tac (to opIx (tlis (tac (tc (.str "and")) (tac (tc (.str "or")) tan))) (tcall sp__law_draw (fun _ _ => False) (tac (tv 0) (tac (tc (.int 2)) tan)))) (tac (tv 5) (tac (tv 6) tan))))))) tnx)
    (tret (tcall sp__law_leaf (fun _ _ => False) (tac (tv 0) (tac (tv 1) (tac (tv 2) (tac (tv 3) tan)))))))))
abbrev n__law_in : List Str := ["letters", "letter", "low", "high", "row"]
def t__law_in (sp__law_in : Sp') : TS' :=
    (tseq (tifs (tb' (to opEq (to opIx (tv 0) (tc (.int 0))) (tc (.str "names")))) (tret (to (opIn false) (tv 1) (to opIx (tv 0) (tc (.int 1))))) tnx)
    (tseq (tifs (tb' (to opEq (to opIx (tv 0) (tc (.int 0))) (tc (.str "integers")))) (tseq (tasg (to opIx (to opIx (tv 0) (tc (.int 1))) (tc (.int 0))) (gn 2))
    (tseq (tasg (to opIx (to opIx (tv 0) (tc (.int 3))) (tc (.int 0))) (gn 3))
    (tseq (tifs (tb' (to opGe (tv 1) (tv 3))) (tret (to opIx (to opIx (to opIx (tv 0) (tc (.int 3))) (tc (.int 1))) (to opMod (tcb caInt (tac (to opSub (tv 1) (tv 3)) tan)) (tcb caLen (tac (to opIx (to opIx (tv 0) (tc (.int 3))) (tc (.int 1))) tan))))) tnx)
    (tseq (tifs (tb' (to opLe (tv 1) (tv 2))) (tret (to opIx (to opIx (to opIx (tv 0) (tc (.int 1))) (tc (.int 1))) (to opMod (tcb caInt (tac (to opSub (tv 2) (tv 1)) tan)) (tcb caLen (tac (to opIx (to opIx (tv 0) (tc (.int 1))) (tc (.int 1))) tan))))) tnx)
    (tret (to (opIn false) (tv 1) (to opIx (tv 0) (tc (.int 2))))))))) tnx)
    (tseq (tifs (tb' (to opEq (to opIx (tv 0) (tc (.int 0))) (tc (.str "pairs")))) (tseq (tfor (tse (to opIx (tv 0) (tc (.int 1)))) (gn 4) (tifs (tb' (tcall sp__law_in (fun _ _ => False) (tac (to opIx (tv 4) (tc (.int 0))) (tac (to opIx (tv 1) (tc (.int 1))) tan)))) (tret (tcall sp__law_in (fun _ _ => False) (tac (to opIx (tv 4) (tc (.int 1))) (tac (to opIx (tv 1) (tc (.int 2))) tan)))) tnx))
    (tret (tc (.bl false)))) tnx)
    (tseq (tifs (tb' (to opEq (to opIx (tv 0) (tc (.int 0))) (tc (.str "either")))) (tret (tcall sp__law_in (fun _ _ => False) (tac (to opIx (to opIx (tv 0) (tc (.int 1))) (to opIx (tv 1) (tc (.int 1)))) (tac (to opIx (tv 1) (tc (.int 2))) tan)))) tnx)
    (tseq (tifs (tb' (to opEq (to opIx (tv 1) (tc (.int 0))) (tc (.str "none")))) (tret (to opIx (tv 0) (tc (.int 1)))) tnx)
    (tret (tcall sp__law_in (fun _ _ => False) (tac (to opIx (tv 0) (tc (.int 2))) (tac (to opIx (tv 1) (tc (.int 1))) tan)))))))))
abbrev n__law_meets : List Str := ["condition", "letter", "head"]
def t__law_meets (sp__law_meets : Sp') (sp__law_in : Sp') : TS' :=
    (tseq (tasg (to opIx (tv 0) (tc (.int 0))) (gn 2))
    (tseq (tifs (tb' (to opEq (tv 2) (tc (.str "<")))) (tret (to opLt (tv 1) (to opIx (tv 0) (tc (.int 1))))) tnx)
    (tseq (tifs (tb' (to opEq (tv 2) (tc (.str ">")))) (tret (to opGt (tv 1) (to opIx (tv 0) (tc (.int 1))))) tnx)
    (tseq (tifs (tb' (to opEq (tv 2) (tc (.str "mod")))) (tret (to opEq (to opMod (tcb caInt (tac (to opSub (tv 1) (to opIx (tv 0) (tc (.int 2)))) tan)) (to opIx (tv 0) (tc (.int 1)))) (tc (.int 0)))) tnx)
    (tseq (tifs (torp (tb' (to opEq (tv 2) (tc (.str "=")))) (tb' (to opEq (tv 2) (tc (.str "is"))))) (tret (to opEq (tv 1) (to opIx (tv 0) (tc (.int 1))))) tnx)
    (tseq (tifs (tb' (to opEq (tv 2) (tc (.str "and")))) (tret (tandv (tcall sp__law_meets (fun _ _ => False) (tac (to opIx (tv 0) (tc (.int 1))) (tac (tv 1) tan))) (tcall sp__law_meets (fun _ _ => False) (tac (to opIx (tv 0) (tc (.int 2))) (tac (tv 1) tan))))) tnx)
    (tseq (tifs (tb' (to opEq (tv 2) (tc (.str "or")))) (tret (torv (tcall sp__law_meets (fun _ _ => False) (tac (to opIx (tv 0) (tc (.int 1))) (tac (tv 1) tan))) (tcall sp__law_meets (fun _ _ => False) (tac (to opIx (tv 0) (tc (.int 2))) (tac (tv 1) tan))))) tnx)
    (tseq (tifs (tb' (to opEq (tv 2) (tc (.str "not")))) (tret (tnotv (tcall sp__law_meets (fun _ _ => False) (tac (to opIx (tv 0) (tc (.int 1))) (tac (tv 1) tan))))) tnx)
    (tseq (tifs (tb' (to opEq (tv 2) (tc (.str "first")))) (tret (tcall sp__law_meets (fun _ _ => False) (tac (to opIx (tv 0) (tc (.int 1))) (tac (to opIx (tv 1) (tc (.int 1))) tan)))) tnx)
    (tseq (tifs (tb' (to opEq (tv 2) (tc (.str "second")))) (tret (tcall sp__law_meets (fun _ _ => False) (tac (to opIx (tv 0) (tc (.int 1))) (tac (to opIx (tv 1) (tc (.int 2))) tan)))) tnx)
    (tseq (tifs (tb' (to opEq (tv 2) (tc (.str "case")))) (tret (tandv (to opEq (to opIx (tv 1) (tc (.int 1))) (to opIx (tv 0) (tc (.int 1)))) (tcall sp__law_meets (fun _ _ => False) (tac (to opIx (tv 0) (tc (.int 2))) (tac (to opIx (tv 1) (tc (.int 2))) tan))))) tnx)
    (tseq (tifs (tb' (to opEq (tv 2) (tc (.str "some")))) (tret (tandv (to opEq (to opIx (tv 1) (tc (.int 0))) (tc (.str "some"))) (tcall sp__law_meets (fun _ _ => False) (tac (to opIx (tv 0) (tc (.int 1))) (tac (to opIx (tv 1) (tc (.int 1))) tan))))) tnx)
    (tseq (tifs (tb' (to opEq (tv 2) (tc (.str "none")))) (tret (to opEq (to opIx (tv 1) (tc (.int 0))) (tc (.str "none")))) tnx)
    (tseq (tifs (tb' (to opEq (tv 2) (tc (.str "in")))) (tret (tcall sp__law_in (fun _ _ => False) (tac (to opIx (tv 0) (tc (.int 1))) (tac (tv 1) tan)))) tnx)
    (tret (to opEq (tv 2) (tc (.str "true"))))))))))))))))))
abbrev n__law_misfit : List Str := ["tape", "kind", "true", "forms", "left", "choice", "form"]
def t__law_misfit (sp__law_draw : Sp') (sp__law_strange : Sp') : TS' :=
    (tseq (tasg (ttup (tac (tc (.str "true")) tan)) (gn 2))
    (tseq (tasg (tlis (tac (tlis (tac (tc (.str "names")) (tac (ttup (tac (tc (.str "is")) (tac (tc (.str "q")) tan))) tan))) (tac (tlis (tac (tc (.str "integers")) (tac (ttup (tac (tc (.str "<")) (tac (tc (.int 3)) tan))) tan))) (tac (tlis (tac (tc (.str "integers")) (tac (ttup (tac (tc (.str "=")) (tac (tc (.int 0)) tan))) tan))) (tac (tlis (tac (tc (.str "integers")) (tac (ttup (tac (tc (.str ">")) (tac (tu unNeg (tc (.int 1))) tan))) tan))) tan))))) (gn 3))
    (tseq (tasg (to opAdd (tv 3) (tlis (tac (tlis (tac (tc (.str "integers")) (tac (ttup (tac (tc (.str "mod")) (tac (tc (.int 2)) (tac (tc (.int 1)) tan)))) tan))) (tac (tlis (tac (tc (.str "pair")) (tac (ttup (tac (tc (.str "first")) (tac (tv 2) tan))) tan))) (tac (tlis (tac (tc (.str "pair")) (tac (ttup (tac (tc (.str "second")) (tac (tv 2) tan))) tan))) tan))))) (gn 3))
    (tseq (tasg (to opAdd (tv 3) (tlis (tac (tlis (tac (tc (.str "either")) (tac (ttup (tac (tc (.str "case")) (tac (tc (.int 0)) (tac (tv 2) tan)))) tan))) (tac (tlis (tac (tc (.str "either")) (tac (ttup (tac (tc (.str "case")) (tac (tc (.int 2)) (tac (tv 2) tan)))) tan))) (tac (tlis (tac (tc (.str "maybe")) (tac (ttup (tac (tc (.str "none")) tan)) tan))) tan))))) (gn 3))
    (tseq (tasg (to opAdd (tv 3) (tlis (tac (tlis (tac (tc (.str "maybe")) (tac (ttup (tac (tc (.str "some")) (tac (tv 2) tan))) tan))) (tac (tlis (tac (tc (.str "names")) (tac (ttup (tac (tc (.str "in")) (tac (ttup (tac (tc (.str "names")) (tac (ttup tan) tan))) tan))) tan))) (tac (tlis (tac (tc (.str "pair")) (tac (ttup (tac (tc (.str "in")) (tac (ttup (tac (tc (.str "pairs")) (tac (ttup tan) tan))) tan))) tan))) tan))))) (gn 3))
    (tseq (tasg (tlc (tse (tv 3)) 6 (tb' (to opNe (to opIx (tv 6) (tc (.int 0))) (to opIx (tv 1) (tc (.int 0))))) (to opIx (tv 6) (tc (.int 1)))) (gn 4))
    (tseq (tasg (tcall sp__law_draw (fun _ _ => False) (tac (tv 0) (tac (tc (.int 2)) tan))) (gn 5))
    (tseq (tifs (tand (tb' (to opEq (tv 5) (tc (.int 0)))) (tb' (to opEq (to opIx (tv 1) (tc (.int 0))) (tc (.str "names"))))) (tret (ttup (tac (tc (.str "is")) (tac (tcall sp__law_strange (fun _ _ => False) (tac (to opIx (tv 1) (tc (.int 1))) tan)) tan)))) tnx)
    (tseq (tifs (tand (tb' (to opEq (tv 5) (tc (.int 0)))) (tand (tb' (to opEq (to opIx (tv 1) (tc (.int 0))) (tc (.str "either")))) (tb' (to opLt (tcb caLen (tac (to opIx (tv 1) (tc (.int 1))) tan)) (tc (.int 3)))))) (tret (ttup (tac (tc (.str "case")) (tac (tcb caLen (tac (to opIx (tv 1) (tc (.int 1))) tan)) (tac (tv 2) tan))))) tnx)
    (tret (to opIx (tv 4) (tcall sp__law_draw (fun _ _ => False) (tac (tv 0) (tac (tcb caLen (tac (tv 4) tan)) tan))))))))))))))
abbrev n__law_wrong : List Str := ["tape", "kind", "condition", "choice", "head", "side"]
def t__law_wrong (sp__law_draw : Sp') (sp__law_wrong : Sp') (sp__law_misfit : Sp') : TS' :=
    (tseq (tasg (tcall sp__law_draw (fun _ _ => False) (tac (tv 0) (tac (tc (.int 4)) tan))) (gn 3))
    (tseq (tasg (to opIx (tv 2) (tc (.int 0))) (gn 4))
    (tseq (tifs (tand (tb' (to opGt (tv 3) (tc (.int 0)))) (tb' (to (opIn false) (tv 4) (tlis (tac (tc (.str "and")) (tac (tc (.str "or")) tan)))))) (tseq (tasg (to opAdd (tc (.int 1)) (tcall sp__law_draw (fun _ _ => False) (tac (tv 0) (tac (tc (.int 2)) tan)))) (gn 5))
    (tret (to opAdd (to opAdd (tsl (tv 2) tpn (tpe (tv 5))) (ttup (tac (tcall sp__law_wrong (fun _ _ => False) (tac (tv 0) (tac (tv 1) (tac (to opIx (tv 2) (tv 5)) tan)))) tan))) (tsl (tv 2) (tpe (to opAdd (tv 5) (tc (.int 1)))) tpn)))) tnx)
    (tseq (tifs (tand (tb' (to opGt (tv 3) (tc (.int 0)))) (tb' (to opEq (tv 4) (tc (.str "not"))))) (tret (ttup (tac (tv 4) (tac (tcall sp__law_wrong (fun _ _ => False) (tac (tv 0) (tac (tv 1) (tac (to opIx (tv 2) (tc (.int 1))) tan)))) tan)))) tnx)
    (tseq (tifs (tand (tb' (to opGt (tv 3) (tc (.int 0)))) (tb' (to (opIn false) (tv 4) (tlis (tac (tc (.str "first")) (tac (tc (.str "second")) (tac (tc (.str "some")) tan))))))) (tret (ttup (tac (tv 4) (tac (tcall sp__law_wrong (fun _ _ => False) (tac (tv 0) (tac (to opIx (tv 1) (to opAdd (tc (.int 1)) (tcb caInt (tac (to opEq (tv 4) (tc (.str "second"))) tan)))) (tac (to opIx (tv 2) (tc (.int 1))) tan)))) tan)))) tnx)
    (tseq (tifs (tand (tb' (to opGt (tv 3) (tc (.int 0)))) (tb' (to opEq (tv 4) (tc (.str "case"))))) (tret (ttup (tac (tv 4) (tac (to opIx (tv 2) (tc (.int 1))) (tac (tcall sp__law_wrong (fun _ _ => False) (tac (tv 0) (tac (to opIx (to opIx (tv 1) (tc (.int 1))) (to opIx (tv 2) (tc (.int 1)))) (tac (to opIx (tv 2) (tc (.int 2))) tan)))) tan))))) tnx)
    (tret (tcall sp__law_misfit (fun _ _ => False) (tac (tv 0) (tac (tv 1) tan))))))))))
abbrev n__law_varied : List Str := ["tape", "kind", "condition", "theory", "choice", "head", "side", "number"]
def t__law_varied (sp__law_draw : Sp') (sp__law_varied : Sp') (sp__law_condition : Sp') : TS' :=
    (tseq (tasg (tcall sp__law_draw (fun _ _ => False) (tac (tv 0) (tac (tc (.int 5)) tan))) (gn 4))
    (tseq (tasg (to opIx (tv 2) (tc (.int 0))) (gn 5))
    (tseq (tifs (tand (tb' (to opGt (tv 4) (tc (.int 0)))) (tb' (to (opIn false) (tv 5) (tlis (tac (tc (.str "and")) (tac (tc (.str "or")) tan)))))) (tseq (tasg (to opAdd (tc (.int 1)) (tcall sp__law_draw (fun _ _ => False) (tac (tv 0) (tac (tc (.int 2)) tan)))) (gn 6))
    (tret (to opAdd (to opAdd (tsl (tv 2) tpn (tpe (tv 6))) (ttup (tac (tcall sp__law_varied (fun _ _ => False) (tac (tv 0) (tac (tv 1) (tac (to opIx (tv 2) (tv 6)) (tac (tv 3) tan))))) tan))) (tsl (tv 2) (tpe (to opAdd (tv 6) (tc (.int 1)))) tpn)))) tnx)
    (tseq (tifs (tand (tb' (to opGt (tv 4) (tc (.int 0)))) (tb' (to opEq (tv 5) (tc (.str "not"))))) (tret (ttup (tac (tv 5) (tac (tcall sp__law_varied (fun _ _ => False) (tac (tv 0) (tac (tv 1) (tac (to opIx (tv 2) (tc (.int 1))) (tac (tv 3) tan))))) tan)))) tnx)
    (tseq (tifs (tand (tb' (to opGt (tv 4) (tc (.int 0)))) (tb' (to (opIn false) (tv 5) (tlis (tac (tc (.str "first")) (tac (tc (.str "second")) (tac (tc (.str "some")) tan))))))) (tret (ttup (tac (tv 5) (tac (tcall sp__law_varied (fun _ _ => False) (tac (tv 0) (tac (to opIx (tv 1) (to opAdd (tc (.int 1)) (tcb caInt (tac (to opEq (tv 5) (tc (.str "second"))) tan)))) (tac (to opIx (tv 2) (tc (.int 1))) (tac (tv 3) tan))))) tan)))) tnx)
    (tseq (tifs (tand (tb' (to opGt (tv 4) (tc (.int 0)))) (tb' (to opEq (tv 5) (tc (.str "case"))))) (tret (ttup (tac (tv 5) (tac (to opIx (tv 2) (tc (.int 1))) (tac (tcall sp__law_varied (fun _ _ => False) (tac (tv 0) (tac (to opIx (to opIx (tv 1) (tc (.int 1))) (to opIx (tv 2) (tc (.int 1)))) (tac (to opIx (tv 2) (tc (.int 2))) (tac (tv 3) tan))))) tan))))) tnx)
    (tseq (tmid (tifs (tand (tb' (to opGt (tv 4) (tc (.int 0)))) (tb' (to (opIn false) (tv 5) (tlis (tac (tc (.str "<")) (tac (tc (.str "=")) (tac (tc (.str ">")) tan))))))) (tseq (tasg (to opSub (to opAdd (to opIx (tv 2) (tc (.int 1))) (tc (.int 1))) (to opMul (tc (.int 2)) (tcall sp__law_draw (fun _ _ => False) (tac (tv 0) (tac (tc (.int 2)) tan))))) (gn 7))
    (tifs (tb' (to opLe (tcb caAbs (tac (tv 7) tan)) (to opIx (tv 3) (tc (.int 0))))) (tret (ttup (tac (tv 5) (tac (tv 7) tan)))) tnx)) tnx))
    (tret (tcall sp__law_condition (fun _ _ => False) (tac (tv 0) (tac (tv 1) (tac (tv 3) (tac (tc (.int 1)) tan)))))))))))))
abbrev n__law_refusal : List Str := ["kind", "condition", "letter", "e"]
def t__law_refusal (sp_meets : Sp') (sp__law_error : Value → Addr → Sp') (ct_GuardError : Value → Option Bool) : TS' :=
    (tseq (ttry sp_meets (tac (tv 0) (tac (tv 1) (tac (tv 2) tan))) ct_GuardError 3 fun cl ae => (tret (tcall (sp__law_error cl ae) (fun _ _ => False) (tac (tv 3) tan))))
    (tret (tc (.int 99))))
abbrev n__law_answers : List Str := ["kind", "condition", "letter", "told"]
def t__law_answers (sp_meets : Sp') (sp__law_meets : Sp') : TS' :=
    (tseq (tasg (tcall sp_meets (fun _ _ => False) (tac (tv 0) (tac (tv 1) (tac (tv 2) tan)))) (gn 3))
    (tret (tandv (tcb caIs (tac (tv 3) (tac (tc (.ty "bool")) tan))) (to opEq (tv 3) (tcall sp__law_meets (fun _ _ => False) (tac (tv 1) (tac (tv 2) tan)))))))
abbrev n_law : List Str := ["script", "tape", "kind", "first", "second", "third", "letter", "letters", "condition", "asked", "wrong", "strange"]
def t_law (sp__law_tape : Sp') (sp__law_any_kind : Sp') (sp__law_condition : Sp') (sp__law_varied : Sp') (sp__law_letter : Sp') (sp__law_near : Sp') (sp__law_answers : Sp') (sp__law_wrong : Sp') (sp__law_foreign : Sp') (sp__law_refusal : Sp') : TS' :=
    (tseq (tasg (tcall sp__law_tape (fun _ _ => False) (tac (tv 0) tan)) (gn 1))
    (tseq (tasg (tcall sp__law_any_kind (fun _ _ => False) (tac (tv 1) tan)) (gn 2))
    (tseq (tasg (tcall sp__law_condition (fun _ _ => False) (tac (tv 1) (tac (tv 2) (tac (ttup (tac (tc (.int 20)) (tac (tc (.int 12)) tan))) (tac (tc (.int 7)) tan))))) (gn 3))
    (tseq (tasg (tcall sp__law_varied (fun _ _ => False) (tac (tv 1) (tac (tv 2) (tac (tv 3) (tac (ttup (tac (tc (.int 20)) (tac (tc (.int 12)) tan))) tan))))) (gn 4))
    (tseq (tasg (tcall sp__law_condition (fun _ _ => False) (tac (tv 1) (tac (tv 2) (tac (ttup (tac (tc (.int 20)) (tac (tc (.int 12)) tan))) (tac (tc (.int 8)) tan))))) (gn 5))
    (tseq (tasg (tcall sp__law_letter (fun _ _ => False) (tac (tv 1) (tac (tv 2) (tac (ttup (tac (tc (.int 20)) (tac (tc (.int 12)) tan))) tan)))) (gn 6))
    (tseq (tasg (tlis (tac (tv 6) (tac (tcall sp__law_near (fun _ _ => False) (tac (tv 1) (tac (tv 2) (tac (tv 6) tan)))) (tac (tcall sp__law_letter (fun _ _ => False) (tac (tv 1) (tac (tv 2) (tac (ttup (tac (tc (.int 20)) (tac (tc (.int 12)) tan))) tan)))) tan)))) (gn 7))
    (tseq (tfor (tse (tlis (tac (tv 3) (tac (tv 4) (tac (tv 5) (tac (tv 3) tan)))))) (gn 8) (tfor (tse (to opAdd (tv 7) (tlis (tac (tv 6) tan)))) (gn 9) (tifs (tnot (tb' (tcall sp__law_answers (fun _ _ => False) (tac (tv 2) (tac (tv 8) (tac (tv 9) tan)))))) (tret (tc (.bl false))) tnx)))
    (tseq (tasg (tcall sp__law_wrong (fun _ _ => False) (tac (tv 1) (tac (tv 2) (tac (tv 3) tan)))) (gn 10))
    (tseq (tasg (tcall sp__law_foreign (fun _ _ => False) (tac (tv 1) (tac (tv 2) (tac (tv 6) tan)))) (gn 11))
    (tseq (tifs (tor (tb' (to opNe (tcall sp__law_refusal (fun _ _ => False) (tac (tv 2) (tac (tv 10) (tac (tv 6) tan)))) (tc (.int 1)))) (tnot (tb' (tcall sp__law_answers (fun _ _ => False) (tac (tv 2) (tac (tv 3) (tac (tv 6) tan))))))) (tret (tc (.bl false))) tnx)
    (tseq (tifs (tor (tb' (to opNe (tcall sp__law_refusal (fun _ _ => False) (tac (tv 2) (tac (tv 10) (tac (tv 11) tan)))) (tc (.int 1)))) (tb' (to opNe (tcall sp__law_refusal (fun _ _ => False) (tac (tv 2) (tac (tv 3) (tac (tv 11) tan)))) (tc (.int 0))))) (tret (tc (.bl false))) tnx)
    (tret (tandv (to opEq (tcall sp__law_refusal (fun _ _ => False) (tac (tv 2) (tac (tv 4) (tac (tv 11) tan)))) (tc (.int 0))) (to opEq (tcall sp__law_refusal (fun _ _ => False) (tac (tv 2) (tac (tv 3) (tac (to opIx (tv 7) (tc (.int 1))) tan)))) (tc (.int 99)))))))))))))))))
end K04

set_option Elab.async false
set_option linter.all false
namespace K22
open PySem PySem.Spec PyProof.Rows L2 DL
abbrev n_behind_letter : List Str := ["machine", "states", "letter", "step"]
def t_behind_letter (sp_met : Sp') : TS' :=
    (tret (tcb caTup (tac (tsrt (tse (to opIx (tv 0) (tc (.int 4)))) 3 (tand (tb' (to (opIn false) (to opIx (tv 3) (tc (.int 0))) (tv 1))) (tb' (tcall sp_met (fun _ _ => False) (tac (to opIx (tv 0) (tc (.int 0))) (tac (to opIx (tv 3) (tc (.int 1))) (tac (tv 2) tan)))))) (to opIx (tv 3) (tc (.int 2)))) tan)))
abbrev n_states_behind : List Str := ["machine", "word", "states", "letter"]
def t_states_behind (sp_check_word : Sp') (sp_behind_letter : Sp') (E' : XK') : TS' :=
    (tseq (tdrop (tcall sp_check_word E' (tac (to opIx (tv 0) (tc (.int 0))) (tac (tv 1) tan))))
    (tseq (tasg (to opIx (tv 0) (tc (.int 2))) (gn 2))
    (tseq (tfor (tse (tv 1)) (gn 3) (tasg (tcall sp_behind_letter (fun _ _ => False) (tac (tv 0) (tac (tv 2) (tac (tv 3) tan)))) (gn 2)))
    (tret (tv 2)))))
abbrev n_has_end : List Str := ["machine", "states", "state"]
def t_has_end  : TS' :=
    (tret (tcb caAny (tac (tlc (tse (tv 1)) 2 tyes (to (opIn false) (tv 2) (to opIx (tv 0) (tc (.int 3))))) tan)))
abbrev n_takes : List Str := ["machine", "word"]
def t_takes (sp_states_behind : Sp') (sp_has_end : Sp') (E' : XK') : TS' :=
    (tret (tcall sp_has_end (fun _ _ => False) (tac (tv 0) (tac (tcall sp_states_behind E' (tac (tv 0) (tac (tv 1) tan))) tan))))
abbrev n__law_shortest : List Str := ["truths", "many"]
def t__law_shortest  : TS' :=
    (tseq (tfor (trg2 (tac (tc (.int 1)) (tac (tcb caLen (tac (tv 0) tan)) tan))) (gn 1) (tifs (tand (tb' (to opEq (to opMod (tcb caInt (tac (tcb caLen (tac (tv 0) tan)) tan)) (tv 1)) (tc (.int 0)))) (tb' (to opEq (tsl (tv 0) (tpe (tv 1)) tpn) (tsl (tv 0) tpn (tpe (to opSub (tcb caLen (tac (tv 0) tan)) (tv 1))))))) (tret (tsl (tv 0) tpn (tpe (tv 1)))) tnx))
    (tret (tv 0)))
abbrev n__law_integers_of : List Str := ["theory", "found", "high", "low", "above", "below", "k", "members", "x"]
def t__law_integers_of (sp__law_shortest : Sp') : TS' :=
    (tseq (tasg (to opAdd (to opIx (tv 0) (tc (.int 0))) (tc (.int 1))) (gn 2))
    (tseq (tasg (tu unNeg (tv 2)) (gn 3))
    (tseq (tasg (tcall sp__law_shortest (fun _ _ => False) (tac (tlc (trg2 (tac (tv 2) (tac (to opAdd (tv 2) (to opIx (tv 0) (tc (.int 1)))) tan))) 8 tyes (to (opIn false) (tv 8) (tv 1))) tan)) (gn 4))
    (tseq (tasg (tcall sp__law_shortest (fun _ _ => False) (tac (tlc (trg2 (tac (tv 2) (tac (to opAdd (tv 2) (to opIx (tv 0) (tc (.int 1)))) tan))) 8 tyes (to (opIn false) (tu unNeg (tv 8)) (tv 1))) tan)) (gn 5))
    (tseq (tfor (trg1 (tac (to opAdd (to opIx (tv 0) (tc (.int 0))) (tc (.int 1))) tan)) (gn 6) (tseq (tifs (tb' (to opNe (to (opIn false) (to opSub (tv 2) (tc (.int 1))) (tv 1)) (to opIx (tv 4) (tu unNeg (tc (.int 1)))))) tbr tnx)
    (tseq (tasg (to opSub (tv 2) (tc (.int 1))) (gn 2))
    (tasg (to opAdd (tsl (tv 4) (tpe (tu unNeg (tc (.int 1)))) tpn) (tsl (tv 4) tpn (tpe (tu unNeg (tc (.int 1)))))) (gn 4)))))
    (tseq (tfor (trg1 (tac (to opIx (tv 0) (tc (.int 0))) tan)) (gn 6) (tseq (tifs (tb' (to opNe (to (opIn false) (to opAdd (tv 3) (tc (.int 1))) (tv 1)) (to opIx (tv 5) (tu unNeg (tc (.int 1)))))) tbr tnx)
    (tseq (tasg (to opAdd (tv 3) (tc (.int 1))) (gn 3))
    (tasg (to opAdd (tsl (tv 5) (tpe (tu unNeg (tc (.int 1)))) tpn) (tsl (tv 5) tpn (tpe (tu unNeg (tc (.int 1)))))) (gn 5)))))
    (tseq (tasg (tcb caTup (tac (tlc (trg2 (tac (to opAdd (tv 3) (tc (.int 1))) (tac (tv 2) tan))) 8 (tb' (to (opIn false) (tv 8) (tv 1))) (tv 8)) tan)) (gn 7))
    (tret (ttup (tac (tc (.str "integers")) (tac (ttup (tac (tv 3) (tac (tcb caTup (tac (tv 5) tan)) tan))) (tac (tv 7) (tac (ttup (tac (tv 2) (tac (tcb caTup (tac (tv 4) tan)) tan))) tan)))))))))))))
abbrev n__law_part : List Str := ["tape", "many", "k"]
def t__law_part (sp__law_draw : Sp') : TS' :=
    (tret (tcb caTup (tac (tlc (trg1 (tac (tv 1) tan)) 2 (tb' (to opEq (tcall sp__law_draw (fun _ _ => False) (tac (tv 0) (tac (tc (.int 2)) tan))) (tc (.int 1)))) (tv 2)) tan)))
abbrev n__law_machine : List Str := ["tape", "kind", "theory", "states", "steps", "room", "many", "starts", "ends", "rows", "k", "condition", "choice", "state"]
def t__law_machine (sp__law_draw : Sp') (sp__law_part : Sp') (sp__law_condition : Sp') (sp__law_conditions : Sp') : TS' :=
    (tseq (tasg (to opAdd (tc (.int 1)) (tcall sp__law_draw (fun _ _ => False) (tac (tv 0) (tac (tv 3) tan)))) (gn 6))
    (tseq (tasg (ttup (tac (tcall sp__law_draw (fun _ _ => False) (tac (tv 0) (tac (tv 6) tan))) tan)) (gn 7))
    (tseq (tmid (tifs (tb' (to opEq (tcall sp__law_draw (fun _ _ => False) (tac (tv 0) (tac (tc (.int 4)) tan))) (tc (.int 0)))) (tasg (tcall sp__law_part (fun _ _ => False) (tac (tv 0) (tac (tv 6) tan))) (gn 7)) tnx))
    (tseq (tasg (tcall sp__law_part (fun _ _ => False) (tac (tv 0) (tac (tv 6) tan))) (gn 8))
    (tseq (tmid (tifs (tb' (to opEq (tcall sp__law_draw (fun _ _ => False) (tac (tv 0) (tac (tc (.int 3)) tan))) (tc (.int 0)))) (tasg (ttup (tac (tcall sp__law_draw (fun _ _ => False) (tac (tv 0) (tac (tv 6) tan))) tan)) (gn 8)) tnx))
    (tseq (tasg (town tan) (gn 9))
    (tseq (tfor (trg1 (tac (to opSub (tv 4) (tcb caMin (tac (tcall sp__law_draw (fun _ _ => False) (tac (tv 0) (tac (to opAdd (tv 4) (tc (.int 1))) tan))) (tac (tcall sp__law_draw (fun _ _ => False) (tac (tv 0) (tac (to opAdd (tv 4) (tc (.int 1))) tan))) tan)))) tan)) (gn 10) (tseq (tasg (tcall sp__law_condition (fun _ _ => False) (tac (tv 0) (tac (tv 1) (tac (tv 2) (tac (to opAdd (tc (.int 1)) (tcall sp__law_draw (fun _ _ => False) (tac (tv 0) (tac (tv 5) tan)))) tan))))) (gn 11))
    (tseq (tasg (tcall sp__law_draw (fun _ _ => False) (tac (tv 0) (tac (tc (.int 6)) tan))) (gn 12))
    (tseq (tmid (tifs (tand (ttru (tv 9)) (tb' (to opLt (tv 12) (tc (.int 2))))) (tseq (tasg (to opIx (to opIx (tv 9) (tcall sp__law_draw (fun _ _ => False) (tac (tv 0) (tac (tcb caLen (tac (tv 9) tan)) tan)))) (tc (.int 1))) (gn 11))
    (tmid (tifs (tand (tb' (to opEq (tv 12) (tc (.int 0)))) (tb' (to opLt (tcall sp__law_conditions (fun _ _ => False) (tac (tv 11) tan)) (tv 5)))) (tasg (ttup (tac (tc (.str "not")) (tac (tv 11) tan))) (gn 11)) tnx))) tnx))
    (tseq (tasg (tcall sp__law_draw (fun _ _ => False) (tac (tv 0) (tac (tv 6) tan))) (gn 13))
    (tdrop (tbm isLs mApp (tv 9) (tac (ttup (tac (tv 13) (tac (tv 11) (tac (tcall sp__law_draw (fun _ _ => False) (tac (tv 0) (tac (tv 6) tan))) tan)))) tan))))))))
    (tret (ttup (tac (tv 1) (tac (tv 6) (tac (tv 7) (tac (tv 8) (tac (tcb caTup (tac (tv 9) tan)) tan))))))))))))))
abbrev n__law_has_end : List Str := ["machine", "states", "state"]
def t__law_has_end  : TS' :=
    (tret (to opGt (tcb caLen (tac (tlc (tse (tv 1)) 2 (tb' (to (opIn false) (tv 2) (to opIx (tv 0) (tc (.int 3))))) (tv 2)) tan)) (tc (.int 0))))
abbrev n__law_behind : List Str := ["machine", "states", "letter", "found", "step", "state"]
def t__law_behind (sp__law_meets : Sp') : TS' :=
    (tseq (tasg (tlc (tse (to opIx (tv 0) (tc (.int 4)))) 4 (tand (tb' (to (opIn false) (to opIx (tv 4) (tc (.int 0))) (tv 1))) (tb' (tcall sp__law_meets (fun _ _ => False) (tac (to opIx (tv 4) (tc (.int 1))) (tac (tv 2) tan))))) (to opIx (tv 4) (tc (.int 2)))) (gn 3))
    (tret (tcb caTup (tac (tlc (trg1 (tac (to opIx (tv 0) (tc (.int 1))) tan)) 5 (tb' (to (opIn false) (tv 5) (tv 3))) (tv 5)) tan))))
abbrev n__law_led : List Str := ["machine", "states", "word", "letter"]
def t__law_led (sp__law_behind : Sp') : TS' :=
    (tseq (tfor (tse (tv 2)) (gn 3) (tasg (tcall sp__law_behind (fun _ _ => False) (tac (tv 0) (tac (tv 1) (tac (tv 3) tan)))) (gn 1)))
    (tret (tv 1)))
abbrev n__law_integer_groups : List Str := ["tape", "theory", "many", "inner", "sizes", "k", "above", "below", "cut", "spots", "reach", "picks", "x", "side", "sets", "g", "length"]
def t__law_integer_groups (sp__law_draw : Sp') (sp__law_integers_of : Sp') : TS' :=
    (tseq (tasg (ttup (tac (tcb caMin (tac (to opIx (tv 1) (tc (.int 0))) (tac (tc (.int 19)) tan))) (tac (to opIx (tv 1) (tc (.int 1))) tan))) (gn 3))
    (tseq (tasg (tlc (tse (tlis (tac (tc (.int 1)) (tac (tc (.int 1)) (tac (tc (.int 2)) (tac (tc (.int 3)) (tac (tc (.int 4)) (tac (tc (.int 6)) (tac (tc (.int 12)) tan))))))))) 16 (tb' (to opEq (to opMod (tcb caInt (tac (to opIx (tv 1) (tc (.int 1))) tan)) (tv 16)) (tc (.int 0)))) (tv 16)) (gn 4))
    (tseq (tasg (tlc (trg1 (tac (to opIx (tv 4) (tcall sp__law_draw (fun _ _ => False) (tac (tv 0) (tac (tcb caLen (tac (tv 4) tan)) tan)))) tan)) 5 tyes (tcall sp__law_draw (fun _ _ => False) (tac (tv 0) (tac (to opAdd (tv 2) (tc (.int 1))) tan)))) (gn 6))
    (tseq (tasg (tlc (trg1 (tac (to opIx (tv 4) (tcall sp__law_draw (fun _ _ => False) (tac (tv 0) (tac (tcb caLen (tac (tv 4) tan)) tan)))) tan)) 5 tyes (tcall sp__law_draw (fun _ _ => False) (tac (tv 0) (tac (to opAdd (tv 2) (tc (.int 1))) tan)))) (gn 7))
    (tseq (tasg (to opIx (tlis (tac (tc (.int 0)) (tac (to opSub (tcall sp__law_draw (fun _ _ => False) (tac (tv 0) (tac (to opAdd (to opMul (tc (.int 2)) (to opIx (tv 3) (tc (.int 0)))) (tc (.int 1))) tan))) (to opIx (tv 3) (tc (.int 0)))) tan))) (tcall sp__law_draw (fun _ _ => False) (tac (tv 0) (tac (tc (.int 2)) tan)))) (gn 8))
    (tseq (tasg tdnew (gn 9))
    (tseq (tfor (trg1 (tac (tcall sp__law_draw (fun _ _ => False) (tac (tv 0) (tac (tc (.int 4)) tan))) tan)) (gn 5) (tdput (tv 9) (to opSub (tcall sp__law_draw (fun _ _ => False) (tac (tv 0) (tac (to opAdd (to opMul (tc (.int 2)) (to opIx (tv 3) (tc (.int 0)))) (tc (.int 1))) tan))) (to opIx (tv 3) (tc (.int 0)))) (tcall sp__law_draw (fun _ _ => False) (tac (tv 0) (tac (to opAdd (tv 2) (tc (.int 1))) tan)))))
    (tseq (tasg (to opAdd (to opIx (tv 3) (tc (.int 0))) (to opIx (tv 3) (tc (.int 1)))) (gn 10))
    (tseq (tasg (town tan) (gn 11))
    (tseq (tfor (trg2 (tac (tu unNeg (tv 10)) (tac (to opAdd (tv 10) (tc (.int 1))) tan))) (gn 12) (tseq (tasg (to opIx (tlis (tac (tv 7) (tac (tv 6) tan))) (tcb caInt (tac (to opGe (tv 12) (tv 8)) tan))) (gn 13))
    (tdrop (tbm isLs mApp (tv 11) (tac (tdget (tv 9) (tv 12) (to opIx (tv 13) (to opMod (tcb caInt (tac (tcb caAbs (tac (to opSub (tv 12) (tv 8)) tan)) tan)) (tcb caLen (tac (tv 13) tan))))) tan)))))
    (tseq (tasg (town tan) (gn 14))
    (tseq (tfor (trg1 (tac (tv 2) tan)) (gn 15) (tdrop (tbm isLs mApp (tv 14) (tac (tcall sp__law_integers_of (fun _ _ => False) (tac (tv 3) (tac (tlc (trg2 (tac (tu unNeg (tv 10)) (tac (to opAdd (tv 10) (tc (.int 1))) tan))) 12 (tb' (to opEq (to opIx (tv 11) (to opAdd (tv 12) (tv 10))) (tv 15))) (tv 12)) tan))) tan))))
    (tret (tv 14))))))))))))))
abbrev n__law_leaf_set : List Str := ["tape", "kind", "theory", "side", "i", "name"]
def t__law_leaf_set (sp__law_draw : Sp') (sp__law_leaf_set : Sp') (sp__law_integer_groups : Sp') : TS' :=
    (tseq (tifs (tb' (to opEq (to opIx (tv 1) (tc (.int 0))) (tc (.str "names")))) (tret (ttup (tac (tc (.str "in")) (tac (ttup (tac (tc (.str "names")) (tac (tcb caTup (tac (tlc (tse (to opIx (tv 1) (tc (.int 1)))) 5 (tb' (to opEq (tcall sp__law_draw (fun _ _ => False) (tac (tv 0) (tac (tc (.int 2)) tan))) (tc (.int 1)))) (tv 5)) tan)) tan))) tan)))) tnx)
    (tseq (tifs (tb' (to opEq (to opIx (tv 1) (tc (.int 0))) (tc (.str "pair")))) (tseq (tasg (tcall sp__law_draw (fun _ _ => False) (tac (tv 0) (tac (tc (.int 2)) tan))) (gn 3))
    (tret (ttup (tac (to opIx (tlis (tac (tc (.str "first")) (tac (tc (.str "second")) tan))) (tv 3)) (tac (tcall sp__law_leaf_set (fun _ _ => False) (tac (tv 0) (tac (to opIx (tv 1) (to opAdd (tc (.int 1)) (tv 3))) (tac (tv 2) tan)))) tan))))) tnx)
    (tseq (tifs (tb' (to opEq (to opIx (tv 1) (tc (.int 0))) (tc (.str "either")))) (tseq (tasg (tcall sp__law_draw (fun _ _ => False) (tac (tv 0) (tac (tcb caLen (tac (to opIx (tv 1) (tc (.int 1))) tan)) tan))) (gn 4))
    (tret (ttup (tac (tc (.str "case")) (tac (tv 4) (tac (tcall sp__law_leaf_set (fun _ _ => False) (tac (tv 0) (tac (to opIx (to opIx (tv 1) (tc (.int 1))) (tv 4)) (tac (tv 2) tan)))) tan)))))) tnx)
    (tseq (tifs (tb' (to opEq (to opIx (tv 1) (tc (.int 0))) (tc (.str "maybe")))) (tret (ttup (tac (tc (.str "some")) (tac (tcall sp__law_leaf_set (fun _ _ => False) (tac (tv 0) (tac (to opIx (tv 1) (tc (.int 1))) (tac (tv 2) tan)))) tan)))) tnx)
    (tret (ttup (tac (tc (.str "in")) (tac (to opIx (tcall sp__law_integer_groups (fun _ _ => False) (tac (tv 0) (tac (tv 2) (tac (tc (.int 1)) tan)))) (tc (.int 0))) tan))))))))
abbrev n__law_going : List Str := ["tape", "kind", "theory", "machine", "most", "word", "states", "k", "letter", "turn"]
def t__law_going (sp__law_draw : Sp') (sp__law_letter : Sp') (sp__law_behind : Sp') : TS' :=
    (tseq (tasg (ttup tan) (gn 5))
    (tseq (tasg (to opIx (tv 3) (tc (.int 2))) (gn 6))
    (tseq (tfor (trg1 (tac (tcall sp__law_draw (fun _ _ => False) (tac (tv 0) (tac (to opAdd (tv 4) (tc (.int 1))) tan))) tan)) (gn 7) (tseq (tasg (tcall sp__law_letter (fun _ _ => False) (tac (tv 0) (tac (tv 1) (tac (tv 2) tan)))) (gn 8))
    (tseq (tfor (trg1 (tac (tc (.int 2)) tan)) (gn 9) (tmid (tifs (tnot (ttru (tcall sp__law_behind (fun _ _ => False) (tac (tv 3) (tac (tv 6) (tac (tv 8) tan)))))) (tasg (tcall sp__law_letter (fun _ _ => False) (tac (tv 0) (tac (tv 1) (tac (tv 2) tan)))) (gn 8)) tnx)))
    (tseq (tasg (to opAdd (tv 5) (ttup (tac (tv 8) tan))) (gn 5))
    (tasg (tcall sp__law_behind (fun _ _ => False) (tac (tv 3) (tac (tv 6) (tac (tv 8) tan)))) (gn 6))))))
    (tret (tv 5)))))
abbrev n__law_other_machine : List Str := ["tape", "theory", "machine", "kind", "many", "starts", "ends", "steps", "choice", "state", "k", "step", "q"]
def t__law_other_machine (sp__law_draw : Sp') (sp__law_condition : Sp') (sp__law_varied : Sp') : TS' :=
    (tseq (tasg (tv 2) (gtup 5 (gco (gn 3) (gco (gn 4) (gco (gn 5) (gco (gn 6) (gco (gn 7) gni)))))))
    (tseq (tasg (tcall sp__law_draw (fun _ _ => False) (tac (tv 0) (tac (tc (.int 5)) tan))) (gn 8))
    (tseq (tasg (tcall sp__law_draw (fun _ _ => False) (tac (tv 0) (tac (tv 4) tan))) (gn 9))
    (tseq (tifs (tor (tb' (to opEq (tv 8) (tc (.int 0)))) (tnot (ttru (tv 7)))) (tret (ttup (tac (tv 3) (tac (tv 4) (tac (tv 5) (tac (tcb caTup (tac (tlc (trg1 (tac (tv 4) tan)) 12 (tb' (to opNe (to (opIn false) (tv 12) (tv 6)) (to opEq (tv 12) (tv 9)))) (tv 12)) tan)) (tac (tv 7) tan))))))) tnx)
    (tseq (tifs (tb' (to opEq (tv 8) (tc (.int 1)))) (tret (ttup (tac (tv 3) (tac (tv 4) (tac (tcb caTup (tac (tlc (trg1 (tac (tv 4) tan)) 12 (tb' (to opNe (to (opIn false) (tv 12) (tv 5)) (to opEq (tv 12) (tv 9)))) (tv 12)) tan)) (tac (tv 6) (tac (tv 7) tan))))))) tnx)
    (tseq (tasg (tcall sp__law_draw (fun _ _ => False) (tac (tv 0) (tac (tcb caLen (tac (tv 7) tan)) tan))) (gn 10))
    (tseq (tasg (to opIx (tv 7) (tv 10)) (gn 11))
    (tseq (tmid (tifs (tb' (to opEq (tv 8) (tc (.int 2)))) (tasg (ttup (tac (to opIx (tv 11) (tc (.int 0))) (tac (to opIx (tv 11) (tc (.int 1))) (tac (tv 9) tan)))) (gn 11)) (tmid (tifs (tb' (to opEq (to opIx (to opIx (tv 11) (tc (.int 1))) (tc (.int 0))) (tc (.str "in")))) (tasg (ttup (tac (to opIx (tv 11) (tc (.int 0))) (tac (tcall sp__law_condition (fun _ _ => False) (tac (tv 0) (tac (tv 3) (tac (tv 1) (tac (tc (.int 1)) tan))))) (tac (to opIx (tv 11) (tc (.int 2))) tan)))) (gn 11)) (tasg (ttup (tac (to opIx (tv 11) (tc (.int 0))) (tac (tcall sp__law_varied (fun _ _ => False) (tac (tv 0) (tac (tv 3) (tac (to opIx (tv 11) (tc (.int 1))) (tac (tv 1) tan))))) (tac (to opIx (tv 11) (tc (.int 2))) tan)))) (gn 11))))))
    (tret (ttup (tac (tv 3) (tac (tv 4) (tac (tv 5) (tac (tv 6) (tac (to opAdd (to opAdd (tsl (tv 7) tpn (tpe (tv 10))) (ttup (tac (tv 11) tan))) (tsl (tv 7) (tpe (to opAdd (tv 10) (tc (.int 1)))) tpn)) tan)))))))))))))))
abbrev n__law_answers : List Str := ["machine", "word", "late", "due", "which"]
def t__law_answers (sp__law_led : Sp') (sp_states_behind : Sp') (sp__law_same : Sp') (sp__law_has_end : Sp') (sp_takes : Sp') : TS' :=
    (tseq (tasg (tcall sp__law_led (fun _ _ => False) (tac (tv 0) (tac (to opIx (tv 0) (tc (.int 2))) (tac (tv 1) tan)))) (gn 3))
    (tseq (tfor (tse (tlis (tac (tv 2) (tac (to opSub (tc (.int 1)) (tv 2)) tan)))) (gn 4) (tseq (tifs (tand (tb' (to opEq (tv 4) (tc (.int 0)))) (tnot (tb' (tcall sp__law_same (fun _ _ => False) (tac (tcall sp_states_behind (fun _ _ => False) (tac (tv 0) (tac (tv 1) tan))) (tac (tv 3) tan)))))) (tret (tc (.bl false))) tnx)
    (tifs (tand (tb' (to opEq (tv 4) (tc (.int 1)))) (tnot (tb' (tcall sp__law_same (fun _ _ => False) (tac (tcall sp_takes (fun _ _ => False) (tac (tv 0) (tac (tv 1) tan))) (tac (tcall sp__law_has_end (fun _ _ => False) (tac (tv 0) (tac (tv 3) tan))) tan)))))) (tret (tc (.bl false))) tnx)))
    (tret (tc (.bl true)))))
abbrev n_law : List Str := ["script", "tape", "kind", "theory", "machine", "steps", "k", "other", "word", "late", "changed", "pair"]
def t_law (sp__law_tape : Sp') (sp__law_any_kind : Sp') (sp__law_draw : Sp') (sp__law_machine : Sp') (sp__law_leaf_set : Sp') (sp__law_other_machine : Sp') (sp__law_going : Sp') (sp__law_answers : Sp') (sp__law_near : Sp') (sp__law_word : Sp') : TS' :=
    (tseq (tasg (tcall sp__law_tape (fun _ _ => False) (tac (tv 0) tan)) (gn 1))
    (tseq (tasg (tcall sp__law_any_kind (fun _ _ => False) (tac (tv 1) tan)) (gn 2))
    (tseq (tasg (ttup (tac (tc (.int 20)) (tac (tc (.int 12)) tan))) (gn 3))
    (tseq (tasg (tcall sp__law_machine (fun _ _ => False) (tac (tv 1) (tac (tv 2) (tac (tv 3) (tac (tc (.int 4)) (tac (tc (.int 6)) (tac (to opIx (tlis (tac (tc (.int 2)) (tac (tc (.int 4)) (tac (tc (.int 8)) tan)))) (tcall sp__law_draw (fun _ _ => False) (tac (tv 1) (tac (tc (.int 3)) tan)))) tan))))))) (gn 4))
    (tseq (tasg (tcb caListO (tac (to opIx (tv 4) (tc (.int 4))) tan)) (gn 5))
    (tseq (tmid (tifs (tand (ttru (tv 5)) (tb' (to opEq (tcall sp__law_draw (fun _ _ => False) (tac (tv 1) (tac (tc (.int 2)) tan))) (tc (.int 0))))) (tseq (tasg (tcall sp__law_draw (fun _ _ => False) (tac (tv 1) (tac (tcb caLen (tac (tv 5) tan)) tan))) (gn 6))
    (tasg (ttup (tac (to opIx (to opIx (tv 5) (tv 6)) (tc (.int 0))) (tac (tcall sp__law_leaf_set (fun _ _ => False) (tac (tv 1) (tac (tv 2) (tac (tv 3) tan)))) (tac (to opIx (to opIx (tv 5) (tv 6)) (tc (.int 2))) tan)))) (gsub (tv 5) (tv 6)))) tnx))
    (tseq (tasg (ttup (tac (tv 2) (tac (to opIx (tv 4) (tc (.int 1))) (tac (to opIx (tv 4) (tc (.int 2))) (tac (to opIx (tv 4) (tc (.int 3))) (tac (tcb caTup (tac (tv 5) tan)) tan)))))) (gn 4))
    (tseq (tasg (tcall sp__law_other_machine (fun _ _ => False) (tac (tv 1) (tac (tv 3) (tac (tv 4) tan)))) (gn 7))
    (tseq (tasg (tcall sp__law_going (fun _ _ => False) (tac (tv 1) (tac (tv 2) (tac (tv 3) (tac (tv 4) (tac (tc (.int 8)) tan)))))) (gn 8))
    (tseq (tasg (tcall sp__law_draw (fun _ _ => False) (tac (tv 1) (tac (tc (.int 2)) tan))) (gn 9))
    (tseq (tfor (trg1 (tac (to opAdd (tcb caLen (tac (tv 8) tan)) (tc (.int 1))) tan)) (gn 6) (tifs (tnot (ttru (tcall sp__law_answers (fun _ _ => False) (tac (tv 4) (tac (tsl (tv 8) tpn (tpe (tv 6))) (tac (tv 9) tan)))))) (tret (tc (.bl false))) tnx))
    (tseq (tasg (tv 8) (gn 10))
    (tseq (tmid (tifs (ttru (tv 8)) (tseq (tasg (tcall sp__law_draw (fun _ _ => False) (tac (tv 1) (tac (tcb caLen (tac (tv 8) tan)) tan))) (gn 6))
    (tasg (to opAdd (to opAdd (tsl (tv 8) tpn (tpe (tv 6))) (ttup (tac (tcall sp__law_near (fun _ _ => False) (tac (tv 1) (tac (tv 2) (tac (to opIx (tv 8) (tv 6)) tan)))) tan))) (tsl (tv 8) (tpe (to opAdd (tv 6) (tc (.int 1)))) tpn)) (gn 10))) tnx))
    (tseq (tfor (tse (tlis (tac (ttup (tac (tv 7) (tac (tv 8) tan))) (tac (ttup (tac (tv 4) (tac (tv 10) tan))) (tac (ttup (tac (tv 4) (tac (tcall sp__law_word (fun _ _ => False) (tac (tv 1) (tac (tv 2) (tac (tv 3) (tac (tc (.int 8)) tan))))) tan))) (tac (ttup (tac (tv 4) (tac (tv 8) tan))) tan)))))) (gn 11) (tifs (tnot (ttru (tcall sp__law_answers (fun _ _ => False) (tac (to opIx (tv 11) (tc (.int 0))) (tac (to opIx (tv 11) (tc (.int 1))) (tac (tv 9) tan)))))) (tret (tc (.bl false))) tnx))
    (tret (tc (.bl true)))))))))))))))))
end K22

set_option Elab.async false
set_option linter.all false
set_option maxRecDepth 100000
set_option maxHeartbeats 8000000
namespace WK22
open PySem PySem.Spec PyProof.Rows L2 DL
def topS (i : Nat) : Stmt := PySem.Challenge.pw_guardwords_k22_states_behind_a_word.main.body.getD i (.Pass ⟨0, 0, 0, 0⟩)
abbrev s_has_integer : Stmt := topS 1
abbrev p_has_integer : List Str := ["letters", "number"]
theorem sc_has_integer : FnScope K04.n_has_integer p_has_integer (defScope s_has_integer) := ⟨rfl, rfl, rfl, by decide +kernel, rfl, by decide +kernel, by decide +kernel⟩
abbrev s_is_integer : Stmt := topS 6
abbrev p_is_integer : List Str := ["value"]
theorem sc_is_integer : FnScope K00.n_is_integer p_is_integer (defScope s_is_integer) := ⟨rfl, rfl, rfl, by decide +kernel, rfl, by decide +kernel, by decide +kernel⟩
abbrev s_is_letter : Stmt := topS 7
abbrev p_is_letter : List Str := ["kind", "value"]
theorem sc_is_letter : FnScope K00.n_is_letter p_is_letter (defScope s_is_letter) := ⟨rfl, rfl, rfl, by decide +kernel, rfl, by decide +kernel, by decide +kernel⟩
abbrev s_check_letter : Stmt := topS 8
abbrev p_check_letter : List Str := ["kind", "letter"]
theorem sc_check_letter : FnScope K01.n_check_letter p_check_letter (defScope s_check_letter) := ⟨rfl, rfl, rfl, by decide +kernel, rfl, by decide +kernel, by decide +kernel⟩
abbrev s_check_word : Stmt := topS 9
abbrev p_check_word : List Str := ["kind", "word"]
theorem sc_check_word : FnScope K01.n_check_word p_check_word (defScope s_check_word) := ⟨rfl, rfl, rfl, by decide +kernel, rfl, by decide +kernel, by decide +kernel⟩
abbrev s_contains : Stmt := topS 11
abbrev p_contains : List Str := ["kind", "letters", "letter"]
theorem sc_contains : FnScope K04.n_contains p_contains (defScope s_contains) := ⟨rfl, rfl, rfl, by decide +kernel, rfl, by decide +kernel, by decide +kernel⟩
abbrev s_row_of : Stmt := topS 12
abbrev p_row_of : List Str := ["kind", "letters", "first"]
theorem sc_row_of : FnScope K04.n_row_of p_row_of (defScope s_row_of) := ⟨rfl, rfl, rfl, by decide +kernel, rfl, by decide +kernel, by decide +kernel⟩
abbrev s_met : Stmt := topS 14
abbrev p_met : List Str := ["kind", "condition", "letter"]
theorem sc_met : FnScope K04.n_met p_met (defScope s_met) := ⟨rfl, rfl, rfl, by decide +kernel, rfl, by decide +kernel, by decide +kernel⟩
abbrev s_met_by_value : Stmt := topS 15
abbrev p_met_by_value : List Str := ["condition", "letter"]
theorem sc_met_by_value : FnScope K04.n_met_by_value p_met_by_value (defScope s_met_by_value) := ⟨rfl, rfl, rfl, by decide +kernel, rfl, by decide +kernel, by decide +kernel⟩
abbrev s_behind_letter : Stmt := topS 17
abbrev p_behind_letter : List Str := ["machine", "states", "letter"]
theorem sc_behind_letter : FnScope K22.n_behind_letter p_behind_letter (defScope s_behind_letter) := ⟨rfl, rfl, rfl, by decide +kernel, rfl, by decide +kernel, by decide +kernel⟩
abbrev s_states_behind : Stmt := topS 18
abbrev p_states_behind : List Str := ["machine", "word"]
theorem sc_states_behind : FnScope K22.n_states_behind p_states_behind (defScope s_states_behind) := ⟨rfl, rfl, rfl, by decide +kernel, rfl, by decide +kernel, by decide +kernel⟩
abbrev s_has_end : Stmt := topS 19
abbrev p_has_end : List Str := ["machine", "states"]
theorem sc_has_end : FnScope K22.n_has_end p_has_end (defScope s_has_end) := ⟨rfl, rfl, rfl, by decide +kernel, rfl, by decide +kernel, by decide +kernel⟩
abbrev s_takes : Stmt := topS 20
abbrev p_takes : List Str := ["machine", "word"]
theorem sc_takes : FnScope K22.n_takes p_takes (defScope s_takes) := ⟨rfl, rfl, rfl, by decide +kernel, rfl, by decide +kernel, by decide +kernel⟩
abbrev s__law_tape : Stmt := topS 22
abbrev p__law_tape : List Str := ["script"]
theorem sc__law_tape : FnScope K00.n__law_tape p__law_tape (defScope s__law_tape) := ⟨rfl, rfl, rfl, by decide +kernel, rfl, by decide +kernel, by decide +kernel⟩
abbrev s__law_draw : Stmt := topS 23
abbrev p__law_draw : List Str := ["tape", "many"]
theorem sc__law_draw : FnScope K00.n__law_draw p__law_draw (defScope s__law_draw) := ⟨rfl, rfl, rfl, by decide +kernel, rfl, by decide +kernel, by decide +kernel⟩
abbrev s__law_whole : Stmt := topS 24
abbrev p__law_whole : List Str := ["told"]
theorem sc__law_whole : FnScope K00.n__law_whole p__law_whole (defScope s__law_whole) := ⟨rfl, rfl, rfl, by decide +kernel, rfl, by decide +kernel, by decide +kernel⟩
abbrev s__law_names : Stmt := topS 25
abbrev p__law_names : List Str := ["tape"]
theorem sc__law_names : FnScope K00.n__law_names p__law_names (defScope s__law_names) := ⟨rfl, rfl, rfl, by decide +kernel, rfl, by decide +kernel, by decide +kernel⟩
abbrev s__law_kinds : Stmt := topS 26
abbrev p__law_kinds : List Str := ["kind"]
theorem sc__law_kinds : FnScope K00.n__law_kinds p__law_kinds (defScope s__law_kinds) := ⟨rfl, rfl, rfl, by decide +kernel, rfl, by decide +kernel, by decide +kernel⟩
abbrev s__law_kind : Stmt := topS 27
abbrev p__law_kind : List Str := ["tape", "depth", "many"]
theorem sc__law_kind : FnScope K00.n__law_kind p__law_kind (defScope s__law_kind) := ⟨rfl, rfl, rfl, by decide +kernel, rfl, by decide +kernel, by decide +kernel⟩
abbrev s__law_any_kind : Stmt := topS 28
abbrev p__law_any_kind : List Str := ["tape"]
theorem sc__law_any_kind : FnScope K04.n__law_any_kind p__law_any_kind (defScope s__law_any_kind) := ⟨rfl, rfl, rfl, by decide +kernel, rfl, by decide +kernel, by decide +kernel⟩
abbrev s__law_integer : Stmt := topS 29
abbrev p__law_integer : List Str := ["tape", "top"]
theorem sc__law_integer : FnScope K00.n__law_integer p__law_integer (defScope s__law_integer) := ⟨rfl, rfl, rfl, by decide +kernel, rfl, by decide +kernel, by decide +kernel⟩
abbrev s__law_letter : Stmt := topS 30
abbrev p__law_letter : List Str := ["tape", "kind", "theory"]
theorem sc__law_letter : FnScope K00.n__law_letter p__law_letter (defScope s__law_letter) := ⟨rfl, rfl, rfl, by decide +kernel, rfl, by decide +kernel, by decide +kernel⟩
abbrev s__law_word : Stmt := topS 31
abbrev p__law_word : List Str := ["tape", "kind", "theory", "most"]
theorem sc__law_word : FnScope K02.n__law_word p__law_word (defScope s__law_word) := ⟨rfl, rfl, rfl, by decide +kernel, rfl, by decide +kernel, by decide +kernel⟩
abbrev s__law_conditions : Stmt := topS 32
abbrev p__law_conditions : List Str := ["condition"]
theorem sc__law_conditions : FnScope K04.n__law_conditions p__law_conditions (defScope s__law_conditions) := ⟨rfl, rfl, rfl, by decide +kernel, rfl, by decide +kernel, by decide +kernel⟩
abbrev s__law_comparison : Stmt := topS 33
abbrev p__law_comparison : List Str := ["tape", "theory"]
theorem sc__law_comparison : FnScope K04.n__law_comparison p__law_comparison (defScope s__law_comparison) := ⟨rfl, rfl, rfl, by decide +kernel, rfl, by decide +kernel, by decide +kernel⟩
abbrev s__law_modulus : Stmt := topS 34
abbrev p__law_modulus : List Str := ["tape", "theory"]
theorem sc__law_modulus : FnScope K04.n__law_modulus p__law_modulus (defScope s__law_modulus) := ⟨rfl, rfl, rfl, by decide +kernel, rfl, by decide +kernel, by decide +kernel⟩
abbrev s__law_leaf : Stmt := topS 35
abbrev p__law_leaf : List Str := ["tape", "kind", "theory", "room"]
theorem sc__law_leaf : FnScope K04.n__law_leaf p__law_leaf (defScope s__law_leaf) := ⟨rfl, rfl, rfl, by decide +kernel, rfl, by decide +kernel, by decide +kernel⟩
abbrev s__law_condition : Stmt := topS 36
abbrev p__law_condition : List Str := ["tape", "kind", "theory", "room"]
theorem sc__law_condition : FnScope K04.n__law_condition p__law_condition (defScope s__law_condition) := ⟨rfl, rfl, rfl, by decide +kernel, rfl, by decide +kernel, by decide +kernel⟩
abbrev s__law_in : Stmt := topS 37
abbrev p__law_in : List Str := ["letters", "letter"]
theorem sc__law_in : FnScope K04.n__law_in p__law_in (defScope s__law_in) := ⟨rfl, rfl, rfl, by decide +kernel, rfl, by decide +kernel, by decide +kernel⟩
abbrev s__law_meets : Stmt := topS 38
abbrev p__law_meets : List Str := ["condition", "letter"]
theorem sc__law_meets : FnScope K04.n__law_meets p__law_meets (defScope s__law_meets) := ⟨rfl, rfl, rfl, by decide +kernel, rfl, by decide +kernel, by decide +kernel⟩
abbrev s__law_shortest : Stmt := topS 39
abbrev p__law_shortest : List Str := ["truths"]
theorem sc__law_shortest : FnScope K22.n__law_shortest p__law_shortest (defScope s__law_shortest) := ⟨rfl, rfl, rfl, by decide +kernel, rfl, by decide +kernel, by decide +kernel⟩
abbrev s__law_integers_of : Stmt := topS 40
abbrev p__law_integers_of : List Str := ["theory", "found"]
theorem sc__law_integers_of : FnScope K22.n__law_integers_of p__law_integers_of (defScope s__law_integers_of) := ⟨rfl, rfl, rfl, by decide +kernel, rfl, by decide +kernel, by decide +kernel⟩
abbrev s__law_part : Stmt := topS 41
abbrev p__law_part : List Str := ["tape", "many"]
theorem sc__law_part : FnScope K22.n__law_part p__law_part (defScope s__law_part) := ⟨rfl, rfl, rfl, by decide +kernel, rfl, by decide +kernel, by decide +kernel⟩
abbrev s__law_machine : Stmt := topS 42
abbrev p__law_machine : List Str := ["tape", "kind", "theory", "states", "steps", "room"]
theorem sc__law_machine : FnScope K22.n__law_machine p__law_machine (defScope s__law_machine) := ⟨rfl, rfl, rfl, by decide +kernel, rfl, by decide +kernel, by decide +kernel⟩
abbrev s__law_has_end : Stmt := topS 43
abbrev p__law_has_end : List Str := ["machine", "states"]
theorem sc__law_has_end : FnScope K22.n__law_has_end p__law_has_end (defScope s__law_has_end) := ⟨rfl, rfl, rfl, by decide +kernel, rfl, by decide +kernel, by decide +kernel⟩
abbrev s__law_behind : Stmt := topS 44
abbrev p__law_behind : List Str := ["machine", "states", "letter"]
theorem sc__law_behind : FnScope K22.n__law_behind p__law_behind (defScope s__law_behind) := ⟨rfl, rfl, rfl, by decide +kernel, rfl, by decide +kernel, by decide +kernel⟩
abbrev s__law_led : Stmt := topS 45
abbrev p__law_led : List Str := ["machine", "states", "word"]
theorem sc__law_led : FnScope K22.n__law_led p__law_led (defScope s__law_led) := ⟨rfl, rfl, rfl, by decide +kernel, rfl, by decide +kernel, by decide +kernel⟩
abbrev s__law_same : Stmt := topS 46
abbrev p__law_same : List Str := ["told", "due"]
theorem sc__law_same : FnScope K03.n__law_same p__law_same (defScope s__law_same) := ⟨rfl, rfl, rfl, by decide +kernel, rfl, by decide +kernel, by decide +kernel⟩
abbrev s__law_near : Stmt := topS 47
abbrev p__law_near : List Str := ["tape", "kind", "letter"]
theorem sc__law_near : FnScope K01.n__law_near p__law_near (defScope s__law_near) := ⟨rfl, rfl, rfl, by decide +kernel, rfl, by decide +kernel, by decide +kernel⟩
abbrev s__law_varied : Stmt := topS 48
abbrev p__law_varied : List Str := ["tape", "kind", "condition", "theory"]
theorem sc__law_varied : FnScope K04.n__law_varied p__law_varied (defScope s__law_varied) := ⟨rfl, rfl, rfl, by decide +kernel, rfl, by decide +kernel, by decide +kernel⟩
abbrev s__law_integer_groups : Stmt := topS 49
abbrev p__law_integer_groups : List Str := ["tape", "theory", "many"]
theorem sc__law_integer_groups : FnScope K22.n__law_integer_groups p__law_integer_groups (defScope s__law_integer_groups) := ⟨rfl, rfl, rfl, by decide +kernel, rfl, by decide +kernel, by decide +kernel⟩
abbrev s__law_leaf_set : Stmt := topS 50
abbrev p__law_leaf_set : List Str := ["tape", "kind", "theory"]
theorem sc__law_leaf_set : FnScope K22.n__law_leaf_set p__law_leaf_set (defScope s__law_leaf_set) := ⟨rfl, rfl, rfl, by decide +kernel, rfl, by decide +kernel, by decide +kernel⟩
abbrev s__law_going : Stmt := topS 51
abbrev p__law_going : List Str := ["tape", "kind", "theory", "machine", "most"]
theorem sc__law_going : FnScope K22.n__law_going p__law_going (defScope s__law_going) := ⟨rfl, rfl, rfl, by decide +kernel, rfl, by decide +kernel, by decide +kernel⟩
abbrev s__law_other_machine : Stmt := topS 52
abbrev p__law_other_machine : List Str := ["tape", "theory", "machine"]
theorem sc__law_other_machine : FnScope K22.n__law_other_machine p__law_other_machine (defScope s__law_other_machine) := ⟨rfl, rfl, rfl, by decide +kernel, rfl, by decide +kernel, by decide +kernel⟩
abbrev s__law_answers : Stmt := topS 53
abbrev p__law_answers : List Str := ["machine", "word", "late"]
theorem sc__law_answers : FnScope K22.n__law_answers p__law_answers (defScope s__law_answers) := ⟨rfl, rfl, rfl, by decide +kernel, rfl, by decide +kernel, by decide +kernel⟩
abbrev s_law : Stmt := topS 54
abbrev p_law : List Str := ["script"]
theorem sc_law : FnScope K22.n_law p_law (defScope s_law) := ⟨rfl, rfl, rfl, by decide +kernel, rfl, by decide +kernel, by decide +kernel⟩
/-- what the program's top leaves -/
structure Tx (K : PySem.W.Frag) (mg : Str → Option Value) where
  (f_has_integer : Addr) (d_has_integer : FuncData) (F_has_integer : Fun K "has_integer" "has_integer" s_has_integer f_has_integer d_has_integer) (b_has_integer : Binds K d_has_integer p_has_integer []) (m_has_integer : mg "has_integer" = some (.ref f_has_integer))
  (f_is_integer : Addr) (d_is_integer : FuncData) (F_is_integer : Fun K "is_integer" "is_integer" s_is_integer f_is_integer d_is_integer) (b_is_integer : Binds K d_is_integer p_is_integer []) (m_is_integer : mg "is_integer" = some (.ref f_is_integer))
  (f_is_letter : Addr) (d_is_letter : FuncData) (F_is_letter : Fun K "is_letter" "is_letter" s_is_letter f_is_letter d_is_letter) (b_is_letter : Binds K d_is_letter p_is_letter []) (m_is_letter : mg "is_letter" = some (.ref f_is_letter))
  (f_check_letter : Addr) (d_check_letter : FuncData) (F_check_letter : Fun K "check_letter" "check_letter" s_check_letter f_check_letter d_check_letter) (b_check_letter : Binds K d_check_letter p_check_letter []) (m_check_letter : mg "check_letter" = some (.ref f_check_letter))
  (f_check_word : Addr) (d_check_word : FuncData) (F_check_word : Fun K "check_word" "check_word" s_check_word f_check_word d_check_word) (b_check_word : Binds K d_check_word p_check_word []) (m_check_word : mg "check_word" = some (.ref f_check_word))
  (f_contains : Addr) (d_contains : FuncData) (F_contains : Fun K "contains" "contains" s_contains f_contains d_contains) (b_contains : Binds K d_contains p_contains []) (m_contains : mg "contains" = some (.ref f_contains))
  (f_row_of : Addr) (d_row_of : FuncData) (F_row_of : Fun K "row_of" "row_of" s_row_of f_row_of d_row_of) (b_row_of : Binds K d_row_of p_row_of []) (m_row_of : mg "row_of" = some (.ref f_row_of))
  (f_met : Addr) (d_met : FuncData) (F_met : Fun K "met" "met" s_met f_met d_met) (b_met : Binds K d_met p_met []) (m_met : mg "met" = some (.ref f_met))
  (f_met_by_value : Addr) (d_met_by_value : FuncData) (F_met_by_value : Fun K "met_by_value" "met_by_value" s_met_by_value f_met_by_value d_met_by_value) (b_met_by_value : Binds K d_met_by_value p_met_by_value []) (m_met_by_value : mg "met_by_value" = some (.ref f_met_by_value))
  (f_behind_letter : Addr) (d_behind_letter : FuncData) (F_behind_letter : Fun K "behind_letter" "behind_letter" s_behind_letter f_behind_letter d_behind_letter) (b_behind_letter : Binds K d_behind_letter p_behind_letter []) (m_behind_letter : mg "behind_letter" = some (.ref f_behind_letter))
  (f_states_behind : Addr) (d_states_behind : FuncData) (F_states_behind : Fun K "states_behind" "states_behind" s_states_behind f_states_behind d_states_behind) (b_states_behind : Binds K d_states_behind p_states_behind []) (m_states_behind : mg "states_behind" = some (.ref f_states_behind))
  (f_has_end : Addr) (d_has_end : FuncData) (F_has_end : Fun K "has_end" "has_end" s_has_end f_has_end d_has_end) (b_has_end : Binds K d_has_end p_has_end []) (m_has_end : mg "has_end" = some (.ref f_has_end))
  (f_takes : Addr) (d_takes : FuncData) (F_takes : Fun K "takes" "takes" s_takes f_takes d_takes) (b_takes : Binds K d_takes p_takes []) (m_takes : mg "takes" = some (.ref f_takes))
  (f__law_tape : Addr) (d__law_tape : FuncData) (F__law_tape : Fun K "_law_tape" "_law_tape" s__law_tape f__law_tape d__law_tape) (b__law_tape : Binds K d__law_tape p__law_tape []) (m__law_tape : mg "_law_tape" = some (.ref f__law_tape))
  (f__law_draw : Addr) (d__law_draw : FuncData) (F__law_draw : Fun K "_law_draw" "_law_draw" s__law_draw f__law_draw d__law_draw) (b__law_draw : Binds K d__law_draw p__law_draw []) (m__law_draw : mg "_law_draw" = some (.ref f__law_draw))
  (f__law_whole : Addr) (d__law_whole : FuncData) (F__law_whole : Fun K "_law_whole" "_law_whole" s__law_whole f__law_whole d__law_whole) (b__law_whole : Binds K d__law_whole p__law_whole []) (m__law_whole : mg "_law_whole" = some (.ref f__law_whole))
  (f__law_names : Addr) (d__law_names : FuncData) (F__law_names : Fun K "_law_names" "_law_names" s__law_names f__law_names d__law_names) (b__law_names : Binds K d__law_names p__law_names []) (m__law_names : mg "_law_names" = some (.ref f__law_names))
  (f__law_kinds : Addr) (d__law_kinds : FuncData) (F__law_kinds : Fun K "_law_kinds" "_law_kinds" s__law_kinds f__law_kinds d__law_kinds) (b__law_kinds : Binds K d__law_kinds p__law_kinds []) (m__law_kinds : mg "_law_kinds" = some (.ref f__law_kinds))
  (f__law_kind : Addr) (d__law_kind : FuncData) (F__law_kind : Fun K "_law_kind" "_law_kind" s__law_kind f__law_kind d__law_kind) (b__law_kind : Binds K d__law_kind p__law_kind []) (m__law_kind : mg "_law_kind" = some (.ref f__law_kind))
  (f__law_any_kind : Addr) (d__law_any_kind : FuncData) (F__law_any_kind : Fun K "_law_any_kind" "_law_any_kind" s__law_any_kind f__law_any_kind d__law_any_kind) (b__law_any_kind : Binds K d__law_any_kind p__law_any_kind []) (m__law_any_kind : mg "_law_any_kind" = some (.ref f__law_any_kind))
  (f__law_integer : Addr) (d__law_integer : FuncData) (F__law_integer : Fun K "_law_integer" "_law_integer" s__law_integer f__law_integer d__law_integer) (b__law_integer : Binds K d__law_integer p__law_integer []) (m__law_integer : mg "_law_integer" = some (.ref f__law_integer))
  (f__law_letter : Addr) (d__law_letter : FuncData) (F__law_letter : Fun K "_law_letter" "_law_letter" s__law_letter f__law_letter d__law_letter) (b__law_letter : Binds K d__law_letter p__law_letter []) (m__law_letter : mg "_law_letter" = some (.ref f__law_letter))
  (f__law_word : Addr) (d__law_word : FuncData) (F__law_word : Fun K "_law_word" "_law_word" s__law_word f__law_word d__law_word) (b__law_word : Binds K d__law_word p__law_word []) (m__law_word : mg "_law_word" = some (.ref f__law_word))
  (f__law_conditions : Addr) (d__law_conditions : FuncData) (F__law_conditions : Fun K "_law_conditions" "_law_conditions" s__law_conditions f__law_conditions d__law_conditions) (b__law_conditions : Binds K d__law_conditions p__law_conditions []) (m__law_conditions : mg "_law_conditions" = some (.ref f__law_conditions))
  (f__law_comparison : Addr) (d__law_comparison : FuncData) (F__law_comparison : Fun K "_law_comparison" "_law_comparison" s__law_comparison f__law_comparison d__law_comparison) (b__law_comparison : Binds K d__law_comparison p__law_comparison []) (m__law_comparison : mg "_law_comparison" = some (.ref f__law_comparison))
  (f__law_modulus : Addr) (d__law_modulus : FuncData) (F__law_modulus : Fun K "_law_modulus" "_law_modulus" s__law_modulus f__law_modulus d__law_modulus) (b__law_modulus : Binds K d__law_modulus p__law_modulus []) (m__law_modulus : mg "_law_modulus" = some (.ref f__law_modulus))
  (f__law_leaf : Addr) (d__law_leaf : FuncData) (F__law_leaf : Fun K "_law_leaf" "_law_leaf" s__law_leaf f__law_leaf d__law_leaf) (b__law_leaf : Binds K d__law_leaf p__law_leaf []) (m__law_leaf : mg "_law_leaf" = some (.ref f__law_leaf))
  (f__law_condition : Addr) (d__law_condition : FuncData) (F__law_condition : Fun K "_law_condition" "_law_condition" s__law_condition f__law_condition d__law_condition) (b__law_condition : Binds K d__law_condition p__law_condition []) (m__law_condition : mg "_law_condition" = some (.ref f__law_condition))
  (f__law_in : Addr) (d__law_in : FuncData) (F__law_in : Fun K "_law_in" "_law_in" s__law_in f__law_in d__law_in) (b__law_in : Binds K d__law_in p__law_in []) (m__law_in : mg "_law_in" = some (.ref f__law_in))
  (f__law_meets : Addr) (d__law_meets : FuncData) (F__law_meets : Fun K "_law_meets" "_law_meets" s__law_meets f__law_meets d__law_meets) (b__law_meets : Binds K d__law_meets p__law_meets []) (m__law_meets : mg "_law_meets" = some (.ref f__law_meets))
  (f__law_shortest : Addr) (d__law_shortest : FuncData) (F__law_shortest : Fun K "_law_shortest" "_law_shortest" s__law_shortest f__law_shortest d__law_shortest) (b__law_shortest : Binds K d__law_shortest p__law_shortest []) (m__law_shortest : mg "_law_shortest" = some (.ref f__law_shortest))
  (f__law_integers_of : Addr) (d__law_integers_of : FuncData) (F__law_integers_of : Fun K "_law_integers_of" "_law_integers_of" s__law_integers_of f__law_integers_of d__law_integers_of) (b__law_integers_of : Binds K d__law_integers_of p__law_integers_of []) (m__law_integers_of : mg "_law_integers_of" = some (.ref f__law_integers_of))
  (f__law_part : Addr) (d__law_part : FuncData) (F__law_part : Fun K "_law_part" "_law_part" s__law_part f__law_part d__law_part) (b__law_part : Binds K d__law_part p__law_part []) (m__law_part : mg "_law_part" = some (.ref f__law_part))
  (f__law_machine : Addr) (d__law_machine : FuncData) (F__law_machine : Fun K "_law_machine" "_law_machine" s__law_machine f__law_machine d__law_machine) (b__law_machine : Binds K d__law_machine p__law_machine []) (m__law_machine : mg "_law_machine" = some (.ref f__law_machine))
  (f__law_has_end : Addr) (d__law_has_end : FuncData) (F__law_has_end : Fun K "_law_has_end" "_law_has_end" s__law_has_end f__law_has_end d__law_has_end) (b__law_has_end : Binds K d__law_has_end p__law_has_end []) (m__law_has_end : mg "_law_has_end" = some (.ref f__law_has_end))
  (f__law_behind : Addr) (d__law_behind : FuncData) (F__law_behind : Fun K "_law_behind" "_law_behind" s__law_behind f__law_behind d__law_behind) (b__law_behind : Binds K d__law_behind p__law_behind []) (m__law_behind : mg "_law_behind" = some (.ref f__law_behind))
  (f__law_led : Addr) (d__law_led : FuncData) (F__law_led : Fun K "_law_led" "_law_led" s__law_led f__law_led d__law_led) (b__law_led : Binds K d__law_led p__law_led []) (m__law_led : mg "_law_led" = some (.ref f__law_led))
  (f__law_same : Addr) (d__law_same : FuncData) (F__law_same : Fun K "_law_same" "_law_same" s__law_same f__law_same d__law_same) (b__law_same : Binds K d__law_same p__law_same []) (m__law_same : mg "_law_same" = some (.ref f__law_same))
  (f__law_near : Addr) (d__law_near : FuncData) (F__law_near : Fun K "_law_near" "_law_near" s__law_near f__law_near d__law_near) (b__law_near : Binds K d__law_near p__law_near []) (m__law_near : mg "_law_near" = some (.ref f__law_near))
  (f__law_varied : Addr) (d__law_varied : FuncData) (F__law_varied : Fun K "_law_varied" "_law_varied" s__law_varied f__law_varied d__law_varied) (b__law_varied : Binds K d__law_varied p__law_varied []) (m__law_varied : mg "_law_varied" = some (.ref f__law_varied))
  (f__law_integer_groups : Addr) (d__law_integer_groups : FuncData) (F__law_integer_groups : Fun K "_law_integer_groups" "_law_integer_groups" s__law_integer_groups f__law_integer_groups d__law_integer_groups) (b__law_integer_groups : Binds K d__law_integer_groups p__law_integer_groups []) (m__law_integer_groups : mg "_law_integer_groups" = some (.ref f__law_integer_groups))
  (f__law_leaf_set : Addr) (d__law_leaf_set : FuncData) (F__law_leaf_set : Fun K "_law_leaf_set" "_law_leaf_set" s__law_leaf_set f__law_leaf_set d__law_leaf_set) (b__law_leaf_set : Binds K d__law_leaf_set p__law_leaf_set []) (m__law_leaf_set : mg "_law_leaf_set" = some (.ref f__law_leaf_set))
  (f__law_going : Addr) (d__law_going : FuncData) (F__law_going : Fun K "_law_going" "_law_going" s__law_going f__law_going d__law_going) (b__law_going : Binds K d__law_going p__law_going []) (m__law_going : mg "_law_going" = some (.ref f__law_going))
  (f__law_other_machine : Addr) (d__law_other_machine : FuncData) (F__law_other_machine : Fun K "_law_other_machine" "_law_other_machine" s__law_other_machine f__law_other_machine d__law_other_machine) (b__law_other_machine : Binds K d__law_other_machine p__law_other_machine []) (m__law_other_machine : mg "_law_other_machine" = some (.ref f__law_other_machine))
  (f__law_answers : Addr) (d__law_answers : FuncData) (F__law_answers : Fun K "_law_answers" "_law_answers" s__law_answers f__law_answers d__law_answers) (b__law_answers : Binds K d__law_answers p__law_answers []) (m__law_answers : mg "_law_answers" = some (.ref f__law_answers))
  (f_law : Addr) (d_law : FuncData) (F_law : Fun K "law" "law" s_law f_law d_law) (b_law : Binds K d_law p_law []) (m_law : mg "law" = some (.ref f_law))
  (z_abs : mg "abs" = none)
  (z_any : mg "any" = none)
  (z_bool : mg "bool" = none)
  (z_int : mg "int" = none)
  (z_isinstance : mg "isinstance" = none)
  (z_len : mg "len" = none)
  (z_list : mg "list" = none)
  (z_max : mg "max" = none)
  (z_min : mg "min" = none)
  (z_range : mg "range" = none)
  (z_sorted : mg "sorted" = none)
  (z_str : mg "str" = none)
  (z_sum : mg "sum" = none)
  (z_tuple : mg "tuple" = none)
  (c_BadLetter : Addr)
  (m_BadLetter : mg "BadLetter" = some (.ref c_BadLetter))
  (x_BadLetter : PySem.W.excIn K c_BadLetter [.type "ValueError", .type "Exception", .type "BaseException", .type "object"] "ValueError.__new__" = true)
  (k_BadLetter : PySem.W.keepIn K (.ref c_BadLetter) = true)
  (b_BadLetter : PySem.W.subIn K (.ref c_BadLetter) (.type "BaseException") = some true)
  (t_BadLetter : PySem.W.typeIn K (.ref c_BadLetter) = some (.type "type"))
theorem tx_mk {K : PySem.W.Frag} {h : Heap} {mg : Str → Option Value} (X : K.In h) (G : h.Ns mainGlobals mg)
    {f0 : Addr} {od0 an0 : Option Addr} {sl0 : Array (Option Value)} {oc0 kV0 dc0 pm0 cd0 ct0 : Value}
    {f1 : Addr} {od1 an1 : Option Addr} {sl1 : Array (Option Value)} {oc1 kV1 dc1 pm1 cd1 ct1 : Value}
    {f2 : Addr} {od2 an2 : Option Addr} {sl2 : Array (Option Value)} {oc2 kV2 dc2 pm2 cd2 ct2 : Value}
    {f3 : Addr} {od3 an3 : Option Addr} {sl3 : Array (Option Value)} {oc3 kV3 dc3 pm3 cd3 ct3 : Value}
    {f4 : Addr} {od4 an4 : Option Addr} {sl4 : Array (Option Value)} {oc4 kV4 dc4 pm4 cd4 ct4 : Value}
    {f5 : Addr} {od5 an5 : Option Addr} {sl5 : Array (Option Value)} {oc5 kV5 dc5 pm5 cd5 ct5 : Value}
    {f6 : Addr} {od6 an6 : Option Addr} {sl6 : Array (Option Value)} {oc6 kV6 dc6 pm6 cd6 ct6 : Value}
    {f7 : Addr} {od7 an7 : Option Addr} {sl7 : Array (Option Value)} {oc7 kV7 dc7 pm7 cd7 ct7 : Value}
    {f8 : Addr} {od8 an8 : Option Addr} {sl8 : Array (Option Value)} {oc8 kV8 dc8 pm8 cd8 ct8 : Value}
    {f9 : Addr} {od9 an9 : Option Addr} {sl9 : Array (Option Value)} {oc9 kV9 dc9 pm9 cd9 ct9 : Value}
    {f10 : Addr} {od10 an10 : Option Addr} {sl10 : Array (Option Value)} {oc10 kV10 dc10 pm10 cd10 ct10 : Value}
    {f11 : Addr} {od11 an11 : Option Addr} {sl11 : Array (Option Value)} {oc11 kV11 dc11 pm11 cd11 ct11 : Value}
    {f12 : Addr} {od12 an12 : Option Addr} {sl12 : Array (Option Value)} {oc12 kV12 dc12 pm12 cd12 ct12 : Value}
    {f13 : Addr} {od13 an13 : Option Addr} {sl13 : Array (Option Value)} {oc13 kV13 dc13 pm13 cd13 ct13 : Value}
    {f14 : Addr} {od14 an14 : Option Addr} {sl14 : Array (Option Value)} {oc14 kV14 dc14 pm14 cd14 ct14 : Value}
    {f15 : Addr} {od15 an15 : Option Addr} {sl15 : Array (Option Value)} {oc15 kV15 dc15 pm15 cd15 ct15 : Value}
    {f16 : Addr} {od16 an16 : Option Addr} {sl16 : Array (Option Value)} {oc16 kV16 dc16 pm16 cd16 ct16 : Value}
    {f17 : Addr} {od17 an17 : Option Addr} {sl17 : Array (Option Value)} {oc17 kV17 dc17 pm17 cd17 ct17 : Value}
    {f18 : Addr} {od18 an18 : Option Addr} {sl18 : Array (Option Value)} {oc18 kV18 dc18 pm18 cd18 ct18 : Value}
    {f19 : Addr} {od19 an19 : Option Addr} {sl19 : Array (Option Value)} {oc19 kV19 dc19 pm19 cd19 ct19 : Value}
    {f20 : Addr} {od20 an20 : Option Addr} {sl20 : Array (Option Value)} {oc20 kV20 dc20 pm20 cd20 ct20 : Value}
    {f21 : Addr} {od21 an21 : Option Addr} {sl21 : Array (Option Value)} {oc21 kV21 dc21 pm21 cd21 ct21 : Value}
    {f22 : Addr} {od22 an22 : Option Addr} {sl22 : Array (Option Value)} {oc22 kV22 dc22 pm22 cd22 ct22 : Value}
    {f23 : Addr} {od23 an23 : Option Addr} {sl23 : Array (Option Value)} {oc23 kV23 dc23 pm23 cd23 ct23 : Value}
    {f24 : Addr} {od24 an24 : Option Addr} {sl24 : Array (Option Value)} {oc24 kV24 dc24 pm24 cd24 ct24 : Value}
    {f25 : Addr} {od25 an25 : Option Addr} {sl25 : Array (Option Value)} {oc25 kV25 dc25 pm25 cd25 ct25 : Value}
    {f26 : Addr} {od26 an26 : Option Addr} {sl26 : Array (Option Value)} {oc26 kV26 dc26 pm26 cd26 ct26 : Value}
    {f27 : Addr} {od27 an27 : Option Addr} {sl27 : Array (Option Value)} {oc27 kV27 dc27 pm27 cd27 ct27 : Value}
    {f28 : Addr} {od28 an28 : Option Addr} {sl28 : Array (Option Value)} {oc28 kV28 dc28 pm28 cd28 ct28 : Value}
    {f29 : Addr} {od29 an29 : Option Addr} {sl29 : Array (Option Value)} {oc29 kV29 dc29 pm29 cd29 ct29 : Value}
    {f30 : Addr} {od30 an30 : Option Addr} {sl30 : Array (Option Value)} {oc30 kV30 dc30 pm30 cd30 ct30 : Value}
    {f31 : Addr} {od31 an31 : Option Addr} {sl31 : Array (Option Value)} {oc31 kV31 dc31 pm31 cd31 ct31 : Value}
    {f32 : Addr} {od32 an32 : Option Addr} {sl32 : Array (Option Value)} {oc32 kV32 dc32 pm32 cd32 ct32 : Value}
    {f33 : Addr} {od33 an33 : Option Addr} {sl33 : Array (Option Value)} {oc33 kV33 dc33 pm33 cd33 ct33 : Value}
    {f34 : Addr} {od34 an34 : Option Addr} {sl34 : Array (Option Value)} {oc34 kV34 dc34 pm34 cd34 ct34 : Value}
    {f35 : Addr} {od35 an35 : Option Addr} {sl35 : Array (Option Value)} {oc35 kV35 dc35 pm35 cd35 ct35 : Value}
    {f36 : Addr} {od36 an36 : Option Addr} {sl36 : Array (Option Value)} {oc36 kV36 dc36 pm36 cd36 ct36 : Value}
    {f37 : Addr} {od37 an37 : Option Addr} {sl37 : Array (Option Value)} {oc37 kV37 dc37 pm37 cd37 ct37 : Value}
    {f38 : Addr} {od38 an38 : Option Addr} {sl38 : Array (Option Value)} {oc38 kV38 dc38 pm38 cd38 ct38 : Value}
    {f39 : Addr} {od39 an39 : Option Addr} {sl39 : Array (Option Value)} {oc39 kV39 dc39 pm39 cd39 ct39 : Value}
    {f40 : Addr} {od40 an40 : Option Addr} {sl40 : Array (Option Value)} {oc40 kV40 dc40 pm40 cd40 ct40 : Value}
    {f41 : Addr} {od41 an41 : Option Addr} {sl41 : Array (Option Value)} {oc41 kV41 dc41 pm41 cd41 ct41 : Value}
    {f42 : Addr} {od42 an42 : Option Addr} {sl42 : Array (Option Value)} {oc42 kV42 dc42 pm42 cd42 ct42 : Value}
    {f43 : Addr} {od43 an43 : Option Addr} {sl43 : Array (Option Value)} {oc43 kV43 dc43 pm43 cd43 ct43 : Value}
    {f44 : Addr} {od44 an44 : Option Addr} {sl44 : Array (Option Value)} {oc44 kV44 dc44 pm44 cd44 ct44 : Value}
    {f45 : Addr} {od45 an45 : Option Addr} {sl45 : Array (Option Value)} {oc45 kV45 dc45 pm45 cd45 ct45 : Value}
    (a0 : PySem.W.nsIn K mainGlobals "has_integer" = some (some (.ref f0)))
    (l0 : K.lookup f0 = some ⟨oc0, od0, .func (PySem.W.fnOf "has_integer" "has_integer" (defArgs s_has_integer) (defBody s_has_integer) (defScope s_has_integer) .none kV0 dc0 pm0 an0 cd0 ct0), sl0⟩)
    (c0 : PySem.W.codeIn K cd0 "has_integer" = true) (k0 : PySem.W.keepIn K (.ref f0) = true)
    (a1 : PySem.W.nsIn K mainGlobals "is_integer" = some (some (.ref f1)))
    (l1 : K.lookup f1 = some ⟨oc1, od1, .func (PySem.W.fnOf "is_integer" "is_integer" (defArgs s_is_integer) (defBody s_is_integer) (defScope s_is_integer) .none kV1 dc1 pm1 an1 cd1 ct1), sl1⟩)
    (c1 : PySem.W.codeIn K cd1 "is_integer" = true) (k1 : PySem.W.keepIn K (.ref f1) = true)
    (a2 : PySem.W.nsIn K mainGlobals "is_letter" = some (some (.ref f2)))
    (l2 : K.lookup f2 = some ⟨oc2, od2, .func (PySem.W.fnOf "is_letter" "is_letter" (defArgs s_is_letter) (defBody s_is_letter) (defScope s_is_letter) .none kV2 dc2 pm2 an2 cd2 ct2), sl2⟩)
    (c2 : PySem.W.codeIn K cd2 "is_letter" = true) (k2 : PySem.W.keepIn K (.ref f2) = true)
    (a3 : PySem.W.nsIn K mainGlobals "check_letter" = some (some (.ref f3)))
    (l3 : K.lookup f3 = some ⟨oc3, od3, .func (PySem.W.fnOf "check_letter" "check_letter" (defArgs s_check_letter) (defBody s_check_letter) (defScope s_check_letter) .none kV3 dc3 pm3 an3 cd3 ct3), sl3⟩)
    (c3 : PySem.W.codeIn K cd3 "check_letter" = true) (k3 : PySem.W.keepIn K (.ref f3) = true)
    (a4 : PySem.W.nsIn K mainGlobals "check_word" = some (some (.ref f4)))
    (l4 : K.lookup f4 = some ⟨oc4, od4, .func (PySem.W.fnOf "check_word" "check_word" (defArgs s_check_word) (defBody s_check_word) (defScope s_check_word) .none kV4 dc4 pm4 an4 cd4 ct4), sl4⟩)
    (c4 : PySem.W.codeIn K cd4 "check_word" = true) (k4 : PySem.W.keepIn K (.ref f4) = true)
    (a5 : PySem.W.nsIn K mainGlobals "contains" = some (some (.ref f5)))
    (l5 : K.lookup f5 = some ⟨oc5, od5, .func (PySem.W.fnOf "contains" "contains" (defArgs s_contains) (defBody s_contains) (defScope s_contains) .none kV5 dc5 pm5 an5 cd5 ct5), sl5⟩)
    (c5 : PySem.W.codeIn K cd5 "contains" = true) (k5 : PySem.W.keepIn K (.ref f5) = true)
    (a6 : PySem.W.nsIn K mainGlobals "row_of" = some (some (.ref f6)))
    (l6 : K.lookup f6 = some ⟨oc6, od6, .func (PySem.W.fnOf "row_of" "row_of" (defArgs s_row_of) (defBody s_row_of) (defScope s_row_of) .none kV6 dc6 pm6 an6 cd6 ct6), sl6⟩)
    (c6 : PySem.W.codeIn K cd6 "row_of" = true) (k6 : PySem.W.keepIn K (.ref f6) = true)
    (a7 : PySem.W.nsIn K mainGlobals "met" = some (some (.ref f7)))
    (l7 : K.lookup f7 = some ⟨oc7, od7, .func (PySem.W.fnOf "met" "met" (defArgs s_met) (defBody s_met) (defScope s_met) .none kV7 dc7 pm7 an7 cd7 ct7), sl7⟩)
    (c7 : PySem.W.codeIn K cd7 "met" = true) (k7 : PySem.W.keepIn K (.ref f7) = true)
    (a8 : PySem.W.nsIn K mainGlobals "met_by_value" = some (some (.ref f8)))
    (l8 : K.lookup f8 = some ⟨oc8, od8, .func (PySem.W.fnOf "met_by_value" "met_by_value" (defArgs s_met_by_value) (defBody s_met_by_value) (defScope s_met_by_value) .none kV8 dc8 pm8 an8 cd8 ct8), sl8⟩)
    (c8 : PySem.W.codeIn K cd8 "met_by_value" = true) (k8 : PySem.W.keepIn K (.ref f8) = true)
    (a9 : PySem.W.nsIn K mainGlobals "behind_letter" = some (some (.ref f9)))
    (l9 : K.lookup f9 = some ⟨oc9, od9, .func (PySem.W.fnOf "behind_letter" "behind_letter" (defArgs s_behind_letter) (defBody s_behind_letter) (defScope s_behind_letter) .none kV9 dc9 pm9 an9 cd9 ct9), sl9⟩)
    (c9 : PySem.W.codeIn K cd9 "behind_letter" = true) (k9 : PySem.W.keepIn K (.ref f9) = true)
    (a10 : PySem.W.nsIn K mainGlobals "states_behind" = some (some (.ref f10)))
    (l10 : K.lookup f10 = some ⟨oc10, od10, .func (PySem.W.fnOf "states_behind" "states_behind" (defArgs s_states_behind) (defBody s_states_behind) (defScope s_states_behind) .none kV10 dc10 pm10 an10 cd10 ct10), sl10⟩)
    (c10 : PySem.W.codeIn K cd10 "states_behind" = true) (k10 : PySem.W.keepIn K (.ref f10) = true)
    (a11 : PySem.W.nsIn K mainGlobals "has_end" = some (some (.ref f11)))
    (l11 : K.lookup f11 = some ⟨oc11, od11, .func (PySem.W.fnOf "has_end" "has_end" (defArgs s_has_end) (defBody s_has_end) (defScope s_has_end) .none kV11 dc11 pm11 an11 cd11 ct11), sl11⟩)
    (c11 : PySem.W.codeIn K cd11 "has_end" = true) (k11 : PySem.W.keepIn K (.ref f11) = true)
    (a12 : PySem.W.nsIn K mainGlobals "takes" = some (some (.ref f12)))
    (l12 : K.lookup f12 = some ⟨oc12, od12, .func (PySem.W.fnOf "takes" "takes" (defArgs s_takes) (defBody s_takes) (defScope s_takes) .none kV12 dc12 pm12 an12 cd12 ct12), sl12⟩)
    (c12 : PySem.W.codeIn K cd12 "takes" = true) (k12 : PySem.W.keepIn K (.ref f12) = true)
    (a13 : PySem.W.nsIn K mainGlobals "_law_tape" = some (some (.ref f13)))
    (l13 : K.lookup f13 = some ⟨oc13, od13, .func (PySem.W.fnOf "_law_tape" "_law_tape" (defArgs s__law_tape) (defBody s__law_tape) (defScope s__law_tape) .none kV13 dc13 pm13 an13 cd13 ct13), sl13⟩)
    (c13 : PySem.W.codeIn K cd13 "_law_tape" = true) (k13 : PySem.W.keepIn K (.ref f13) = true)
    (a14 : PySem.W.nsIn K mainGlobals "_law_draw" = some (some (.ref f14)))
    (l14 : K.lookup f14 = some ⟨oc14, od14, .func (PySem.W.fnOf "_law_draw" "_law_draw" (defArgs s__law_draw) (defBody s__law_draw) (defScope s__law_draw) .none kV14 dc14 pm14 an14 cd14 ct14), sl14⟩)
    (c14 : PySem.W.codeIn K cd14 "_law_draw" = true) (k14 : PySem.W.keepIn K (.ref f14) = true)
    (a15 : PySem.W.nsIn K mainGlobals "_law_whole" = some (some (.ref f15)))
    (l15 : K.lookup f15 = some ⟨oc15, od15, .func (PySem.W.fnOf "_law_whole" "_law_whole" (defArgs s__law_whole) (defBody s__law_whole) (defScope s__law_whole) .none kV15 dc15 pm15 an15 cd15 ct15), sl15⟩)
    (c15 : PySem.W.codeIn K cd15 "_law_whole" = true) (k15 : PySem.W.keepIn K (.ref f15) = true)
    (a16 : PySem.W.nsIn K mainGlobals "_law_names" = some (some (.ref f16)))
    (l16 : K.lookup f16 = some ⟨oc16, od16, .func (PySem.W.fnOf "_law_names" "_law_names" (defArgs s__law_names) (defBody s__law_names) (defScope s__law_names) .none kV16 dc16 pm16 an16 cd16 ct16), sl16⟩)
    (c16 : PySem.W.codeIn K cd16 "_law_names" = true) (k16 : PySem.W.keepIn K (.ref f16) = true)
    (a17 : PySem.W.nsIn K mainGlobals "_law_kinds" = some (some (.ref f17)))
    (l17 : K.lookup f17 = some ⟨oc17, od17, .func (PySem.W.fnOf "_law_kinds" "_law_kinds" (defArgs s__law_kinds) (defBody s__law_kinds) (defScope s__law_kinds) .none kV17 dc17 pm17 an17 cd17 ct17), sl17⟩)
    (c17 : PySem.W.codeIn K cd17 "_law_kinds" = true) (k17 : PySem.W.keepIn K (.ref f17) = true)
    (a18 : PySem.W.nsIn K mainGlobals "_law_kind" = some (some (.ref f18)))
    (l18 : K.lookup f18 = some ⟨oc18, od18, .func (PySem.W.fnOf "_law_kind" "_law_kind" (defArgs s__law_kind) (defBody s__law_kind) (defScope s__law_kind) .none kV18 dc18 pm18 an18 cd18 ct18), sl18⟩)
    (c18 : PySem.W.codeIn K cd18 "_law_kind" = true) (k18 : PySem.W.keepIn K (.ref f18) = true)
    (a19 : PySem.W.nsIn K mainGlobals "_law_any_kind" = some (some (.ref f19)))
    (l19 : K.lookup f19 = some ⟨oc19, od19, .func (PySem.W.fnOf "_law_any_kind" "_law_any_kind" (defArgs s__law_any_kind) (defBody s__law_any_kind) (defScope s__law_any_kind) .none kV19 dc19 pm19 an19 cd19 ct19), sl19⟩)
    (c19 : PySem.W.codeIn K cd19 "_law_any_kind" = true) (k19 : PySem.W.keepIn K (.ref f19) = true)
    (a20 : PySem.W.nsIn K mainGlobals "_law_integer" = some (some (.ref f20)))
    (l20 : K.lookup f20 = some ⟨oc20, od20, .func (PySem.W.fnOf "_law_integer" "_law_integer" (defArgs s__law_integer) (defBody s__law_integer) (defScope s__law_integer) .none kV20 dc20 pm20 an20 cd20 ct20), sl20⟩)
    (c20 : PySem.W.codeIn K cd20 "_law_integer" = true) (k20 : PySem.W.keepIn K (.ref f20) = true)
    (a21 : PySem.W.nsIn K mainGlobals "_law_letter" = some (some (.ref f21)))
    (l21 : K.lookup f21 = some ⟨oc21, od21, .func (PySem.W.fnOf "_law_letter" "_law_letter" (defArgs s__law_letter) (defBody s__law_letter) (defScope s__law_letter) .none kV21 dc21 pm21 an21 cd21 ct21), sl21⟩)
    (c21 : PySem.W.codeIn K cd21 "_law_letter" = true) (k21 : PySem.W.keepIn K (.ref f21) = true)
    (a22 : PySem.W.nsIn K mainGlobals "_law_word" = some (some (.ref f22)))
    (l22 : K.lookup f22 = some ⟨oc22, od22, .func (PySem.W.fnOf "_law_word" "_law_word" (defArgs s__law_word) (defBody s__law_word) (defScope s__law_word) .none kV22 dc22 pm22 an22 cd22 ct22), sl22⟩)
    (c22 : PySem.W.codeIn K cd22 "_law_word" = true) (k22 : PySem.W.keepIn K (.ref f22) = true)
    (a23 : PySem.W.nsIn K mainGlobals "_law_conditions" = some (some (.ref f23)))
    (l23 : K.lookup f23 = some ⟨oc23, od23, .func (PySem.W.fnOf "_law_conditions" "_law_conditions" (defArgs s__law_conditions) (defBody s__law_conditions) (defScope s__law_conditions) .none kV23 dc23 pm23 an23 cd23 ct23), sl23⟩)
    (c23 : PySem.W.codeIn K cd23 "_law_conditions" = true) (k23 : PySem.W.keepIn K (.ref f23) = true)
    (a24 : PySem.W.nsIn K mainGlobals "_law_comparison" = some (some (.ref f24)))
    (l24 : K.lookup f24 = some ⟨oc24, od24, .func (PySem.W.fnOf "_law_comparison" "_law_comparison" (defArgs s__law_comparison) (defBody s__law_comparison) (defScope s__law_comparison) .none kV24 dc24 pm24 an24 cd24 ct24), sl24⟩)
    (c24 : PySem.W.codeIn K cd24 "_law_comparison" = true) (k24 : PySem.W.keepIn K (.ref f24) = true)
    (a25 : PySem.W.nsIn K mainGlobals "_law_modulus" = some (some (.ref f25)))
    (l25 : K.lookup f25 = some ⟨oc25, od25, .func (PySem.W.fnOf "_law_modulus" "_law_modulus" (defArgs s__law_modulus) (defBody s__law_modulus) (defScope s__law_modulus) .none kV25 dc25 pm25 an25 cd25 ct25), sl25⟩)
    (c25 : PySem.W.codeIn K cd25 "_law_modulus" = true) (k25 : PySem.W.keepIn K (.ref f25) = true)
    (a26 : PySem.W.nsIn K mainGlobals "_law_leaf" = some (some (.ref f26)))
    (l26 : K.lookup f26 = some ⟨oc26, od26, .func (PySem.W.fnOf "_law_leaf" "_law_leaf" (defArgs s__law_leaf) (defBody s__law_leaf) (defScope s__law_leaf) .none kV26 dc26 pm26 an26 cd26 ct26), sl26⟩)
    (c26 : PySem.W.codeIn K cd26 "_law_leaf" = true) (k26 : PySem.W.keepIn K (.ref f26) = true)
    (a27 : PySem.W.nsIn K mainGlobals "_law_condition" = some (some (.ref f27)))
    (l27 : K.lookup f27 = some ⟨oc27, od27, .func (PySem.W.fnOf "_law_condition" "_law_condition" (defArgs s__law_condition) (defBody s__law_condition) (defScope s__law_condition) .none kV27 dc27 pm27 an27 cd27 ct27), sl27⟩)
    (c27 : PySem.W.codeIn K cd27 "_law_condition" = true) (k27 : PySem.W.keepIn K (.ref f27) = true)
    (a28 : PySem.W.nsIn K mainGlobals "_law_in" = some (some (.ref f28)))
    (l28 : K.lookup f28 = some ⟨oc28, od28, .func (PySem.W.fnOf "_law_in" "_law_in" (defArgs s__law_in) (defBody s__law_in) (defScope s__law_in) .none kV28 dc28 pm28 an28 cd28 ct28), sl28⟩)
    (c28 : PySem.W.codeIn K cd28 "_law_in" = true) (k28 : PySem.W.keepIn K (.ref f28) = true)
    (a29 : PySem.W.nsIn K mainGlobals "_law_meets" = some (some (.ref f29)))
    (l29 : K.lookup f29 = some ⟨oc29, od29, .func (PySem.W.fnOf "_law_meets" "_law_meets" (defArgs s__law_meets) (defBody s__law_meets) (defScope s__law_meets) .none kV29 dc29 pm29 an29 cd29 ct29), sl29⟩)
    (c29 : PySem.W.codeIn K cd29 "_law_meets" = true) (k29 : PySem.W.keepIn K (.ref f29) = true)
    (a30 : PySem.W.nsIn K mainGlobals "_law_shortest" = some (some (.ref f30)))
    (l30 : K.lookup f30 = some ⟨oc30, od30, .func (PySem.W.fnOf "_law_shortest" "_law_shortest" (defArgs s__law_shortest) (defBody s__law_shortest) (defScope s__law_shortest) .none kV30 dc30 pm30 an30 cd30 ct30), sl30⟩)
    (c30 : PySem.W.codeIn K cd30 "_law_shortest" = true) (k30 : PySem.W.keepIn K (.ref f30) = true)
    (a31 : PySem.W.nsIn K mainGlobals "_law_integers_of" = some (some (.ref f31)))
    (l31 : K.lookup f31 = some ⟨oc31, od31, .func (PySem.W.fnOf "_law_integers_of" "_law_integers_of" (defArgs s__law_integers_of) (defBody s__law_integers_of) (defScope s__law_integers_of) .none kV31 dc31 pm31 an31 cd31 ct31), sl31⟩)
    (c31 : PySem.W.codeIn K cd31 "_law_integers_of" = true) (k31 : PySem.W.keepIn K (.ref f31) = true)
    (a32 : PySem.W.nsIn K mainGlobals "_law_part" = some (some (.ref f32)))
    (l32 : K.lookup f32 = some ⟨oc32, od32, .func (PySem.W.fnOf "_law_part" "_law_part" (defArgs s__law_part) (defBody s__law_part) (defScope s__law_part) .none kV32 dc32 pm32 an32 cd32 ct32), sl32⟩)
    (c32 : PySem.W.codeIn K cd32 "_law_part" = true) (k32 : PySem.W.keepIn K (.ref f32) = true)
    (a33 : PySem.W.nsIn K mainGlobals "_law_machine" = some (some (.ref f33)))
    (l33 : K.lookup f33 = some ⟨oc33, od33, .func (PySem.W.fnOf "_law_machine" "_law_machine" (defArgs s__law_machine) (defBody s__law_machine) (defScope s__law_machine) .none kV33 dc33 pm33 an33 cd33 ct33), sl33⟩)
    (c33 : PySem.W.codeIn K cd33 "_law_machine" = true) (k33 : PySem.W.keepIn K (.ref f33) = true)
    (a34 : PySem.W.nsIn K mainGlobals "_law_has_end" = some (some (.ref f34)))
    (l34 : K.lookup f34 = some ⟨oc34, od34, .func (PySem.W.fnOf "_law_has_end" "_law_has_end" (defArgs s__law_has_end) (defBody s__law_has_end) (defScope s__law_has_end) .none kV34 dc34 pm34 an34 cd34 ct34), sl34⟩)
    (c34 : PySem.W.codeIn K cd34 "_law_has_end" = true) (k34 : PySem.W.keepIn K (.ref f34) = true)
    (a35 : PySem.W.nsIn K mainGlobals "_law_behind" = some (some (.ref f35)))
    (l35 : K.lookup f35 = some ⟨oc35, od35, .func (PySem.W.fnOf "_law_behind" "_law_behind" (defArgs s__law_behind) (defBody s__law_behind) (defScope s__law_behind) .none kV35 dc35 pm35 an35 cd35 ct35), sl35⟩)
    (c35 : PySem.W.codeIn K cd35 "_law_behind" = true) (k35 : PySem.W.keepIn K (.ref f35) = true)
    (a36 : PySem.W.nsIn K mainGlobals "_law_led" = some (some (.ref f36)))
    (l36 : K.lookup f36 = some ⟨oc36, od36, .func (PySem.W.fnOf "_law_led" "_law_led" (defArgs s__law_led) (defBody s__law_led) (defScope s__law_led) .none kV36 dc36 pm36 an36 cd36 ct36), sl36⟩)
    (c36 : PySem.W.codeIn K cd36 "_law_led" = true) (k36 : PySem.W.keepIn K (.ref f36) = true)
    (a37 : PySem.W.nsIn K mainGlobals "_law_same" = some (some (.ref f37)))
    (l37 : K.lookup f37 = some ⟨oc37, od37, .func (PySem.W.fnOf "_law_same" "_law_same" (defArgs s__law_same) (defBody s__law_same) (defScope s__law_same) .none kV37 dc37 pm37 an37 cd37 ct37), sl37⟩)
    (c37 : PySem.W.codeIn K cd37 "_law_same" = true) (k37 : PySem.W.keepIn K (.ref f37) = true)
    (a38 : PySem.W.nsIn K mainGlobals "_law_near" = some (some (.ref f38)))
    (l38 : K.lookup f38 = some ⟨oc38, od38, .func (PySem.W.fnOf "_law_near" "_law_near" (defArgs s__law_near) (defBody s__law_near) (defScope s__law_near) .none kV38 dc38 pm38 an38 cd38 ct38), sl38⟩)
    (c38 : PySem.W.codeIn K cd38 "_law_near" = true) (k38 : PySem.W.keepIn K (.ref f38) = true)
    (a39 : PySem.W.nsIn K mainGlobals "_law_varied" = some (some (.ref f39)))
    (l39 : K.lookup f39 = some ⟨oc39, od39, .func (PySem.W.fnOf "_law_varied" "_law_varied" (defArgs s__law_varied) (defBody s__law_varied) (defScope s__law_varied) .none kV39 dc39 pm39 an39 cd39 ct39), sl39⟩)
    (c39 : PySem.W.codeIn K cd39 "_law_varied" = true) (k39 : PySem.W.keepIn K (.ref f39) = true)
    (a40 : PySem.W.nsIn K mainGlobals "_law_integer_groups" = some (some (.ref f40)))
    (l40 : K.lookup f40 = some ⟨oc40, od40, .func (PySem.W.fnOf "_law_integer_groups" "_law_integer_groups" (defArgs s__law_integer_groups) (defBody s__law_integer_groups) (defScope s__law_integer_groups) .none kV40 dc40 pm40 an40 cd40 ct40), sl40⟩)
    (c40 : PySem.W.codeIn K cd40 "_law_integer_groups" = true) (k40 : PySem.W.keepIn K (.ref f40) = true)
    (a41 : PySem.W.nsIn K mainGlobals "_law_leaf_set" = some (some (.ref f41)))
    (l41 : K.lookup f41 = some ⟨oc41, od41, .func (PySem.W.fnOf "_law_leaf_set" "_law_leaf_set" (defArgs s__law_leaf_set) (defBody s__law_leaf_set) (defScope s__law_leaf_set) .none kV41 dc41 pm41 an41 cd41 ct41), sl41⟩)
    (c41 : PySem.W.codeIn K cd41 "_law_leaf_set" = true) (k41 : PySem.W.keepIn K (.ref f41) = true)
    (a42 : PySem.W.nsIn K mainGlobals "_law_going" = some (some (.ref f42)))
    (l42 : K.lookup f42 = some ⟨oc42, od42, .func (PySem.W.fnOf "_law_going" "_law_going" (defArgs s__law_going) (defBody s__law_going) (defScope s__law_going) .none kV42 dc42 pm42 an42 cd42 ct42), sl42⟩)
    (c42 : PySem.W.codeIn K cd42 "_law_going" = true) (k42 : PySem.W.keepIn K (.ref f42) = true)
    (a43 : PySem.W.nsIn K mainGlobals "_law_other_machine" = some (some (.ref f43)))
    (l43 : K.lookup f43 = some ⟨oc43, od43, .func (PySem.W.fnOf "_law_other_machine" "_law_other_machine" (defArgs s__law_other_machine) (defBody s__law_other_machine) (defScope s__law_other_machine) .none kV43 dc43 pm43 an43 cd43 ct43), sl43⟩)
    (c43 : PySem.W.codeIn K cd43 "_law_other_machine" = true) (k43 : PySem.W.keepIn K (.ref f43) = true)
    (a44 : PySem.W.nsIn K mainGlobals "_law_answers" = some (some (.ref f44)))
    (l44 : K.lookup f44 = some ⟨oc44, od44, .func (PySem.W.fnOf "_law_answers" "_law_answers" (defArgs s__law_answers) (defBody s__law_answers) (defScope s__law_answers) .none kV44 dc44 pm44 an44 cd44 ct44), sl44⟩)
    (c44 : PySem.W.codeIn K cd44 "_law_answers" = true) (k44 : PySem.W.keepIn K (.ref f44) = true)
    (a45 : PySem.W.nsIn K mainGlobals "law" = some (some (.ref f45)))
    (l45 : K.lookup f45 = some ⟨oc45, od45, .func (PySem.W.fnOf "law" "law" (defArgs s_law) (defBody s_law) (defScope s_law) .none kV45 dc45 pm45 an45 cd45 ct45), sl45⟩)
    (c45 : PySem.W.codeIn K cd45 "law" = true) (k45 : PySem.W.keepIn K (.ref f45) = true)
    (z_abs : PySem.W.nsIn K mainGlobals "abs" = some none)
    (z_any : PySem.W.nsIn K mainGlobals "any" = some none)
    (z_bool : PySem.W.nsIn K mainGlobals "bool" = some none)
    (z_int : PySem.W.nsIn K mainGlobals "int" = some none)
    (z_isinstance : PySem.W.nsIn K mainGlobals "isinstance" = some none)
    (z_len : PySem.W.nsIn K mainGlobals "len" = some none)
    (z_list : PySem.W.nsIn K mainGlobals "list" = some none)
    (z_max : PySem.W.nsIn K mainGlobals "max" = some none)
    (z_min : PySem.W.nsIn K mainGlobals "min" = some none)
    (z_range : PySem.W.nsIn K mainGlobals "range" = some none)
    (z_sorted : PySem.W.nsIn K mainGlobals "sorted" = some none)
    (z_str : PySem.W.nsIn K mainGlobals "str" = some none)
    (z_sum : PySem.W.nsIn K mainGlobals "sum" = some none)
    (z_tuple : PySem.W.nsIn K mainGlobals "tuple" = some none)
    {c_BadLetter : Addr}
    (m_BadLetter : PySem.W.nsIn K mainGlobals "BadLetter" = some (some (.ref c_BadLetter)))
    (x_BadLetter : PySem.W.excIn K c_BadLetter [.type "ValueError", .type "Exception", .type "BaseException", .type "object"] "ValueError.__new__" = true)
    (k_BadLetter : PySem.W.keepIn K (.ref c_BadLetter) = true)
    (b_BadLetter : PySem.W.subIn K (.ref c_BadLetter) (.type "BaseException") = some true)
    (t_BadLetter : PySem.W.typeIn K (.ref c_BadLetter) = some (.type "type"))
    : ∃ T : Tx K mg, ∀ (s : Shared) (v : Value), BindsTo s T.d_law ⟨[v], []⟩ [("script", v)] :=
  ⟨⟨f0, _, fun_mk (st := s_has_integer) l0 c0 k0, (fun_mk (st := s_has_integer) l0 c0 k0).binds (ps := p_has_integer) (fun _ _ _ _ _ _ us hl => match us, hl with | [_, _], _ => rfl), PySem.W.mg_of X G a0,
    f1, _, fun_mk (st := s_is_integer) l1 c1 k1, (fun_mk (st := s_is_integer) l1 c1 k1).binds (ps := p_is_integer) (fun _ _ _ _ _ _ us hl => match us, hl with | [_], _ => rfl), PySem.W.mg_of X G a1,
    f2, _, fun_mk (st := s_is_letter) l2 c2 k2, (fun_mk (st := s_is_letter) l2 c2 k2).binds (ps := p_is_letter) (fun _ _ _ _ _ _ us hl => match us, hl with | [_, _], _ => rfl), PySem.W.mg_of X G a2,
    f3, _, fun_mk (st := s_check_letter) l3 c3 k3, (fun_mk (st := s_check_letter) l3 c3 k3).binds (ps := p_check_letter) (fun _ _ _ _ _ _ us hl => match us, hl with | [_, _], _ => rfl), PySem.W.mg_of X G a3,
    f4, _, fun_mk (st := s_check_word) l4 c4 k4, (fun_mk (st := s_check_word) l4 c4 k4).binds (ps := p_check_word) (fun _ _ _ _ _ _ us hl => match us, hl with | [_, _], _ => rfl), PySem.W.mg_of X G a4,
    f5, _, fun_mk (st := s_contains) l5 c5 k5, (fun_mk (st := s_contains) l5 c5 k5).binds (ps := p_contains) (fun _ _ _ _ _ _ us hl => match us, hl with | [_, _, _], _ => rfl), PySem.W.mg_of X G a5,
    f6, _, fun_mk (st := s_row_of) l6 c6 k6, (fun_mk (st := s_row_of) l6 c6 k6).binds (ps := p_row_of) (fun _ _ _ _ _ _ us hl => match us, hl with | [_, _, _], _ => rfl), PySem.W.mg_of X G a6,
    f7, _, fun_mk (st := s_met) l7 c7 k7, (fun_mk (st := s_met) l7 c7 k7).binds (ps := p_met) (fun _ _ _ _ _ _ us hl => match us, hl with | [_, _, _], _ => rfl), PySem.W.mg_of X G a7,
    f8, _, fun_mk (st := s_met_by_value) l8 c8 k8, (fun_mk (st := s_met_by_value) l8 c8 k8).binds (ps := p_met_by_value) (fun _ _ _ _ _ _ us hl => match us, hl with | [_, _], _ => rfl), PySem.W.mg_of X G a8,
    f9, _, fun_mk (st := s_behind_letter) l9 c9 k9, (fun_mk (st := s_behind_letter) l9 c9 k9).binds (ps := p_behind_letter) (fun _ _ _ _ _ _ us hl => match us, hl with | [_, _, _], _ => rfl), PySem.W.mg_of X G a9,
    f10, _, fun_mk (st := s_states_behind) l10 c10 k10, (fun_mk (st := s_states_behind) l10 c10 k10).binds (ps := p_states_behind) (fun _ _ _ _ _ _ us hl => match us, hl with | [_, _], _ => rfl), PySem.W.mg_of X G a10,
    f11, _, fun_mk (st := s_has_end) l11 c11 k11, (fun_mk (st := s_has_end) l11 c11 k11).binds (ps := p_has_end) (fun _ _ _ _ _ _ us hl => match us, hl with | [_, _], _ => rfl), PySem.W.mg_of X G a11,
    f12, _, fun_mk (st := s_takes) l12 c12 k12, (fun_mk (st := s_takes) l12 c12 k12).binds (ps := p_takes) (fun _ _ _ _ _ _ us hl => match us, hl with | [_, _], _ => rfl), PySem.W.mg_of X G a12,
    f13, _, fun_mk (st := s__law_tape) l13 c13 k13, (fun_mk (st := s__law_tape) l13 c13 k13).binds (ps := p__law_tape) (fun _ _ _ _ _ _ us hl => match us, hl with | [_], _ => rfl), PySem.W.mg_of X G a13,
    f14, _, fun_mk (st := s__law_draw) l14 c14 k14, (fun_mk (st := s__law_draw) l14 c14 k14).binds (ps := p__law_draw) (fun _ _ _ _ _ _ us hl => match us, hl with | [_, _], _ => rfl), PySem.W.mg_of X G a14,
    f15, _, fun_mk (st := s__law_whole) l15 c15 k15, (fun_mk (st := s__law_whole) l15 c15 k15).binds (ps := p__law_whole) (fun _ _ _ _ _ _ us hl => match us, hl with | [_], _ => rfl), PySem.W.mg_of X G a15,
    f16, _, fun_mk (st := s__law_names) l16 c16 k16, (fun_mk (st := s__law_names) l16 c16 k16).binds (ps := p__law_names) (fun _ _ _ _ _ _ us hl => match us, hl with | [_], _ => rfl), PySem.W.mg_of X G a16,
    f17, _, fun_mk (st := s__law_kinds) l17 c17 k17, (fun_mk (st := s__law_kinds) l17 c17 k17).binds (ps := p__law_kinds) (fun _ _ _ _ _ _ us hl => match us, hl with | [_], _ => rfl), PySem.W.mg_of X G a17,
    f18, _, fun_mk (st := s__law_kind) l18 c18 k18, (fun_mk (st := s__law_kind) l18 c18 k18).binds (ps := p__law_kind) (fun _ _ _ _ _ _ us hl => match us, hl with | [_, _, _], _ => rfl), PySem.W.mg_of X G a18,
    f19, _, fun_mk (st := s__law_any_kind) l19 c19 k19, (fun_mk (st := s__law_any_kind) l19 c19 k19).binds (ps := p__law_any_kind) (fun _ _ _ _ _ _ us hl => match us, hl with | [_], _ => rfl), PySem.W.mg_of X G a19,
    f20, _, fun_mk (st := s__law_integer) l20 c20 k20, (fun_mk (st := s__law_integer) l20 c20 k20).binds (ps := p__law_integer) (fun _ _ _ _ _ _ us hl => match us, hl with | [_, _], _ => rfl), PySem.W.mg_of X G a20,
    f21, _, fun_mk (st := s__law_letter) l21 c21 k21, (fun_mk (st := s__law_letter) l21 c21 k21).binds (ps := p__law_letter) (fun _ _ _ _ _ _ us hl => match us, hl with | [_, _, _], _ => rfl), PySem.W.mg_of X G a21,
    f22, _, fun_mk (st := s__law_word) l22 c22 k22, (fun_mk (st := s__law_word) l22 c22 k22).binds (ps := p__law_word) (fun _ _ _ _ _ _ us hl => match us, hl with | [_, _, _, _], _ => rfl), PySem.W.mg_of X G a22,
    f23, _, fun_mk (st := s__law_conditions) l23 c23 k23, (fun_mk (st := s__law_conditions) l23 c23 k23).binds (ps := p__law_conditions) (fun _ _ _ _ _ _ us hl => match us, hl with | [_], _ => rfl), PySem.W.mg_of X G a23,
    f24, _, fun_mk (st := s__law_comparison) l24 c24 k24, (fun_mk (st := s__law_comparison) l24 c24 k24).binds (ps := p__law_comparison) (fun _ _ _ _ _ _ us hl => match us, hl with | [_, _], _ => rfl), PySem.W.mg_of X G a24,
    f25, _, fun_mk (st := s__law_modulus) l25 c25 k25, (fun_mk (st := s__law_modulus) l25 c25 k25).binds (ps := p__law_modulus) (fun _ _ _ _ _ _ us hl => match us, hl with | [_, _], _ => rfl), PySem.W.mg_of X G a25,
    f26, _, fun_mk (st := s__law_leaf) l26 c26 k26, (fun_mk (st := s__law_leaf) l26 c26 k26).binds (ps := p__law_leaf) (fun _ _ _ _ _ _ us hl => match us, hl with | [_, _, _, _], _ => rfl), PySem.W.mg_of X G a26,
    f27, _, fun_mk (st := s__law_condition) l27 c27 k27, (fun_mk (st := s__law_condition) l27 c27 k27).binds (ps := p__law_condition) (fun _ _ _ _ _ _ us hl => match us, hl with | [_, _, _, _], _ => rfl), PySem.W.mg_of X G a27,
    f28, _, fun_mk (st := s__law_in) l28 c28 k28, (fun_mk (st := s__law_in) l28 c28 k28).binds (ps := p__law_in) (fun _ _ _ _ _ _ us hl => match us, hl with | [_, _], _ => rfl), PySem.W.mg_of X G a28,
    f29, _, fun_mk (st := s__law_meets) l29 c29 k29, (fun_mk (st := s__law_meets) l29 c29 k29).binds (ps := p__law_meets) (fun _ _ _ _ _ _ us hl => match us, hl with | [_, _], _ => rfl), PySem.W.mg_of X G a29,
    f30, _, fun_mk (st := s__law_shortest) l30 c30 k30, (fun_mk (st := s__law_shortest) l30 c30 k30).binds (ps := p__law_shortest) (fun _ _ _ _ _ _ us hl => match us, hl with | [_], _ => rfl), PySem.W.mg_of X G a30,
    f31, _, fun_mk (st := s__law_integers_of) l31 c31 k31, (fun_mk (st := s__law_integers_of) l31 c31 k31).binds (ps := p__law_integers_of) (fun _ _ _ _ _ _ us hl => match us, hl with | [_, _], _ => rfl), PySem.W.mg_of X G a31,
    f32, _, fun_mk (st := s__law_part) l32 c32 k32, (fun_mk (st := s__law_part) l32 c32 k32).binds (ps := p__law_part) (fun _ _ _ _ _ _ us hl => match us, hl with | [_, _], _ => rfl), PySem.W.mg_of X G a32,
    f33, _, fun_mk (st := s__law_machine) l33 c33 k33, (fun_mk (st := s__law_machine) l33 c33 k33).binds (ps := p__law_machine) (fun _ _ _ _ _ _ us hl => match us, hl with | [_, _, _, _, _, _], _ => rfl), PySem.W.mg_of X G a33,
    f34, _, fun_mk (st := s__law_has_end) l34 c34 k34, (fun_mk (st := s__law_has_end) l34 c34 k34).binds (ps := p__law_has_end) (fun _ _ _ _ _ _ us hl => match us, hl with | [_, _], _ => rfl), PySem.W.mg_of X G a34,
    f35, _, fun_mk (st := s__law_behind) l35 c35 k35, (fun_mk (st := s__law_behind) l35 c35 k35).binds (ps := p__law_behind) (fun _ _ _ _ _ _ us hl => match us, hl with | [_, _, _], _ => rfl), PySem.W.mg_of X G a35,
    f36, _, fun_mk (st := s__law_led) l36 c36 k36, (fun_mk (st := s__law_led) l36 c36 k36).binds (ps := p__law_led) (fun _ _ _ _ _ _ us hl => match us, hl with | [_, _, _], _ => rfl), PySem.W.mg_of X G a36,
    f37, _, fun_mk (st := s__law_same) l37 c37 k37, (fun_mk (st := s__law_same) l37 c37 k37).binds (ps := p__law_same) (fun _ _ _ _ _ _ us hl => match us, hl with | [_, _], _ => rfl), PySem.W.mg_of X G a37,
    f38, _, fun_mk (st := s__law_near) l38 c38 k38, (fun_mk (st := s__law_near) l38 c38 k38).binds (ps := p__law_near) (fun _ _ _ _ _ _ us hl => match us, hl with | [_, _, _], _ => rfl), PySem.W.mg_of X G a38,
    f39, _, fun_mk (st := s__law_varied) l39 c39 k39, (fun_mk (st := s__law_varied) l39 c39 k39).binds (ps := p__law_varied) (fun _ _ _ _ _ _ us hl => match us, hl with | [_, _, _, _], _ => rfl), PySem.W.mg_of X G a39,
    f40, _, fun_mk (st := s__law_integer_groups) l40 c40 k40, (fun_mk (st := s__law_integer_groups) l40 c40 k40).binds (ps := p__law_integer_groups) (fun _ _ _ _ _ _ us hl => match us, hl with | [_, _, _], _ => rfl), PySem.W.mg_of X G a40,
    f41, _, fun_mk (st := s__law_leaf_set) l41 c41 k41, (fun_mk (st := s__law_leaf_set) l41 c41 k41).binds (ps := p__law_leaf_set) (fun _ _ _ _ _ _ us hl => match us, hl with | [_, _, _], _ => rfl), PySem.W.mg_of X G a41,
    f42, _, fun_mk (st := s__law_going) l42 c42 k42, (fun_mk (st := s__law_going) l42 c42 k42).binds (ps := p__law_going) (fun _ _ _ _ _ _ us hl => match us, hl with | [_, _, _, _, _], _ => rfl), PySem.W.mg_of X G a42,
    f43, _, fun_mk (st := s__law_other_machine) l43 c43 k43, (fun_mk (st := s__law_other_machine) l43 c43 k43).binds (ps := p__law_other_machine) (fun _ _ _ _ _ _ us hl => match us, hl with | [_, _, _], _ => rfl), PySem.W.mg_of X G a43,
    f44, _, fun_mk (st := s__law_answers) l44 c44 k44, (fun_mk (st := s__law_answers) l44 c44 k44).binds (ps := p__law_answers) (fun _ _ _ _ _ _ us hl => match us, hl with | [_, _, _], _ => rfl), PySem.W.mg_of X G a44,
    f45, _, fun_mk (st := s_law) l45 c45 k45, (fun_mk (st := s_law) l45 c45 k45).binds (ps := p_law) (fun _ _ _ _ _ _ us hl => match us, hl with | [_], _ => rfl), PySem.W.mg_of X G a45,
    PySem.W.mg_none_of X G z_abs,
    PySem.W.mg_none_of X G z_any,
    PySem.W.mg_none_of X G z_bool,
    PySem.W.mg_none_of X G z_int,
    PySem.W.mg_none_of X G z_isinstance,
    PySem.W.mg_none_of X G z_len,
    PySem.W.mg_none_of X G z_list,
    PySem.W.mg_none_of X G z_max,
    PySem.W.mg_none_of X G z_min,
    PySem.W.mg_none_of X G z_range,
    PySem.W.mg_none_of X G z_sorted,
    PySem.W.mg_none_of X G z_str,
    PySem.W.mg_none_of X G z_sum,
    PySem.W.mg_none_of X G z_tuple,
    c_BadLetter,
    PySem.W.mg_of X G m_BadLetter,
    x_BadLetter,
    k_BadLetter,
    b_BadLetter,
    t_BadLetter⟩, fun s v => .of_eq rfl⟩
end WK22

set_option Elab.async false
set_option linter.all false
set_option maxRecDepth 100000
set_option maxHeartbeats 8000000
namespace WK22
open PySem PySem.Spec PyProof.Rows L2 DL
section
variable {P : Program} {w : World} {K : PySem.W.Frag} {mg : Str → Option Value} {base : Heap}
theorem ok_has_integer {k : Nat} {sp  : Sp'} (T : Tx K mg)  (len : ∀ ds h Q E, sp ds h Q E → ds.length = 2)
    (rd : ∀ ds h Q E', sp ds h Q E' → K04.t_has_integer  (ends Q) (slots K04.n_has_integer ds) h) : FnD P w K mg base (k + 1) T.f_has_integer T.d_has_integer p_has_integer sp := by
  refine fnD T.F_has_integer sc_has_integer len fun cdv A outer s H E hr E' => ⟨K04.t_has_integer , ?_, fun ds h Q q => rd ds h Q E' q⟩
  have sc := sc_has_integer
  exact (dss_cons (ds_asg (de_ix ix_seq opl_ix (fun _ _ => rfl) (de_var 0) de_int) (dg_tup rfl (dgs_cons (dg_name (i := 2) sc.nd rfl (Or.inl rfl)) (dgs_cons (dg_name (i := 3) sc.nd rfl (Or.inl rfl)) dgs_nil))))
      (dss_cons (ds_asg (de_ix ix_seq opl_ix (fun _ _ => rfl) (de_var 0) de_int) (dg_tup rfl (dgs_cons (dg_name (i := 4) sc.nd rfl (Or.inl rfl)) (dgs_cons (dg_name (i := 5) sc.nd rfl (Or.inl rfl)) dgs_nil))))
      (dss_cons (ds_if (dt_cmp op_ge opl_ge (nomark _) (de_var 1) (de_var 4)) (dss_one (ds_ret (de_ix ix_seq opl_ix (fun _ _ => rfl) (de_var 5) (de_op op_mod opl_mod (de_op op_sub opl_sub (de_var 1) (de_var 4)) (de_callB cr_len cl_len rfl T.z_len boot'_len (da_cons (de_var 5) da_nil)))))) dss_nil)
      (dss_cons (ds_if (dt_cmp op_le opl_le (nomark _) (de_var 1) (de_var 2)) (dss_one (ds_ret (de_ix ix_seq opl_ix (fun _ _ => rfl) (de_var 3) (de_op op_mod opl_mod (de_op op_sub opl_sub (de_var 2) (de_var 1)) (de_callB cr_len cl_len rfl T.z_len boot'_len (da_cons (de_var 3) da_nil)))))) dss_nil)
      (dss_one (ds_ret (de_cmp op_in_seq opl_in rfl (de_var 1) (de_ix ix_seq opl_ix (fun _ _ => rfl) (de_var 0) de_int))))))))
theorem ok_is_integer {k : Nat} {sp  : Sp'} (T : Tx K mg)  (len : ∀ ds h Q E, sp ds h Q E → ds.length = 1)
    (rd : ∀ ds h Q E', sp ds h Q E' → K00.t_is_integer  (ends Q) (slots K00.n_is_integer ds) h) : FnD P w K mg base (k + 1) T.f_is_integer T.d_is_integer p_is_integer sp := by
  refine fnD T.F_is_integer sc_is_integer len fun cdv A outer s H E hr E' => ⟨K00.t_is_integer , ?_, fun ds h Q q => rd ds h Q E' q⟩
  have sc := sc_is_integer
  exact (dss_one (ds_ret (de_and (de_callB call_isi cl_is rfl T.z_isinstance boot'_isinstance (da_cons (de_var 0) (da_cons (de_blt rfl T.z_int boot'_int) da_nil))) (de_one (de_not (de_callB call_isi cl_is rfl T.z_isinstance boot'_isinstance (da_cons (de_var 0) (da_cons (de_blt rfl T.z_bool boot'_bool) da_nil))))))))
theorem ok_is_letter {k : Nat} {sp sp_is_integer sp_is_letter : Sp'} (T : Tx K mg) (G_is_integer : FnD P w K mg base k T.f_is_integer T.d_is_integer p_is_integer sp_is_integer) (G_is_letter : FnD P w K mg base k T.f_is_letter T.d_is_letter p_is_letter sp_is_letter) (len : ∀ ds h Q E, sp ds h Q E → ds.length = 2)
    (rd : ∀ ds h Q E', sp ds h Q E' → K00.t_is_letter sp_is_integer sp_is_letter (ends Q) (slots K00.n_is_letter ds) h) : FnD P w K mg base (k + 1) T.f_is_letter T.d_is_letter p_is_letter sp := by
  refine fnD T.F_is_letter sc_is_letter len fun cdv A outer s H E hr E' => ⟨K00.t_is_letter sp_is_integer sp_is_letter, ?_, fun ds h Q q => rd ds h Q E' q⟩
  have sc := sc_is_letter
  exact (dss_cons (ds_set (i := 2) sc.nd rfl (Or.inl rfl) (de_ix ix_seq opl_ix (fun _ _ => rfl) (de_var 0) de_int))
      (dss_cons (ds_if (dt_cmp (opr_eq hr.units) opl_eq (nomark _) (de_var 2) de_str) (dss_one (ds_ret (de_and (de_callB call_isi cl_is rfl T.z_isinstance boot'_isinstance (da_cons (de_var 1) (da_cons (de_blt rfl T.z_str boot'_str) da_nil))) (de_one (de_cmp op_in_seq opl_in rfl (de_var 1) (de_ix ix_seq opl_ix (fun _ _ => rfl) (de_var 0) de_int)))))) dss_nil)
      (dss_cons (ds_if (dt_cmp (opr_eq hr.units) opl_eq (nomark _) (de_var 2) de_str) (dss_one (ds_ret (de_call G_is_integer hr rfl T.m_is_integer T.F_is_integer.kp T.b_is_integer (da_cons (de_var 1) da_nil)))) dss_nil)
      (dss_cons (ds_if (dt_not (dt_val (de_callB call_isi cl_is rfl T.z_isinstance boot'_isinstance (da_cons (de_var 1) (da_cons (de_blt rfl T.z_tuple boot'_tuple) da_nil))))) (dss_one (ds_ret de_bl)) dss_nil)
      (dss_cons (ds_if (dt_cmp (opr_eq hr.units) opl_eq (nomark _) (de_var 2) de_str) (dss_one (ds_ret (de_and (de_cmp (opr_eq hr.units) opl_eq (nomark _) (de_callB cr_len cl_len rfl T.z_len boot'_len (da_cons (de_var 1) da_nil)) de_int) (de_and (de_cmp (opr_eq hr.units) opl_eq (nomark _) (de_ix ix_seq opl_ix (fun _ _ => rfl) (de_var 1) de_int) de_str) (de_and (de_call G_is_letter hr rfl T.m_is_letter T.F_is_letter.kp T.b_is_letter (da_cons (de_ix ix_seq opl_ix (fun _ _ => rfl) (de_var 0) de_int) (da_cons (de_ix ix_seq opl_ix (fun _ _ => rfl) (de_var 1) de_int) da_nil))) (de_one (de_call G_is_letter hr rfl T.m_is_letter T.F_is_letter.kp T.b_is_letter (da_cons (de_ix ix_seq opl_ix (fun _ _ => rfl) (de_var 0) de_int) (da_cons (de_ix ix_seq opl_ix (fun _ _ => rfl) (de_var 1) de_int) da_nil))))))))) dss_nil)
      (dss_cons (ds_if (dt_cmp (opr_eq hr.units) opl_eq (nomark _) (de_var 2) de_str) (dss_cons (ds_if (dw_pt (dw_or (dt_cmp (opr_ne hr.units) opl_ne (nomark _) (de_callB cr_len cl_len rfl T.z_len boot'_len (da_cons (de_var 1) da_nil)) de_int) (dw_or (dt_cmp (opr_ne hr.units) opl_ne (nomark _) (de_ix ix_seq opl_ix (fun _ _ => rfl) (de_var 1) de_int) de_str) (dw_or1 (dt_not (dt_val (de_call G_is_integer hr rfl T.m_is_integer T.F_is_integer.kp T.b_is_integer (da_cons (de_ix ix_seq opl_ix (fun _ _ => rfl) (de_var 1) de_int) da_nil)))))))) (dss_one (ds_ret de_bl)) dss_nil)
      (dss_one (ds_ret (de_and (de_chain op_le opl_le op_lt opl_lt de_int (de_ix ix_seq opl_ix (fun _ _ => rfl) (de_var 1) de_int) (de_callB cr_len cl_len rfl T.z_len boot'_len (da_cons (de_ix ix_seq opl_ix (fun _ _ => rfl) (de_var 0) de_int) da_nil))) (de_one (de_call G_is_letter hr rfl T.m_is_letter T.F_is_letter.kp T.b_is_letter (da_cons (de_ix ix_seq opl_ix (fun _ _ => rfl) (de_ix ix_seq opl_ix (fun _ _ => rfl) (de_var 0) de_int) (de_ix ix_seq opl_ix (fun _ _ => rfl) (de_var 1) de_int)) (da_cons (de_ix ix_seq opl_ix (fun _ _ => rfl) (de_var 1) de_int) da_nil)))))))) dss_nil)
      (dss_one (ds_ret (de_or (de_cmp (opr_eq hr.units) opl_eq (nomark _) (de_var 1) (de_tup (da_cons de_str da_nil))) (de_one (de_and (de_cmp (opr_eq hr.units) opl_eq (nomark _) (de_callB cr_len cl_len rfl T.z_len boot'_len (da_cons (de_var 1) da_nil)) de_int) (de_and (de_cmp (opr_eq hr.units) opl_eq (nomark _) (de_ix ix_seq opl_ix (fun _ _ => rfl) (de_var 1) de_int) de_str) (de_one (de_call G_is_letter hr rfl T.m_is_letter T.F_is_letter.kp T.b_is_letter (da_cons (de_ix ix_seq opl_ix (fun _ _ => rfl) (de_var 0) de_int) (da_cons (de_ix ix_seq opl_ix (fun _ _ => rfl) (de_var 1) de_int) da_nil))))))))))))))))
theorem ok_check_letter {k : Nat} {sp sp_is_letter : Sp'} (T : Tx K mg) (G_is_letter : FnD P w K mg base k T.f_is_letter T.d_is_letter p_is_letter sp_is_letter) (len : ∀ ds h Q E, sp ds h Q E → ds.length = 2)
    (rd : ∀ ds h Q E', sp ds h Q E' → K01.t_check_letter sp_is_letter T.c_BadLetter E' (ends Q) (slots K01.n_check_letter ds) h) : FnD P w K mg base (k + 1) T.f_check_letter T.d_check_letter p_check_letter sp := by
  refine fnD T.F_check_letter sc_check_letter len fun cdv A outer s H E hr E' => ⟨K01.t_check_letter sp_is_letter T.c_BadLetter E', ?_, fun ds h Q q => rd ds h Q E' q⟩
  have sc := sc_check_letter
  exact (dss_one (ds_if (dt_not (dt_val (de_call G_is_letter hr rfl T.m_is_letter T.F_is_letter.kp T.b_is_letter (da_cons (de_var 0) (da_cons (de_var 1) da_nil))))) (dss_one (ds_raise rfl (L2N.takes_of rfl rfl rfl rfl) PySem.F.excBase_ValueError T.x_BadLetter T.m_BadLetter T.k_BadLetter (raises_own T.b_BadLetter T.t_BadLetter) rfl)) dss_nil))
theorem ok_check_word {k : Nat} {sp sp_check_letter : Sp'} (T : Tx K mg) (G_check_letter : FnD P w K mg base k T.f_check_letter T.d_check_letter p_check_letter sp_check_letter) (len : ∀ ds h Q E, sp ds h Q E → ds.length = 2)
    (rd : ∀ ds h Q E', sp ds h Q E' → K01.t_check_word sp_check_letter E' (ends Q) (slots K01.n_check_word ds) h) : FnD P w K mg base (k + 1) T.f_check_word T.d_check_word p_check_word sp := by
  refine fnD T.F_check_word sc_check_word len fun cdv A outer s H E hr E' => ⟨K01.t_check_word sp_check_letter E', ?_, fun ds h Q q => rd ds h Q E' q⟩
  have sc := sc_check_word
  exact (dss_one (ds_for (passes_of rfl) rfl (di_seq (de_var 1)) (dg_name (i := 2) sc.nd rfl (Or.inl rfl)) (dss_one (ds_expr (de_callX G_check_letter hr rfl T.m_check_letter T.F_check_letter.kp T.b_check_letter (L2N.passes_call (L2N.takes_of rfl rfl rfl rfl) fun _ _ _ _ z => z) (da_cons (de_var 0) (da_cons (de_var 2) da_nil)))))))
theorem ok_contains {k : Nat} {sp sp_has_integer sp_row_of sp_contains : Sp'} (T : Tx K mg) (G_has_integer : FnD P w K mg base k T.f_has_integer T.d_has_integer p_has_integer sp_has_integer) (G_row_of : FnD P w K mg base k T.f_row_of T.d_row_of p_row_of sp_row_of) (G_contains : FnD P w K mg base k T.f_contains T.d_contains p_contains sp_contains) (len : ∀ ds h Q E, sp ds h Q E → ds.length = 3)
    (rd : ∀ ds h Q E', sp ds h Q E' → K04.t_contains sp_has_integer sp_row_of sp_contains (ends Q) (slots K04.n_contains ds) h) : FnD P w K mg base (k + 1) T.f_contains T.d_contains p_contains sp := by
  refine fnD T.F_contains sc_contains len fun cdv A outer s H E hr E' => ⟨K04.t_contains sp_has_integer sp_row_of sp_contains, ?_, fun ds h Q q => rd ds h Q E' q⟩
  have sc := sc_contains
  exact (dss_cons (ds_set (i := 3) sc.nd rfl (Or.inl rfl) (de_ix ix_seq opl_ix (fun _ _ => rfl) (de_var 0) de_int))
      (dss_cons (ds_if (dt_cmp (opr_eq hr.units) opl_eq (nomark _) (de_var 3) de_str) (dss_one (ds_ret (de_cmp op_in_seq opl_in rfl (de_var 2) (de_ix ix_seq opl_ix (fun _ _ => rfl) (de_var 1) de_int)))) dss_nil)
      (dss_cons (ds_if (dt_cmp (opr_eq hr.units) opl_eq (nomark _) (de_var 3) de_str) (dss_one (ds_ret (de_call G_has_integer hr rfl T.m_has_integer T.F_has_integer.kp T.b_has_integer (da_cons (de_var 1) (da_cons (de_var 2) da_nil))))) dss_nil)
      (dss_cons (ds_if (dt_cmp (opr_eq hr.units) opl_eq (nomark _) (de_var 3) de_str) (dss_cons (ds_set (i := 4) sc.nd rfl (Or.inl rfl) (de_call G_row_of hr rfl T.m_row_of T.F_row_of.kp T.b_row_of (da_cons (de_var 0) (da_cons (de_var 1) (da_cons (de_ix ix_seq opl_ix (fun _ _ => rfl) (de_var 2) de_int) da_nil)))))
      (dss_one (ds_ret (de_and (de_cmp op_notN opl_notN (nomark _) (de_var 4) de_non) (de_one (de_call G_contains hr rfl T.m_contains T.F_contains.kp T.b_contains (da_cons (de_ix ix_seq opl_ix (fun _ _ => rfl) (de_var 0) de_int) (da_cons (de_var 4) (da_cons (de_ix ix_seq opl_ix (fun _ _ => rfl) (de_var 2) de_int) da_nil))))))))) dss_nil)
      (dss_cons (ds_if (dt_cmp (opr_eq hr.units) opl_eq (nomark _) (de_var 3) de_str) (dss_one (ds_ret (de_call G_contains hr rfl T.m_contains T.F_contains.kp T.b_contains (da_cons (de_ix ix_seq opl_ix (fun _ _ => rfl) (de_ix ix_seq opl_ix (fun _ _ => rfl) (de_var 0) de_int) (de_ix ix_seq opl_ix (fun _ _ => rfl) (de_var 2) de_int)) (da_cons (de_ix ix_seq opl_ix (fun _ _ => rfl) (de_ix ix_seq opl_ix (fun _ _ => rfl) (de_var 1) de_int) (de_ix ix_seq opl_ix (fun _ _ => rfl) (de_var 2) de_int)) (da_cons (de_ix ix_seq opl_ix (fun _ _ => rfl) (de_var 2) de_int) da_nil)))))) dss_nil)
      (dss_cons (ds_if (dt_cmp (opr_eq hr.units) opl_eq (nomark _) (de_ix ix_seq opl_ix (fun _ _ => rfl) (de_var 2) de_int) de_str) (dss_one (ds_ret (de_ix ix_seq opl_ix (fun _ _ => rfl) (de_var 1) de_int))) dss_nil)
      (dss_one (ds_ret (de_call G_contains hr rfl T.m_contains T.F_contains.kp T.b_contains (da_cons (de_ix ix_seq opl_ix (fun _ _ => rfl) (de_var 0) de_int) (da_cons (de_ix ix_seq opl_ix (fun _ _ => rfl) (de_var 1) de_int) (da_cons (de_ix ix_seq opl_ix (fun _ _ => rfl) (de_var 2) de_int) da_nil))))))))))))
theorem ok_row_of {k : Nat} {sp sp_contains : Sp'} (T : Tx K mg) (G_contains : FnD P w K mg base k T.f_contains T.d_contains p_contains sp_contains) (len : ∀ ds h Q E, sp ds h Q E → ds.length = 3)
    (rd : ∀ ds h Q E', sp ds h Q E' → K04.t_row_of sp_contains (ends Q) (slots K04.n_row_of ds) h) : FnD P w K mg base (k + 1) T.f_row_of T.d_row_of p_row_of sp := by
  refine fnD T.F_row_of sc_row_of len fun cdv A outer s H E hr E' => ⟨K04.t_row_of sp_contains, ?_, fun ds h Q q => rd ds h Q E' q⟩
  have sc := sc_row_of
  exact (dss_cons (ds_for (passes_of rfl) rfl (di_seq (de_ix ix_seq opl_ix (fun _ _ => rfl) (de_var 1) de_int)) (dg_tup rfl (dgs_cons (dg_name (i := 3) sc.nd rfl (Or.inl rfl)) (dgs_cons (dg_name (i := 4) sc.nd rfl (Or.inl rfl)) dgs_nil))) (dss_one (ds_if (dt_val (de_call G_contains hr rfl T.m_contains T.F_contains.kp T.b_contains (da_cons (de_ix ix_seq opl_ix (fun _ _ => rfl) (de_var 0) de_int) (da_cons (de_var 3) (da_cons (de_var 2) da_nil))))) (dss_one (ds_ret (de_var 4))) dss_nil)))
      (dss_one (ds_ret de_non)))
theorem ok_met {k : Nat} {sp sp_met sp_contains sp_met_by_value : Sp'} (T : Tx K mg) (G_met : FnD P w K mg base k T.f_met T.d_met p_met sp_met) (G_contains : FnD P w K mg base k T.f_contains T.d_contains p_contains sp_contains) (G_met_by_value : FnD P w K mg base k T.f_met_by_value T.d_met_by_value p_met_by_value sp_met_by_value) (len : ∀ ds h Q E, sp ds h Q E → ds.length = 3)
    (rd : ∀ ds h Q E', sp ds h Q E' → K04.t_met sp_met sp_contains sp_met_by_value (ends Q) (slots K04.n_met ds) h) : FnD P w K mg base (k + 1) T.f_met T.d_met p_met sp := by
  refine fnD T.F_met sc_met len fun cdv A outer s H E hr E' => ⟨K04.t_met sp_met sp_contains sp_met_by_value, ?_, fun ds h Q q => rd ds h Q E' q⟩
  have sc := sc_met
  exact (dss_cons (ds_set (i := 3) sc.nd rfl (Or.inl rfl) (de_ix ix_seq opl_ix (fun _ _ => rfl) (de_var 1) de_int))
      (dss_cons (ds_if (dw_pt (dw_orp (pu_tb (pu_to pu_eq pu_tv pu_tc)) (dt_cmp (opr_eq hr.units) opl_eq (nomark _) (de_var 3) de_str) (dw_or1 (dt_cmp (opr_eq hr.units) opl_eq (nomark _) (de_var 3) de_str)))) (dss_one (ds_ret (de_cmp (opr_eq hr.units) opl_eq (nomark _) (de_var 3) de_str))) dss_nil)
      (dss_cons (ds_if (dt_cmp (opr_eq hr.units) opl_eq (nomark _) (de_var 3) de_str) (dss_one (ds_ret (de_not (de_call G_met hr rfl T.m_met T.F_met.kp T.b_met (da_cons (de_var 0) (da_cons (de_ix ix_seq opl_ix (fun _ _ => rfl) (de_var 1) de_int) (da_cons (de_var 2) da_nil))))))) dss_nil)
      (dss_cons (ds_if (dt_cmp (opr_eq hr.units) opl_eq (nomark _) (de_var 3) de_str) (dss_one (ds_ret (de_and (de_call G_met hr rfl T.m_met T.F_met.kp T.b_met (da_cons (de_var 0) (da_cons (de_ix ix_seq opl_ix (fun _ _ => rfl) (de_var 1) de_int) (da_cons (de_var 2) da_nil)))) (de_one (de_call G_met hr rfl T.m_met T.F_met.kp T.b_met (da_cons (de_var 0) (da_cons (de_ix ix_seq opl_ix (fun _ _ => rfl) (de_var 1) de_int) (da_cons (de_var 2) da_nil)))))))) dss_nil)
      (dss_cons (ds_if (dt_cmp (opr_eq hr.units) opl_eq (nomark _) (de_var 3) de_str) (dss_one (ds_ret (de_or (de_call G_met hr rfl T.m_met T.F_met.kp T.b_met (da_cons (de_var 0) (da_cons (de_ix ix_seq opl_ix (fun _ _ => rfl) (de_var 1) de_int) (da_cons (de_var 2) da_nil)))) (de_one (de_call G_met hr rfl T.m_met T.F_met.kp T.b_met (da_cons (de_var 0) (da_cons (de_ix ix_seq opl_ix (fun _ _ => rfl) (de_var 1) de_int) (da_cons (de_var 2) da_nil)))))))) dss_nil)
      (dss_cons (ds_if (dt_cmp (opr_eq hr.units) opl_eq (nomark _) (de_var 3) de_str) (dss_one (ds_ret (de_call G_contains hr rfl T.m_contains T.F_contains.kp T.b_contains (da_cons (de_var 0) (da_cons (de_ix ix_seq opl_ix (fun _ _ => rfl) (de_var 1) de_int) (da_cons (de_var 2) da_nil)))))) dss_nil)
      (dss_cons (ds_if (dt_cmp (opr_eq hr.units) opl_eq (nomark _) (de_var 3) de_str) (dss_one (ds_ret (de_call G_met hr rfl T.m_met T.F_met.kp T.b_met (da_cons (de_ix ix_seq opl_ix (fun _ _ => rfl) (de_var 0) de_int) (da_cons (de_ix ix_seq opl_ix (fun _ _ => rfl) (de_var 1) de_int) (da_cons (de_ix ix_seq opl_ix (fun _ _ => rfl) (de_var 2) de_int) da_nil)))))) dss_nil)
      (dss_cons (ds_if (dt_cmp (opr_eq hr.units) opl_eq (nomark _) (de_var 3) de_str) (dss_one (ds_ret (de_call G_met hr rfl T.m_met T.F_met.kp T.b_met (da_cons (de_ix ix_seq opl_ix (fun _ _ => rfl) (de_var 0) de_int) (da_cons (de_ix ix_seq opl_ix (fun _ _ => rfl) (de_var 1) de_int) (da_cons (de_ix ix_seq opl_ix (fun _ _ => rfl) (de_var 2) de_int) da_nil)))))) dss_nil)
      (dss_cons (ds_if (dt_cmp (opr_eq hr.units) opl_eq (nomark _) (de_var 3) de_str) (dss_one (ds_ret (de_and (de_cmp (opr_eq hr.units) opl_eq (nomark _) (de_ix ix_seq opl_ix (fun _ _ => rfl) (de_var 2) de_int) (de_ix ix_seq opl_ix (fun _ _ => rfl) (de_var 1) de_int)) (de_one (de_call G_met hr rfl T.m_met T.F_met.kp T.b_met (da_cons (de_ix ix_seq opl_ix (fun _ _ => rfl) (de_ix ix_seq opl_ix (fun _ _ => rfl) (de_var 0) de_int) (de_ix ix_seq opl_ix (fun _ _ => rfl) (de_var 1) de_int)) (da_cons (de_ix ix_seq opl_ix (fun _ _ => rfl) (de_var 1) de_int) (da_cons (de_ix ix_seq opl_ix (fun _ _ => rfl) (de_var 2) de_int) da_nil)))))))) dss_nil)
      (dss_cons (ds_if (dt_cmp (opr_eq hr.units) opl_eq (nomark _) (de_var 3) de_str) (dss_one (ds_ret (de_cmp (opr_eq hr.units) opl_eq (nomark _) (de_ix ix_seq opl_ix (fun _ _ => rfl) (de_var 2) de_int) de_str))) dss_nil)
      (dss_cons (ds_if (dt_cmp (opr_eq hr.units) opl_eq (nomark _) (de_var 3) de_str) (dss_one (ds_ret (de_and (de_cmp (opr_eq hr.units) opl_eq (nomark _) (de_ix ix_seq opl_ix (fun _ _ => rfl) (de_var 2) de_int) de_str) (de_one (de_call G_met hr rfl T.m_met T.F_met.kp T.b_met (da_cons (de_ix ix_seq opl_ix (fun _ _ => rfl) (de_var 0) de_int) (da_cons (de_ix ix_seq opl_ix (fun _ _ => rfl) (de_var 1) de_int) (da_cons (de_ix ix_seq opl_ix (fun _ _ => rfl) (de_var 2) de_int) da_nil)))))))) dss_nil)
      (dss_one (ds_ret (de_call G_met_by_value hr rfl T.m_met_by_value T.F_met_by_value.kp T.b_met_by_value (da_cons (de_var 1) (da_cons (de_var 2) da_nil))))))))))))))))
theorem ok_met_by_value {k : Nat} {sp  : Sp'} (T : Tx K mg)  (len : ∀ ds h Q E, sp ds h Q E → ds.length = 2)
    (rd : ∀ ds h Q E', sp ds h Q E' → K04.t_met_by_value  (ends Q) (slots K04.n_met_by_value ds) h) : FnD P w K mg base (k + 1) T.f_met_by_value T.d_met_by_value p_met_by_value sp := by
  refine fnD T.F_met_by_value sc_met_by_value len fun cdv A outer s H E hr E' => ⟨K04.t_met_by_value , ?_, fun ds h Q q => rd ds h Q E' q⟩
  have sc := sc_met_by_value
  exact (dss_cons (ds_set (i := 2) sc.nd rfl (Or.inl rfl) (de_ix ix_seq opl_ix (fun _ _ => rfl) (de_var 0) de_int))
      (dss_cons (ds_if (dt_cmp (opr_eq hr.units) opl_eq (nomark _) (de_var 2) de_str) (dss_one (ds_ret (de_cmp op_lt opl_lt (nomark _) (de_var 1) (de_ix ix_seq opl_ix (fun _ _ => rfl) (de_var 0) de_int)))) dss_nil)
      (dss_cons (ds_if (dt_cmp (opr_eq hr.units) opl_eq (nomark _) (de_var 2) de_str) (dss_one (ds_ret (de_cmp op_gt opl_gt (nomark _) (de_var 1) (de_ix ix_seq opl_ix (fun _ _ => rfl) (de_var 0) de_int)))) dss_nil)
      (dss_cons (ds_if (dt_cmp (opr_eq hr.units) opl_eq (nomark _) (de_var 2) de_str) (dss_one (ds_ret (de_cmp (opr_eq hr.units) opl_eq (nomark _) (de_op op_mod opl_mod (de_op op_sub opl_sub (de_var 1) (de_ix ix_seq opl_ix (fun _ _ => rfl) (de_var 0) de_int)) (de_ix ix_seq opl_ix (fun _ _ => rfl) (de_var 0) de_int)) de_int))) dss_nil)
      (dss_one (ds_ret (de_cmp (opr_eq hr.units) opl_eq (nomark _) (de_var 1) (de_ix ix_seq opl_ix (fun _ _ => rfl) (de_var 0) de_int))))))))
theorem ok_behind_letter {k : Nat} {sp sp_met : Sp'} (T : Tx K mg) (G_met : FnD P w K mg base k T.f_met T.d_met p_met sp_met) (len : ∀ ds h Q E, sp ds h Q E → ds.length = 3)
    (rd : ∀ ds h Q E', sp ds h Q E' → K22.t_behind_letter sp_met (ends Q) (slots K22.n_behind_letter ds) h) : FnD P w K mg base (k + 1) T.f_behind_letter T.d_behind_letter p_behind_letter sp := by
  refine fnD T.F_behind_letter sc_behind_letter len fun cdv A outer s H E hr E' => ⟨K22.t_behind_letter sp_met, ?_, fun ds h Q q => rd ds h Q E' q⟩
  have sc := sc_behind_letter
  exact (dss_one (ds_ret (de_callTy call_tupF cl_tup rfl T.z_tuple boot'_tuple (da_cons (de_srt rfl sc.nd rfl T.z_sorted boot'_sorted (di_seq (de_ix ix_seq opl_ix (fun _ _ => rfl) (de_var 0) de_int)) (blkOk_by (N := K22.n_behind_letter) (sc := defScope s_behind_letter) (by decide +kernel)) (fun _ _ _ _ _ => pg_name (i := 3) sc.nd rfl (Or.inl rfl)) (fun _ _ _ _ _ => dts_one (dw_pt (dw_and (dt_cmp op_in_seq opl_in rfl (de_ix ix_seq opl_ix (fun _ _ => rfl) (de_var 3) de_int) (de_var 1)) (dw_and1 (dt_val (de_call G_met hr rfl T.m_met T.F_met.kp T.b_met (da_cons (de_ix ix_seq opl_ix (fun _ _ => rfl) (de_var 0) de_int) (da_cons (de_ix ix_seq opl_ix (fun _ _ => rfl) (de_var 3) de_int) (da_cons (de_var 2) da_nil))))))))) (fun _ _ _ _ _ => (de_ix ix_seq opl_ix (fun _ _ => rfl) (de_var 3) de_int))) da_nil))))
theorem ok_states_behind {k : Nat} {sp sp_check_word sp_behind_letter : Sp'} (T : Tx K mg) (G_check_word : FnD P w K mg base k T.f_check_word T.d_check_word p_check_word sp_check_word) (G_behind_letter : FnD P w K mg base k T.f_behind_letter T.d_behind_letter p_behind_letter sp_behind_letter) (len : ∀ ds h Q E, sp ds h Q E → ds.length = 2)
    (rd : ∀ ds h Q E', sp ds h Q E' → K22.t_states_behind sp_check_word sp_behind_letter E' (ends Q) (slots K22.n_states_behind ds) h) : FnD P w K mg base (k + 1) T.f_states_behind T.d_states_behind p_states_behind sp := by
  refine fnD T.F_states_behind sc_states_behind len fun cdv A outer s H E hr E' => ⟨K22.t_states_behind sp_check_word sp_behind_letter E', ?_, fun ds h Q q => rd ds h Q E' q⟩
  have sc := sc_states_behind
  exact (dss_cons (ds_expr (de_callX G_check_word hr rfl T.m_check_word T.F_check_word.kp T.b_check_word (L2N.passes_call (L2N.takes_of rfl rfl rfl rfl) fun _ _ _ _ z => z) (da_cons (de_ix ix_seq opl_ix (fun _ _ => rfl) (de_var 0) de_int) (da_cons (de_var 1) da_nil))))
      (dss_cons (ds_set (i := 2) sc.nd rfl (Or.inl rfl) (de_ix ix_seq opl_ix (fun _ _ => rfl) (de_var 0) de_int))
      (dss_cons (ds_for (passes_of rfl) rfl (di_seq (de_var 1)) (dg_name (i := 3) sc.nd rfl (Or.inl rfl)) (dss_one (ds_set (i := 2) sc.nd rfl (Or.inl rfl) (de_call G_behind_letter hr rfl T.m_behind_letter T.F_behind_letter.kp T.b_behind_letter (da_cons (de_var 0) (da_cons (de_var 2) (da_cons (de_var 3) da_nil)))))))
      (dss_one (ds_ret (de_var 2))))))
end
end WK22

set_option Elab.async false
set_option linter.all false
set_option maxRecDepth 100000
set_option maxHeartbeats 8000000
namespace WK22
open PySem PySem.Spec PyProof.Rows L2 DL
section
variable {P : Program} {w : World} {K : PySem.W.Frag} {mg : Str → Option Value} {base : Heap}
theorem ok_has_end {k : Nat} {sp  : Sp'} (T : Tx K mg)  (len : ∀ ds h Q E, sp ds h Q E → ds.length = 2)
    (rd : ∀ ds h Q E', sp ds h Q E' → K22.t_has_end  (ends Q) (slots K22.n_has_end ds) h) : FnD P w K mg base (k + 1) T.f_has_end T.d_has_end p_has_end sp := by
  refine fnD T.F_has_end sc_has_end len fun cdv A outer s H E hr E' => ⟨K22.t_has_end , ?_, fun ds h Q q => rd ds h Q E' q⟩
  have sc := sc_has_end
  exact (dss_one (ds_ret (de_callB (cr_any rfl) cl_any rfl T.z_any boot'_any (da_cons (de_lc rfl sc.nd (di_seq (de_var 1)) (blkOk_by (N := K22.n_has_end) (sc := defScope s_has_end) (by decide +kernel)) (fun _ _ _ _ _ => pg_name (i := 2) sc.nd rfl (Or.inl rfl)) (fun _ _ _ _ _ => dts_nil) (fun _ _ _ _ _ => (de_cmp op_in_seq opl_in rfl (de_var 2) (de_ix ix_seq opl_ix (fun _ _ => rfl) (de_var 0) de_int)))) da_nil))))
theorem ok_takes {k : Nat} {sp sp_states_behind sp_has_end : Sp'} (T : Tx K mg) (G_states_behind : FnD P w K mg base k T.f_states_behind T.d_states_behind p_states_behind sp_states_behind) (G_has_end : FnD P w K mg base k T.f_has_end T.d_has_end p_has_end sp_has_end) (len : ∀ ds h Q E, sp ds h Q E → ds.length = 2)
    (rd : ∀ ds h Q E', sp ds h Q E' → K22.t_takes sp_states_behind sp_has_end E' (ends Q) (slots K22.n_takes ds) h) : FnD P w K mg base (k + 1) T.f_takes T.d_takes p_takes sp := by
  refine fnD T.F_takes sc_takes len fun cdv A outer s H E hr E' => ⟨K22.t_takes sp_states_behind sp_has_end E', ?_, fun ds h Q q => rd ds h Q E' q⟩
  have sc := sc_takes
  exact (dss_one (ds_ret (de_call G_has_end hr rfl T.m_has_end T.F_has_end.kp T.b_has_end (da_cons (de_var 0) (da_cons (de_callX G_states_behind hr rfl T.m_states_behind T.F_states_behind.kp T.b_states_behind (L2N.passes_call (L2N.takes_of rfl rfl rfl rfl) fun _ _ _ _ z => z) (da_cons (de_var 0) (da_cons (de_var 1) da_nil))) da_nil)))))
theorem ok__law_tape {k : Nat} {sp  : Sp'} (T : Tx K mg)  (len : ∀ ds h Q E, sp ds h Q E → ds.length = 1)
    (rd : ∀ ds h Q E', sp ds h Q E' → K00.t__law_tape  (ends Q) (slots K00.n__law_tape ds) h) : FnD P w K mg base (k + 1) T.f__law_tape T.d__law_tape p__law_tape sp := by
  refine fnD T.F__law_tape sc__law_tape len fun cdv A outer s H E hr E' => ⟨K00.t__law_tape , ?_, fun ds h Q q => rd ds h Q E' q⟩
  have sc := sc__law_tape
  exact (dss_cons (ds_set (i := 1) sc.nd rfl (Or.inl rfl) de_int)
      (dss_cons (ds_for (passes_of rfl) rfl (di_seq (de_var 0)) (dg_name (i := 2) sc.nd rfl (Or.inl rfl)) (dss_one (ds_set (i := 1) sc.nd rfl (Or.inl rfl) (de_op op_mod opl_mod (de_callTy call_int1 cl_int rfl T.z_int boot'_int (da_cons (de_op opr_add opl_add (de_op op_mul opl_mul (de_var 1) de_int) (de_callB call_abs cl_abs rfl T.z_abs boot'_abs (da_cons (de_callTy call_int1 cl_int rfl T.z_int boot'_int (da_cons (de_var 2) da_nil)) da_nil))) da_nil)) de_int))))
      (dss_one (ds_ret (de_own (da_cons (de_callTy call_list_of cl_list rfl T.z_list boot'_list (da_cons (de_var 0) da_nil)) (da_cons de_int (da_cons de_int (da_cons (de_var 1) da_nil)))))))))
theorem ok__law_draw {k : Nat} {sp  : Sp'} (T : Tx K mg)  (len : ∀ ds h Q E, sp ds h Q E → ds.length = 2)
    (rd : ∀ ds h Q E', sp ds h Q E' → K00.t__law_draw  (ends Q) (slots K00.n__law_draw ds) h) : FnD P w K mg base (k + 1) T.f__law_draw T.d__law_draw p__law_draw sp := by
  refine fnD T.F__law_draw sc__law_draw len fun cdv A outer s H E hr E' => ⟨K00.t__law_draw , ?_, fun ds h Q q => rd ds h Q E' q⟩
  have sc := sc__law_draw
  exact (dss_cons (ds_mid (ds_if (dt_cmp (opr_eq hr.units) opl_eq (nomark _) (de_ix ix_seq opl_ix (fun _ _ => rfl) (de_var 0) de_int) de_int) (dss_cons (ds_set (i := 2) sc.nd rfl (Or.inl rfl) (de_ix ix_seq opl_ix (fun _ _ => rfl) (de_var 0) de_int))
      (dss_cons (ds_set (i := 3) sc.nd rfl (Or.inl rfl) de_int)
      (dss_cons (ds_mid (ds_if (dt_cmp op_lt opl_lt (nomark _) (de_var 2) (de_callB cr_len cl_len rfl T.z_len boot'_len (da_cons (de_ix ix_seq opl_ix (fun _ _ => rfl) (de_var 0) de_int) da_nil))) (dss_one (ds_set (i := 3) sc.nd rfl (Or.inl rfl) (de_callB call_abs cl_abs rfl T.z_abs boot'_abs (da_cons (de_callTy call_int1 cl_int rfl T.z_int boot'_int (da_cons (de_ix ix_seq opl_ix (fun _ _ => rfl) (de_ix ix_seq opl_ix (fun _ _ => rfl) (de_var 0) de_int) (de_var 2)) da_nil)) da_nil)))) (dss_cons (ds_asg (de_op op_mod opl_mod (de_callTy call_int1 cl_int rfl T.z_int boot'_int (da_cons (de_op opr_add opl_add (de_op opr_add opl_add (de_op op_mul opl_mul (de_ix ix_seq opl_ix (fun _ _ => rfl) (de_var 0) de_int) de_int) (de_var 2)) de_int) da_nil)) de_int) (dg_sub (de_var 0) de_int))
      (dss_one (ds_set (i := 3) sc.nd rfl (Or.inl rfl) (de_ix ix_seq opl_ix (fun _ _ => rfl) (de_var 0) de_int))))))
      (dss_cons (ds_asg (de_op opr_add opl_add (de_var 2) de_int) (dg_sub (de_var 0) de_int))
      (dss_cons (ds_if (dt_cmp op_lt opl_lt (nomark _) (de_var 3) (de_op op_pow opl_pow de_int de_int)) (dss_cons (ds_set (i := 3) sc.nd rfl (Or.inl rfl) (de_op op_mod opl_mod (de_callTy call_int1 cl_int rfl T.z_int boot'_int (da_cons (de_op opr_add opl_add (de_op opr_add opl_add (de_op op_mul opl_mul (de_var 3) de_int) (de_op op_mul opl_mul (de_var 2) de_int)) de_int) da_nil)) de_int))
      (dss_cons (ds_set (i := 3) sc.nd rfl (Or.inl rfl) (de_op op_mod opl_mod (de_callTy call_int1 cl_int rfl T.z_int boot'_int (da_cons (de_op op_mul opl_mul (de_var 3) de_int) da_nil)) de_int))
      (dss_one (ds_ret (de_op op_mod opl_mod (de_callTy call_int1 cl_int rfl T.z_int boot'_int (da_cons (de_var 3) da_nil)) (de_callB (call_max2 rfl) cl_max rfl T.z_max boot'_max (da_cons (de_var 1) (da_cons de_int da_nil)))))))) dss_nil)
      (dss_one (ds_asg (de_var 3) (dg_sub (de_var 0) de_int)))))))) dss_nil))
      (dss_cons (ds_set (i := 3) sc.nd rfl (Or.inl rfl) (de_ix ix_seq opl_ix (fun _ _ => rfl) (de_var 0) de_int))
      (dss_cons (ds_asg (de_op op_fdivW opl_div (de_var 3) (de_callB (call_max2 rfl) cl_max rfl T.z_max boot'_max (da_cons (de_var 1) (da_cons de_int da_nil)))) (dg_sub (de_var 0) de_int))
      (dss_one (ds_ret (de_op op_mod opl_mod (de_callTy call_int1 cl_int rfl T.z_int boot'_int (da_cons (de_var 3) da_nil)) (de_callB (call_max2 rfl) cl_max rfl T.z_max boot'_max (da_cons (de_var 1) (da_cons de_int da_nil)))))))))
theorem ok__law_whole {k : Nat} {sp  : Sp'} (T : Tx K mg)  (len : ∀ ds h Q E, sp ds h Q E → ds.length = 1)
    (rd : ∀ ds h Q E', sp ds h Q E' → K00.t__law_whole  (ends Q) (slots K00.n__law_whole ds) h) : FnD P w K mg base (k + 1) T.f__law_whole T.d__law_whole p__law_whole sp := by
  refine fnD T.F__law_whole sc__law_whole len fun cdv A outer s H E hr E' => ⟨K00.t__law_whole , ?_, fun ds h Q q => rd ds h Q E' q⟩
  have sc := sc__law_whole
  exact (dss_one (ds_ret (de_and (de_callB call_isi cl_is rfl T.z_isinstance boot'_isinstance (da_cons (de_var 0) (da_cons (de_blt rfl T.z_int boot'_int) da_nil))) (de_one (de_not (de_callB call_isi cl_is rfl T.z_isinstance boot'_isinstance (da_cons (de_var 0) (da_cons (de_blt rfl T.z_bool boot'_bool) da_nil))))))))
theorem ok__law_names {k : Nat} {sp sp__law_draw : Sp'} (T : Tx K mg) (G__law_draw : FnD P w K mg base k T.f__law_draw T.d__law_draw p__law_draw sp__law_draw) (len : ∀ ds h Q E, sp ds h Q E → ds.length = 1)
    (rd : ∀ ds h Q E', sp ds h Q E' → K00.t__law_names sp__law_draw (ends Q) (slots K00.n__law_names ds) h) : FnD P w K mg base (k + 1) T.f__law_names T.d__law_names p__law_names sp := by
  refine fnD T.F__law_names sc__law_names len fun cdv A outer s H E hr E' => ⟨K00.t__law_names sp__law_draw, ?_, fun ds h Q q => rd ds h Q E' q⟩
  have sc := sc__law_names
  exact (dss_cons (ds_set (i := 1) sc.nd rfl (Or.inl rfl) de_str)
      (dss_cons (ds_set (i := 2) sc.nd rfl (Or.inl rfl) (de_lis (da_cons de_str (da_cons de_str (da_cons de_str (da_cons de_str (da_cons de_str (da_cons de_str da_nil))))))))
      (dss_cons (ds_set (i := 3) sc.nd rfl (Or.inl rfl) (de_ix ix_seq opl_ix (fun _ _ => rfl) (de_lis (da_cons de_str (da_cons de_str (da_cons de_str (da_cons de_str (da_cons de_str da_nil)))))) (de_call G__law_draw hr rfl T.m__law_draw T.F__law_draw.kp T.b__law_draw (da_cons (de_var 0) (da_cons de_int da_nil)))))
      (dss_cons (ds_set (i := 4) sc.nd rfl (Or.inl rfl) (de_own da_nil))
      (dss_cons (ds_for (passes_of rfl) rfl (di_rng1 rfl T.z_range (da_cons (de_ix ix_seq opl_ix (fun _ _ => rfl) (de_lis (da_cons de_int (da_cons de_int (da_cons de_int (da_cons de_int (da_cons de_int (da_cons de_int da_nil))))))) (de_call G__law_draw hr rfl T.m__law_draw T.F__law_draw.kp T.b__law_draw (da_cons (de_var 0) (da_cons de_int da_nil)))) da_nil)) (dg_name (i := 5) sc.nd rfl (Or.inl rfl)) (dss_cons (ds_set (i := 6) sc.nd rfl (Or.inl rfl) (de_op opr_add opl_add (de_var 3) (de_ix ix_seq opl_ix (fun _ _ => rfl) (de_var 1) (de_call G__law_draw hr rfl T.m__law_draw T.F__law_draw.kp T.b__law_draw (da_cons (de_var 0) (da_cons (de_callB cr_len cl_len rfl T.z_len boot'_len (da_cons (de_var 1) da_nil)) da_nil))))))
      (dss_cons (ds_mid (ds_if (dt_cmp (opr_eq hr.units) opl_eq (nomark _) (de_call G__law_draw hr rfl T.m__law_draw T.F__law_draw.kp T.b__law_draw (da_cons (de_var 0) (da_cons de_int da_nil))) de_int) (dss_one (ds_set (i := 6) sc.nd rfl (Or.inl rfl) (de_op opr_add opl_add (de_var 6) (de_ix ix_seq opl_ix (fun _ _ => rfl) (de_var 1) (de_call G__law_draw hr rfl T.m__law_draw T.F__law_draw.kp T.b__law_draw (da_cons (de_var 0) (da_cons (de_callB cr_len cl_len rfl T.z_len boot'_len (da_cons (de_var 1) da_nil)) da_nil))))))) dss_nil))
      (dss_cons (ds_mid (ds_if (dt_cmp (opr_eq hr.units) opl_eq (nomark _) (de_call G__law_draw hr rfl T.m__law_draw T.F__law_draw.kp T.b__law_draw (da_cons (de_var 0) (da_cons de_int da_nil))) de_int) (dss_one (ds_set (i := 6) sc.nd rfl (Or.inl rfl) (de_ix ix_seq opl_ix (fun _ _ => rfl) (de_var 2) (de_call G__law_draw hr rfl T.m__law_draw T.F__law_draw.kp T.b__law_draw (da_cons (de_var 0) (da_cons de_int da_nil)))))) dss_nil))
      (dss_one (ds_mid (ds_if (dt_cmp op_notIn_seq opl_in rfl (de_var 6) (de_var 4)) (dss_one (ds_expr (de_append (de_var 4) (da_cons (de_var 6) da_nil)))) dss_nil)))))))
      (dss_one (ds_ret (de_callTy call_tupF cl_tup rfl T.z_tuple boot'_tuple (da_cons (de_var 4) da_nil)))))))))
theorem ok__law_kinds {k : Nat} {sp sp__law_kinds : Sp'} (T : Tx K mg) (G__law_kinds : FnD P w K mg base k T.f__law_kinds T.d__law_kinds p__law_kinds sp__law_kinds) (len : ∀ ds h Q E, sp ds h Q E → ds.length = 1)
    (rd : ∀ ds h Q E', sp ds h Q E' → K00.t__law_kinds sp__law_kinds (ends Q) (slots K00.n__law_kinds ds) h) : FnD P w K mg base (k + 1) T.f__law_kinds T.d__law_kinds p__law_kinds sp := by
  refine fnD T.F__law_kinds sc__law_kinds len fun cdv A outer s H E hr E' => ⟨K00.t__law_kinds sp__law_kinds, ?_, fun ds h Q q => rd ds h Q E' q⟩
  have sc := sc__law_kinds
  exact (dss_cons (ds_if (dt_cmp (opr_eq hr.units) opl_eq (nomark _) (de_ix ix_seq opl_ix (fun _ _ => rfl) (de_var 0) de_int) de_str) (dss_one (ds_ret (de_op opr_add opl_add (de_op opr_add opl_add de_int (de_call G__law_kinds hr rfl T.m__law_kinds T.F__law_kinds.kp T.b__law_kinds (da_cons (de_ix ix_seq opl_ix (fun _ _ => rfl) (de_var 0) de_int) da_nil))) (de_call G__law_kinds hr rfl T.m__law_kinds T.F__law_kinds.kp T.b__law_kinds (da_cons (de_ix ix_seq opl_ix (fun _ _ => rfl) (de_var 0) de_int) da_nil))))) dss_nil)
      (dss_cons (ds_if (dt_cmp (opr_eq hr.units) opl_eq (nomark _) (de_ix ix_seq opl_ix (fun _ _ => rfl) (de_var 0) de_int) de_str) (dss_one (ds_ret (de_op opr_add opl_add de_int (de_callB (cr_sum rfl) cl_sum rfl T.z_sum boot'_sum (da_cons (de_lc rfl sc.nd (di_seq (de_ix ix_seq opl_ix (fun _ _ => rfl) (de_var 0) de_int)) (blkOk_by (N := K00.n__law_kinds) (sc := defScope s__law_kinds) (by decide +kernel)) (fun _ _ _ _ _ => pg_name (i := 1) sc.nd rfl (Or.inl rfl)) (fun _ _ _ _ _ => dts_nil) (fun _ _ _ _ _ => (de_call G__law_kinds hr rfl T.m__law_kinds T.F__law_kinds.kp T.b__law_kinds (da_cons (de_var 1) da_nil)))) da_nil))))) dss_nil)
      (dss_cons (ds_if (dt_cmp (opr_eq hr.units) opl_eq (nomark _) (de_ix ix_seq opl_ix (fun _ _ => rfl) (de_var 0) de_int) de_str) (dss_one (ds_ret (de_op opr_add opl_add de_int (de_call G__law_kinds hr rfl T.m__law_kinds T.F__law_kinds.kp T.b__law_kinds (da_cons (de_ix ix_seq opl_ix (fun _ _ => rfl) (de_var 0) de_int) da_nil))))) dss_nil)
      (dss_one (ds_ret de_int)))))
theorem ok__law_kind {k : Nat} {sp sp__law_draw sp__law_names sp__law_kind sp__law_kinds : Sp'} (T : Tx K mg) (G__law_draw : FnD P w K mg base k T.f__law_draw T.d__law_draw p__law_draw sp__law_draw) (G__law_names : FnD P w K mg base k T.f__law_names T.d__law_names p__law_names sp__law_names) (G__law_kind : FnD P w K mg base k T.f__law_kind T.d__law_kind p__law_kind sp__law_kind) (G__law_kinds : FnD P w K mg base k T.f__law_kinds T.d__law_kinds p__law_kinds sp__law_kinds) (len : ∀ ds h Q E, sp ds h Q E → ds.length = 3)
    (rd : ∀ ds h Q E', sp ds h Q E' → K00.t__law_kind sp__law_draw sp__law_names sp__law_kind sp__law_kinds (ends Q) (slots K00.n__law_kind ds) h) : FnD P w K mg base (k + 1) T.f__law_kind T.d__law_kind p__law_kind sp := by
  refine fnD T.F__law_kind sc__law_kind len fun cdv A outer s H E hr E' => ⟨K00.t__law_kind sp__law_draw sp__law_names sp__law_kind sp__law_kinds, ?_, fun ds h Q q => rd ds h Q E' q⟩
  have sc := sc__law_kind
  exact (dss_cons (ds_set (i := 3) sc.nd rfl (Or.inl rfl) (de_call G__law_draw hr rfl T.m__law_draw T.F__law_draw.kp T.b__law_draw (da_cons (de_var 0) (da_cons de_int da_nil))))
      (dss_cons (ds_if (dw_pt (dw_orp (pu_orp (pu_tb (pu_to pu_eq pu_tv pu_tc)) (pu_tb (pu_to pu_I2 pu_tv pu_tc))) (dt_cmp (opr_eq hr.units) opl_eq (nomark _) (de_var 1) de_int) (dw_orp (pu_tb (pu_to pu_I2 pu_tv pu_tc)) (dt_cmp (opr_eq hr.units) opl_eq (nomark _) (de_var 2) de_int) (dw_or1 (dt_cmp op_lt opl_lt (nomark _) (de_var 3) de_int))))) (dss_cons (ds_if (dt_cmp (opr_eq hr.units) opl_eq (nomark _) (de_call G__law_draw hr rfl T.m__law_draw T.F__law_draw.kp T.b__law_draw (da_cons (de_var 0) (da_cons de_int da_nil))) de_int) (dss_one (ds_ret (de_tup (da_cons de_str (da_cons (de_call G__law_names hr rfl T.m__law_names T.F__law_names.kp T.b__law_names (da_cons (de_var 0) da_nil)) da_nil))))) dss_nil)
      (dss_one (ds_ret (de_tup (da_cons de_str da_nil))))) dss_nil)
      (dss_cons (ds_if (dw_pt (dw_orp (pu_tb (pu_to pu_eq pu_tv pu_tc)) (dt_cmp (opr_eq hr.units) opl_eq (nomark _) (de_var 2) de_int) (dw_or1 (dt_cmp (opr_eq hr.units) opl_eq (nomark _) (de_var 3) de_int)))) (dss_one (ds_ret (de_tup (da_cons de_str (da_cons (de_call G__law_kind hr rfl T.m__law_kind T.F__law_kind.kp T.b__law_kind (da_cons (de_var 0) (da_cons (de_op op_sub opl_sub (de_var 1) de_int) (da_cons (de_op op_sub opl_sub (de_var 2) de_int) da_nil)))) da_nil))))) dss_nil)
      (dss_cons (ds_if (dt_cmp op_lt opl_lt (nomark _) (de_var 3) de_int) (dss_cons (ds_set (i := 4) sc.nd rfl (Or.inl rfl) (de_call G__law_kind hr rfl T.m__law_kind T.F__law_kind.kp T.b__law_kind (da_cons (de_var 0) (da_cons (de_op op_sub opl_sub (de_var 1) de_int) (da_cons (de_op op_sub opl_sub (de_var 2) de_int) da_nil)))))
      (dss_one (ds_ret (de_tup (da_cons de_str (da_cons (de_var 4) (da_cons (de_call G__law_kind hr rfl T.m__law_kind T.F__law_kind.kp T.b__law_kind (da_cons (de_var 0) (da_cons (de_op op_sub opl_sub (de_var 1) de_int) (da_cons (de_op op_sub opl_sub (de_op op_sub opl_sub (de_var 2) de_int) (de_call G__law_kinds hr rfl T.m__law_kinds T.F__law_kinds.kp T.b__law_kinds (da_cons (de_var 4) da_nil))) da_nil)))) da_nil))))))) dss_nil)
      (dss_cons (ds_set (i := 5) sc.nd rfl (Or.inl rfl) (de_op op_sub opl_sub (de_var 2) de_int))
      (dss_cons (ds_set (i := 6) sc.nd rfl (Or.inl rfl) (de_op opr_add opl_add de_int (de_call G__law_draw hr rfl T.m__law_draw T.F__law_draw.kp T.b__law_draw (da_cons (de_var 0) (da_cons (de_callB (call_min2 rfl) cl_min rfl T.z_min boot'_min (da_cons de_int (da_cons (de_var 5) da_nil))) da_nil)))))
      (dss_cons (ds_set (i := 7) sc.nd rfl (Or.inl rfl) (de_own da_nil))
      (dss_cons (ds_for (passes_of rfl) rfl (di_rng1 rfl T.z_range (da_cons (de_var 6) da_nil)) (dg_name (i := 8) sc.nd rfl (Or.inl rfl)) (dss_cons (ds_set (i := 9) sc.nd rfl (Or.inl rfl) (de_call G__law_kind hr rfl T.m__law_kind T.F__law_kind.kp T.b__law_kind (da_cons (de_var 0) (da_cons (de_op op_sub opl_sub (de_var 1) de_int) (da_cons (de_op op_sub opl_sub (de_var 5) (de_op op_sub opl_sub (de_op op_sub opl_sub (de_var 6) de_int) (de_var 8))) da_nil)))))
      (dss_cons (ds_expr (de_append (de_var 7) (da_cons (de_var 9) da_nil)))
      (dss_one (ds_set (i := 5) sc.nd rfl (Or.inl rfl) (de_op op_sub opl_sub (de_var 5) (de_call G__law_kinds hr rfl T.m__law_kinds T.F__law_kinds.kp T.b__law_kinds (da_cons (de_var 9) da_nil))))))))
      (dss_one (ds_ret (de_tup (da_cons de_str (da_cons (de_callTy call_tupF cl_tup rfl T.z_tuple boot'_tuple (da_cons (de_var 7) da_nil)) da_nil)))))))))))))
theorem ok__law_any_kind {k : Nat} {sp sp__law_draw sp__law_kind : Sp'} (T : Tx K mg) (G__law_draw : FnD P w K mg base k T.f__law_draw T.d__law_draw p__law_draw sp__law_draw) (G__law_kind : FnD P w K mg base k T.f__law_kind T.d__law_kind p__law_kind sp__law_kind) (len : ∀ ds h Q E, sp ds h Q E → ds.length = 1)
    (rd : ∀ ds h Q E', sp ds h Q E' → K04.t__law_any_kind sp__law_draw sp__law_kind (ends Q) (slots K04.n__law_any_kind ds) h) : FnD P w K mg base (k + 1) T.f__law_any_kind T.d__law_any_kind p__law_any_kind sp := by
  refine fnD T.F__law_any_kind sc__law_any_kind len fun cdv A outer s H E hr E' => ⟨K04.t__law_any_kind sp__law_draw sp__law_kind, ?_, fun ds h Q q => rd ds h Q E' q⟩
  have sc := sc__law_any_kind
  exact (dss_cons (ds_set (i := 1) sc.nd rfl (Or.inl rfl) (de_call G__law_draw hr rfl T.m__law_draw T.F__law_draw.kp T.b__law_draw (da_cons (de_var 0) (da_cons de_int da_nil))))
      (dss_cons (ds_if (dt_cmp op_lt opl_lt (nomark _) (de_var 1) de_int) (dss_one (ds_ret (de_tup (da_cons de_str da_nil)))) dss_nil)
      (dss_one (ds_ret (de_call G__law_kind hr rfl T.m__law_kind T.F__law_kind.kp T.b__law_kind (da_cons (de_var 0) (da_cons de_int (da_cons (de_ix ix_seq opl_ix (fun _ _ => rfl) (de_lis (da_cons de_int (da_cons de_int (da_cons de_int da_nil)))) (de_op op_sub opl_sub (de_var 1) de_int)) da_nil))))))))
theorem ok__law_integer {k : Nat} {sp sp__law_draw : Sp'} (T : Tx K mg) (G__law_draw : FnD P w K mg base k T.f__law_draw T.d__law_draw p__law_draw sp__law_draw) (len : ∀ ds h Q E, sp ds h Q E → ds.length = 2)
    (rd : ∀ ds h Q E', sp ds h Q E' → K00.t__law_integer sp__law_draw (ends Q) (slots K00.n__law_integer ds) h) : FnD P w K mg base (k + 1) T.f__law_integer T.d__law_integer p__law_integer sp := by
  refine fnD T.F__law_integer sc__law_integer len fun cdv A outer s H E hr E' => ⟨K00.t__law_integer sp__law_draw, ?_, fun ds h Q q => rd ds h Q E' q⟩
  have sc := sc__law_integer
  exact (dss_cons (ds_set (i := 2) sc.nd rfl (Or.inl rfl) (de_call G__law_draw hr rfl T.m__law_draw T.F__law_draw.kp T.b__law_draw (da_cons (de_var 0) (da_cons de_int da_nil))))
      (dss_cons (ds_set (i := 3) sc.nd rfl (Or.inl rfl) (de_call G__law_draw hr rfl T.m__law_draw T.F__law_draw.kp T.b__law_draw (da_cons (de_var 0) (da_cons (de_ix ix_seq opl_ix (fun _ _ => rfl) (de_lis (da_cons de_int (da_cons (de_op opr_add opl_add (de_var 1) de_int) (da_cons (de_op opr_add opl_add (de_var 1) de_int) (da_cons (de_op op_pow opl_pow de_int de_int) (da_cons (de_op op_sub opl_sub (de_op op_pow opl_pow de_int de_int) de_int) da_nil)))))) (de_var 2)) da_nil))))
      (dss_cons (ds_mid (ds_if (dt_cmp (opr_eq hr.units) opl_eq (nomark _) (de_var 2) de_int) (dss_one (ds_set (i := 3) sc.nd rfl (Or.inl rfl) (de_op opr_add opl_add (de_op op_mul opl_mul (de_var 3) (de_op op_pow opl_pow de_int de_int)) (de_call G__law_draw hr rfl T.m__law_draw T.F__law_draw.kp T.b__law_draw (da_cons (de_var 0) (da_cons (de_op op_pow opl_pow de_int de_int) da_nil)))))) dss_nil))
      (dss_one (ds_ret (de_ix ix_seq opl_ix (fun _ _ => rfl) (de_lis (da_cons (de_var 3) (da_cons (de_un un_neg unl_neg (de_var 3)) da_nil))) (de_call G__law_draw hr rfl T.m__law_draw T.F__law_draw.kp T.b__law_draw (da_cons (de_var 0) (da_cons de_int da_nil)))))))))
theorem ok__law_letter {k : Nat} {sp sp__law_draw sp__law_integer sp__law_letter : Sp'} (T : Tx K mg) (G__law_draw : FnD P w K mg base k T.f__law_draw T.d__law_draw p__law_draw sp__law_draw) (G__law_integer : FnD P w K mg base k T.f__law_integer T.d__law_integer p__law_integer sp__law_integer) (G__law_letter : FnD P w K mg base k T.f__law_letter T.d__law_letter p__law_letter sp__law_letter) (len : ∀ ds h Q E, sp ds h Q E → ds.length = 3)
    (rd : ∀ ds h Q E', sp ds h Q E' → K00.t__law_letter sp__law_draw sp__law_integer sp__law_letter (ends Q) (slots K00.n__law_letter ds) h) : FnD P w K mg base (k + 1) T.f__law_letter T.d__law_letter p__law_letter sp := by
  refine fnD T.F__law_letter sc__law_letter len fun cdv A outer s H E hr E' => ⟨K00.t__law_letter sp__law_draw sp__law_integer sp__law_letter, ?_, fun ds h Q q => rd ds h Q E' q⟩
  have sc := sc__law_letter
  exact (dss_cons (ds_if (dt_cmp (opr_eq hr.units) opl_eq (nomark _) (de_ix ix_seq opl_ix (fun _ _ => rfl) (de_var 1) de_int) de_str) (dss_one (ds_ret (de_ix ix_seq opl_ix (fun _ _ => rfl) (de_ix ix_seq opl_ix (fun _ _ => rfl) (de_var 1) de_int) (de_call G__law_draw hr rfl T.m__law_draw T.F__law_draw.kp T.b__law_draw (da_cons (de_var 0) (da_cons (de_callB cr_len cl_len rfl T.z_len boot'_len (da_cons (de_ix ix_seq opl_ix (fun _ _ => rfl) (de_var 1) de_int) da_nil)) da_nil)))))) dss_nil)
      (dss_cons (ds_if (dt_cmp (opr_eq hr.units) opl_eq (nomark _) (de_ix ix_seq opl_ix (fun _ _ => rfl) (de_var 1) de_int) de_str) (dss_one (ds_ret (de_call G__law_integer hr rfl T.m__law_integer T.F__law_integer.kp T.b__law_integer (da_cons (de_var 0) (da_cons (de_ix ix_seq opl_ix (fun _ _ => rfl) (de_var 2) de_int) da_nil))))) dss_nil)
      (dss_cons (ds_if (dt_cmp (opr_eq hr.units) opl_eq (nomark _) (de_ix ix_seq opl_ix (fun _ _ => rfl) (de_var 1) de_int) de_str) (dss_cons (ds_set (i := 3) sc.nd rfl (Or.inl rfl) (de_call G__law_letter hr rfl T.m__law_letter T.F__law_letter.kp T.b__law_letter (da_cons (de_var 0) (da_cons (de_ix ix_seq opl_ix (fun _ _ => rfl) (de_var 1) de_int) (da_cons (de_var 2) da_nil)))))
      (dss_one (ds_ret (de_tup (da_cons de_str (da_cons (de_var 3) (da_cons (de_call G__law_letter hr rfl T.m__law_letter T.F__law_letter.kp T.b__law_letter (da_cons (de_var 0) (da_cons (de_ix ix_seq opl_ix (fun _ _ => rfl) (de_var 1) de_int) (da_cons (de_var 2) da_nil)))) da_nil))))))) dss_nil)
      (dss_cons (ds_if (dt_cmp (opr_eq hr.units) opl_eq (nomark _) (de_ix ix_seq opl_ix (fun _ _ => rfl) (de_var 1) de_int) de_str) (dss_cons (ds_set (i := 4) sc.nd rfl (Or.inl rfl) (de_call G__law_draw hr rfl T.m__law_draw T.F__law_draw.kp T.b__law_draw (da_cons (de_var 0) (da_cons (de_callB cr_len cl_len rfl T.z_len boot'_len (da_cons (de_ix ix_seq opl_ix (fun _ _ => rfl) (de_var 1) de_int) da_nil)) da_nil))))
      (dss_one (ds_ret (de_tup (da_cons de_str (da_cons (de_var 4) (da_cons (de_call G__law_letter hr rfl T.m__law_letter T.F__law_letter.kp T.b__law_letter (da_cons (de_var 0) (da_cons (de_ix ix_seq opl_ix (fun _ _ => rfl) (de_ix ix_seq opl_ix (fun _ _ => rfl) (de_var 1) de_int) (de_var 4)) (da_cons (de_var 2) da_nil)))) da_nil))))))) dss_nil)
      (dss_cons (ds_if (dt_cmp (opr_eq hr.units) opl_eq (nomark _) (de_call G__law_draw hr rfl T.m__law_draw T.F__law_draw.kp T.b__law_draw (da_cons (de_var 0) (da_cons de_int da_nil))) de_int) (dss_one (ds_ret (de_tup (da_cons de_str da_nil)))) dss_nil)
      (dss_one (ds_ret (de_tup (da_cons de_str (da_cons (de_call G__law_letter hr rfl T.m__law_letter T.F__law_letter.kp T.b__law_letter (da_cons (de_var 0) (da_cons (de_ix ix_seq opl_ix (fun _ _ => rfl) (de_var 1) de_int) (da_cons (de_var 2) da_nil)))) da_nil))))))))))
end
end WK22

set_option Elab.async false
set_option linter.all false
set_option maxRecDepth 100000
set_option maxHeartbeats 8000000
namespace WK22
open PySem PySem.Spec PyProof.Rows L2 DL
section
variable {P : Program} {w : World} {K : PySem.W.Frag} {mg : Str → Option Value} {base : Heap}
theorem ok__law_word {k : Nat} {sp sp__law_draw sp__law_letter : Sp'} (T : Tx K mg) (G__law_draw : FnD P w K mg base k T.f__law_draw T.d__law_draw p__law_draw sp__law_draw) (G__law_letter : FnD P w K mg base k T.f__law_letter T.d__law_letter p__law_letter sp__law_letter) (len : ∀ ds h Q E, sp ds h Q E → ds.length = 4)
    (rd : ∀ ds h Q E', sp ds h Q E' → K02.t__law_word sp__law_draw sp__law_letter (ends Q) (slots K02.n__law_word ds) h) : FnD P w K mg base (k + 1) T.f__law_word T.d__law_word p__law_word sp := by
  refine fnD T.F__law_word sc__law_word len fun cdv A outer s H E hr E' => ⟨K02.t__law_word sp__law_draw sp__law_letter, ?_, fun ds h Q q => rd ds h Q E' q⟩
  have sc := sc__law_word
  exact (dss_one (ds_ret (de_callTy call_tupF cl_tup rfl T.z_tuple boot'_tuple (da_cons (de_lc rfl sc.nd (di_rng1 rfl T.z_range (da_cons (de_call G__law_draw hr rfl T.m__law_draw T.F__law_draw.kp T.b__law_draw (da_cons (de_var 0) (da_cons (de_op opr_add opl_add (de_var 3) de_int) da_nil))) da_nil)) (blkOk_by (N := K02.n__law_word) (sc := defScope s__law_word) (by decide +kernel)) (fun _ _ _ _ _ => pg_name (i := 4) sc.nd rfl (Or.inl rfl)) (fun _ _ _ _ _ => dts_nil) (fun _ _ _ _ _ => (de_call G__law_letter hr rfl T.m__law_letter T.F__law_letter.kp T.b__law_letter (da_cons (de_var 0) (da_cons (de_var 1) (da_cons (de_var 2) da_nil)))))) da_nil))))
theorem ok__law_conditions {k : Nat} {sp sp__law_conditions : Sp'} (T : Tx K mg) (G__law_conditions : FnD P w K mg base k T.f__law_conditions T.d__law_conditions p__law_conditions sp__law_conditions) (len : ∀ ds h Q E, sp ds h Q E → ds.length = 1)
    (rd : ∀ ds h Q E', sp ds h Q E' → K04.t__law_conditions sp__law_conditions (ends Q) (slots K04.n__law_conditions ds) h) : FnD P w K mg base (k + 1) T.f__law_conditions T.d__law_conditions p__law_conditions sp := by
  refine fnD T.F__law_conditions sc__law_conditions len fun cdv A outer s H E hr E' => ⟨K04.t__law_conditions sp__law_conditions, ?_, fun ds h Q q => rd ds h Q E' q⟩
  have sc := sc__law_conditions
  exact (dss_cons (ds_if (dt_cmp op_in_seq opl_in rfl (de_ix ix_seq opl_ix (fun _ _ => rfl) (de_var 0) de_int) (de_lis (da_cons de_str (da_cons de_str (da_cons de_str (da_cons de_str da_nil)))))) (dss_one (ds_ret (de_op opr_add opl_add de_int (de_call G__law_conditions hr rfl T.m__law_conditions T.F__law_conditions.kp T.b__law_conditions (da_cons (de_ix ix_seq opl_ix (fun _ _ => rfl) (de_var 0) de_int) da_nil))))) dss_nil)
      (dss_cons (ds_if (dt_cmp op_in_seq opl_in rfl (de_ix ix_seq opl_ix (fun _ _ => rfl) (de_var 0) de_int) (de_lis (da_cons de_str (da_cons de_str da_nil)))) (dss_one (ds_ret (de_op opr_add opl_add (de_op opr_add opl_add de_int (de_call G__law_conditions hr rfl T.m__law_conditions T.F__law_conditions.kp T.b__law_conditions (da_cons (de_ix ix_seq opl_ix (fun _ _ => rfl) (de_var 0) de_int) da_nil))) (de_call G__law_conditions hr rfl T.m__law_conditions T.F__law_conditions.kp T.b__law_conditions (da_cons (de_ix ix_seq opl_ix (fun _ _ => rfl) (de_var 0) de_int) da_nil))))) dss_nil)
      (dss_cons (ds_if (dt_cmp (opr_eq hr.units) opl_eq (nomark _) (de_ix ix_seq opl_ix (fun _ _ => rfl) (de_var 0) de_int) de_str) (dss_one (ds_ret (de_op opr_add opl_add de_int (de_call G__law_conditions hr rfl T.m__law_conditions T.F__law_conditions.kp T.b__law_conditions (da_cons (de_ix ix_seq opl_ix (fun _ _ => rfl) (de_var 0) de_int) da_nil))))) dss_nil)
      (dss_one (ds_ret de_int)))))
theorem ok__law_comparison {k : Nat} {sp sp__law_draw : Sp'} (T : Tx K mg) (G__law_draw : FnD P w K mg base k T.f__law_draw T.d__law_draw p__law_draw sp__law_draw) (len : ∀ ds h Q E, sp ds h Q E → ds.length = 2)
    (rd : ∀ ds h Q E', sp ds h Q E' → K04.t__law_comparison sp__law_draw (ends Q) (slots K04.n__law_comparison ds) h) : FnD P w K mg base (k + 1) T.f__law_comparison T.d__law_comparison p__law_comparison sp := by
  refine fnD T.F__law_comparison sc__law_comparison len fun cdv A outer s H E hr E' => ⟨K04.t__law_comparison sp__law_draw, ?_, fun ds h Q q => rd ds h Q E' q⟩
  have sc := sc__law_comparison
  exact (dss_cons (ds_set (i := 2) sc.nd rfl (Or.inl rfl) (de_call G__law_draw hr rfl T.m__law_draw T.F__law_draw.kp T.b__law_draw (da_cons (de_var 0) (da_cons de_int da_nil))))
      (dss_cons (ds_set (i := 3) sc.nd rfl (Or.inl rfl) (de_op op_sub opl_sub (de_call G__law_draw hr rfl T.m__law_draw T.F__law_draw.kp T.b__law_draw (da_cons (de_var 0) (da_cons (de_op opr_add opl_add (de_op op_mul opl_mul de_int (de_ix ix_seq opl_ix (fun _ _ => rfl) (de_var 1) de_int)) de_int) da_nil))) (de_ix ix_seq opl_ix (fun _ _ => rfl) (de_var 1) de_int)))
      (dss_cons (ds_mid (ds_if (dt_cmp op_lt opl_lt (nomark _) (de_var 2) de_int) (dss_one (ds_set (i := 3) sc.nd rfl (Or.inl rfl) (de_ix ix_seq opl_ix (fun _ _ => rfl) (de_lis (da_cons de_int (da_cons (de_ix ix_seq opl_ix (fun _ _ => rfl) (de_var 1) de_int) (da_cons (de_un un_neg unl_neg (de_ix ix_seq opl_ix (fun _ _ => rfl) (de_var 1) de_int)) da_nil)))) (de_var 2)))) dss_nil))
      (dss_one (ds_ret (de_tup (da_cons (de_ix ix_seq opl_ix (fun _ _ => rfl) (de_lis (da_cons de_str (da_cons de_str (da_cons de_str da_nil)))) (de_call G__law_draw hr rfl T.m__law_draw T.F__law_draw.kp T.b__law_draw (da_cons (de_var 0) (da_cons de_int da_nil)))) (da_cons (de_var 3) da_nil))))))))
theorem ok__law_modulus {k : Nat} {sp sp__law_draw : Sp'} (T : Tx K mg) (G__law_draw : FnD P w K mg base k T.f__law_draw T.d__law_draw p__law_draw sp__law_draw) (len : ∀ ds h Q E, sp ds h Q E → ds.length = 2)
    (rd : ∀ ds h Q E', sp ds h Q E' → K04.t__law_modulus sp__law_draw (ends Q) (slots K04.n__law_modulus ds) h) : FnD P w K mg base (k + 1) T.f__law_modulus T.d__law_modulus p__law_modulus sp := by
  refine fnD T.F__law_modulus sc__law_modulus len fun cdv A outer s H E hr E' => ⟨K04.t__law_modulus sp__law_draw, ?_, fun ds h Q q => rd ds h Q E' q⟩
  have sc := sc__law_modulus
  exact (dss_cons (ds_setlc rfl sc.nd rfl rfl (sw_true rfl rfl rfl (by decide +kernel)) (di_seq (de_lis (da_cons de_int (da_cons de_int (da_cons de_int (da_cons de_int da_nil)))))) (blkOk_by (N := K04.n__law_modulus) (sc := defScope s__law_modulus) (by decide +kernel)) (fun _ _ _ _ _ => pg_name (i := 2) sc.nd rfl (Or.inl rfl)) (fun _ _ _ _ _ => dts_one (dt_cmp (opr_eq hr.units) opl_eq (nomark _) (de_op op_mod opl_mod (de_callTy call_int1 cl_int rfl T.z_int boot'_int (da_cons (de_ix ix_seq opl_ix (fun _ _ => rfl) (de_var 1) de_int) da_nil)) (de_var 2)) de_int)) (fun _ _ _ _ _ => (de_var 2)))
      (dss_cons (ds_set (i := 2) sc.nd rfl (Or.inl rfl) (de_ix ix_seq opl_ix (fun _ _ => rfl) (de_var 3) (de_callB (call_max2 rfl) cl_max rfl T.z_max boot'_max (da_cons (de_call G__law_draw hr rfl T.m__law_draw T.F__law_draw.kp T.b__law_draw (da_cons (de_var 0) (da_cons (de_callB cr_len cl_len rfl T.z_len boot'_len (da_cons (de_var 3) da_nil)) da_nil))) (da_cons (de_call G__law_draw hr rfl T.m__law_draw T.F__law_draw.kp T.b__law_draw (da_cons (de_var 0) (da_cons (de_callB cr_len cl_len rfl T.z_len boot'_len (da_cons (de_var 3) da_nil)) da_nil))) da_nil)))))
      (dss_one (ds_ret (de_tup (da_cons de_str (da_cons (de_var 2) (da_cons (de_call G__law_draw hr rfl T.m__law_draw T.F__law_draw.kp T.b__law_draw (da_cons (de_var 0) (da_cons (de_var 2) da_nil))) da_nil))))))))
theorem ok__law_leaf {k : Nat} {sp sp__law_draw sp__law_modulus sp__law_comparison sp__law_condition : Sp'} (T : Tx K mg) (G__law_draw : FnD P w K mg base k T.f__law_draw T.d__law_draw p__law_draw sp__law_draw) (G__law_modulus : FnD P w K mg base k T.f__law_modulus T.d__law_modulus p__law_modulus sp__law_modulus) (G__law_comparison : FnD P w K mg base k T.f__law_comparison T.d__law_comparison p__law_comparison sp__law_comparison) (G__law_condition : FnD P w K mg base k T.f__law_condition T.d__law_condition p__law_condition sp__law_condition) (len : ∀ ds h Q E, sp ds h Q E → ds.length = 4)
    (rd : ∀ ds h Q E', sp ds h Q E' → K04.t__law_leaf sp__law_draw sp__law_modulus sp__law_comparison sp__law_condition (ends Q) (slots K04.n__law_leaf ds) h) : FnD P w K mg base (k + 1) T.f__law_leaf T.d__law_leaf p__law_leaf sp := by
  refine fnD T.F__law_leaf sc__law_leaf len fun cdv A outer s H E hr E' => ⟨K04.t__law_leaf sp__law_draw sp__law_modulus sp__law_comparison sp__law_condition, ?_, fun ds h Q q => rd ds h Q E' q⟩
  have sc := sc__law_leaf
  exact (dss_cons (ds_set (i := 4) sc.nd rfl (Or.inl rfl) (de_call G__law_draw hr rfl T.m__law_draw T.F__law_draw.kp T.b__law_draw (da_cons (de_var 0) (da_cons de_int da_nil))))
      (dss_cons (ds_if (dt_cmp (opr_eq hr.units) opl_eq (nomark _) (de_var 4) de_int) (dss_one (ds_ret (de_ix ix_seq opl_ix (fun _ _ => rfl) (de_lis (da_cons (de_tup (da_cons de_str da_nil)) (da_cons (de_tup (da_cons de_str da_nil)) da_nil))) (de_call G__law_draw hr rfl T.m__law_draw T.F__law_draw.kp T.b__law_draw (da_cons (de_var 0) (da_cons de_int da_nil)))))) dss_nil)
      (dss_cons (ds_if (dt_cmp (opr_eq hr.units) opl_eq (nomark _) (de_ix ix_seq opl_ix (fun _ _ => rfl) (de_var 1) de_int) de_str) (dss_one (ds_ret (de_tup (da_cons de_str (da_cons (de_ix ix_seq opl_ix (fun _ _ => rfl) (de_ix ix_seq opl_ix (fun _ _ => rfl) (de_var 1) de_int) (de_call G__law_draw hr rfl T.m__law_draw T.F__law_draw.kp T.b__law_draw (da_cons (de_var 0) (da_cons (de_callB cr_len cl_len rfl T.z_len boot'_len (da_cons (de_ix ix_seq opl_ix (fun _ _ => rfl) (de_var 1) de_int) da_nil)) da_nil)))) da_nil))))) dss_nil)
      (dss_cons (ds_if (dt_cmp (opr_eq hr.units) opl_eq (nomark _) (de_ix ix_seq opl_ix (fun _ _ => rfl) (de_var 1) de_int) de_str) (dss_cons (ds_if (dw_pt (dw_and (dt_cmp op_lt opl_lt (nomark _) (de_var 4) de_int) (dw_and1 (dt_cmp op_gt opl_gt (nomark _) (de_ix ix_seq opl_ix (fun _ _ => rfl) (de_var 2) de_int) de_int)))) (dss_one (ds_ret (de_call G__law_modulus hr rfl T.m__law_modulus T.F__law_modulus.kp T.b__law_modulus (da_cons (de_var 0) (da_cons (de_var 2) da_nil))))) dss_nil)
      (dss_one (ds_ret (de_call G__law_comparison hr rfl T.m__law_comparison T.F__law_comparison.kp T.b__law_comparison (da_cons (de_var 0) (da_cons (de_var 2) da_nil)))))) dss_nil)
      (dss_cons (ds_if (dw_pt (dw_and (dt_cmp (opr_eq hr.units) opl_eq (nomark _) (de_ix ix_seq opl_ix (fun _ _ => rfl) (de_var 1) de_int) de_str) (dw_and1 (dw_pt (dw_orp (pu_tb (pu_to pu_eq pu_tv pu_tc)) (dt_cmp (opr_eq hr.units) opl_eq (nomark _) (de_var 3) de_int) (dw_or1 (dt_cmp (opr_eq hr.units) opl_eq (nomark _) (de_var 4) de_int))))))) (dss_one (ds_ret (de_tup (da_cons de_str da_nil)))) dss_nil)
      (dss_cons (ds_if (dt_cmp (opr_eq hr.units) opl_eq (nomark _) (de_var 3) de_int) (dss_one (ds_ret (de_tup (da_cons de_str da_nil)))) dss_nil)
      (dss_cons (ds_if (dt_cmp (opr_eq hr.units) opl_eq (nomark _) (de_ix ix_seq opl_ix (fun _ _ => rfl) (de_var 1) de_int) de_str) (dss_cons (ds_set (i := 5) sc.nd rfl (Or.inl rfl) (de_call G__law_draw hr rfl T.m__law_draw T.F__law_draw.kp T.b__law_draw (da_cons (de_var 0) (da_cons de_int da_nil))))
      (dss_one (ds_ret (de_tup (da_cons (de_ix ix_seq opl_ix (fun _ _ => rfl) (de_lis (da_cons de_str (da_cons de_str da_nil))) (de_var 5)) (da_cons (de_call G__law_condition hr rfl T.m__law_condition T.F__law_condition.kp T.b__law_condition (da_cons (de_var 0) (da_cons (de_ix ix_seq opl_ix (fun _ _ => rfl) (de_var 1) (de_op opr_add opl_add de_int (de_var 5))) (da_cons (de_var 2) (da_cons (de_op op_sub opl_sub (de_var 3) de_int) da_nil))))) da_nil)))))) dss_nil)
      (dss_cons (ds_if (dt_cmp (opr_eq hr.units) opl_eq (nomark _) (de_ix ix_seq opl_ix (fun _ _ => rfl) (de_var 1) de_int) de_str) (dss_cons (ds_set (i := 6) sc.nd rfl (Or.inl rfl) (de_call G__law_draw hr rfl T.m__law_draw T.F__law_draw.kp T.b__law_draw (da_cons (de_var 0) (da_cons (de_callB cr_len cl_len rfl T.z_len boot'_len (da_cons (de_ix ix_seq opl_ix (fun _ _ => rfl) (de_var 1) de_int) da_nil)) da_nil))))
      (dss_one (ds_ret (de_tup (da_cons de_str (da_cons (de_var 6) (da_cons (de_call G__law_condition hr rfl T.m__law_condition T.F__law_condition.kp T.b__law_condition (da_cons (de_var 0) (da_cons (de_ix ix_seq opl_ix (fun _ _ => rfl) (de_ix ix_seq opl_ix (fun _ _ => rfl) (de_var 1) de_int) (de_var 6)) (da_cons (de_var 2) (da_cons (de_op op_sub opl_sub (de_var 3) de_int) da_nil))))) da_nil))))))) dss_nil)
      (dss_one (ds_ret (de_tup (da_cons de_str (da_cons (de_call G__law_condition hr rfl T.m__law_condition T.F__law_condition.kp T.b__law_condition (da_cons (de_var 0) (da_cons (de_ix ix_seq opl_ix (fun _ _ => rfl) (de_var 1) de_int) (da_cons (de_var 2) (da_cons (de_op op_sub opl_sub (de_var 3) de_int) da_nil))))) da_nil)))))))))))))
theorem ok__law_condition {k : Nat} {sp sp__law_draw sp__law_condition sp__law_conditions sp__law_leaf : Sp'} (T : Tx K mg) (G__law_draw : FnD P w K mg base k T.f__law_draw T.d__law_draw p__law_draw sp__law_draw) (G__law_condition : FnD P w K mg base k T.f__law_condition T.d__law_condition p__law_condition sp__law_condition) (G__law_conditions : FnD P w K mg base k T.f__law_conditions T.d__law_conditions p__law_conditions sp__law_conditions) (G__law_leaf : FnD P w K mg base k T.f__law_leaf T.d__law_leaf p__law_leaf sp__law_leaf) (len : ∀ ds h Q E, sp ds h Q E → ds.length = 4)
    (rd : ∀ ds h Q E', sp ds h Q E' → K04.t__law_condition sp__law_draw sp__law_condition sp__law_conditions sp__law_leaf (ends Q) (slots K04.n__law_condition ds) h) : FnD P w K mg base (k + 1) T.f__law_condition T.d__law_condition p__law_condition sp := by
  refine fnD T.F__law_condition sc__law_condition len fun cdv A outer s H E hr E' => ⟨K04.t__law_condition sp__law_draw sp__law_condition sp__law_conditions sp__law_leaf, ?_, fun ds h Q q => rd ds h Q E' q⟩
  have sc := sc__law_condition
  exact (dss_cons (ds_set (i := 4) sc.nd rfl (Or.inl rfl) (de_call G__law_draw hr rfl T.m__law_draw T.F__law_draw.kp T.b__law_draw (da_cons (de_var 0) (da_cons de_int da_nil))))
      (dss_cons (ds_if (dw_pt (dw_and (dt_cmp op_gt opl_gt (nomark _) (de_var 3) de_int) (dw_and1 (dt_cmp (opr_eq hr.units) opl_eq (nomark _) (de_var 4) de_int)))) (dss_one (ds_ret (de_tup (da_cons de_str (da_cons (de_call G__law_condition hr rfl T.m__law_condition T.F__law_condition.kp T.b__law_condition (da_cons (de_var 0) (da_cons (de_var 1) (da_cons (de_var 2) (da_cons (de_op op_sub opl_sub (de_var 3) de_int) da_nil))))) da_nil))))) dss_nil)
      (dss_cons (ds_if (dw_pt (dw_and (dt_cmp op_gt opl_gt (nomark _) (de_var 3) de_int) (dw_and1 (dt_cmp op_lt opl_lt (nomark _) (de_var 4) de_int)))) (dss_cons (ds_set (i := 5) sc.nd rfl (Or.inl rfl) (de_call G__law_condition hr rfl T.m__law_condition T.F__law_condition.kp T.b__law_condition (da_cons (de_var 0) (da_cons (de_var 1) (da_cons (de_var 2) (da_cons (de_op op_sub opl_sub (de_var 3) de_int) da_nil))))))
      (dss_cons (ds_set (i := 6) sc.nd rfl (Or.inl rfl) (de_call G__law_condition hr rfl T.m__law_condition T.F__law_condition.kp T.b__law_condition (da_cons (de_var 0) (da_cons (de_var 1) (da_cons (de_var 2) (da_cons (de_op op_sub opl_sub (de_op op_sub opl_sub (de_var 3) de_int) (de_call G__law_conditions hr rfl T.m__law_conditions T.F__law_conditions.kp T.b__law_conditions (da_cons (de_var 5) da_nil))) da_nil))))))
      (dss_one (ds_ret (de_tup (da_cons (de_ix ix_seq opl_ix (fun _ _ => rfl) (de_lis (da_cons de_str (da_cons de_str da_nil))) (de_call G__law_draw hr rfl T.m__law_draw T.F__law_draw.kp T.b__law_draw (da_cons (de_var 0) (da_cons de_int da_nil)))) (da_cons (de_var 5) (da_cons (de_var 6) da_nil)))))))) dss_nil)
      (dss_one (ds_ret (de_call G__law_leaf hr rfl T.m__law_leaf T.F__law_leaf.kp T.b__law_leaf (da_cons (de_var 0) (da_cons (de_var 1) (da_cons (de_var 2) (da_cons (de_var 3) da_nil))))))))))
theorem ok__law_in {k : Nat} {sp sp__law_in : Sp'} (T : Tx K mg) (G__law_in : FnD P w K mg base k T.f__law_in T.d__law_in p__law_in sp__law_in) (len : ∀ ds h Q E, sp ds h Q E → ds.length = 2)
    (rd : ∀ ds h Q E', sp ds h Q E' → K04.t__law_in sp__law_in (ends Q) (slots K04.n__law_in ds) h) : FnD P w K mg base (k + 1) T.f__law_in T.d__law_in p__law_in sp := by
  refine fnD T.F__law_in sc__law_in len fun cdv A outer s H E hr E' => ⟨K04.t__law_in sp__law_in, ?_, fun ds h Q q => rd ds h Q E' q⟩
  have sc := sc__law_in
  exact (dss_cons (ds_if (dt_cmp (opr_eq hr.units) opl_eq (nomark _) (de_ix ix_seq opl_ix (fun _ _ => rfl) (de_var 0) de_int) de_str) (dss_one (ds_ret (de_cmp op_in_seq opl_in rfl (de_var 1) (de_ix ix_seq opl_ix (fun _ _ => rfl) (de_var 0) de_int)))) dss_nil)
      (dss_cons (ds_if (dt_cmp (opr_eq hr.units) opl_eq (nomark _) (de_ix ix_seq opl_ix (fun _ _ => rfl) (de_var 0) de_int) de_str) (dss_cons (ds_set (i := 2) sc.nd rfl (Or.inl rfl) (de_ix ix_seq opl_ix (fun _ _ => rfl) (de_ix ix_seq opl_ix (fun _ _ => rfl) (de_var 0) de_int) de_int))
      (dss_cons (ds_set (i := 3) sc.nd rfl (Or.inl rfl) (de_ix ix_seq opl_ix (fun _ _ => rfl) (de_ix ix_seq opl_ix (fun _ _ => rfl) (de_var 0) de_int) de_int))
      (dss_cons (ds_if (dt_cmp op_ge opl_ge (nomark _) (de_var 1) (de_var 3)) (dss_one (ds_ret (de_ix ix_seq opl_ix (fun _ _ => rfl) (de_ix ix_seq opl_ix (fun _ _ => rfl) (de_ix ix_seq opl_ix (fun _ _ => rfl) (de_var 0) de_int) de_int) (de_op op_mod opl_mod (de_callTy call_int1 cl_int rfl T.z_int boot'_int (da_cons (de_op op_sub opl_sub (de_var 1) (de_var 3)) da_nil)) (de_callB cr_len cl_len rfl T.z_len boot'_len (da_cons (de_ix ix_seq opl_ix (fun _ _ => rfl) (de_ix ix_seq opl_ix (fun _ _ => rfl) (de_var 0) de_int) de_int) da_nil)))))) dss_nil)
      (dss_cons (ds_if (dt_cmp op_le opl_le (nomark _) (de_var 1) (de_var 2)) (dss_one (ds_ret (de_ix ix_seq opl_ix (fun _ _ => rfl) (de_ix ix_seq opl_ix (fun _ _ => rfl) (de_ix ix_seq opl_ix (fun _ _ => rfl) (de_var 0) de_int) de_int) (de_op op_mod opl_mod (de_callTy call_int1 cl_int rfl T.z_int boot'_int (da_cons (de_op op_sub opl_sub (de_var 2) (de_var 1)) da_nil)) (de_callB cr_len cl_len rfl T.z_len boot'_len (da_cons (de_ix ix_seq opl_ix (fun _ _ => rfl) (de_ix ix_seq opl_ix (fun _ _ => rfl) (de_var 0) de_int) de_int) da_nil)))))) dss_nil)
      (dss_one (ds_ret (de_cmp op_in_seq opl_in rfl (de_var 1) (de_ix ix_seq opl_ix (fun _ _ => rfl) (de_var 0) de_int)))))))) dss_nil)
      (dss_cons (ds_if (dt_cmp (opr_eq hr.units) opl_eq (nomark _) (de_ix ix_seq opl_ix (fun _ _ => rfl) (de_var 0) de_int) de_str) (dss_cons (ds_for (passes_of rfl) rfl (di_seq (de_ix ix_seq opl_ix (fun _ _ => rfl) (de_var 0) de_int)) (dg_name (i := 4) sc.nd rfl (Or.inl rfl)) (dss_one (ds_if (dt_val (de_call G__law_in hr rfl T.m__law_in T.F__law_in.kp T.b__law_in (da_cons (de_ix ix_seq opl_ix (fun _ _ => rfl) (de_var 4) de_int) (da_cons (de_ix ix_seq opl_ix (fun _ _ => rfl) (de_var 1) de_int) da_nil)))) (dss_one (ds_ret (de_call G__law_in hr rfl T.m__law_in T.F__law_in.kp T.b__law_in (da_cons (de_ix ix_seq opl_ix (fun _ _ => rfl) (de_var 4) de_int) (da_cons (de_ix ix_seq opl_ix (fun _ _ => rfl) (de_var 1) de_int) da_nil))))) dss_nil)))
      (dss_one (ds_ret de_bl))) dss_nil)
      (dss_cons (ds_if (dt_cmp (opr_eq hr.units) opl_eq (nomark _) (de_ix ix_seq opl_ix (fun _ _ => rfl) (de_var 0) de_int) de_str) (dss_one (ds_ret (de_call G__law_in hr rfl T.m__law_in T.F__law_in.kp T.b__law_in (da_cons (de_ix ix_seq opl_ix (fun _ _ => rfl) (de_ix ix_seq opl_ix (fun _ _ => rfl) (de_var 0) de_int) (de_ix ix_seq opl_ix (fun _ _ => rfl) (de_var 1) de_int)) (da_cons (de_ix ix_seq opl_ix (fun _ _ => rfl) (de_var 1) de_int) da_nil))))) dss_nil)
      (dss_cons (ds_if (dt_cmp (opr_eq hr.units) opl_eq (nomark _) (de_ix ix_seq opl_ix (fun _ _ => rfl) (de_var 1) de_int) de_str) (dss_one (ds_ret (de_ix ix_seq opl_ix (fun _ _ => rfl) (de_var 0) de_int))) dss_nil)
      (dss_one (ds_ret (de_call G__law_in hr rfl T.m__law_in T.F__law_in.kp T.b__law_in (da_cons (de_ix ix_seq opl_ix (fun _ _ => rfl) (de_var 0) de_int) (da_cons (de_ix ix_seq opl_ix (fun _ _ => rfl) (de_var 1) de_int) da_nil))))))))))
theorem ok__law_meets {k : Nat} {sp sp__law_meets sp__law_in : Sp'} (T : Tx K mg) (G__law_meets : FnD P w K mg base k T.f__law_meets T.d__law_meets p__law_meets sp__law_meets) (G__law_in : FnD P w K mg base k T.f__law_in T.d__law_in p__law_in sp__law_in) (len : ∀ ds h Q E, sp ds h Q E → ds.length = 2)
    (rd : ∀ ds h Q E', sp ds h Q E' → K04.t__law_meets sp__law_meets sp__law_in (ends Q) (slots K04.n__law_meets ds) h) : FnD P w K mg base (k + 1) T.f__law_meets T.d__law_meets p__law_meets sp := by
  refine fnD T.F__law_meets sc__law_meets len fun cdv A outer s H E hr E' => ⟨K04.t__law_meets sp__law_meets sp__law_in, ?_, fun ds h Q q => rd ds h Q E' q⟩
  have sc := sc__law_meets
  exact (dss_cons (ds_set (i := 2) sc.nd rfl (Or.inl rfl) (de_ix ix_seq opl_ix (fun _ _ => rfl) (de_var 0) de_int))
      (dss_cons (ds_if (dt_cmp (opr_eq hr.units) opl_eq (nomark _) (de_var 2) de_str) (dss_one (ds_ret (de_cmp op_lt opl_lt (nomark _) (de_var 1) (de_ix ix_seq opl_ix (fun _ _ => rfl) (de_var 0) de_int)))) dss_nil)
      (dss_cons (ds_if (dt_cmp (opr_eq hr.units) opl_eq (nomark _) (de_var 2) de_str) (dss_one (ds_ret (de_cmp op_gt opl_gt (nomark _) (de_var 1) (de_ix ix_seq opl_ix (fun _ _ => rfl) (de_var 0) de_int)))) dss_nil)
      (dss_cons (ds_if (dt_cmp (opr_eq hr.units) opl_eq (nomark _) (de_var 2) de_str) (dss_one (ds_ret (de_cmp (opr_eq hr.units) opl_eq (nomark _) (de_op op_mod opl_mod (de_callTy call_int1 cl_int rfl T.z_int boot'_int (da_cons (de_op op_sub opl_sub (de_var 1) (de_ix ix_seq opl_ix (fun _ _ => rfl) (de_var 0) de_int)) da_nil)) (de_ix ix_seq opl_ix (fun _ _ => rfl) (de_var 0) de_int)) de_int))) dss_nil)
      (dss_cons (ds_if (dw_pt (dw_orp (pu_tb (pu_to pu_eq pu_tv pu_tc)) (dt_cmp (opr_eq hr.units) opl_eq (nomark _) (de_var 2) de_str) (dw_or1 (dt_cmp (opr_eq hr.units) opl_eq (nomark _) (de_var 2) de_str)))) (dss_one (ds_ret (de_cmp (opr_eq hr.units) opl_eq (nomark _) (de_var 1) (de_ix ix_seq opl_ix (fun _ _ => rfl) (de_var 0) de_int)))) dss_nil)
      (dss_cons (ds_if (dt_cmp (opr_eq hr.units) opl_eq (nomark _) (de_var 2) de_str) (dss_one (ds_ret (de_and (de_call G__law_meets hr rfl T.m__law_meets T.F__law_meets.kp T.b__law_meets (da_cons (de_ix ix_seq opl_ix (fun _ _ => rfl) (de_var 0) de_int) (da_cons (de_var 1) da_nil))) (de_one (de_call G__law_meets hr rfl T.m__law_meets T.F__law_meets.kp T.b__law_meets (da_cons (de_ix ix_seq opl_ix (fun _ _ => rfl) (de_var 0) de_int) (da_cons (de_var 1) da_nil))))))) dss_nil)
      (dss_cons (ds_if (dt_cmp (opr_eq hr.units) opl_eq (nomark _) (de_var 2) de_str) (dss_one (ds_ret (de_or (de_call G__law_meets hr rfl T.m__law_meets T.F__law_meets.kp T.b__law_meets (da_cons (de_ix ix_seq opl_ix (fun _ _ => rfl) (de_var 0) de_int) (da_cons (de_var 1) da_nil))) (de_one (de_call G__law_meets hr rfl T.m__law_meets T.F__law_meets.kp T.b__law_meets (da_cons (de_ix ix_seq opl_ix (fun _ _ => rfl) (de_var 0) de_int) (da_cons (de_var 1) da_nil))))))) dss_nil)
      (dss_cons (ds_if (dt_cmp (opr_eq hr.units) opl_eq (nomark _) (de_var 2) de_str) (dss_one (ds_ret (de_not (de_call G__law_meets hr rfl T.m__law_meets T.F__law_meets.kp T.b__law_meets (da_cons (de_ix ix_seq opl_ix (fun _ _ => rfl) (de_var 0) de_int) (da_cons (de_var 1) da_nil)))))) dss_nil)
      (dss_cons (ds_if (dt_cmp (opr_eq hr.units) opl_eq (nomark _) (de_var 2) de_str) (dss_one (ds_ret (de_call G__law_meets hr rfl T.m__law_meets T.F__law_meets.kp T.b__law_meets (da_cons (de_ix ix_seq opl_ix (fun _ _ => rfl) (de_var 0) de_int) (da_cons (de_ix ix_seq opl_ix (fun _ _ => rfl) (de_var 1) de_int) da_nil))))) dss_nil)
      (dss_cons (ds_if (dt_cmp (opr_eq hr.units) opl_eq (nomark _) (de_var 2) de_str) (dss_one (ds_ret (de_call G__law_meets hr rfl T.m__law_meets T.F__law_meets.kp T.b__law_meets (da_cons (de_ix ix_seq opl_ix (fun _ _ => rfl) (de_var 0) de_int) (da_cons (de_ix ix_seq opl_ix (fun _ _ => rfl) (de_var 1) de_int) da_nil))))) dss_nil)
      (dss_cons (ds_if (dt_cmp (opr_eq hr.units) opl_eq (nomark _) (de_var 2) de_str) (dss_one (ds_ret (de_and (de_cmp (opr_eq hr.units) opl_eq (nomark _) (de_ix ix_seq opl_ix (fun _ _ => rfl) (de_var 1) de_int) (de_ix ix_seq opl_ix (fun _ _ => rfl) (de_var 0) de_int)) (de_one (de_call G__law_meets hr rfl T.m__law_meets T.F__law_meets.kp T.b__law_meets (da_cons (de_ix ix_seq opl_ix (fun _ _ => rfl) (de_var 0) de_int) (da_cons (de_ix ix_seq opl_ix (fun _ _ => rfl) (de_var 1) de_int) da_nil))))))) dss_nil)
      (dss_cons (ds_if (dt_cmp (opr_eq hr.units) opl_eq (nomark _) (de_var 2) de_str) (dss_one (ds_ret (de_and (de_cmp (opr_eq hr.units) opl_eq (nomark _) (de_ix ix_seq opl_ix (fun _ _ => rfl) (de_var 1) de_int) de_str) (de_one (de_call G__law_meets hr rfl T.m__law_meets T.F__law_meets.kp T.b__law_meets (da_cons (de_ix ix_seq opl_ix (fun _ _ => rfl) (de_var 0) de_int) (da_cons (de_ix ix_seq opl_ix (fun _ _ => rfl) (de_var 1) de_int) da_nil))))))) dss_nil)
      (dss_cons (ds_if (dt_cmp (opr_eq hr.units) opl_eq (nomark _) (de_var 2) de_str) (dss_one (ds_ret (de_cmp (opr_eq hr.units) opl_eq (nomark _) (de_ix ix_seq opl_ix (fun _ _ => rfl) (de_var 1) de_int) de_str))) dss_nil)
      (dss_cons (ds_if (dt_cmp (opr_eq hr.units) opl_eq (nomark _) (de_var 2) de_str) (dss_one (ds_ret (de_call G__law_in hr rfl T.m__law_in T.F__law_in.kp T.b__law_in (da_cons (de_ix ix_seq opl_ix (fun _ _ => rfl) (de_var 0) de_int) (da_cons (de_var 1) da_nil))))) dss_nil)
      (dss_one (ds_ret (de_cmp (opr_eq hr.units) opl_eq (nomark _) (de_var 2) de_str)))))))))))))))))
end
end WK22

set_option Elab.async false
set_option linter.all false
set_option maxRecDepth 100000
set_option maxHeartbeats 8000000
namespace WK22
open PySem PySem.Spec PyProof.Rows L2 DL
section
variable {P : Program} {w : World} {K : PySem.W.Frag} {mg : Str → Option Value} {base : Heap}
theorem ok__law_shortest {k : Nat} {sp  : Sp'} (T : Tx K mg)  (len : ∀ ds h Q E, sp ds h Q E → ds.length = 1)
    (rd : ∀ ds h Q E', sp ds h Q E' → K22.t__law_shortest  (ends Q) (slots K22.n__law_shortest ds) h) : FnD P w K mg base (k + 1) T.f__law_shortest T.d__law_shortest p__law_shortest sp := by
  refine fnD T.F__law_shortest sc__law_shortest len fun cdv A outer s H E hr E' => ⟨K22.t__law_shortest , ?_, fun ds h Q q => rd ds h Q E' q⟩
  have sc := sc__law_shortest
  exact (dss_cons (ds_for (passes_of rfl) rfl (di_rng2 rfl T.z_range (da_cons de_int (da_cons (de_callB cr_len cl_len rfl T.z_len boot'_len (da_cons (de_var 0) da_nil)) da_nil))) (dg_name (i := 1) sc.nd rfl (Or.inl rfl)) (dss_one (ds_if (dw_pt (dw_and (dt_cmp (opr_eq hr.units) opl_eq (nomark _) (de_op op_mod opl_mod (de_callTy call_int1 cl_int rfl T.z_int boot'_int (da_cons (de_callB cr_len cl_len rfl T.z_len boot'_len (da_cons (de_var 0) da_nil)) da_nil)) (de_var 1)) de_int) (dw_and1 (dt_cmp (opr_eq hr.units) opl_eq (nomark _) (de_slice (de_var 0) (do_some (de_var 1)) do_none) (de_slice (de_var 0) do_none (do_some (de_op op_sub opl_sub (de_callB cr_len cl_len rfl T.z_len boot'_len (da_cons (de_var 0) da_nil)) (de_var 1)))))))) (dss_one (ds_ret (de_slice (de_var 0) do_none (do_some (de_var 1))))) dss_nil)))
      (dss_one (ds_ret (de_var 0))))
theorem ok__law_integers_of {k : Nat} {sp sp__law_shortest : Sp'} (T : Tx K mg) (G__law_shortest : FnD P w K mg base k T.f__law_shortest T.d__law_shortest p__law_shortest sp__law_shortest) (len : ∀ ds h Q E, sp ds h Q E → ds.length = 2)
    (rd : ∀ ds h Q E', sp ds h Q E' → K22.t__law_integers_of sp__law_shortest (ends Q) (slots K22.n__law_integers_of ds) h) : FnD P w K mg base (k + 1) T.f__law_integers_of T.d__law_integers_of p__law_integers_of sp := by
  refine fnD T.F__law_integers_of sc__law_integers_of len fun cdv A outer s H E hr E' => ⟨K22.t__law_integers_of sp__law_shortest, ?_, fun ds h Q q => rd ds h Q E' q⟩
  have sc := sc__law_integers_of
  exact (dss_cons (ds_set (i := 2) sc.nd rfl (Or.inl rfl) (de_op opr_add opl_add (de_ix ix_seq opl_ix (fun _ _ => rfl) (de_var 0) de_int) de_int))
      (dss_cons (ds_set (i := 3) sc.nd rfl (Or.inl rfl) (de_un un_neg unl_neg (de_var 2)))
      (dss_cons (ds_set (i := 4) sc.nd rfl (Or.inl rfl) (de_call G__law_shortest hr rfl T.m__law_shortest T.F__law_shortest.kp T.b__law_shortest (da_cons (de_lc rfl sc.nd (di_rng2 rfl T.z_range (da_cons (de_var 2) (da_cons (de_op opr_add opl_add (de_var 2) (de_ix ix_seq opl_ix (fun _ _ => rfl) (de_var 0) de_int)) da_nil))) (blkOk_by (N := K22.n__law_integers_of) (sc := defScope s__law_integers_of) (by decide +kernel)) (fun _ _ _ _ _ => pg_name (i := 8) sc.nd rfl (Or.inl rfl)) (fun _ _ _ _ _ => dts_nil) (fun _ _ _ _ _ => (de_cmp op_in_seq opl_in rfl (de_var 8) (de_var 1)))) da_nil)))
      (dss_cons (ds_set (i := 5) sc.nd rfl (Or.inl rfl) (de_call G__law_shortest hr rfl T.m__law_shortest T.F__law_shortest.kp T.b__law_shortest (da_cons (de_lc rfl sc.nd (di_rng2 rfl T.z_range (da_cons (de_var 2) (da_cons (de_op opr_add opl_add (de_var 2) (de_ix ix_seq opl_ix (fun _ _ => rfl) (de_var 0) de_int)) da_nil))) (blkOk_by (N := K22.n__law_integers_of) (sc := defScope s__law_integers_of) (by decide +kernel)) (fun _ _ _ _ _ => pg_name (i := 8) sc.nd rfl (Or.inl rfl)) (fun _ _ _ _ _ => dts_nil) (fun _ _ _ _ _ => (de_cmp op_in_seq opl_in rfl (de_un un_neg unl_neg (de_var 8)) (de_var 1)))) da_nil)))
      (dss_cons (ds_for (passes_of rfl) rfl (di_rng1 rfl T.z_range (da_cons (de_op opr_add opl_add (de_ix ix_seq opl_ix (fun _ _ => rfl) (de_var 0) de_int) de_int) da_nil)) (dg_name (i := 6) sc.nd rfl (Or.inl rfl)) (dss_cons (ds_if (dt_cmp (opr_ne hr.units) opl_ne (nomark _) (de_cmp op_in_seq opl_in rfl (de_op op_sub opl_sub (de_var 2) de_int) (de_var 1)) (de_ix ix_seq opl_ix (fun _ _ => rfl) (de_var 4) (de_un un_neg unl_neg de_int))) (dss_one ds_break) dss_nil)
      (dss_cons (ds_set (i := 2) sc.nd rfl (Or.inl rfl) (de_op op_sub opl_sub (de_var 2) de_int))
      (dss_one (ds_set (i := 4) sc.nd rfl (Or.inl rfl) (de_op opr_add opl_add (de_slice (de_var 4) (do_some (de_un un_neg unl_neg de_int)) do_none) (de_slice (de_var 4) do_none (do_some (de_un un_neg unl_neg de_int)))))))))
      (dss_cons (ds_for (passes_of rfl) rfl (di_rng1 rfl T.z_range (da_cons (de_ix ix_seq opl_ix (fun _ _ => rfl) (de_var 0) de_int) da_nil)) (dg_name (i := 6) sc.nd rfl (Or.inl rfl)) (dss_cons (ds_if (dt_cmp (opr_ne hr.units) opl_ne (nomark _) (de_cmp op_in_seq opl_in rfl (de_op opr_add opl_add (de_var 3) de_int) (de_var 1)) (de_ix ix_seq opl_ix (fun _ _ => rfl) (de_var 5) (de_un un_neg unl_neg de_int))) (dss_one ds_break) dss_nil)
      (dss_cons (ds_set (i := 3) sc.nd rfl (Or.inl rfl) (de_op opr_add opl_add (de_var 3) de_int))
      (dss_one (ds_set (i := 5) sc.nd rfl (Or.inl rfl) (de_op opr_add opl_add (de_slice (de_var 5) (do_some (de_un un_neg unl_neg de_int)) do_none) (de_slice (de_var 5) do_none (do_some (de_un un_neg unl_neg de_int)))))))))
      (dss_cons (ds_set (i := 7) sc.nd rfl (Or.inl rfl) (de_callTy call_tupF cl_tup rfl T.z_tuple boot'_tuple (da_cons (de_lc rfl sc.nd (di_rng2 rfl T.z_range (da_cons (de_op opr_add opl_add (de_var 3) de_int) (da_cons (de_var 2) da_nil))) (blkOk_by (N := K22.n__law_integers_of) (sc := defScope s__law_integers_of) (by decide +kernel)) (fun _ _ _ _ _ => pg_name (i := 8) sc.nd rfl (Or.inl rfl)) (fun _ _ _ _ _ => dts_one (dt_cmp op_in_seq opl_in rfl (de_var 8) (de_var 1))) (fun _ _ _ _ _ => (de_var 8))) da_nil)))
      (dss_one (ds_ret (de_tup (da_cons de_str (da_cons (de_tup (da_cons (de_var 3) (da_cons (de_callTy call_tupF cl_tup rfl T.z_tuple boot'_tuple (da_cons (de_var 5) da_nil)) da_nil))) (da_cons (de_var 7) (da_cons (de_tup (da_cons (de_var 2) (da_cons (de_callTy call_tupF cl_tup rfl T.z_tuple boot'_tuple (da_cons (de_var 4) da_nil)) da_nil))) da_nil))))))))))))))
theorem ok__law_part {k : Nat} {sp sp__law_draw : Sp'} (T : Tx K mg) (G__law_draw : FnD P w K mg base k T.f__law_draw T.d__law_draw p__law_draw sp__law_draw) (len : ∀ ds h Q E, sp ds h Q E → ds.length = 2)
    (rd : ∀ ds h Q E', sp ds h Q E' → K22.t__law_part sp__law_draw (ends Q) (slots K22.n__law_part ds) h) : FnD P w K mg base (k + 1) T.f__law_part T.d__law_part p__law_part sp := by
  refine fnD T.F__law_part sc__law_part len fun cdv A outer s H E hr E' => ⟨K22.t__law_part sp__law_draw, ?_, fun ds h Q q => rd ds h Q E' q⟩
  have sc := sc__law_part
  exact (dss_one (ds_ret (de_callTy call_tupF cl_tup rfl T.z_tuple boot'_tuple (da_cons (de_lc rfl sc.nd (di_rng1 rfl T.z_range (da_cons (de_var 1) da_nil)) (blkOk_by (N := K22.n__law_part) (sc := defScope s__law_part) (by decide +kernel)) (fun _ _ _ _ _ => pg_name (i := 2) sc.nd rfl (Or.inl rfl)) (fun _ _ _ _ _ => dts_one (dt_cmp (opr_eq hr.units) opl_eq (nomark _) (de_call G__law_draw hr rfl T.m__law_draw T.F__law_draw.kp T.b__law_draw (da_cons (de_var 0) (da_cons de_int da_nil))) de_int)) (fun _ _ _ _ _ => (de_var 2))) da_nil))))
theorem ok__law_machine {k : Nat} {sp sp__law_draw sp__law_part sp__law_condition sp__law_conditions : Sp'} (T : Tx K mg) (G__law_draw : FnD P w K mg base k T.f__law_draw T.d__law_draw p__law_draw sp__law_draw) (G__law_part : FnD P w K mg base k T.f__law_part T.d__law_part p__law_part sp__law_part) (G__law_condition : FnD P w K mg base k T.f__law_condition T.d__law_condition p__law_condition sp__law_condition) (G__law_conditions : FnD P w K mg base k T.f__law_conditions T.d__law_conditions p__law_conditions sp__law_conditions) (len : ∀ ds h Q E, sp ds h Q E → ds.length = 6)
    (rd : ∀ ds h Q E', sp ds h Q E' → K22.t__law_machine sp__law_draw sp__law_part sp__law_condition sp__law_conditions (ends Q) (slots K22.n__law_machine ds) h) : FnD P w K mg base (k + 1) T.f__law_machine T.d__law_machine p__law_machine sp := by
  refine fnD T.F__law_machine sc__law_machine len fun cdv A outer s H E hr E' => ⟨K22.t__law_machine sp__law_draw sp__law_part sp__law_condition sp__law_conditions, ?_, fun ds h Q q => rd ds h Q E' q⟩
  have sc := sc__law_machine
  exact (dss_cons (ds_set (i := 6) sc.nd rfl (Or.inl rfl) (de_op opr_add opl_add de_int (de_call G__law_draw hr rfl T.m__law_draw T.F__law_draw.kp T.b__law_draw (da_cons (de_var 0) (da_cons (de_var 3) da_nil)))))
      (dss_cons (ds_set (i := 7) sc.nd rfl (Or.inl rfl) (de_tup (da_cons (de_call G__law_draw hr rfl T.m__law_draw T.F__law_draw.kp T.b__law_draw (da_cons (de_var 0) (da_cons (de_var 6) da_nil))) da_nil)))
      (dss_cons (ds_mid (ds_if (dt_cmp (opr_eq hr.units) opl_eq (nomark _) (de_call G__law_draw hr rfl T.m__law_draw T.F__law_draw.kp T.b__law_draw (da_cons (de_var 0) (da_cons de_int da_nil))) de_int) (dss_one (ds_set (i := 7) sc.nd rfl (Or.inl rfl) (de_call G__law_part hr rfl T.m__law_part T.F__law_part.kp T.b__law_part (da_cons (de_var 0) (da_cons (de_var 6) da_nil))))) dss_nil))
      (dss_cons (ds_set (i := 8) sc.nd rfl (Or.inl rfl) (de_call G__law_part hr rfl T.m__law_part T.F__law_part.kp T.b__law_part (da_cons (de_var 0) (da_cons (de_var 6) da_nil))))
      (dss_cons (ds_mid (ds_if (dt_cmp (opr_eq hr.units) opl_eq (nomark _) (de_call G__law_draw hr rfl T.m__law_draw T.F__law_draw.kp T.b__law_draw (da_cons (de_var 0) (da_cons de_int da_nil))) de_int) (dss_one (ds_set (i := 8) sc.nd rfl (Or.inl rfl) (de_tup (da_cons (de_call G__law_draw hr rfl T.m__law_draw T.F__law_draw.kp T.b__law_draw (da_cons (de_var 0) (da_cons (de_var 6) da_nil))) da_nil)))) dss_nil))
      (dss_cons (ds_set (i := 9) sc.nd rfl (Or.inl rfl) (de_own da_nil))
      (dss_cons (ds_for (passes_of rfl) rfl (di_rng1 rfl T.z_range (da_cons (de_op op_sub opl_sub (de_var 4) (de_callB (call_min2 rfl) cl_min rfl T.z_min boot'_min (da_cons (de_call G__law_draw hr rfl T.m__law_draw T.F__law_draw.kp T.b__law_draw (da_cons (de_var 0) (da_cons (de_op opr_add opl_add (de_var 4) de_int) da_nil))) (da_cons (de_call G__law_draw hr rfl T.m__law_draw T.F__law_draw.kp T.b__law_draw (da_cons (de_var 0) (da_cons (de_op opr_add opl_add (de_var 4) de_int) da_nil))) da_nil)))) da_nil)) (dg_name (i := 10) sc.nd rfl (Or.inl rfl)) (dss_cons (ds_set (i := 11) sc.nd rfl (Or.inl rfl) (de_call G__law_condition hr rfl T.m__law_condition T.F__law_condition.kp T.b__law_condition (da_cons (de_var 0) (da_cons (de_var 1) (da_cons (de_var 2) (da_cons (de_op opr_add opl_add de_int (de_call G__law_draw hr rfl T.m__law_draw T.F__law_draw.kp T.b__law_draw (da_cons (de_var 0) (da_cons (de_var 5) da_nil)))) da_nil))))))
      (dss_cons (ds_set (i := 12) sc.nd rfl (Or.inl rfl) (de_call G__law_draw hr rfl T.m__law_draw T.F__law_draw.kp T.b__law_draw (da_cons (de_var 0) (da_cons de_int da_nil))))
      (dss_cons (ds_mid (ds_if (dw_pt (dw_and (dt_tru (de_var 9)) (dw_and1 (dt_cmp op_lt opl_lt (nomark _) (de_var 12) de_int)))) (dss_cons (ds_set (i := 11) sc.nd rfl (Or.inl rfl) (de_ix ix_seq opl_ix (fun _ _ => rfl) (de_ix ix_seq opl_ix (fun _ _ => rfl) (de_var 9) (de_call G__law_draw hr rfl T.m__law_draw T.F__law_draw.kp T.b__law_draw (da_cons (de_var 0) (da_cons (de_callB cr_len cl_len rfl T.z_len boot'_len (da_cons (de_var 9) da_nil)) da_nil)))) de_int))
      (dss_one (ds_mid (ds_if (dw_pt (dw_and (dt_cmp (opr_eq hr.units) opl_eq (nomark _) (de_var 12) de_int) (dw_and1 (dt_cmp op_lt opl_lt (nomark _) (de_call G__law_conditions hr rfl T.m__law_conditions T.F__law_conditions.kp T.b__law_conditions (da_cons (de_var 11) da_nil)) (de_var 5))))) (dss_one (ds_set (i := 11) sc.nd rfl (Or.inl rfl) (de_tup (da_cons de_str (da_cons (de_var 11) da_nil))))) dss_nil)))) dss_nil))
      (dss_cons (ds_set (i := 13) sc.nd rfl (Or.inl rfl) (de_call G__law_draw hr rfl T.m__law_draw T.F__law_draw.kp T.b__law_draw (da_cons (de_var 0) (da_cons (de_var 6) da_nil))))
      (dss_one (ds_expr (de_append (de_var 9) (da_cons (de_tup (da_cons (de_var 13) (da_cons (de_var 11) (da_cons (de_call G__law_draw hr rfl T.m__law_draw T.F__law_draw.kp T.b__law_draw (da_cons (de_var 0) (da_cons (de_var 6) da_nil))) da_nil)))) da_nil)))))))))
      (dss_one (ds_ret (de_tup (da_cons (de_var 1) (da_cons (de_var 6) (da_cons (de_var 7) (da_cons (de_var 8) (da_cons (de_callTy call_tupF cl_tup rfl T.z_tuple boot'_tuple (da_cons (de_var 9) da_nil)) da_nil)))))))))))))))
theorem ok__law_has_end {k : Nat} {sp  : Sp'} (T : Tx K mg)  (len : ∀ ds h Q E, sp ds h Q E → ds.length = 2)
    (rd : ∀ ds h Q E', sp ds h Q E' → K22.t__law_has_end  (ends Q) (slots K22.n__law_has_end ds) h) : FnD P w K mg base (k + 1) T.f__law_has_end T.d__law_has_end p__law_has_end sp := by
  refine fnD T.F__law_has_end sc__law_has_end len fun cdv A outer s H E hr E' => ⟨K22.t__law_has_end , ?_, fun ds h Q q => rd ds h Q E' q⟩
  have sc := sc__law_has_end
  exact (dss_one (ds_ret (de_cmp op_gt opl_gt (nomark _) (de_callB cr_len cl_len rfl T.z_len boot'_len (da_cons (de_lc rfl sc.nd (di_seq (de_var 1)) (blkOk_by (N := K22.n__law_has_end) (sc := defScope s__law_has_end) (by decide +kernel)) (fun _ _ _ _ _ => pg_name (i := 2) sc.nd rfl (Or.inl rfl)) (fun _ _ _ _ _ => dts_one (dt_cmp op_in_seq opl_in rfl (de_var 2) (de_ix ix_seq opl_ix (fun _ _ => rfl) (de_var 0) de_int))) (fun _ _ _ _ _ => (de_var 2))) da_nil)) de_int)))
theorem ok__law_behind {k : Nat} {sp sp__law_meets : Sp'} (T : Tx K mg) (G__law_meets : FnD P w K mg base k T.f__law_meets T.d__law_meets p__law_meets sp__law_meets) (len : ∀ ds h Q E, sp ds h Q E → ds.length = 3)
    (rd : ∀ ds h Q E', sp ds h Q E' → K22.t__law_behind sp__law_meets (ends Q) (slots K22.n__law_behind ds) h) : FnD P w K mg base (k + 1) T.f__law_behind T.d__law_behind p__law_behind sp := by
  refine fnD T.F__law_behind sc__law_behind len fun cdv A outer s H E hr E' => ⟨K22.t__law_behind sp__law_meets, ?_, fun ds h Q q => rd ds h Q E' q⟩
  have sc := sc__law_behind
  exact (dss_cons (ds_set (i := 3) sc.nd rfl (Or.inr rfl) (de_lc rfl sc.nd (di_seq (de_ix ix_seq opl_ix (fun _ _ => rfl) (de_var 0) de_int)) (blkOk_by (N := K22.n__law_behind) (sc := defScope s__law_behind) (by decide +kernel)) (fun _ _ _ _ _ => pg_name (i := 4) sc.nd rfl (Or.inl rfl)) (fun _ _ _ _ _ => dts_one (dw_pt (dw_and (dt_cmp op_in_seq opl_in rfl (de_ix ix_seq opl_ix (fun _ _ => rfl) (de_var 4) de_int) (de_var 1)) (dw_and1 (dt_val (de_call G__law_meets hr rfl T.m__law_meets T.F__law_meets.kp T.b__law_meets (da_cons (de_ix ix_seq opl_ix (fun _ _ => rfl) (de_var 4) de_int) (da_cons (de_var 2) da_nil)))))))) (fun _ _ _ _ _ => (de_ix ix_seq opl_ix (fun _ _ => rfl) (de_var 4) de_int))))
      (dss_one (ds_ret (de_callTy call_tupF cl_tup rfl T.z_tuple boot'_tuple (da_cons (de_lc rfl sc.nd (di_rng1 rfl T.z_range (da_cons (de_ix ix_seq opl_ix (fun _ _ => rfl) (de_var 0) de_int) da_nil)) (blkOk_by (N := K22.n__law_behind) (sc := defScope s__law_behind) (by decide +kernel)) (fun _ _ _ _ _ => pg_name (i := 5) sc.nd rfl (Or.inl rfl)) (fun _ _ _ _ _ => dts_one (dt_cmp op_in_seq opl_in rfl (de_var 5) (de_var 3))) (fun _ _ _ _ _ => (de_var 5))) da_nil)))))
theorem ok__law_led {k : Nat} {sp sp__law_behind : Sp'} (T : Tx K mg) (G__law_behind : FnD P w K mg base k T.f__law_behind T.d__law_behind p__law_behind sp__law_behind) (len : ∀ ds h Q E, sp ds h Q E → ds.length = 3)
    (rd : ∀ ds h Q E', sp ds h Q E' → K22.t__law_led sp__law_behind (ends Q) (slots K22.n__law_led ds) h) : FnD P w K mg base (k + 1) T.f__law_led T.d__law_led p__law_led sp := by
  refine fnD T.F__law_led sc__law_led len fun cdv A outer s H E hr E' => ⟨K22.t__law_led sp__law_behind, ?_, fun ds h Q q => rd ds h Q E' q⟩
  have sc := sc__law_led
  exact (dss_cons (ds_for (passes_of rfl) rfl (di_seq (de_var 2)) (dg_name (i := 3) sc.nd rfl (Or.inl rfl)) (dss_one (ds_set (i := 1) sc.nd rfl (Or.inl rfl) (de_call G__law_behind hr rfl T.m__law_behind T.F__law_behind.kp T.b__law_behind (da_cons (de_var 0) (da_cons (de_var 1) (da_cons (de_var 3) da_nil)))))))
      (dss_one (ds_ret (de_var 1))))
theorem ok__law_same {k : Nat} {sp sp__law_same sp__law_whole : Sp'} (T : Tx K mg) (G__law_same : FnD P w K mg base k T.f__law_same T.d__law_same p__law_same sp__law_same) (G__law_whole : FnD P w K mg base k T.f__law_whole T.d__law_whole p__law_whole sp__law_whole) (len : ∀ ds h Q E, sp ds h Q E → ds.length = 2)
    (rd : ∀ ds h Q E', sp ds h Q E' → K03.t__law_same sp__law_same sp__law_whole (ends Q) (slots K03.n__law_same ds) h) : FnD P w K mg base (k + 1) T.f__law_same T.d__law_same p__law_same sp := by
  refine fnD T.F__law_same sc__law_same len fun cdv A outer s H E hr E' => ⟨K03.t__law_same sp__law_same sp__law_whole, ?_, fun ds h Q q => rd ds h Q E' q⟩
  have sc := sc__law_same
  exact (dss_cons (ds_if (dt_cmp op_isN opl_isN (nomark _) (de_var 1) de_non) (dss_one (ds_ret (de_cmp op_isN opl_isN (nomark _) (de_var 0) de_non))) dss_nil)
      (dss_cons (ds_if (dt_val (de_callB call_isi cl_is rfl T.z_isinstance boot'_isinstance (da_cons (de_var 1) (da_cons (de_blt rfl T.z_tuple boot'_tuple) da_nil)))) (dss_cons (ds_if (dw_pt (dw_or (dt_not (dt_val (de_callB call_isi cl_is rfl T.z_isinstance boot'_isinstance (da_cons (de_var 0) (da_cons (de_blt rfl T.z_tuple boot'_tuple) da_nil))))) (dw_or1 (dt_cmp (opr_ne hr.units) opl_ne (nomark _) (de_callB cr_len cl_len rfl T.z_len boot'_len (da_cons (de_var 0) da_nil)) (de_callB cr_len cl_len rfl T.z_len boot'_len (da_cons (de_var 1) da_nil)))))) (dss_one (ds_ret de_bl)) dss_nil)
      (dss_cons (ds_for (passes_of rfl) rfl (di_rng1 rfl T.z_range (da_cons (de_callB cr_len cl_len rfl T.z_len boot'_len (da_cons (de_var 1) da_nil)) da_nil)) (dg_name (i := 2) sc.nd rfl (Or.inl rfl)) (dss_one (ds_if (dt_not (dt_val (de_call G__law_same hr rfl T.m__law_same T.F__law_same.kp T.b__law_same (da_cons (de_ix ix_seq opl_ix (fun _ _ => rfl) (de_var 0) (de_var 2)) (da_cons (de_ix ix_seq opl_ix (fun _ _ => rfl) (de_var 1) (de_var 2)) da_nil))))) (dss_one (ds_ret de_bl)) dss_nil)))
      (dss_one (ds_ret de_bl)))) dss_nil)
      (dss_cons (ds_if (dt_val (de_callB call_isi cl_is rfl T.z_isinstance boot'_isinstance (da_cons (de_var 1) (da_cons (de_blt rfl T.z_bool boot'_bool) da_nil)))) (dss_one (ds_ret (de_and (de_callB call_isi cl_is rfl T.z_isinstance boot'_isinstance (da_cons (de_var 0) (da_cons (de_blt rfl T.z_bool boot'_bool) da_nil))) (de_one (de_cmp (opr_eq hr.units) opl_eq (nomark _) (de_var 0) (de_var 1)))))) dss_nil)
      (dss_cons (ds_if (dt_val (de_callB call_isi cl_is rfl T.z_isinstance boot'_isinstance (da_cons (de_var 1) (da_cons (de_blt rfl T.z_str boot'_str) da_nil)))) (dss_one (ds_ret (de_and (de_callB call_isi cl_is rfl T.z_isinstance boot'_isinstance (da_cons (de_var 0) (da_cons (de_blt rfl T.z_str boot'_str) da_nil))) (de_one (de_cmp (opr_eq hr.units) opl_eq (nomark _) (de_var 0) (de_var 1)))))) dss_nil)
      (dss_one (ds_ret (de_and (de_call G__law_whole hr rfl T.m__law_whole T.F__law_whole.kp T.b__law_whole (da_cons (de_var 0) da_nil)) (de_one (de_cmp (opr_eq hr.units) opl_eq (nomark _) (de_var 0) (de_var 1))))))))))
theorem ok__law_near {k : Nat} {sp sp__law_draw sp__law_near sp__law_letter : Sp'} (T : Tx K mg) (G__law_draw : FnD P w K mg base k T.f__law_draw T.d__law_draw p__law_draw sp__law_draw) (G__law_near : FnD P w K mg base k T.f__law_near T.d__law_near p__law_near sp__law_near) (G__law_letter : FnD P w K mg base k T.f__law_letter T.d__law_letter p__law_letter sp__law_letter) (len : ∀ ds h Q E, sp ds h Q E → ds.length = 3)
    (rd : ∀ ds h Q E', sp ds h Q E' → K01.t__law_near sp__law_draw sp__law_near sp__law_letter (ends Q) (slots K01.n__law_near ds) h) : FnD P w K mg base (k + 1) T.f__law_near T.d__law_near p__law_near sp := by
  refine fnD T.F__law_near sc__law_near len fun cdv A outer s H E hr E' => ⟨K01.t__law_near sp__law_draw sp__law_near sp__law_letter, ?_, fun ds h Q q => rd ds h Q E' q⟩
  have sc := sc__law_near
  exact (dss_cons (ds_if (dt_cmp (opr_eq hr.units) opl_eq (nomark _) (de_ix ix_seq opl_ix (fun _ _ => rfl) (de_var 1) de_int) de_str) (dss_one (ds_ret (de_ix ix_seq opl_ix (fun _ _ => rfl) (de_ix ix_seq opl_ix (fun _ _ => rfl) (de_var 1) de_int) (de_call G__law_draw hr rfl T.m__law_draw T.F__law_draw.kp T.b__law_draw (da_cons (de_var 0) (da_cons (de_callB cr_len cl_len rfl T.z_len boot'_len (da_cons (de_ix ix_seq opl_ix (fun _ _ => rfl) (de_var 1) de_int) da_nil)) da_nil)))))) dss_nil)
      (dss_cons (ds_if (dt_cmp (opr_eq hr.units) opl_eq (nomark _) (de_ix ix_seq opl_ix (fun _ _ => rfl) (de_var 1) de_int) de_str) (dss_one (ds_ret (de_ix ix_seq opl_ix (fun _ _ => rfl) (de_lis (da_cons (de_op opr_add opl_add (de_var 2) de_int) (da_cons (de_op op_sub opl_sub (de_var 2) de_int) (da_cons (de_un un_neg unl_neg (de_var 2)) (da_cons (de_op opr_add opl_add (de_var 2) de_int) (da_cons de_int da_nil)))))) (de_call G__law_draw hr rfl T.m__law_draw T.F__law_draw.kp T.b__law_draw (da_cons (de_var 0) (da_cons de_int da_nil)))))) dss_nil)
      (dss_cons (ds_if (dt_cmp (opr_eq hr.units) opl_eq (nomark _) (de_ix ix_seq opl_ix (fun _ _ => rfl) (de_var 1) de_int) de_str) (dss_cons (ds_set (i := 3) sc.nd rfl (Or.inl rfl) (de_op opr_add opl_add de_int (de_call G__law_draw hr rfl T.m__law_draw T.F__law_draw.kp T.b__law_draw (da_cons (de_var 0) (da_cons de_int da_nil)))))
      (dss_one (ds_ret (de_op opr_add opl_add (de_op opr_add opl_add (de_slice (de_var 2) do_none (do_some (de_var 3))) (de_tup (da_cons (de_call G__law_near hr rfl T.m__law_near T.F__law_near.kp T.b__law_near (da_cons (de_var 0) (da_cons (de_ix ix_seq opl_ix (fun _ _ => rfl) (de_var 1) (de_var 3)) (da_cons (de_ix ix_seq opl_ix (fun _ _ => rfl) (de_var 2) (de_var 3)) da_nil)))) da_nil))) (de_slice (de_var 2) (do_some (de_op opr_add opl_add (de_var 3) de_int)) do_none))))) dss_nil)
      (dss_cons (ds_if (dt_cmp (opr_eq hr.units) opl_eq (nomark _) (de_ix ix_seq opl_ix (fun _ _ => rfl) (de_var 1) de_int) de_str) (dss_cons (ds_set (i := 4) sc.nd rfl (Or.inl rfl) (de_call G__law_draw hr rfl T.m__law_draw T.F__law_draw.kp T.b__law_draw (da_cons (de_var 0) (da_cons (de_callB cr_len cl_len rfl T.z_len boot'_len (da_cons (de_ix ix_seq opl_ix (fun _ _ => rfl) (de_var 1) de_int) da_nil)) da_nil))))
      (dss_cons (ds_if (dt_cmp (opr_eq hr.units) opl_eq (nomark _) (de_var 4) (de_ix ix_seq opl_ix (fun _ _ => rfl) (de_var 2) de_int)) (dss_one (ds_ret (de_tup (da_cons de_str (da_cons (de_var 4) (da_cons (de_call G__law_near hr rfl T.m__law_near T.F__law_near.kp T.b__law_near (da_cons (de_var 0) (da_cons (de_ix ix_seq opl_ix (fun _ _ => rfl) (de_ix ix_seq opl_ix (fun _ _ => rfl) (de_var 1) de_int) (de_var 4)) (da_cons (de_ix ix_seq opl_ix (fun _ _ => rfl) (de_var 2) de_int) da_nil)))) da_nil)))))) dss_nil)
      (dss_one (ds_ret (de_tup (da_cons de_str (da_cons (de_var 4) (da_cons (de_call G__law_letter hr rfl T.m__law_letter T.F__law_letter.kp T.b__law_letter (da_cons (de_var 0) (da_cons (de_ix ix_seq opl_ix (fun _ _ => rfl) (de_ix ix_seq opl_ix (fun _ _ => rfl) (de_var 1) de_int) (de_var 4)) (da_cons (de_tup (da_cons de_int (da_cons de_int da_nil))) da_nil)))) da_nil)))))))) dss_nil)
      (dss_cons (ds_if (dt_cmp (opr_eq hr.units) opl_eq (nomark _) (de_ix ix_seq opl_ix (fun _ _ => rfl) (de_var 2) de_int) de_str) (dss_one (ds_ret (de_tup (da_cons de_str (da_cons (de_call G__law_letter hr rfl T.m__law_letter T.F__law_letter.kp T.b__law_letter (da_cons (de_var 0) (da_cons (de_ix ix_seq opl_ix (fun _ _ => rfl) (de_var 1) de_int) (da_cons (de_tup (da_cons de_int (da_cons de_int da_nil))) da_nil)))) da_nil))))) dss_nil)
      (dss_cons (ds_if (dt_cmp (opr_eq hr.units) opl_eq (nomark _) (de_call G__law_draw hr rfl T.m__law_draw T.F__law_draw.kp T.b__law_draw (da_cons (de_var 0) (da_cons de_int da_nil))) de_int) (dss_one (ds_ret (de_tup (da_cons de_str da_nil)))) dss_nil)
      (dss_one (ds_ret (de_tup (da_cons de_str (da_cons (de_call G__law_near hr rfl T.m__law_near T.F__law_near.kp T.b__law_near (da_cons (de_var 0) (da_cons (de_ix ix_seq opl_ix (fun _ _ => rfl) (de_var 1) de_int) (da_cons (de_ix ix_seq opl_ix (fun _ _ => rfl) (de_var 2) de_int) da_nil)))) da_nil)))))))))))
end
end WK22

set_option Elab.async false
set_option linter.all false
set_option maxRecDepth 100000
set_option maxHeartbeats 8000000
namespace WK22
open PySem PySem.Spec PyProof.Rows L2 DL
section
variable {P : Program} {w : World} {K : PySem.W.Frag} {mg : Str → Option Value} {base : Heap}
theorem ok__law_varied {k : Nat} {sp sp__law_draw sp__law_varied sp__law_condition : Sp'} (T : Tx K mg) (G__law_draw : FnD P w K mg base k T.f__law_draw T.d__law_draw p__law_draw sp__law_draw) (G__law_varied : FnD P w K mg base k T.f__law_varied T.d__law_varied p__law_varied sp__law_varied) (G__law_condition : FnD P w K mg base k T.f__law_condition T.d__law_condition p__law_condition sp__law_condition) (len : ∀ ds h Q E, sp ds h Q E → ds.length = 4)
    (rd : ∀ ds h Q E', sp ds h Q E' → K04.t__law_varied sp__law_draw sp__law_varied sp__law_condition (ends Q) (slots K04.n__law_varied ds) h) : FnD P w K mg base (k + 1) T.f__law_varied T.d__law_varied p__law_varied sp := by
  refine fnD T.F__law_varied sc__law_varied len fun cdv A outer s H E hr E' => ⟨K04.t__law_varied sp__law_draw sp__law_varied sp__law_condition, ?_, fun ds h Q q => rd ds h Q E' q⟩
  have sc := sc__law_varied
  exact (dss_cons (ds_set (i := 4) sc.nd rfl (Or.inl rfl) (de_call G__law_draw hr rfl T.m__law_draw T.F__law_draw.kp T.b__law_draw (da_cons (de_var 0) (da_cons de_int da_nil))))
      (dss_cons (ds_set (i := 5) sc.nd rfl (Or.inl rfl) (de_ix ix_seq opl_ix (fun _ _ => rfl) (de_var 2) de_int))
      (dss_cons (ds_if (dw_pt (dw_and (dt_cmp op_gt opl_gt (nomark _) (de_var 4) de_int) (dw_and1 (dt_cmp op_in_seq opl_in rfl (de_var 5) (de_lis (da_cons de_str (da_cons de_str da_nil))))))) (dss_cons (ds_set (i := 6) sc.nd rfl (Or.inl rfl) (de_op opr_add opl_add de_int (de_call G__law_draw hr rfl T.m__law_draw T.F__law_draw.kp T.b__law_draw (da_cons (de_var 0) (da_cons de_int da_nil)))))
      (dss_one (ds_ret (de_op opr_add opl_add (de_op opr_add opl_add (de_slice (de_var 2) do_none (do_some (de_var 6))) (de_tup (da_cons (de_call G__law_varied hr rfl T.m__law_varied T.F__law_varied.kp T.b__law_varied (da_cons (de_var 0) (da_cons (de_var 1) (da_cons (de_ix ix_seq opl_ix (fun _ _ => rfl) (de_var 2) (de_var 6)) (da_cons (de_var 3) da_nil))))) da_nil))) (de_slice (de_var 2) (do_some (de_op opr_add opl_add (de_var 6) de_int)) do_none))))) dss_nil)
      (dss_cons (ds_if (dw_pt (dw_and (dt_cmp op_gt opl_gt (nomark _) (de_var 4) de_int) (dw_and1 (dt_cmp (opr_eq hr.units) opl_eq (nomark _) (de_var 5) de_str)))) (dss_one (ds_ret (de_tup (da_cons (de_var 5) (da_cons (de_call G__law_varied hr rfl T.m__law_varied T.F__law_varied.kp T.b__law_varied (da_cons (de_var 0) (da_cons (de_var 1) (da_cons (de_ix ix_seq opl_ix (fun _ _ => rfl) (de_var 2) de_int) (da_cons (de_var 3) da_nil))))) da_nil))))) dss_nil)
      (dss_cons (ds_if (dw_pt (dw_and (dt_cmp op_gt opl_gt (nomark _) (de_var 4) de_int) (dw_and1 (dt_cmp op_in_seq opl_in rfl (de_var 5) (de_lis (da_cons de_str (da_cons de_str (da_cons de_str da_nil)))))))) (dss_one (ds_ret (de_tup (da_cons (de_var 5) (da_cons (de_call G__law_varied hr rfl T.m__law_varied T.F__law_varied.kp T.b__law_varied (da_cons (de_var 0) (da_cons (de_ix ix_seq opl_ix (fun _ _ => rfl) (de_var 1) (de_op opr_add opl_add de_int (de_callTy call_int1 cl_int rfl T.z_int boot'_int (da_cons (de_cmp (opr_eq hr.units) opl_eq (nomark _) (de_var 5) de_str) da_nil)))) (da_cons (de_ix ix_seq opl_ix (fun _ _ => rfl) (de_var 2) de_int) (da_cons (de_var 3) da_nil))))) da_nil))))) dss_nil)
      (dss_cons (ds_if (dw_pt (dw_and (dt_cmp op_gt opl_gt (nomark _) (de_var 4) de_int) (dw_and1 (dt_cmp (opr_eq hr.units) opl_eq (nomark _) (de_var 5) de_str)))) (dss_one (ds_ret (de_tup (da_cons (de_var 5) (da_cons (de_ix ix_seq opl_ix (fun _ _ => rfl) (de_var 2) de_int) (da_cons (de_call G__law_varied hr rfl T.m__law_varied T.F__law_varied.kp T.b__law_varied (da_cons (de_var 0) (da_cons (de_ix ix_seq opl_ix (fun _ _ => rfl) (de_ix ix_seq opl_ix (fun _ _ => rfl) (de_var 1) de_int) (de_ix ix_seq opl_ix (fun _ _ => rfl) (de_var 2) de_int)) (da_cons (de_ix ix_seq opl_ix (fun _ _ => rfl) (de_var 2) de_int) (da_cons (de_var 3) da_nil))))) da_nil)))))) dss_nil)
      (dss_cons (ds_mid (ds_if (dw_pt (dw_and (dt_cmp op_gt opl_gt (nomark _) (de_var 4) de_int) (dw_and1 (dt_cmp op_in_seq opl_in rfl (de_var 5) (de_lis (da_cons de_str (da_cons de_str (da_cons de_str da_nil)))))))) (dss_cons (ds_set (i := 7) sc.nd rfl (Or.inl rfl) (de_op op_sub opl_sub (de_op opr_add opl_add (de_ix ix_seq opl_ix (fun _ _ => rfl) (de_var 2) de_int) de_int) (de_op op_mul opl_mul de_int (de_call G__law_draw hr rfl T.m__law_draw T.F__law_draw.kp T.b__law_draw (da_cons (de_var 0) (da_cons de_int da_nil))))))
      (dss_one (ds_if (dt_cmp op_le opl_le (nomark _) (de_callB call_abs cl_abs rfl T.z_abs boot'_abs (da_cons (de_var 7) da_nil)) (de_ix ix_seq opl_ix (fun _ _ => rfl) (de_var 3) de_int)) (dss_one (ds_ret (de_tup (da_cons (de_var 5) (da_cons (de_var 7) da_nil))))) dss_nil))) dss_nil))
      (dss_one (ds_ret (de_call G__law_condition hr rfl T.m__law_condition T.F__law_condition.kp T.b__law_condition (da_cons (de_var 0) (da_cons (de_var 1) (da_cons (de_var 3) (da_cons de_int da_nil))))))))))))))
theorem ok__law_integer_groups {k : Nat} {sp sp__law_draw sp__law_integers_of : Sp'} (T : Tx K mg) (G__law_draw : FnD P w K mg base k T.f__law_draw T.d__law_draw p__law_draw sp__law_draw) (G__law_integers_of : FnD P w K mg base k T.f__law_integers_of T.d__law_integers_of p__law_integers_of sp__law_integers_of) (len : ∀ ds h Q E, sp ds h Q E → ds.length = 3)
    (rd : ∀ ds h Q E', sp ds h Q E' → K22.t__law_integer_groups sp__law_draw sp__law_integers_of (ends Q) (slots K22.n__law_integer_groups ds) h) : FnD P w K mg base (k + 1) T.f__law_integer_groups T.d__law_integer_groups p__law_integer_groups sp := by
  refine fnD T.F__law_integer_groups sc__law_integer_groups len fun cdv A outer s H E hr E' => ⟨K22.t__law_integer_groups sp__law_draw sp__law_integers_of, ?_, fun ds h Q q => rd ds h Q E' q⟩
  have sc := sc__law_integer_groups
  exact (dss_cons (ds_set (i := 3) sc.nd rfl (Or.inl rfl) (de_tup (da_cons (de_callB (call_min2 rfl) cl_min rfl T.z_min boot'_min (da_cons (de_ix ix_seq opl_ix (fun _ _ => rfl) (de_var 1) de_int) (da_cons de_int da_nil))) (da_cons (de_ix ix_seq opl_ix (fun _ _ => rfl) (de_var 1) de_int) da_nil))))
      (dss_cons (ds_setlc rfl sc.nd rfl rfl (sw_true rfl rfl rfl (by decide +kernel)) (di_seq (de_lis (da_cons de_int (da_cons de_int (da_cons de_int (da_cons de_int (da_cons de_int (da_cons de_int (da_cons de_int da_nil))))))))) (blkOk_by (N := K22.n__law_integer_groups) (sc := defScope s__law_integer_groups) (by decide +kernel)) (fun _ _ _ _ _ => pg_name (i := 16) sc.nd rfl (Or.inl rfl)) (fun _ _ _ _ _ => dts_one (dt_cmp (opr_eq hr.units) opl_eq (nomark _) (de_op op_mod opl_mod (de_callTy call_int1 cl_int rfl T.z_int boot'_int (da_cons (de_ix ix_seq opl_ix (fun _ _ => rfl) (de_var 1) de_int) da_nil)) (de_var 16)) de_int)) (fun _ _ _ _ _ => (de_var 16)))
      (dss_cons (ds_setlc rfl sc.nd rfl rfl (sw_true rfl rfl rfl (by decide +kernel)) (di_rng1 rfl T.z_range (da_cons (de_ix ix_seq opl_ix (fun _ _ => rfl) (de_var 4) (de_call G__law_draw hr rfl T.m__law_draw T.F__law_draw.kp T.b__law_draw (da_cons (de_var 0) (da_cons (de_callB cr_len cl_len rfl T.z_len boot'_len (da_cons (de_var 4) da_nil)) da_nil)))) da_nil)) (blkOk_by (N := K22.n__law_integer_groups) (sc := defScope s__law_integer_groups) (by decide +kernel)) (fun _ _ _ _ _ => pg_name (i := 5) sc.nd rfl (Or.inl rfl)) (fun _ _ _ _ _ => dts_nil) (fun _ _ _ _ _ => (de_call G__law_draw hr rfl T.m__law_draw T.F__law_draw.kp T.b__law_draw (da_cons (de_var 0) (da_cons (de_op opr_add opl_add (de_var 2) de_int) da_nil)))))
      (dss_cons (ds_setlc rfl sc.nd rfl rfl (sw_true rfl rfl rfl (by decide +kernel)) (di_rng1 rfl T.z_range (da_cons (de_ix ix_seq opl_ix (fun _ _ => rfl) (de_var 4) (de_call G__law_draw hr rfl T.m__law_draw T.F__law_draw.kp T.b__law_draw (da_cons (de_var 0) (da_cons (de_callB cr_len cl_len rfl T.z_len boot'_len (da_cons (de_var 4) da_nil)) da_nil)))) da_nil)) (blkOk_by (N := K22.n__law_integer_groups) (sc := defScope s__law_integer_groups) (by decide +kernel)) (fun _ _ _ _ _ => pg_name (i := 5) sc.nd rfl (Or.inl rfl)) (fun _ _ _ _ _ => dts_nil) (fun _ _ _ _ _ => (de_call G__law_draw hr rfl T.m__law_draw T.F__law_draw.kp T.b__law_draw (da_cons (de_var 0) (da_cons (de_op opr_add opl_add (de_var 2) de_int) da_nil)))))
      (dss_cons (ds_set (i := 8) sc.nd rfl (Or.inl rfl) (de_ix ix_seq opl_ix (fun _ _ => rfl) (de_lis (da_cons de_int (da_cons (de_op op_sub opl_sub (de_call G__law_draw hr rfl T.m__law_draw T.F__law_draw.kp T.b__law_draw (da_cons (de_var 0) (da_cons (de_op opr_add opl_add (de_op op_mul opl_mul de_int (de_ix ix_seq opl_ix (fun _ _ => rfl) (de_var 3) de_int)) de_int) da_nil))) (de_ix ix_seq opl_ix (fun _ _ => rfl) (de_var 3) de_int)) da_nil))) (de_call G__law_draw hr rfl T.m__law_draw T.F__law_draw.kp T.b__law_draw (da_cons (de_var 0) (da_cons de_int da_nil)))))
      (dss_cons (ds_set (i := 9) sc.nd rfl (Or.inl rfl) de_dnew)
      (dss_cons (ds_for (passes_of rfl) rfl (di_rng1 rfl T.z_range (da_cons (de_call G__law_draw hr rfl T.m__law_draw T.F__law_draw.kp T.b__law_draw (da_cons (de_var 0) (da_cons de_int da_nil))) da_nil)) (dg_name (i := 5) sc.nd rfl (Or.inl rfl)) (dss_one (ds_dput (Nat.lt_trans (Nat.add_lt_add_left (show 1 < 64 by decide) _) hr.units) (de_var 9) (de_op op_sub opl_sub (de_call G__law_draw hr rfl T.m__law_draw T.F__law_draw.kp T.b__law_draw (da_cons (de_var 0) (da_cons (de_op opr_add opl_add (de_op op_mul opl_mul de_int (de_ix ix_seq opl_ix (fun _ _ => rfl) (de_var 3) de_int)) de_int) da_nil))) (de_ix ix_seq opl_ix (fun _ _ => rfl) (de_var 3) de_int)) (de_call G__law_draw hr rfl T.m__law_draw T.F__law_draw.kp T.b__law_draw (da_cons (de_var 0) (da_cons (de_op opr_add opl_add (de_var 2) de_int) da_nil))))))
      (dss_cons (ds_set (i := 10) sc.nd rfl (Or.inr rfl) (de_op opr_add opl_add (de_ix ix_seq opl_ix (fun _ _ => rfl) (de_var 3) de_int) (de_ix ix_seq opl_ix (fun _ _ => rfl) (de_var 3) de_int)))
      (dss_cons (ds_set (i := 11) sc.nd rfl (Or.inr rfl) (de_own da_nil))
      (dss_cons (ds_for (passes_of rfl) rfl (di_rng2 rfl T.z_range (da_cons (de_un un_neg unl_neg (de_var 10)) (da_cons (de_op opr_add opl_add (de_var 10) de_int) da_nil))) (dg_name (i := 12) sc.nd rfl (Or.inl rfl)) (dss_cons (ds_set (i := 13) sc.nd rfl (Or.inl rfl) (de_ix ix_seq opl_ix (fun _ _ => rfl) (de_lis (da_cons (de_var 7) (da_cons (de_var 6) da_nil))) (de_callTy call_int1 cl_int rfl T.z_int boot'_int (da_cons (de_cmp op_ge opl_ge (nomark _) (de_var 12) (de_var 8)) da_nil))))
      (dss_one (ds_expr (de_append (de_var 11) (da_cons (de_dget (Nat.lt_trans (Nat.add_lt_add_left (show 1 < 64 by decide) _) hr.units) (de_var 9) (de_var 12) (de_ix ix_seq opl_ix (fun _ _ => rfl) (de_var 13) (de_op op_mod opl_mod (de_callTy call_int1 cl_int rfl T.z_int boot'_int (da_cons (de_callB call_abs cl_abs rfl T.z_abs boot'_abs (da_cons (de_op op_sub opl_sub (de_var 12) (de_var 8)) da_nil)) da_nil)) (de_callB cr_len cl_len rfl T.z_len boot'_len (da_cons (de_var 13) da_nil))))) da_nil))))))
      (dss_cons (ds_set (i := 14) sc.nd rfl (Or.inl rfl) (de_own da_nil))
      (dss_cons (ds_for (passes_of rfl) rfl (di_rng1 rfl T.z_range (da_cons (de_var 2) da_nil)) (dg_name (i := 15) sc.nd rfl (Or.inr rfl)) (dss_one (ds_expr (de_append (de_var 14) (da_cons (de_call G__law_integers_of hr rfl T.m__law_integers_of T.F__law_integers_of.kp T.b__law_integers_of (da_cons (de_var 3) (da_cons (de_lc rfl sc.nd (di_rng2 rfl T.z_range (da_cons (de_un un_neg unl_neg (de_var 10)) (da_cons (de_op opr_add opl_add (de_var 10) de_int) da_nil))) (blkOk_by (N := K22.n__law_integer_groups) (sc := defScope s__law_integer_groups) (by decide +kernel)) (fun _ _ _ _ _ => pg_name (i := 12) sc.nd rfl (Or.inl rfl)) (fun _ _ _ _ _ => dts_one (dt_cmp (opr_eq hr.units) opl_eq (nomark _) (de_ix ix_seq opl_ix (fun _ _ => rfl) (de_var 11) (de_op opr_add opl_add (de_var 12) (de_var 10))) (de_var 15))) (fun _ _ _ _ _ => (de_var 12))) da_nil))) da_nil)))))
      (dss_one (ds_ret (de_var 14)))))))))))))))
theorem ok__law_leaf_set {k : Nat} {sp sp__law_draw sp__law_leaf_set sp__law_integer_groups : Sp'} (T : Tx K mg) (G__law_draw : FnD P w K mg base k T.f__law_draw T.d__law_draw p__law_draw sp__law_draw) (G__law_leaf_set : FnD P w K mg base k T.f__law_leaf_set T.d__law_leaf_set p__law_leaf_set sp__law_leaf_set) (G__law_integer_groups : FnD P w K mg base k T.f__law_integer_groups T.d__law_integer_groups p__law_integer_groups sp__law_integer_groups) (len : ∀ ds h Q E, sp ds h Q E → ds.length = 3)
    (rd : ∀ ds h Q E', sp ds h Q E' → K22.t__law_leaf_set sp__law_draw sp__law_leaf_set sp__law_integer_groups (ends Q) (slots K22.n__law_leaf_set ds) h) : FnD P w K mg base (k + 1) T.f__law_leaf_set T.d__law_leaf_set p__law_leaf_set sp := by
  refine fnD T.F__law_leaf_set sc__law_leaf_set len fun cdv A outer s H E hr E' => ⟨K22.t__law_leaf_set sp__law_draw sp__law_leaf_set sp__law_integer_groups, ?_, fun ds h Q q => rd ds h Q E' q⟩
  have sc := sc__law_leaf_set
  exact (dss_cons (ds_if (dt_cmp (opr_eq hr.units) opl_eq (nomark _) (de_ix ix_seq opl_ix (fun _ _ => rfl) (de_var 1) de_int) de_str) (dss_one (ds_ret (de_tup (da_cons de_str (da_cons (de_tup (da_cons de_str (da_cons (de_callTy call_tupF cl_tup rfl T.z_tuple boot'_tuple (da_cons (de_lc rfl sc.nd (di_seq (de_ix ix_seq opl_ix (fun _ _ => rfl) (de_var 1) de_int)) (blkOk_by (N := K22.n__law_leaf_set) (sc := defScope s__law_leaf_set) (by decide +kernel)) (fun _ _ _ _ _ => pg_name (i := 5) sc.nd rfl (Or.inl rfl)) (fun _ _ _ _ _ => dts_one (dt_cmp (opr_eq hr.units) opl_eq (nomark _) (de_call G__law_draw hr rfl T.m__law_draw T.F__law_draw.kp T.b__law_draw (da_cons (de_var 0) (da_cons de_int da_nil))) de_int)) (fun _ _ _ _ _ => (de_var 5))) da_nil)) da_nil))) da_nil))))) dss_nil)
      (dss_cons (ds_if (dt_cmp (opr_eq hr.units) opl_eq (nomark _) (de_ix ix_seq opl_ix (fun _ _ => rfl) (de_var 1) de_int) de_str) (dss_cons (ds_set (i := 3) sc.nd rfl (Or.inl rfl) (de_call G__law_draw hr rfl T.m__law_draw T.F__law_draw.kp T.b__law_draw (da_cons (de_var 0) (da_cons de_int da_nil))))
      (dss_one (ds_ret (de_tup (da_cons (de_ix ix_seq opl_ix (fun _ _ => rfl) (de_lis (da_cons de_str (da_cons de_str da_nil))) (de_var 3)) (da_cons (de_call G__law_leaf_set hr rfl T.m__law_leaf_set T.F__law_leaf_set.kp T.b__law_leaf_set (da_cons (de_var 0) (da_cons (de_ix ix_seq opl_ix (fun _ _ => rfl) (de_var 1) (de_op opr_add opl_add de_int (de_var 3))) (da_cons (de_var 2) da_nil)))) da_nil)))))) dss_nil)
      (dss_cons (ds_if (dt_cmp (opr_eq hr.units) opl_eq (nomark _) (de_ix ix_seq opl_ix (fun _ _ => rfl) (de_var 1) de_int) de_str) (dss_cons (ds_set (i := 4) sc.nd rfl (Or.inl rfl) (de_call G__law_draw hr rfl T.m__law_draw T.F__law_draw.kp T.b__law_draw (da_cons (de_var 0) (da_cons (de_callB cr_len cl_len rfl T.z_len boot'_len (da_cons (de_ix ix_seq opl_ix (fun _ _ => rfl) (de_var 1) de_int) da_nil)) da_nil))))
      (dss_one (ds_ret (de_tup (da_cons de_str (da_cons (de_var 4) (da_cons (de_call G__law_leaf_set hr rfl T.m__law_leaf_set T.F__law_leaf_set.kp T.b__law_leaf_set (da_cons (de_var 0) (da_cons (de_ix ix_seq opl_ix (fun _ _ => rfl) (de_ix ix_seq opl_ix (fun _ _ => rfl) (de_var 1) de_int) (de_var 4)) (da_cons (de_var 2) da_nil)))) da_nil))))))) dss_nil)
      (dss_cons (ds_if (dt_cmp (opr_eq hr.units) opl_eq (nomark _) (de_ix ix_seq opl_ix (fun _ _ => rfl) (de_var 1) de_int) de_str) (dss_one (ds_ret (de_tup (da_cons de_str (da_cons (de_call G__law_leaf_set hr rfl T.m__law_leaf_set T.F__law_leaf_set.kp T.b__law_leaf_set (da_cons (de_var 0) (da_cons (de_ix ix_seq opl_ix (fun _ _ => rfl) (de_var 1) de_int) (da_cons (de_var 2) da_nil)))) da_nil))))) dss_nil)
      (dss_one (ds_ret (de_tup (da_cons de_str (da_cons (de_ix ix_seq opl_ix (fun _ _ => rfl) (de_call G__law_integer_groups hr rfl T.m__law_integer_groups T.F__law_integer_groups.kp T.b__law_integer_groups (da_cons (de_var 0) (da_cons (de_var 2) (da_cons de_int da_nil)))) de_int) da_nil)))))))))
theorem ok__law_going {k : Nat} {sp sp__law_draw sp__law_letter sp__law_behind : Sp'} (T : Tx K mg) (G__law_draw : FnD P w K mg base k T.f__law_draw T.d__law_draw p__law_draw sp__law_draw) (G__law_letter : FnD P w K mg base k T.f__law_letter T.d__law_letter p__law_letter sp__law_letter) (G__law_behind : FnD P w K mg base k T.f__law_behind T.d__law_behind p__law_behind sp__law_behind) (len : ∀ ds h Q E, sp ds h Q E → ds.length = 5)
    (rd : ∀ ds h Q E', sp ds h Q E' → K22.t__law_going sp__law_draw sp__law_letter sp__law_behind (ends Q) (slots K22.n__law_going ds) h) : FnD P w K mg base (k + 1) T.f__law_going T.d__law_going p__law_going sp := by
  refine fnD T.F__law_going sc__law_going len fun cdv A outer s H E hr E' => ⟨K22.t__law_going sp__law_draw sp__law_letter sp__law_behind, ?_, fun ds h Q q => rd ds h Q E' q⟩
  have sc := sc__law_going
  exact (dss_cons (ds_set (i := 5) sc.nd rfl (Or.inl rfl) (de_tup da_nil))
      (dss_cons (ds_set (i := 6) sc.nd rfl (Or.inl rfl) (de_ix ix_seq opl_ix (fun _ _ => rfl) (de_var 3) de_int))
      (dss_cons (ds_for (passes_of rfl) rfl (di_rng1 rfl T.z_range (da_cons (de_call G__law_draw hr rfl T.m__law_draw T.F__law_draw.kp T.b__law_draw (da_cons (de_var 0) (da_cons (de_op opr_add opl_add (de_var 4) de_int) da_nil))) da_nil)) (dg_name (i := 7) sc.nd rfl (Or.inl rfl)) (dss_cons (ds_set (i := 8) sc.nd rfl (Or.inl rfl) (de_call G__law_letter hr rfl T.m__law_letter T.F__law_letter.kp T.b__law_letter (da_cons (de_var 0) (da_cons (de_var 1) (da_cons (de_var 2) da_nil)))))
      (dss_cons (ds_for (passes_of rfl) rfl (di_rng1 rfl T.z_range (da_cons de_int da_nil)) (dg_name (i := 9) sc.nd rfl (Or.inl rfl)) (dss_one (ds_mid (ds_if (dt_not (dt_tru (de_call G__law_behind hr rfl T.m__law_behind T.F__law_behind.kp T.b__law_behind (da_cons (de_var 3) (da_cons (de_var 6) (da_cons (de_var 8) da_nil)))))) (dss_one (ds_set (i := 8) sc.nd rfl (Or.inl rfl) (de_call G__law_letter hr rfl T.m__law_letter T.F__law_letter.kp T.b__law_letter (da_cons (de_var 0) (da_cons (de_var 1) (da_cons (de_var 2) da_nil)))))) dss_nil))))
      (dss_cons (ds_set (i := 5) sc.nd rfl (Or.inl rfl) (de_op opr_add opl_add (de_var 5) (de_tup (da_cons (de_var 8) da_nil))))
      (dss_one (ds_set (i := 6) sc.nd rfl (Or.inl rfl) (de_call G__law_behind hr rfl T.m__law_behind T.F__law_behind.kp T.b__law_behind (da_cons (de_var 3) (da_cons (de_var 6) (da_cons (de_var 8) da_nil))))))))))
      (dss_one (ds_ret (de_var 5))))))
theorem ok__law_other_machine {k : Nat} {sp sp__law_draw sp__law_condition sp__law_varied : Sp'} (T : Tx K mg) (G__law_draw : FnD P w K mg base k T.f__law_draw T.d__law_draw p__law_draw sp__law_draw) (G__law_condition : FnD P w K mg base k T.f__law_condition T.d__law_condition p__law_condition sp__law_condition) (G__law_varied : FnD P w K mg base k T.f__law_varied T.d__law_varied p__law_varied sp__law_varied) (len : ∀ ds h Q E, sp ds h Q E → ds.length = 3)
    (rd : ∀ ds h Q E', sp ds h Q E' → K22.t__law_other_machine sp__law_draw sp__law_condition sp__law_varied (ends Q) (slots K22.n__law_other_machine ds) h) : FnD P w K mg base (k + 1) T.f__law_other_machine T.d__law_other_machine p__law_other_machine sp := by
  refine fnD T.F__law_other_machine sc__law_other_machine len fun cdv A outer s H E hr E' => ⟨K22.t__law_other_machine sp__law_draw sp__law_condition sp__law_varied, ?_, fun ds h Q q => rd ds h Q E' q⟩
  have sc := sc__law_other_machine
  exact (dss_cons (ds_asg (de_var 2) (dg_tup rfl (dgs_cons (dg_name (i := 3) sc.nd rfl (Or.inl rfl)) (dgs_cons (dg_name (i := 4) sc.nd rfl (Or.inl rfl)) (dgs_cons (dg_name (i := 5) sc.nd rfl (Or.inr rfl)) (dgs_cons (dg_name (i := 6) sc.nd rfl (Or.inr rfl)) (dgs_cons (dg_name (i := 7) sc.nd rfl (Or.inl rfl)) dgs_nil)))))))
      (dss_cons (ds_set (i := 8) sc.nd rfl (Or.inl rfl) (de_call G__law_draw hr rfl T.m__law_draw T.F__law_draw.kp T.b__law_draw (da_cons (de_var 0) (da_cons de_int da_nil))))
      (dss_cons (ds_set (i := 9) sc.nd rfl (Or.inr rfl) (de_call G__law_draw hr rfl T.m__law_draw T.F__law_draw.kp T.b__law_draw (da_cons (de_var 0) (da_cons (de_var 4) da_nil))))
      (dss_cons (ds_if (dw_pt (dw_or (dt_cmp (opr_eq hr.units) opl_eq (nomark _) (de_var 8) de_int) (dw_or1 (dt_not (dt_tru (de_var 7)))))) (dss_one (ds_ret (de_tup (da_cons (de_var 3) (da_cons (de_var 4) (da_cons (de_var 5) (da_cons (de_callTy call_tupF cl_tup rfl T.z_tuple boot'_tuple (da_cons (de_lc rfl sc.nd (di_rng1 rfl T.z_range (da_cons (de_var 4) da_nil)) (blkOk_by (N := K22.n__law_other_machine) (sc := defScope s__law_other_machine) (by decide +kernel)) (fun _ _ _ _ _ => pg_name (i := 12) sc.nd rfl (Or.inl rfl)) (fun _ _ _ _ _ => dts_one (dt_cmp (opr_ne hr.units) opl_ne (nomark _) (de_cmp op_in_seq opl_in rfl (de_var 12) (de_var 6)) (de_cmp (opr_eq hr.units) opl_eq (nomark _) (de_var 12) (de_var 9)))) (fun _ _ _ _ _ => (de_var 12))) da_nil)) (da_cons (de_var 7) da_nil)))))))) dss_nil)
      (dss_cons (ds_if (dt_cmp (opr_eq hr.units) opl_eq (nomark _) (de_var 8) de_int) (dss_one (ds_ret (de_tup (da_cons (de_var 3) (da_cons (de_var 4) (da_cons (de_callTy call_tupF cl_tup rfl T.z_tuple boot'_tuple (da_cons (de_lc rfl sc.nd (di_rng1 rfl T.z_range (da_cons (de_var 4) da_nil)) (blkOk_by (N := K22.n__law_other_machine) (sc := defScope s__law_other_machine) (by decide +kernel)) (fun _ _ _ _ _ => pg_name (i := 12) sc.nd rfl (Or.inl rfl)) (fun _ _ _ _ _ => dts_one (dt_cmp (opr_ne hr.units) opl_ne (nomark _) (de_cmp op_in_seq opl_in rfl (de_var 12) (de_var 5)) (de_cmp (opr_eq hr.units) opl_eq (nomark _) (de_var 12) (de_var 9)))) (fun _ _ _ _ _ => (de_var 12))) da_nil)) (da_cons (de_var 6) (da_cons (de_var 7) da_nil)))))))) dss_nil)
      (dss_cons (ds_set (i := 10) sc.nd rfl (Or.inl rfl) (de_call G__law_draw hr rfl T.m__law_draw T.F__law_draw.kp T.b__law_draw (da_cons (de_var 0) (da_cons (de_callB cr_len cl_len rfl T.z_len boot'_len (da_cons (de_var 7) da_nil)) da_nil))))
      (dss_cons (ds_set (i := 11) sc.nd rfl (Or.inl rfl) (de_ix ix_seq opl_ix (fun _ _ => rfl) (de_var 7) (de_var 10)))
      (dss_cons (ds_mid (ds_if (dt_cmp (opr_eq hr.units) opl_eq (nomark _) (de_var 8) de_int) (dss_one (ds_set (i := 11) sc.nd rfl (Or.inl rfl) (de_tup (da_cons (de_ix ix_seq opl_ix (fun _ _ => rfl) (de_var 11) de_int) (da_cons (de_ix ix_seq opl_ix (fun _ _ => rfl) (de_var 11) de_int) (da_cons (de_var 9) da_nil)))))) (dss_one (ds_mid (ds_if (dt_cmp (opr_eq hr.units) opl_eq (nomark _) (de_ix ix_seq opl_ix (fun _ _ => rfl) (de_ix ix_seq opl_ix (fun _ _ => rfl) (de_var 11) de_int) de_int) de_str) (dss_one (ds_set (i := 11) sc.nd rfl (Or.inl rfl) (de_tup (da_cons (de_ix ix_seq opl_ix (fun _ _ => rfl) (de_var 11) de_int) (da_cons (de_call G__law_condition hr rfl T.m__law_condition T.F__law_condition.kp T.b__law_condition (da_cons (de_var 0) (da_cons (de_var 3) (da_cons (de_var 1) (da_cons de_int da_nil))))) (da_cons (de_ix ix_seq opl_ix (fun _ _ => rfl) (de_var 11) de_int) da_nil)))))) (dss_one (ds_set (i := 11) sc.nd rfl (Or.inl rfl) (de_tup (da_cons (de_ix ix_seq opl_ix (fun _ _ => rfl) (de_var 11) de_int) (da_cons (de_call G__law_varied hr rfl T.m__law_varied T.F__law_varied.kp T.b__law_varied (da_cons (de_var 0) (da_cons (de_var 3) (da_cons (de_ix ix_seq opl_ix (fun _ _ => rfl) (de_var 11) de_int) (da_cons (de_var 1) da_nil))))) (da_cons (de_ix ix_seq opl_ix (fun _ _ => rfl) (de_var 11) de_int) da_nil)))))))))))
      (dss_one (ds_ret (de_tup (da_cons (de_var 3) (da_cons (de_var 4) (da_cons (de_var 5) (da_cons (de_var 6) (da_cons (de_op opr_add opl_add (de_op opr_add opl_add (de_slice (de_var 7) do_none (do_some (de_var 10))) (de_tup (da_cons (de_var 11) da_nil))) (de_slice (de_var 7) (do_some (de_op opr_add opl_add (de_var 10) de_int)) do_none)) da_nil))))))))))))))))
end
end WK22

set_option Elab.async false
set_option linter.all false
set_option maxRecDepth 100000
set_option maxHeartbeats 8000000
namespace WK22
open PySem PySem.Spec PyProof.Rows L2 DL
section
variable {P : Program} {w : World} {K : PySem.W.Frag} {mg : Str → Option Value} {base : Heap}
theorem ok__law_answers {k : Nat} {sp sp__law_led sp_states_behind sp__law_same sp__law_has_end sp_takes : Sp'} (T : Tx K mg) (G__law_led : FnD P w K mg base k T.f__law_led T.d__law_led p__law_led sp__law_led) (G_states_behind : FnD P w K mg base k T.f_states_behind T.d_states_behind p_states_behind sp_states_behind) (G__law_same : FnD P w K mg base k T.f__law_same T.d__law_same p__law_same sp__law_same) (G__law_has_end : FnD P w K mg base k T.f__law_has_end T.d__law_has_end p__law_has_end sp__law_has_end) (G_takes : FnD P w K mg base k T.f_takes T.d_takes p_takes sp_takes) (len : ∀ ds h Q E, sp ds h Q E → ds.length = 3)
    (rd : ∀ ds h Q E', sp ds h Q E' → K22.t__law_answers sp__law_led sp_states_behind sp__law_same sp__law_has_end sp_takes (ends Q) (slots K22.n__law_answers ds) h) : FnD P w K mg base (k + 1) T.f__law_answers T.d__law_answers p__law_answers sp := by
  refine fnD T.F__law_answers sc__law_answers len fun cdv A outer s H E hr E' => ⟨K22.t__law_answers sp__law_led sp_states_behind sp__law_same sp__law_has_end sp_takes, ?_, fun ds h Q q => rd ds h Q E' q⟩
  have sc := sc__law_answers
  exact (dss_cons (ds_set (i := 3) sc.nd rfl (Or.inl rfl) (de_call G__law_led hr rfl T.m__law_led T.F__law_led.kp T.b__law_led (da_cons (de_var 0) (da_cons (de_ix ix_seq opl_ix (fun _ _ => rfl) (de_var 0) de_int) (da_cons (de_var 1) da_nil)))))
      (dss_cons (ds_for (passes_of rfl) rfl (di_seq (de_lis (da_cons (de_var 2) (da_cons (de_op op_sub opl_sub de_int (de_var 2)) da_nil)))) (dg_name (i := 4) sc.nd rfl (Or.inl rfl)) (dss_cons (ds_if (dw_pt (dw_and (dt_cmp (opr_eq hr.units) opl_eq (nomark _) (de_var 4) de_int) (dw_and1 (dt_not (dt_val (de_call G__law_same hr rfl T.m__law_same T.F__law_same.kp T.b__law_same (da_cons (de_call G_states_behind hr rfl T.m_states_behind T.F_states_behind.kp T.b_states_behind (da_cons (de_var 0) (da_cons (de_var 1) da_nil))) (da_cons (de_var 3) da_nil)))))))) (dss_one (ds_ret de_bl)) dss_nil)
      (dss_one (ds_if (dw_pt (dw_and (dt_cmp (opr_eq hr.units) opl_eq (nomark _) (de_var 4) de_int) (dw_and1 (dt_not (dt_val (de_call G__law_same hr rfl T.m__law_same T.F__law_same.kp T.b__law_same (da_cons (de_call G_takes hr rfl T.m_takes T.F_takes.kp T.b_takes (da_cons (de_var 0) (da_cons (de_var 1) da_nil))) (da_cons (de_call G__law_has_end hr rfl T.m__law_has_end T.F__law_has_end.kp T.b__law_has_end (da_cons (de_var 0) (da_cons (de_var 3) da_nil))) da_nil)))))))) (dss_one (ds_ret de_bl)) dss_nil))))
      (dss_one (ds_ret de_bl))))
theorem ok_law {k : Nat} {sp sp__law_tape sp__law_any_kind sp__law_draw sp__law_machine sp__law_leaf_set sp__law_other_machine sp__law_going sp__law_answers sp__law_near sp__law_word : Sp'} (T : Tx K mg) (G__law_tape : FnD P w K mg base k T.f__law_tape T.d__law_tape p__law_tape sp__law_tape) (G__law_any_kind : FnD P w K mg base k T.f__law_any_kind T.d__law_any_kind p__law_any_kind sp__law_any_kind) (G__law_draw : FnD P w K mg base k T.f__law_draw T.d__law_draw p__law_draw sp__law_draw) (G__law_machine : FnD P w K mg base k T.f__law_machine T.d__law_machine p__law_machine sp__law_machine) (G__law_leaf_set : FnD P w K mg base k T.f__law_leaf_set T.d__law_leaf_set p__law_leaf_set sp__law_leaf_set) (G__law_other_machine : FnD P w K mg base k T.f__law_other_machine T.d__law_other_machine p__law_other_machine sp__law_other_machine) (G__law_going : FnD P w K mg base k T.f__law_going T.d__law_going p__law_going sp__law_going) (G__law_answers : FnD P w K mg base k T.f__law_answers T.d__law_answers p__law_answers sp__law_answers) (G__law_near : FnD P w K mg base k T.f__law_near T.d__law_near p__law_near sp__law_near) (G__law_word : FnD P w K mg base k T.f__law_word T.d__law_word p__law_word sp__law_word) (len : ∀ ds h Q E, sp ds h Q E → ds.length = 1)
    (rd : ∀ ds h Q E', sp ds h Q E' → K22.t_law sp__law_tape sp__law_any_kind sp__law_draw sp__law_machine sp__law_leaf_set sp__law_other_machine sp__law_going sp__law_answers sp__law_near sp__law_word (ends Q) (slots K22.n_law ds) h) : FnD P w K mg base (k + 1) T.f_law T.d_law p_law sp := by
  refine fnD T.F_law sc_law len fun cdv A outer s H E hr E' => ⟨K22.t_law sp__law_tape sp__law_any_kind sp__law_draw sp__law_machine sp__law_leaf_set sp__law_other_machine sp__law_going sp__law_answers sp__law_near sp__law_word, ?_, fun ds h Q q => rd ds h Q E' q⟩
  have sc := sc_law
  exact (dss_cons (ds_set (i := 1) sc.nd rfl (Or.inl rfl) (de_call G__law_tape hr rfl T.m__law_tape T.F__law_tape.kp T.b__law_tape (da_cons (de_var 0) da_nil)))
      (dss_cons (ds_set (i := 2) sc.nd rfl (Or.inl rfl) (de_call G__law_any_kind hr rfl T.m__law_any_kind T.F__law_any_kind.kp T.b__law_any_kind (da_cons (de_var 1) da_nil)))
      (dss_cons (ds_set (i := 3) sc.nd rfl (Or.inl rfl) (de_tup (da_cons de_int (da_cons de_int da_nil))))
      (dss_cons (ds_set (i := 4) sc.nd rfl (Or.inl rfl) (de_call G__law_machine hr rfl T.m__law_machine T.F__law_machine.kp T.b__law_machine (da_cons (de_var 1) (da_cons (de_var 2) (da_cons (de_var 3) (da_cons de_int (da_cons de_int (da_cons (de_ix ix_seq opl_ix (fun _ _ => rfl) (de_lis (da_cons de_int (da_cons de_int (da_cons de_int da_nil)))) (de_call G__law_draw hr rfl T.m__law_draw T.F__law_draw.kp T.b__law_draw (da_cons (de_var 1) (da_cons de_int da_nil)))) da_nil))))))))
      (dss_cons (ds_set (i := 5) sc.nd rfl (Or.inl rfl) (de_callTy call_list_of cl_listO rfl T.z_list boot'_list (da_cons (de_ix ix_seq opl_ix (fun _ _ => rfl) (de_var 4) de_int) da_nil)))
      (dss_cons (ds_mid (ds_if (dw_pt (dw_and (dt_tru (de_var 5)) (dw_and1 (dt_cmp (opr_eq hr.units) opl_eq (nomark _) (de_call G__law_draw hr rfl T.m__law_draw T.F__law_draw.kp T.b__law_draw (da_cons (de_var 1) (da_cons de_int da_nil))) de_int)))) (dss_cons (ds_set (i := 6) sc.nd rfl (Or.inl rfl) (de_call G__law_draw hr rfl T.m__law_draw T.F__law_draw.kp T.b__law_draw (da_cons (de_var 1) (da_cons (de_callB cr_len cl_len rfl T.z_len boot'_len (da_cons (de_var 5) da_nil)) da_nil))))
      (dss_one (ds_asg (de_tup (da_cons (de_ix ix_seq opl_ix (fun _ _ => rfl) (de_ix ix_seq opl_ix (fun _ _ => rfl) (de_var 5) (de_var 6)) de_int) (da_cons (de_call G__law_leaf_set hr rfl T.m__law_leaf_set T.F__law_leaf_set.kp T.b__law_leaf_set (da_cons (de_var 1) (da_cons (de_var 2) (da_cons (de_var 3) da_nil)))) (da_cons (de_ix ix_seq opl_ix (fun _ _ => rfl) (de_ix ix_seq opl_ix (fun _ _ => rfl) (de_var 5) (de_var 6)) de_int) da_nil)))) (dg_sub (de_var 5) (de_var 6))))) dss_nil))
      (dss_cons (ds_set (i := 4) sc.nd rfl (Or.inl rfl) (de_tup (da_cons (de_var 2) (da_cons (de_ix ix_seq opl_ix (fun _ _ => rfl) (de_var 4) de_int) (da_cons (de_ix ix_seq opl_ix (fun _ _ => rfl) (de_var 4) de_int) (da_cons (de_ix ix_seq opl_ix (fun _ _ => rfl) (de_var 4) de_int) (da_cons (de_callTy call_tupF cl_tup rfl T.z_tuple boot'_tuple (da_cons (de_var 5) da_nil)) da_nil)))))))
      (dss_cons (ds_set (i := 7) sc.nd rfl (Or.inl rfl) (de_call G__law_other_machine hr rfl T.m__law_other_machine T.F__law_other_machine.kp T.b__law_other_machine (da_cons (de_var 1) (da_cons (de_var 3) (da_cons (de_var 4) da_nil)))))
      (dss_cons (ds_set (i := 8) sc.nd rfl (Or.inl rfl) (de_call G__law_going hr rfl T.m__law_going T.F__law_going.kp T.b__law_going (da_cons (de_var 1) (da_cons (de_var 2) (da_cons (de_var 3) (da_cons (de_var 4) (da_cons de_int da_nil)))))))
      (dss_cons (ds_set (i := 9) sc.nd rfl (Or.inl rfl) (de_call G__law_draw hr rfl T.m__law_draw T.F__law_draw.kp T.b__law_draw (da_cons (de_var 1) (da_cons de_int da_nil))))
      (dss_cons (ds_for (passes_of rfl) rfl (di_rng1 rfl T.z_range (da_cons (de_op opr_add opl_add (de_callB cr_len cl_len rfl T.z_len boot'_len (da_cons (de_var 8) da_nil)) de_int) da_nil)) (dg_name (i := 6) sc.nd rfl (Or.inl rfl)) (dss_one (ds_if (dt_not (dt_tru (de_call G__law_answers hr rfl T.m__law_answers T.F__law_answers.kp T.b__law_answers (da_cons (de_var 4) (da_cons (de_slice (de_var 8) do_none (do_some (de_var 6))) (da_cons (de_var 9) da_nil)))))) (dss_one (ds_ret de_bl)) dss_nil)))
      (dss_cons (ds_set (i := 10) sc.nd rfl (Or.inl rfl) (de_var 8))
      (dss_cons (ds_mid (ds_if (dt_tru (de_var 8)) (dss_cons (ds_set (i := 6) sc.nd rfl (Or.inl rfl) (de_call G__law_draw hr rfl T.m__law_draw T.F__law_draw.kp T.b__law_draw (da_cons (de_var 1) (da_cons (de_callB cr_len cl_len rfl T.z_len boot'_len (da_cons (de_var 8) da_nil)) da_nil))))
      (dss_one (ds_set (i := 10) sc.nd rfl (Or.inl rfl) (de_op opr_add opl_add (de_op opr_add opl_add (de_slice (de_var 8) do_none (do_some (de_var 6))) (de_tup (da_cons (de_call G__law_near hr rfl T.m__law_near T.F__law_near.kp T.b__law_near (da_cons (de_var 1) (da_cons (de_var 2) (da_cons (de_ix ix_seq opl_ix (fun _ _ => rfl) (de_var 8) (de_var 6)) da_nil)))) da_nil))) (de_slice (de_var 8) (do_some (de_op opr_add opl_add (de_var 6) de_int)) do_none))))) dss_nil))
      (dss_cons (ds_for (passes_of rfl) rfl (di_seq (de_lis (da_cons (de_tup (da_cons (de_var 7) (da_cons (de_var 8) da_nil))) (da_cons (de_tup (da_cons (de_var 4) (da_cons (de_var 10) da_nil))) (da_cons (de_tup (da_cons (de_var 4) (da_cons (de_call G__law_word hr rfl T.m__law_word T.F__law_word.kp T.b__law_word (da_cons (de_var 1) (da_cons (de_var 2) (da_cons (de_var 3) (da_cons de_int da_nil))))) da_nil))) (da_cons (de_tup (da_cons (de_var 4) (da_cons (de_var 8) da_nil))) da_nil)))))) (dg_name (i := 11) sc.nd rfl (Or.inl rfl)) (dss_one (ds_if (dt_not (dt_tru (de_call G__law_answers hr rfl T.m__law_answers T.F__law_answers.kp T.b__law_answers (da_cons (de_ix ix_seq opl_ix (fun _ _ => rfl) (de_var 11) de_int) (da_cons (de_ix ix_seq opl_ix (fun _ _ => rfl) (de_var 11) de_int) (da_cons (de_var 9) da_nil)))))) (dss_one (ds_ret de_bl)) dss_nil)))
      (dss_one (ds_ret de_bl))))))))))))))))
end
end WK22


set_option Elab.async false
set_option linter.all false
set_option maxRecDepth 100000
/-! DM: machines, plainly. -/
namespace DL
open PySem PySem.Spec PyProof.Rows L2
structure Mc where
  k : Kd
  n : Int
  st : List Int
  en : List Int
  sp : List (Int × Cn × Int)
def tI (xs : List Int) : D := .tup (xs.map .int)
def stD (s : Int × Cn × Int) : D := .tup [.int s.1, cD s.2.1, .int s.2.2]
def mD (M : Mc) : D := .tup [kD M.k, .int M.n, tI M.st, tI M.en, .tup (M.sp.map stD)]
/-- an ascending list of states -/
def stsOk (n : Int) (S : List Int) : Prop := S.Pairwise (· < ·) ∧ ∀ q ∈ S, 0 ≤ q ∧ q < n
/-- a set at a kind at most 3 deep -/
def wf3 (k : Kd) (s : Ls) : Prop := k.depth ≤ 3 ∧ wfS k s
def cnOk (k : Kd) (c : Cn) : Prop := okC c ∧ domC wf3 k c ∧ fitsC (fun _ _ => true) k c = true ∧ c.cnt ≤ 20
structure Mc.ok (M : Mc) : Prop where
  kk : M.k.ok
  kd : M.k.depth ≤ 3
  kc : M.k.cnt ≤ 100
  n1 : 1 ≤ M.n
  n9 : M.n ≤ 40
  st : stsOk M.n M.st
  en : stsOk M.n M.en
  sl : M.sp.length ≤ 50
  sp : ∀ s ∈ M.sp, 0 ≤ s.1 ∧ s.1 < M.n ∧ 0 ≤ s.2.2 ∧ s.2.2 < M.n ∧ cnOk M.k s.2.1
def hit (S : List Int) (v : D) (s : Int × Cn × Int) : Bool := S.contains s.1 && metC inS s.2.1 v
/-- where the steps lead -/
def tgts (M : Mc) (S : List Int) (v : D) : List Int := (M.sp.filter (hit S v)).map (·.2.2)
def bhd (M : Mc) (S : List Int) (v : D) : List Int := (rngI M.n).filter fun q => (tgts M S v).contains q
theorem bhd_ok (M : Mc) (S : List Int) (v : D) : stsOk M.n (bhd M S v) :=
  ⟨(rngI_asc M.n).filter _, fun q m => rngI_mem.mp (List.mem_filter.mp m).1⟩
theorem bhd_of {M : Mc} (o : M.ok) {S : List Int} {v : D} {ns : List Int} (h : SrtOf (tgts M S v) ns) : ns = bhd M S v :=
  asc_eq _ _ h.1 (bhd_ok M S v).1 fun x => by
    rw [h.2]
    unfold bhd
    rw [List.mem_filter, rngI_mem]
    constructor
    · intro m
      obtain ⟨s, ms, rfl⟩ := List.mem_map.mp m
      have := o.sp s (List.mem_filter.mp ms).1
      exact ⟨⟨this.2.2.1, this.2.2.2.1⟩, by simpa using m⟩
    · intro z
      simpa using z.2
/-- the set behind a word -/
def bhw (M : Mc) (S : List Int) : List D → List Int
  | [] => S
  | v :: w => bhw M (bhd M S v) w
theorem bhw_ok (M : Mc) : ∀ (w : List D) (S : List Int), stsOk M.n S → stsOk M.n (bhw M S w)
  | [], _, h => h
  | v :: w, S, _ => bhw_ok M w _ (bhd_ok M S v)
theorem sts_len0 {n : Int} {S : List Int} (h : stsOk n S) : S.length ≤ n.toNat := by
  have e : S = (rngI n).filter fun q => S.contains q := asc_eq _ _ h.1 ((rngI_asc n).filter _) fun x => by
    rw [List.mem_filter, rngI_mem]
    exact ⟨fun m => ⟨h.2 x m, by simpa using m⟩, fun z => by simpa using z.2⟩
  rw [e]
  exact Nat.le_trans (List.length_filter_le _ _) (by rw [rngI_len]; exact Nat.le_refl _)
theorem sts_len {n : Int} {S : List Int} (h : stsOk n S) (hn : n ≤ 1000) : S.length ≤ 1000 := Nat.le_trans (sts_len0 h) (by omega)
theorem sts_one {n q : Int} (h0 : 0 ≤ q) (h1 : q < n) : stsOk n [q] := ⟨List.pairwise_singleton _ _, fun x m => by rw [List.mem_singleton.mp m]; exact ⟨h0, h1⟩⟩
theorem sts_snoc {n : Int} {S : List Int} (h : stsOk n S) (h0 : 0 ≤ n) : stsOk (n + 1) (S ++ [n]) := by
  refine ⟨List.pairwise_append.mpr ⟨h.1, List.pairwise_singleton _ _, fun x mx y my => ?_⟩, fun x m => ?_⟩
  · rw [List.mem_singleton.mp my]; exact (h.2 x mx).2
  · rcases List.mem_append.mp m with m | m
    · have := h.2 x m; omega
    · rw [List.mem_singleton.mp m]; omega
theorem sts_up {n m : Int} {S : List Int} (h : stsOk n S) (e : n ≤ m) : stsOk m S := ⟨h.1, fun x mx => by have := h.2 x mx; omega⟩
theorem val_tI (S : List Int) : val (tI S) 1 = true := by
  unfold tI
  simp only [val]
  rw [vals_mem]
  intro x m
  obtain ⟨i, _, rfl⟩ := List.mem_map.mp m
  rfl
theorem wid_tI {S : List Int} {w : Nat} (h : S.length ≤ w) : wid (tI S) w = true := by
  unfold tI
  simp only [wid, Bool.and_eq_true, decide_eq_true_eq, List.length_map]
  refine ⟨h, ?_⟩
  rw [wids_mem]
  intro x m
  obtain ⟨i, _, rfl⟩ := List.mem_map.mp m
  rfl
def anyEnd (M : Mc) (S : List Int) : Bool := S.any fun q => M.en.contains q
end DL

set_option Elab.async false
set_option linter.all false
set_option maxRecDepth 100000
/-! DT: the laws' tape. -/
namespace DL
open PySem PySem.Spec PyProof.Rows L2
theorem fin {Q : VK'} {d : D} {h : DH} (q : Q d h) : (ends Q).rt d h := ⟨h, Sub.refl, q⟩
/-- a loop by an invariant over what is left -/
theorem for_ind {g : TG'} {tb : TS'} {C : DH → Prop} {E : Ends'} (I : List D → St' → DH → Prop) (done : ∀ τ h, I [] τ h → forS g tb C E [] τ h)
    (step : ∀ x xs, (∀ τ h, I xs τ h → forS g tb C E xs τ h) → ∀ τ h, I (x :: xs) τ h → forS g tb C E (x :: xs) τ h) : ∀ xs τ h, I xs τ h → forS g tb C E xs τ h := by
  intro xs
  induction xs with
  | nil => exact done
  | cons x xs ih => exact step x xs ih
theorem lc_ind {n : Nat} {tt : TT'} {te : TE'} {C : DH → Prop} {τ : St'} {Q : List D → DH → Prop} (I : List D → List D → DH → Prop) (done : ∀ acc h, I [] acc h → lcS n tt te C τ Q [] acc h)
    (step : ∀ x xs, (∀ acc h, I xs acc h → lcS n tt te C τ Q xs acc h) → ∀ acc h, I (x :: xs) acc h → lcS n tt te C τ Q (x :: xs) acc h) : ∀ xs acc h, I xs acc h → lcS n tt te C τ Q xs acc h := by
  intro xs
  induction xs with
  | nil => exact done
  | cons x xs ih => exact step x xs ih
/-- a tape -/
def tapeO (ns : List Int) (p n m : Int) : DO := .lst [.lis (ns.map .int), .int p, .int n, .int m]
def TOk (t : DO) : Prop := ∃ ns p n m, t = tapeO ns p n m ∧ 0 ≤ p ∧ 0 ≤ n ∧ 0 ≤ m
/-- a tape stands at a -/
def Tp (h : DH) (a : Addr) : Prop := ∃ t, h a = some t ∧ TOk t
theorem tp_put {h : DH} {a : Addr} {t : DO} (o : TOk t) : Tp (put h a t) a := ⟨t, put_same, o⟩
/-- _law_tape(script) -/
def spTape : Sp' := fun ds h Q _ => ∃ ns, ds = [.scr ns] ∧ ∀ p t, h p = none → TOk t → Q (.ref p) (put h p t)
/-- _law_draw(tape, many) -/
def spDraw : Sp' := fun ds h Q _ => ∃ a k, ds = [.ref a, .int k] ∧ Tp h a ∧ k < 1606938044258990275541962092341162602522202993782792835301376 ∧ ∀ (r : Int) t, 0 ≤ r → r < max k 1 → TOk t → Q (.int r) (put h a t)
end DL

set_option Elab.async false
set_option linter.all false
set_option maxRecDepth 100000
set_option maxHeartbeats 1000000
local macro_rules | `(tactic| walk_at "dl7") => `(tactic| (try simp only [↓DL.q_nx, ↓DL.q_seq, ↓DL.q_br, ↓DL.q_ct, ↓DL.q_drop, ↓DL.q_ret, ↓DL.q_retn, ↓DL.q_ifs, ↓DL.q_asg, ↓DL.q_gn, ↓DL.q_gsub, ↓DL.q_gtup, ↓DL.q_gco, ↓DL.q_gni, ↓DL.q_for, ↓DL.q_yes, ↓DL.q_c, ↓DL.q_to, ↓DL.q_tu, ↓DL.q_tb, ↓DL.q_isB, ↓DL.q_isI, ↓DL.q_ch, ↓DL.q_and, ↓DL.q_or, ↓DL.q_orp, ↓DL.q_not, ↓DL.q_andv, ↓DL.q_orv, ↓DL.q_notv, ↓DL.q_if, ↓DL.q_an, ↓DL.q_ac, ↓DL.q_tup, ↓DL.q_lis, ↓DL.q_own, ↓DL.q_call, ↓DL.q_cb, ↓DL.q_bm, ↓DL.q_sl, ↓DL.q_slt, ↓DL.q_sll, ↓DL.q_pn, ↓DL.q_pe, ↓DL.q_addi, ↓DL.q_adds, ↓DL.q_addt, ↓DL.q_addl, ↓DL.q_I2, ↓DL.q_neg, ↓DL.q_eqi, ↓DL.q_eqs, ↓DL.q_eqb, ↓DL.q_neb, ↓DL.q_nei, ↓DL.q_nes, ↓DL.q_eq_non_int, ↓DL.q_ne_non_int, ↓DL.q_eq_non_bl, ↓DL.q_ne_non_bl, ↓DL.q_eq_non_str, ↓DL.q_ne_non_str, ↓DL.q_eq_int_non, ↓DL.q_ne_int_non, ↓DL.q_eq_bl_non, ↓DL.q_ne_bl_non, ↓DL.q_eq_str_non, ↓DL.q_ne_str_non, ↓DL.q_eq_int_str, ↓DL.q_ne_int_str, ↓DL.q_eq_str_int, ↓DL.q_ne_str_int, ↓DL.q_eq_bl_str, ↓DL.q_ne_bl_str, ↓DL.q_eq_str_bl, ↓DL.q_ne_str_bl, ↓DL.q_eq_non_non, ↓DL.q_ne_non_non, ↓DL.q_isnon_bl, ↓DL.q_isnon_int, ↓DL.q_isnon_str, ↓DL.q_isnon_tup, ↓DL.q_isnon_lis, ↓DL.q_isnon_non, ↓DL.q_int, ↓DL.q_inl, ↓DL.q_isn, ↓DL.q_ixc, ↓DL.q_lent, ↓DL.q_lenl, ↓DL.q_lenc, ↓DL.q_lens, ↓DL.q_is, ↓DL.q_toi, ↓DL.q_tob, ↓DL.q_abs, ↓DL.q_max, ↓DL.q_min, ↓DL.q_list, ↓DL.q_listo, ↓DL.q_tuple, ↓DL.q_sum, ↓DL.q_kt, ↓DL.q_kl, ↓DL.q_kc, ↓DL.q_tv0, ↓DL.q_st0, ↓DL.q_tv1, ↓DL.q_st1, ↓DL.q_tv2, ↓DL.q_st2, ↓DL.q_tv3, ↓DL.q_st3, ↓DL.q_tv4, ↓DL.q_st4, ↓DL.q_tv5, ↓DL.q_st5, ↓DL.q_tv6, ↓DL.q_st6, ↓DL.q_tv7, ↓DL.q_st7, ↓DL.q_tv8, ↓DL.q_st8, ↓DL.q_tv9, ↓DL.q_st9, ↓DL.q_tv10, ↓DL.q_st10, ↓DL.q_tv11, ↓DL.q_st11, ↓DL.q_tv12, ↓DL.q_st12, ↓DL.q_tv13, ↓DL.q_st13, ↓DL.q_tv14, ↓DL.q_st14, ↓DL.q_tv15, ↓DL.q_st15, ↓DL.q_ixt0, ↓DL.q_ixl0, ↓DL.q_ixt1, ↓DL.q_ixl1, ↓DL.q_ixt2, ↓DL.q_ixl2, ↓DL.q_ixt3, ↓DL.q_ixl3, ↓DL.q_ixt4, ↓DL.q_ixl4, ↓DL.q_oixr, ↓DL.q_oinr, ↓DL.q_olen, ↓DL.q_okr, ↓DL.q_oapp, ↓DL.q_olsr, ↓DL.q_osetD, ↓DL.q_ln0, ↓DL.q_sz0, ↓DL.q_ln1, ↓DL.q_sz1, ↓DL.q_ln2, ↓DL.q_sz2, ↓DL.q_ln3, ↓DL.q_sz3, ↓DL.q_ln4, ↓DL.q_sz4, ↓DL.q_ln5, ↓DL.q_sz5, ↓DL.q_ln6, ↓DL.q_sz6, ↓DL.q_ln7, ↓DL.q_sz7, ↓DL.q_ln8, ↓DL.q_sz8, ↓DL.q_wseq, ↓DL.q_wt, ↓DL.q_wl, ↓DL.q_wc, ↓DL.q_wr, ↓DL.q_wr1, ↓DL.q_wr1', ↓DL.q_setL0, ↓DL.q_setL1, ↓DL.q_setL2, ↓DL.q_setL3, ↓DL.q_setL4, ↓DL.q_pl_non, ↓DL.q_in_non_int, ↓DL.q_in_non_bool, ↓DL.q_in_non_str, ↓DL.q_in_non_tuple, ↓DL.q_in_non_list, ↓DL.q_pl_bl, ↓DL.q_in_bl_int, ↓DL.q_in_bl_bool, ↓DL.q_in_bl_str, ↓DL.q_in_bl_tuple, ↓DL.q_in_bl_list, ↓DL.q_pl_int, ↓DL.q_in_int_int, ↓DL.q_in_int_bool, ↓DL.q_in_int_str, ↓DL.q_in_int_tuple, ↓DL.q_in_int_list, ↓DL.q_pl_str, ↓DL.q_in_str_int, ↓DL.q_in_str_bool, ↓DL.q_in_str_str, ↓DL.q_in_str_tuple, ↓DL.q_in_str_list, ↓DL.q_pl_tup, ↓DL.q_in_tup_int, ↓DL.q_in_tup_bool, ↓DL.q_in_tup_str, ↓DL.q_in_tup_tuple, ↓DL.q_in_tup_list, ↓DL.q_pl_lis, ↓DL.q_in_lis_int, ↓DL.q_in_lis_bool, ↓DL.q_in_lis_str, ↓DL.q_in_lis_tuple, ↓DL.q_in_lis_list, ↓DL.q_ty_int, ↓DL.q_ty_bool, ↓DL.q_ty_str, ↓DL.q_ty_tuple, ↓DL.q_ty_list, DL.sif_t, DL.sif_f, DL.ofStr_inj, String.reduceEq, decide_true, decide_false, Bool.not_true, Bool.not_false, true_and, and_true, List.length_cons, List.length_nil, Int.reduceAdd, Int.reduceMul, Int.reduceNeg, Int.reduceSub, Nat.reduceAdd, if_true, if_false, Bool.false_eq_true, Int.reduceEq, Int.reduceLT, Int.reduceLE, eq_self, not_false_eq_true, DL.mulOk, or_true, true_or, and_self, Int.reduceToNat, Nat.reduceLT, Int.reducePow, DL.put_same, DL.put_put]))
namespace K00
open PySem PySem.Spec PyProof.Rows L2 DL
theorem sok {s : Str} (h : PyData.strOk s = true := by decide) : dOk (.str s) := dok_str.mpr h
def isInt (v : D) : Bool := match v with | .int _ => true | _ => false
def sp_is_integer : Sp' := fun ds h Q _ => ∃ v, ds = [v] ∧ plainD v = true ∧ Q (.bl (isInt v)) h
theorem rd_is_integer (ds : List D) (h : DH) (Q : VK') (E' : XK') (q : sp_is_integer ds h Q E') : t_is_integer (ends Q) (slots n_is_integer ds) h := by
  obtain ⟨v, rfl, hv, q⟩ := q
  show t_is_integer (ends Q) [some v] h
  unfold t_is_integer
  cases v with
  | scr _ => cases hv
  | ref _ => cases hv
  | ty _ => cases hv
  | _ => walk_at "dl7"; exact fin q
/-- ("none",) -/
def isL1 (xs : List D) : Bool := match xs with | [t] => isStr t "none" | _ => false
theorem isL1_get {xs : List D} (c : isL1 xs = true) : ∃ t, xs = [t] ∧ isStr t "none" = true := by
  unfold isL1 at c
  split at c
  · exact ⟨_, rfl, c⟩
  · cases c
theorem deq_none {xs : List D} {n : Nat} (hv : val (.tup xs) n = true) : deq (.tup xs) (.tup [.str "none"]) = isL1 xs := by
  obtain ⟨p, e, _, _⟩ := val_py _ _ hv
  have eb : toPy (.tup [.str "none"]) = some (.tuple [.str "none"]) := rfl
  rw [deq_of e eb]
  simp only [toPy] at e
  cases es : toPys xs with
  | none => rw [es] at e; cases e
  | some ps =>
    rw [es] at e
    cases e
    match xs, es with
    | [], es => cases es; simp [PyData.eqv, PyData.eqvAll, isL1]
    | [t], es =>
      simp only [toPys] at es
      cases et : toPy t with
      | none => rw [et] at es; cases es
      | some a =>
        rw [et] at es
        cases es
        simp only [PyData.eqv, PyData.eqvAll, isL1, Bool.and_true]
        cases t with
        | str s =>
          cases et
          simp only [PyData.eqv, isStr]
          exact Bool.beq_eq_decide_eq _ _
        | tup l =>
          simp only [toPy] at et
          cases ez : toPys l with
          | none => rw [ez] at et; cases et
          | some ps => rw [ez] at et; cases et; rfl
        | lis l =>
          simp only [toPy] at et
          cases ez : toPys l with
          | none => rw [ez] at et; cases et
          | some ps => rw [ez] at et; cases et; rfl
        | scr _ => cases et
        | ref _ => cases et
        | ty _ => cases et
        | _ => cases et; rfl
    | t :: u :: r, es =>
      simp only [toPys] at es
      cases et : toPy t with
      | none => rw [et] at es; cases es
      | some a =>
        cases eu : toPy u with
        | none => rw [et, eu] at es; cases es
        | some b =>
          cases er : toPys r with
          | none => rw [et, eu, er] at es; cases es
          | some c => rw [et, eu, er] at es; cases es; simp [PyData.eqv, PyData.eqvAll, isL1]
theorem eqT {xs ys : List D} {n : Nat} {h : DH} {Q : VK'} (hv : val (.tup xs) n = true) (hn : n ≤ 64 := by decide) (hy : vals ys 63 = true := by simp only [vals, val, sok_of, Bool.and_self]) : opEq (.tup xs) (.tup ys) h Q = Q (.bl (deq (.tup xs) (.tup ys))) h := by
  show (dOk (.tup xs) ∧ dOk (.tup ys) ∧ _) = _
  exact propext ⟨fun q => q.2.2, fun q => ⟨val_ok hv hn, val_ok (n := 64) (by simpa [val] using hy) (by decide), q⟩⟩
def sp_is_letter (n : Nat) : Sp' := fun ds h Q _ => ∃ k v, ds = [kD k, v] ∧ k.depth ≤ n ∧ val v 40 = true ∧ Q (.bl (isL k v)) h
theorem rd_is_letter (n : Nat) (ds : List D) (h : DH) (Q : VK') (E' : XK') (q : sp_is_letter (n + 1) ds h Q E') : t_is_letter sp_is_integer (sp_is_letter n) (ends Q) (slots n_is_letter ds) h := by
  obtain ⟨k, v, rfl, hk, hv, q⟩ := q
  show t_is_letter _ _ (ends Q) [some (kD k), some v, none] h
  unfold t_is_letter
  have pv := val_plain hv
  cases k with
  | nm ns =>
    simp only [kD]
    cases v with
    | str x =>
      ((walk_at "dl7"); repeat (simp only [flat_str, inD_str]; (walk_at "dl7")))
      exact ⟨rfl, fin q⟩
    | scr _ => cases pv
    | ref _ => cases pv
    | ty _ => cases pv
    | _ => walk_at "dl7"; exact fin q
  | it =>
    simp only [kD]
    walk_at "dl7"
    refine ⟨v, rfl, pv, fin ?_⟩
    cases v <;> exact q
  | pr a b =>
    simp only [kD]
    have hd : a.depth ≤ n ∧ b.depth ≤ n := by simp only [Kd.depth] at hk; omega
    cases v with
    | tup xs =>
      by_cases hl : xs.length = 3
      · obtain ⟨t, x, y, rfl⟩ : ∃ t x y, xs = [t, x, y] := by
          match xs, hl with
          | [t, x, y], _ => exact ⟨t, x, y, rfl⟩
        simp only [val, vals, Bool.and_eq_true] at hv
        ((walk_at "dl7"); repeat (simp only [eqS (val_ok hv.1)]; (walk_at "dl7")))
        refine sif_i (fun c => ?_) (fun c => ?_)
        · walk_at "dl7"
          refine ⟨a, x, rfl, hd.1, val_mono _ _ _ (by decide) hv.2.1, ?_⟩
          walk_at "dl7"
          refine sif_i (fun c2 => ?_) (fun c2 => ?_)
          · walk_at "dl7"
            refine ⟨b, y, rfl, hd.2, val_mono _ _ _ (by decide) hv.2.2.1, fin ?_⟩
            simp only [isL, c, c2, Bool.true_and] at q
            exact q
          · simp only [isL, c, c2, Bool.true_and, Bool.false_and] at q
            exact fin q
        · simp only [isL, c, Bool.false_and] at q
          exact fin q
      · have e : decide ((xs.length : Int) = 3) = false := decide_eq_false (by omega)
        ((walk_at "dl7"); repeat (simp only [e]; (walk_at "dl7")))
        rw [isL_pr hl] at q
        exact fin q
    | scr _ => cases pv
    | ref _ => cases pv
    | ty _ => cases pv
    | _ => walk_at "dl7"; exact fin q
  | ei ks =>
    simp only [kD]
    have hd : Kd.depths ks ≤ n := by simp only [Kd.depth] at hk; omega
    cases v with
    | tup xs =>
      by_cases hl : xs.length = 3
      · obtain ⟨t, x, y, rfl⟩ : ∃ t x y, xs = [t, x, y] := by
          match xs, hl with
          | [t, x, y], _ => exact ⟨t, x, y, rfl⟩
        simp only [val, vals, Bool.and_eq_true] at hv
        ((walk_at "dl7"); repeat (simp only [neS (val_ok hv.1)]; (walk_at "dl7")))
        refine sif_i (fun c => ?_) (fun c => ?_)
        · rw [Bool.not_eq_true'] at c
          have z : isL (.ei ks) (.tup [t, x, y]) = false := by
            cases x <;> first | rfl | (simp only [isL, c, Bool.false_and])
          rw [z] at q
          walk_at "dl7"
          exact fin q
        · rw [Bool.not_eq_false'] at c
          walk_at "dl7"
          refine ⟨x, rfl, val_plain hv.2.1, ?_⟩
          cases x with
          | int i =>
            ((walk_at "dl7"); repeat (simp only [isInt, len_kDs]; (walk_at "dl7")))
            by_cases h0 : 0 ≤ i
            · ((walk_at "dl7"); repeat (simp only [h0, len_kDs]; (walk_at "dl7")))
              by_cases h1 : i < (ks.length : Int)
              · ((walk_at "dl7"); repeat (simp only [h1]; (walk_at "dl7")))
                have hi : i.toNat < ks.length := by omega
                have eg := List.getElem?_eq_getElem hi
                rw [q_ixt]
                refine ⟨_, atI_kDs h0 eg, ?_⟩
                refine ⟨_, y, rfl, Nat.le_trans (Kd.depth_mem (List.getElem_mem hi)) hd, val_mono _ _ _ (by decide) hv.2.2.1, fin ?_⟩
                simp only [isL, c, isLn_get, eg, Bool.true_and, decide_eq_true h0] at q
                exact q
              · ((walk_at "dl7"); repeat (simp only [h1]; (walk_at "dl7")))
                simp only [isL, c, isLn_get, Bool.true_and, decide_eq_true h0, List.getElem?_eq_none (show ks.length ≤ i.toNat by omega)] at q
                exact fin q
            · ((walk_at "dl7"); repeat (simp only [h0]; (walk_at "dl7")))
              simp only [isL, decide_eq_false h0, Bool.false_and, Bool.and_false] at q
              exact fin q
          | _ => ((walk_at "dl7"); repeat (simp only [isInt]; (walk_at "dl7"))); exact fin q
      · have e : decide ((xs.length : Int) = 3) = false := decide_eq_false (by omega)
        ((walk_at "dl7"); repeat (simp only [e]; (walk_at "dl7")))
        rw [isL_ei hl] at q
        exact fin q
    | scr _ => cases pv
    | ref _ => cases pv
    | ty _ => cases pv
    | _ => walk_at "dl7"; exact fin q
  | mb k =>
    simp only [kD]
    have hd : k.depth ≤ n := by simp only [Kd.depth] at hk; omega
    cases v with
    | tup xs =>
      have hn : deq (.tup xs) (.tup [.str "none"]) = isL1 xs := deq_none hv
      ((walk_at "dl7"); repeat (simp only [eqT (ys := [.str "none"]) hv, hn]; (walk_at "dl7")))
      refine sif_i (fun c => ?_) (fun c => ?_)
      · obtain ⟨t, rfl, e⟩ := isL1_get c
        simp only [isL, e] at q
        exact fin q
      · walk_at "dl7"
        by_cases hl : xs.length = 2
        · obtain ⟨t, x, rfl⟩ : ∃ t x, xs = [t, x] := by
            match xs, hl with
            | [t, x], _ => exact ⟨t, x, rfl⟩
          simp only [val, vals, Bool.and_eq_true] at hv
          ((walk_at "dl7"); repeat (simp only [eqS (val_ok hv.1)]; (walk_at "dl7")))
          refine sif_i (fun c => ?_) (fun c => ?_)
          · walk_at "dl7"
            refine ⟨k, x, rfl, hd, val_mono _ _ _ (by decide) hv.2.1, fin ?_⟩
            simp only [isL, c, Bool.true_and] at q
            exact q
          · simp only [isL, c, Bool.false_and] at q
            exact fin q
        · have e : decide ((xs.length : Int) = 2) = false := decide_eq_false (by omega)
          ((walk_at "dl7"); repeat (simp only [e]; (walk_at "dl7")))
          have z : isL (.mb k) (.tup xs) = false := by
            by_cases h1 : xs.length = 1
            · obtain ⟨t, rfl⟩ : ∃ t, xs = [t] := by
                match xs, h1 with
                | [t], _ => exact ⟨t, rfl⟩
              simp only [isL]
              exact c
            · exact isL_mb h1 hl
          rw [z] at q
          exact fin q
    | scr _ => cases pv
    | ref _ => cases pv
    | ty _ => cases pv
    | _ => walk_at "dl7"; exact fin q
theorem rd__law_whole (ds : List D) (h : DH) (Q : VK') (E' : XK') (q : sp_is_integer ds h Q E') : t__law_whole (ends Q) (slots n__law_whole ds) h := by
  obtain ⟨v, rfl, hv, q⟩ := q
  show t__law_whole (ends Q) [some v] h
  unfold t__law_whole
  cases v with
  | scr _ => cases hv
  | ref _ => cases hv
  | ty _ => cases hv
  | _ => walk_at "dl7"; exact fin q
theorem rd__law_tape (ds : List D) (h : DH) (Q : VK') (E' : XK') (q : spTape ds h Q E') : t__law_tape (ends Q) (slots n__law_tape ds) h := by
  obtain ⟨ns, rfl, q⟩ := q
  show t__law_tape (ends Q) [some (.scr ns), none, none] h
  unfold t__law_tape
  walk_at "dl7"
  refine for_ind (fun xs τ g => ∃ (ms : List Int) (c : Option D) (m : Int), xs = ms.map .int ∧ τ = [some (.scr ns), some (.int m), c] ∧ 0 ≤ m ∧ g = h) ?_ ?_ _ _ _ ⟨ns, none, 7, rfl, rfl, by decide, rfl⟩
  · rintro τ g ⟨ms, c, m, e, rfl, hm, rfl⟩
    rw [q_fnil]
    walk_at "dl7"
    intro p np
    exact fin (q p _ np ⟨ns, 0, 0, m, rfl, by omega, by omega, hm⟩)
  · rintro x xs ih τ g ⟨ms, c, m, e, rfl, hm, rfl⟩
    cases ms with
    | nil => cases e
    | cons n ms =>
      cases e
      rw [q_fcons]
      walk_at "dl7"
      exact ih _ _ ⟨ms, _, _, rfl, rfl, Int.emod_nonneg _ (by decide), rfl⟩
theorem rd__law_draw (ds : List D) (h : DH) (Q : VK') (E' : XK') (q : spDraw ds h Q E') : t__law_draw (ends Q) (slots n__law_draw ds) h := by
  obtain ⟨a, k, rfl, ⟨t, ea, ns, p, n, m, rfl, hp, hn, hm⟩, hk, q⟩ := q
  show t__law_draw (ends Q) [some (.ref a), some (.int k), none, none] h
  unfold t__law_draw
  unfold tapeO at ea
  have km : (0 : Int) < max k 1 := by omega
  have k2 : (0 : Int) < max k 2 ∧ max k 2 < 1606938044258990275541962092341162602522202993782792835301376 := by omega
  have out : ∀ (x p' n' m' : Int), 0 ≤ p' → 0 ≤ n' → 0 ≤ m' → Q (.int (x % max k 1)) (put h a (.lst [.lis (ns.map .int), .int p', .int n', .int m'])) := fun x p' n' m' h1 h2 h3 =>
    q _ _ (Int.emod_nonneg _ (show max k 1 ≠ 0 by omega)) (Int.emod_lt_of_pos _ km) ⟨ns, p', n', m', rfl, h1, h2, h3⟩
  walk_at "dl7"
  -- behind the first draw of a number: n' is the number
  refine ⟨fun τ g => ∃ (x y : Option D) (p' n' m' : Int), τ = [some (.ref a), some (.int k), x, y] ∧ 0 ≤ p' ∧ 0 ≤ n' ∧ 0 ≤ m' ∧ g = put h a (.lst [.lis (ns.map .int), .int p', .int n', .int m']), ?_, ?_⟩
  · ((walk_at "dl7"); repeat (simp only [ownK, ea]; (walk_at "dl7")))
    refine sif_i (fun c => ?_) (fun c => ?_)
    · have c := of_decide_eq_true c
      subst c
      ((walk_at "dl7"); repeat (simp only [ownK, ea]; (walk_at "dl7")))
      refine ⟨fun τ g => ∃ (u m' : Int), τ = [some (.ref a), some (.int k), some (.int p), some (.int u)] ∧ 0 ≤ u ∧ 0 ≤ m' ∧ g = put h a (.lst [.lis (ns.map .int), .int p, .int 0, .int m']), ?_, ?_⟩
      · ((walk_at "dl7"); repeat (simp only [ownK, ea, List.length_map]; (walk_at "dl7")))
        refine sif_i (fun c => ?_) (fun c => ?_)
        · have c := of_decide_eq_true c
          have hp2 : p.toNat < ns.length := by omega
          have e : atI (ns.map D.int) p = some (.int ns[p.toNat]) := by
            have z : atI (ns.map D.int) ((p.toNat : Nat) : Int) = some (.int ns[p.toNat]) := atI_nat (by rw [List.getElem?_map, List.getElem?_eq_getElem hp2]; rfl)
            rwa [show ((p.toNat : Nat) : Int) = p by omega] at z
          ((walk_at "dl7"); repeat (simp only [ownK, ea]; (walk_at "dl7")))
          rw [q_ixl]
          refine ⟨_, e, ?_⟩
          walk_at "dl7"
          exact ⟨_, m, rfl, by omega, hm, by rw [put_get ea]⟩
        · ((walk_at "dl7"); repeat (simp only [ownK, ea]; (walk_at "dl7")))
          exact ⟨_, _, rfl, Int.emod_nonneg _ (by decide), Int.emod_nonneg _ (by decide), rfl⟩
      · rintro τ g ⟨u, m', rfl, hu, hm', rfl⟩
        ((walk_at "dl7"); repeat (simp only [ownK]; (walk_at "dl7")))
        refine sif_i ?_ ?_
        · intro c
          ((walk_at "dl7"); repeat (simp only [km]; (walk_at "dl7")))
          exact fin (out _ _ _ _ (by omega) (by omega) hm')
        · intro c
          ((walk_at "dl7"); repeat (simp only [ownK]; (walk_at "dl7")))
          exact ⟨_, _, _, _, _, rfl, by omega, hu, hm', rfl⟩
    · walk_at "dl7"
      exact ⟨_, _, p, n, m, rfl, hp, hn, hm, by rw [put_get ea]⟩
  · rintro τ g ⟨x, y, p', n', m', rfl, hp', hn', hm', rfl⟩
    ((walk_at "dl7"); repeat (simp only [ownK, km, k2]; (walk_at "dl7")))
    exact fin (out _ _ _ _ hp' (Int.ediv_nonneg hn' (by omega)) hm')
end K00

set_option Elab.async false
set_option linter.all false
set_option maxRecDepth 100000
/-! DU: drawing: items at a drawn place, names. -/
namespace DL
open PySem PySem.Spec PyProof.Rows L2
theorem drw {a : Addr} {k : Int} {h : DH} {Q : VK'} {E : XK'} (tp : Tp h a) (q : ∀ (r : Int) t, 0 ≤ r → r < max k 1 → TOk t → Q (.int r) (put h a t)) (hk : k < 1606938044258990275541962092341162602522202993782792835301376 := by decide) : spDraw [.ref a, .int k] h Q E :=
  ⟨a, k, rfl, tp, hk, q⟩
/-- an item at a place -/
theorem pick {α : Type} {xs : List α} {r : Int} (h0 : 0 ≤ r) (h1 : r < (xs.length : Int)) : ∃ d, atI xs r = some d ∧ d ∈ xs := by
  have hi : r.toNat < xs.length := by omega
  have z : atI xs ((r.toNat : Nat) : Int) = some xs[r.toNat] := atI_nat (List.getElem?_eq_getElem hi)
  rw [show ((r.toNat : Nat) : Int) = r by omega] at z
  exact ⟨_, z, List.getElem_mem hi⟩
theorem put3 {h : DH} {a p : Addr} {t u o : DO} (e : p ≠ a) : put (put (put h a t) p o) a u = put (put h a u) p o := by
  rw [put_comm e, put_put]
theorem tp_under {h : DH} {a p : Addr} {t o : DO} (e : p ≠ a) (ot : TOk t) : Tp (put (put h a t) p o) a := ⟨t, by rw [put_ne (Ne.symm e), put_same], ot⟩
theorem ne_put {h : DH} {a p : Addr} {t : DO} (n : put h a t p = none) : p ≠ a := fun e => by rw [e, put_same] at n; cases n
theorem free_put {h : DH} {a p : Addr} {t : DO} (n : put h a t p = none) : h p = none := by rwa [put_ne (ne_put n)] at n
theorem drwU {h : DH} {a p : Addr} {t o : DO} {k : Int} {Q : VK'} {E : XK'} (e : p ≠ a) (ot : TOk t) (q : ∀ (r : Int) t', 0 ≤ r → r < max k 1 → TOk t' → Q (.int r) (put (put h a t') p o)) (hk : k < 1606938044258990275541962092341162602522202993782792835301376 := by decide) : spDraw [.ref a, .int k] (put (put h a t) p o) Q E :=
  drw (tp_under e ot) (fun r t' a b c => by rw [put3 e]; exact q r t' a b c) hk
theorem rngD_zero {lo : Int} : rngD lo 0 = [] := rfl
theorem rngD_succ {lo : Int} {n : Nat} : rngD lo (n + 1) = .int lo :: rngD (lo + 1) n := by
  unfold rngD
  rw [List.range_succ_eq_map, List.map_cons, List.map_map]
  congr 1
  · simp
  · apply List.map_congr_left
    intro i _
    show D.int _ = D.int _
    congr 1
    simp only [Nat.succ_eq_add_one]
    omega
theorem cut_take {xs : List D} {r : Int} (h0 : 0 ≤ r) (h1 : r ≤ (xs.length : Int)) : cutD xs none (some r) = xs.take r.toNat := by
  unfold cutD
  have e : HT.sIx xs.length xs.length (some r) = r.toNat := by
    unfold HT.sIx
    simp only [show ¬ r < 0 by omega, if_false]
    omega
  rw [e, HT.sIx_none]
  rfl
theorem cut_drop {xs : List D} {r : Int} (h0 : 0 ≤ r) (h1 : r ≤ (xs.length : Int)) : cutD xs (some r) none = xs.drop r.toNat := by
  unfold cutD
  have e : HT.sIx xs.length 0 (some r) = r.toNat := by
    unfold HT.sIx
    simp only [show ¬ r < 0 by omega, if_false]
    omega
  rw [e, HT.sIx_none]
  apply List.take_of_length_le
  rw [List.length_drop]
  omega
/-- texts -/
theorem str_len (u v : Str) : (u ++ v).length = u.length + v.length := by
  show (u.cps ++ v.cps).size = _
  rw [Array.size_append]; rfl
theorem str_ok {u v : Str} (a : PyData.strOk u = true) (b : PyData.strOk v = true) : PyData.strOk (u ++ v) = true := by
  show (u.cps ++ v.cps).all _ = true
  rw [Array.all_append, Bool.and_eq_true]
  exact ⟨a, b⟩
theorem sign_ok {z : Str} {c : Nat} (a : PyData.strOk z = true) (m : c ∈ z.cps.toList) : PyData.strOk ⟨#[c]⟩ = true := by
  have a : z.cps.all _ = true := a
  rw [← Array.all_toList, List.all_eq_true] at a
  have := a c m
  show (#[c] : Array Nat).all _ = true
  simpa using this
end DL

set_option Elab.async false
set_option linter.all false
set_option maxRecDepth 100000
set_option maxHeartbeats 1000000
namespace K00
open PySem PySem.Spec PyProof.Rows L2 DL
def spNames : Sp' := fun ds h Q _ => ∃ a, ds = [.ref a] ∧ Tp h a ∧ ∀ ns t, namesOk ns → TOk t → Q (.tup (ns.map .str)) (put h a t)
def Sg (d : D) : Prop := ∃ s : Str, d = .str s ∧ PyData.strOk s = true ∧ s.length ≤ 6
theorem rd__law_names (ds : List D) (h : DH) (Q : VK') (E' : XK') (q : spNames ds h Q E') : t__law_names spDraw (ends Q) (slots n__law_names ds) h := by
  obtain ⟨a, rfl, tp, q⟩ := q
  show t__law_names _ (ends Q) [some (.ref a), none, none, none, none, none, none] h
  unfold t__law_names
  walk_at "dl7"
  refine drw tp fun r t r0 r1 ot => ?_
  rw [q_ixl]
  obtain ⟨d, e, m⟩ := pick (xs := [D.str "", .str "", .str "", .str "case", .str "a ,"]) r0 (by simp only [List.length_cons, List.length_nil]; omega)
  refine ⟨d, e, ?_⟩
  have hd : Sg d := by
    simp only [List.mem_cons, List.not_mem_nil, or_false] at m
    rcases m with rfl | rfl | rfl | rfl | rfl <;> exact ⟨_, rfl, sok_of _, by decide⟩
  obtain ⟨stem, rfl, so, sl⟩ := hd
  walk_at "dl7"
  intro p np
  have pa := ne_put np
  have nh := free_put np
  refine drwU pa ot fun r t r0 r1 ot => ?_
  walk_at "dl7"
  rw [q_ixl]
  obtain ⟨d, e, m⟩ := pick (xs := [D.int 1, .int 2, .int 2, .int 3, .int 3, .int 4]) r0 (by simp only [List.length_cons, List.length_nil]; omega)
  refine ⟨d, e, ?_⟩
  obtain ⟨j, rfl, j1, j4⟩ : ∃ j : Int, d = .int j ∧ 1 ≤ j ∧ j ≤ 4 := by
    simp only [List.mem_cons, List.not_mem_nil, or_false] at m
    rcases m with rfl | rfl | rfl | rfl | rfl | rfl <;> exact ⟨_, rfl, by decide, by decide⟩
  walk_at "dl7"
  refine ⟨by omega, by omega, ?_⟩
  have lz : (Str.ofString "abcdexyzABZ0189 !\"#$&'()*+,-./:;<=>?\x40[\\]^_{|}~").length = 46 := by decide +kernel
  have oz : PyData.strOk (Str.ofString "abcdexyzABZ0189 !\"#$&'()*+,-./:;<=>?\x40[\\]^_{|}~") = true := sok_of _
  generalize (Str.ofString "abcdexyzABZ0189 !\"#$&'()*+,-./:;<=>?\x40[\\]^_{|}~") = z at lz oz ⊢
  have hl : (rngD 0 j.toNat).length = j.toNat := by unfold rngD; rw [List.length_map, List.length_range]
  refine for_ind (fun xs τ g => ∃ (ns : List Str) (k name : Option D) (t : DO), τ = [some (.ref a), some (.str z), some (.lis [.str "none", .str "pair", .str "case", .str "some", .str "true", .str "0"]), some (.str stem), some (.ref p), k, name] ∧
    TOk t ∧ g = put (put h a t) p (.lst (ns.map .str)) ∧ ns.length + xs.length ≤ 4 ∧ (1 ≤ ns.length ∨ xs ≠ []) ∧ ∀ x ∈ ns, PyData.strOk x = true ∧ x.length ≤ 20) ?_ ?_ _ _ _ ⟨[], none, none, t, rfl, ot, rfl, by rw [hl]; simp only [List.length_nil]; omega, ?_, by simp⟩
  · rintro τ g ⟨ns, k, name, t, rfl, ot, rfl, l4, l1, ho⟩
    rw [q_fnil]
    ((walk_at "dl7"); repeat (simp only [ownK]; (walk_at "dl7")))
    refine ⟨put h a t, Sub.put Sub.refl ?_, q ns t ⟨?_, ?_, ho⟩ ot⟩
    · rw [put_ne pa]; exact nh
    · rcases l1 with l1 | l1
      · exact l1
      · exact absurd rfl l1
    · simp only [List.length_nil] at l4; omega
  · rintro x xs ih τ g ⟨ns, k, name, t, rfl, ot, rfl, l4, l1, ho⟩
    rw [q_fcons]
    walk_at "dl7"
    have sz : z.length ≤ sizeLine := by rw [lz]; decide
    refine ⟨sz, ?_⟩
    have sg : ∀ {r : Int}, 0 ≤ r → r < max (z.length : Int) 1 → ∃ c, atI z.cps.toList r = some c ∧ PyData.strOk ⟨#[c]⟩ = true := fun {r} h0 h1 => by
      obtain ⟨c, e, m⟩ := pick (xs := z.cps.toList) h0 (by
        have : z.cps.toList.length = 46 := by rw [Array.length_toList]; exact lz
        rw [this]
        rw [lz] at h1
        omega)
      exact ⟨c, e, sign_ok oz m⟩
    refine drwU pa ot (fun r t r0 r1 ot => ?_) (by rw [lz]; decide)
    walk_at "dl7"
    rw [q_ixs]
    obtain ⟨c, ec, oc⟩ := sg r0 r1
    refine ⟨sz, c, ec, ?_⟩
    have small : ∀ {n : Nat}, n ≤ 20 → n ≤ sizeLine := fun h => Nat.le_trans h (by decide)
    walk_at "dl7"
    have c1 : (⟨#[c]⟩ : Str).length = 1 := rfl
    refine ⟨small (by omega), ?_⟩
    let M : St' → DH → Prop := fun τ g => ∃ (nm : Str) (t : DO), τ = [some (.ref a), some (.str z), some (.lis [.str "none", .str "pair", .str "case", .str "some", .str "true", .str "0"]), some (.str stem), some (.ref p), some x, some (.str nm)] ∧
      PyData.strOk nm = true ∧ nm.length ≤ 8 ∧ TOk t ∧ g = put (put h a t) p (.lst (ns.map .str))
    refine ⟨M, ?_, ?_⟩
    · walk_at "dl7"
      refine drwU pa ot (fun r t r0 r1 ot => ?_)
      walk_at "dl7"
      refine sif_i (fun c => ?_) (fun c => ?_)
      · walk_at "dl7"
        refine ⟨sz, ?_⟩
        refine drwU pa ot (fun r t r0 r1 ot => ?_) (by rw [lz]; decide)
        walk_at "dl7"
        rw [q_ixs]
        obtain ⟨c', ec', oc'⟩ := sg r0 r1
        refine ⟨sz, c', ec', ?_⟩
        have c2 : (⟨#[c']⟩ : Str).length = 1 := rfl
        walk_at "dl7"
        exact ⟨small (by rw [str_len]; omega), _, _, rfl, str_ok (str_ok so oc) oc', by rw [str_len, str_len]; omega, ot, rfl⟩
      · walk_at "dl7"
        exact ⟨_, _, rfl, str_ok so oc, by rw [str_len]; omega, ot, rfl⟩
    · rintro τ g ⟨nm, t, rfl, on, ln, ot, rfl⟩
      walk_at "dl7"
      refine ⟨M, ?_, ?_⟩
      · walk_at "dl7"
        refine drwU pa ot (fun r t r0 r1 ot => ?_)
        walk_at "dl7"
        refine sif_i (fun c => ?_) (fun c => ?_)
        · walk_at "dl7"
          refine drwU pa ot (fun r t r0 r1 ot => ?_)
          walk_at "dl7"
          rw [q_ixl]
          obtain ⟨d, e, m⟩ := pick (xs := [D.str "none", .str "pair", .str "case", .str "some", .str "true", .str "0"]) r0 (by simp only [List.length_cons, List.length_nil]; omega)
          refine ⟨d, e, ?_⟩
          have hd : Sg d := by
            simp only [List.mem_cons, List.not_mem_nil, or_false] at m
            rcases m with rfl | rfl | rfl | rfl | rfl | rfl <;> exact ⟨_, rfl, sok_of _, by decide⟩
          obtain ⟨nm, rfl, on, ln⟩ := hd
          walk_at "dl7"
          exact ⟨_, _, rfl, on, by omega, ot, rfl⟩
        · walk_at "dl7"
          exact ⟨_, _, rfl, on, ln, ot, rfl⟩
      · rintro τ g ⟨nm, t, rfl, on, ln, ot, rfl⟩
        refine ⟨_, ?_, fun _ _ q => q⟩
        ((walk_at "dl7"); repeat (simp only [ownK, flat_str, inD_str]; (walk_at "dl7")))
        simp only [List.length_cons] at l4
        refine ⟨rfl, sif_i (fun c => ?_) (fun c => ?_)⟩
        · ((walk_at "dl7"); repeat (simp only [ownK]; (walk_at "dl7")))
          refine ⟨by rw [List.length_map]; exact Nat.lt_of_le_of_lt (show ns.length ≤ 4 by omega) (by decide), ?_⟩
          refine ih _ _ ⟨ns ++ [nm], _, _, t, rfl, ot, ?_, ?_, .inl ?_, ?_⟩
          · rw [List.map_append]; rfl
          · rw [List.length_append]; simp only [List.length_cons, List.length_nil]; omega
          · rw [List.length_append]; simp only [List.length_cons, List.length_nil]; omega
          · intro y hy
            rcases List.mem_append.mp hy with hy | hy
            · exact ho y hy
            · cases List.mem_singleton.mp hy; exact ⟨on, by omega⟩
        · walk_at "dl7"
          refine ih _ _ ⟨ns, _, _, t, rfl, ot, rfl, by omega, .inl ?_, ho⟩
          cases ns with
          | nil => simp at c
          | cons n ns => simp only [List.length_cons]; omega
  · refine .inr fun e => ?_
    rw [e] at hl
    simp only [List.length_nil] at hl
    omega
end K00

set_option Elab.async false
set_option linter.all false
set_option maxRecDepth 100000
set_option maxHeartbeats 1000000
namespace K00
open PySem PySem.Spec PyProof.Rows L2 DL
def spKinds (n : Nat) : Sp' := fun ds h Q _ => ∃ k, ds = [kD k] ∧ k.depth ≤ n ∧ k.cnt ≤ 100 ∧ Q (.int k.cnt) h
theorem cnts_sum (ks : List Kd) : (ks.map fun k => (k.cnt : Int)).sum = (Kd.cnts ks : Int) := by
  induction ks with
  | nil => rfl
  | cons k ks ih => simp only [List.map_cons, List.sum_cons, ih, Kd.cnts]; omega
theorem rd__law_kinds (n : Nat) (ds : List D) (h : DH) (Q : VK') (E' : XK') (q : spKinds (n + 1) ds h Q E') : t__law_kinds (spKinds n) (ends Q) (slots n__law_kinds ds) h := by
  obtain ⟨k, rfl, hk, hc, q⟩ := q
  show t__law_kinds _ (ends Q) [some (kD k), none] h
  unfold t__law_kinds
  cases k with
  | nm ns =>
    simp only [kD]
    walk_at "dl7"
    exact fin q
  | it =>
    simp only [kD]
    walk_at "dl7"
    exact fin q
  | pr a b =>
    simp only [kD]
    simp only [Kd.depth] at hk
    simp only [Kd.cnt] at hc
    walk_at "dl7"
    refine ⟨a, rfl, by omega, by omega, ?_⟩
    walk_at "dl7"
    refine ⟨b, rfl, by omega, by omega, ?_⟩
    walk_at "dl7"
    simp only [Kd.cnt] at q
    exact fin (by
      have e : (1 + (a.cnt : Int) + (b.cnt : Int)) = ((1 + a.cnt + b.cnt : Nat) : Int) := by omega
      rw [e]; exact q)
  | ei ks =>
    simp only [kD]
    simp only [Kd.depth] at hk
    simp only [Kd.cnt] at hc
    walk_at "dl7"
    rw [q_lc]
    walk_at "dl7"
    intro p np
    refine lc_ind (fun xs acc g => ∃ d r, xs = kDs r ∧ acc = d.map (fun k : Kd => D.int k.cnt) ∧ d ++ r = ks ∧ g = put h p .hid) ?_ ?_ _ _ _ ⟨[], ks, rfl, rfl, rfl, rfl⟩
    · rintro acc g ⟨d, r, e, rfl, rfl, rfl⟩
      cases r with
      | cons _ _ => cases e
      | nil =>
        rw [q_lnil]
        walk_at "dl7"
        refine ⟨d.map fun k => (k.cnt : Int), by rw [List.map_map]; rfl, ?_⟩
        ((walk_at "dl7"); repeat (simp only [del_put np]; (walk_at "dl7")))
        simp only [Kd.cnt, List.append_nil] at q
        rw [cnts_sum]
        exact fin (by
          have e : (1 + (Kd.cnts d : Int)) = ((1 + Kd.cnts d : Nat) : Int) := by omega
          rw [e]; exact q)
    · rintro x xs ih acc g ⟨d, r, e, rfl, rfl, rfl⟩
      cases r with
      | nil => cases e
      | cons k r =>
        cases e
        rw [q_lcons]
        walk_at "dl7"
        have l1 := Kd.len_cnts (d ++ k :: r)
        have l2 := Kd.cnt_mem (ks := d ++ k :: r) (k := k) (by simp)
        have l3 := Kd.depth_mem (ks := d ++ k :: r) (k := k) (by simp)
        simp only [List.length_append, List.length_cons] at l1
        refine ⟨k, rfl, by omega, by omega, ?_⟩
        walk_at "dl7"
        refine ⟨Nat.lt_of_le_of_lt (show _ ≤ 100 by rw [List.length_map]; omega) (by decide), ih _ _ ⟨d ++ [k], r, rfl, by rw [List.map_append]; rfl, by rw [List.append_assoc]; rfl, rfl⟩⟩
  | mb k =>
    simp only [kD]
    simp only [Kd.depth] at hk
    simp only [Kd.cnt] at hc
    walk_at "dl7"
    refine ⟨k, rfl, by omega, by omega, ?_⟩
    walk_at "dl7"
    simp only [Kd.cnt] at q
    exact fin (by
      have e : (1 + (k.cnt : Int)) = ((1 + k.cnt : Nat) : Int) := by omega
      rw [e]; exact q)
/-- _law_integer(tape, top): an integer -/
def spInt : Sp' := fun ds h Q _ => ∃ a top, ds = [.ref a, .int top] ∧ 0 ≤ top ∧ top ≤ 1000000 ∧ Tp h a ∧ ∀ (r : Int) t, TOk t → Q (.int r) (put h a t)
theorem rd__law_integer (ds : List D) (h : DH) (Q : VK') (E' : XK') (q : spInt ds h Q E') : t__law_integer spDraw (ends Q) (slots n__law_integer ds) h := by
  obtain ⟨a, top, rfl, h0, h1, tp, q⟩ := q
  show t__law_integer _ (ends Q) [some (.ref a), some (.int top), none, none] h
  unfold t__law_integer
  walk_at "dl7"
  refine drw tp fun c t c0 c1 ot => ?_
  walk_at "dl7"
  rw [q_ixl]
  obtain ⟨d, e, m⟩ := pick (xs := [D.int 2, .int (top + 1), .int (top + 14), .int 1000000000, .int 999999999999999999999999999901]) c0 (by simp only [List.length_cons, List.length_nil]; omega)
  refine ⟨d, e, ?_⟩
  obtain ⟨j, rfl, j1, j2⟩ : ∃ j : Int, d = .int j ∧ 0 < j ∧ j < 1606938044258990275541962092341162602522202993782792835301376 := by
    simp only [List.mem_cons, List.not_mem_nil, or_false] at m
    rcases m with rfl | rfl | rfl | rfl | rfl
    · exact ⟨_, rfl, by decide, by decide⟩
    · exact ⟨_, rfl, by omega, by omega⟩
    · exact ⟨_, rfl, by omega, by omega⟩
    · exact ⟨_, rfl, by decide, by decide⟩
    · exact ⟨_, rfl, by decide, by decide⟩
  walk_at "dl7"
  refine drw (tp_put ot) (fun r t r0 r1 ot => ?_) j2
  walk_at "dl7"
  refine ⟨fun τ g => ∃ (u : Int) (t : DO), τ = [some (.ref a), some (.int top), some (.int c), some (.int u)] ∧ TOk t ∧ g = put h a t, ?_, ?_⟩
  · walk_at "dl7"
    refine sif_i (fun c3 => ?_) (fun c3 => ?_)
    · have c3 := of_decide_eq_true c3
      subst c3
      have e3 : atI [D.int 2, .int (top + 1), .int (top + 14), .int 1000000000, .int 999999999999999999999999999901] 3 = some (.int 1000000000) := rfl
      rw [e3] at e
      cases e
      walk_at "dl7"
      refine ⟨.inl ⟨by omega, by omega⟩, ?_⟩
      refine drw (tp_put ot) (fun r2 t r0 r1 ot => ?_)
      walk_at "dl7"
      exact ⟨_, _, rfl, ot, rfl⟩
    · walk_at "dl7"
      exact ⟨_, _, rfl, ot, rfl⟩
  · rintro τ g ⟨u, t, rfl, ot, rfl⟩
    walk_at "dl7"
    refine drw (tp_put ot) (fun r t r0 r1 ot => ?_)
    walk_at "dl7"
    rw [q_ixl]
    obtain ⟨d, e, m⟩ := pick (xs := [D.int u, .int (-u)]) r0 (by simp only [List.length_cons, List.length_nil]; omega)
    refine ⟨d, e, ?_⟩
    obtain ⟨v, rfl⟩ : ∃ v : Int, d = .int v := by
      simp only [List.mem_cons, List.not_mem_nil, or_false] at m
      rcases m with rfl | rfl <;> exact ⟨_, rfl⟩
    exact fin (q v t ot)
/-- _law_kind(tape, depth, many) -/
def spKind (n : Nat) : Sp' := fun ds h Q _ => ∃ (a : Addr) (d m : Int), ds = [.ref a, .int d, .int m] ∧ 1 ≤ d ∧ d ≤ n ∧ 1 ≤ m ∧ m ≤ 100 ∧ Tp h a ∧ ∀ k t, Kd.ok k → (k.depth : Int) ≤ d → (k.cnt : Int) ≤ m → TOk t → Q (kD k) (put h a t)
theorem rd__law_kind (n : Nat) (hn : n ≤ 50) (ds : List D) (h : DH) (Q : VK') (E' : XK') (q : spKind (n + 1) ds h Q E') : t__law_kind spDraw spNames (spKind n) (spKinds 50) (ends Q) (slots n__law_kind ds) h := by
  obtain ⟨a, d, m, rfl, d1, dn, m1, m9, tp, q⟩ := q
  show t__law_kind _ _ _ _ (ends Q) [some (.ref a), some (.int d), some (.int m), none, none, none, none, none, none, none] h
  unfold t__law_kind
  walk_at "dl7"
  refine drw tp fun c t c0 c1 ot => ?_
  walk_at "dl7"
  refine sif_i (fun b1 => ?_) (fun b1 => ?_)
  · walk_at "dl7"
    refine drw (tp_put ot) fun r t r0 r1 ot => ?_
    walk_at "dl7"
    refine sif_i (fun b2 => ?_) (fun b2 => ?_)
    · walk_at "dl7"
      refine ⟨a, rfl, tp_put ot, fun ns t hns ot => ?_⟩
      walk_at "dl7"
      exact fin (q (.nm ns) t hns (by simp only [Kd.depth]; omega) (by simp only [Kd.cnt]; omega) ot)
    · walk_at "dl7"
      exact fin (q .it t trivial (by simp only [Kd.depth]; omega) (by simp only [Kd.cnt]; omega) ot)
  · simp only [Bool.or_eq_false_iff, decide_eq_false_iff_not] at b1
    walk_at "dl7"
    refine sif_i (fun b2 => ?_) (fun b2 => ?_)
    · walk_at "dl7"
      refine ⟨a, d - 1, m - 1, rfl, by omega, by omega, by omega, by omega, tp_put ot, fun k t hk kd kc ot => ?_⟩
      walk_at "dl7"
      exact fin (q (.mb k) t hk (by simp only [Kd.depth]; omega) (by simp only [Kd.cnt]; omega) ot)
    · simp only [Bool.or_eq_false_iff, decide_eq_false_iff_not] at b2
      walk_at "dl7"
      refine sif_i (fun b3 => ?_) (fun b3 => ?_)
      · walk_at "dl7"
        refine ⟨a, d - 1, m - 2, rfl, by omega, by omega, by omega, by omega, tp_put ot, fun k t hk kd kc ot => ?_⟩
        walk_at "dl7"
        refine ⟨k, rfl, by omega, by omega, ?_⟩
        walk_at "dl7"
        refine ⟨a, d - 1, m - 1 - k.cnt, rfl, by omega, by omega, by omega, by omega, tp_put ot, fun k2 t hk2 kd2 kc2 ot => ?_⟩
        walk_at "dl7"
        exact fin (q (.pr k k2) t ⟨hk, hk2⟩ (by simp only [Kd.depth]; omega) (by simp only [Kd.cnt]; omega) ot)
      · walk_at "dl7"
        refine drw (tp_put ot) (fun r t r0 r1 ot => ?_) (by omega)
        walk_at "dl7"
        intro p np
        have pa := ne_put np
        have nh := free_put np
        refine ⟨by omega, by omega, ?_⟩
        refine for_ind (fun xs τ g => ∃ (i left : Int) (rem : Nat) (dn : List Kd) (t : DO) (x y : Option D), xs = rngD i rem ∧ τ = [some (.ref a), some (.int d), some (.int m), some (.int c), none, some (.int left), some (.int (1 + r)), some (.ref p), x, y] ∧
          1 + r = i + rem ∧ (rem : Int) ≤ left ∧ (Kd.cnts dn : Int) + left = m - 1 ∧ (dn.length : Int) = i ∧ (Kd.depths dn : Int) ≤ d - 1 ∧ Kd.oks dn ∧ g = put (put h a t) p (.lst (kDs dn)) ∧ TOk t) ?_ ?_ _ _ _
          ⟨0, m - 1, (1 + r).toNat, [], t, none, none, rfl, rfl, by omega, by omega, by simp [Kd.cnts], rfl, by simp only [Kd.depths]; omega, trivial, rfl, ot⟩
        · rintro τ g ⟨i, left, rem, dn, t, x, y, e, rfl, e1, e2, e3, e4, e5, e6, rfl, ot⟩
          rw [q_fnil]
          ((walk_at "dl7"); repeat (simp only [ownK]; (walk_at "dl7")))
          have e0 : rem = 0 := by
            cases rem with
            | zero => rfl
            | succ n => rw [rngD_succ] at e; cases e
          subst e0
          exact ⟨put h a t, Sub.put Sub.refl (by rw [put_ne pa]; exact nh), q (.ei dn) t ⟨by omega, e6⟩ (by simp only [Kd.depth]; omega) (by simp only [Kd.cnt]; omega) ot⟩
        · rintro x xs ih τ g ⟨i, left, rem, dn, t, u, v, e, rfl, e1, e2, e3, e4, e5, e6, rfl, ot⟩
          cases rem with
          | zero => cases e
          | succ rem =>
            rw [rngD_succ] at e
            cases e
            rw [q_fcons]
            walk_at "dl7"
            refine ⟨a, d - 1, left - (1 + r - 1 - i), rfl, by omega, by omega, by omega, by omega, tp_under pa ot, fun k t hk kd kc ot => ?_⟩
            rw [put3 pa]
            ((walk_at "dl7"); repeat (simp only [ownK]; (walk_at "dl7")))
            have ln := Kd.len_cnts dn
            refine ⟨Nat.lt_of_le_of_lt (show _ ≤ 100 by rw [len_kDs]; omega) (by decide), ?_⟩
            refine ⟨k, rfl, by omega, by omega, ?_⟩
            walk_at "dl7"
            refine ih _ _ ⟨i + 1, left - k.cnt, rem, dn ++ [k], t, _, _, rfl, rfl, by omega, by omega, ?_, ?_, ?_, ?_, ?_, ot⟩
            · rw [Kd.cnts_app]; simp only [Kd.cnts]; omega
            · rw [List.length_append]; simp only [List.length_cons, List.length_nil]; omega
            · rw [Kd.depths_app]; simp only [Kd.depths]; omega
            · rw [Kd.oks_mem] at e6 ⊢
              intro z hz
              rcases List.mem_append.mp hz with hz | hz
              · exact e6 z hz
              · cases List.mem_singleton.mp hz; exact hk
            · rw [kDs_app]; rfl
end K00

set_option Elab.async false
set_option linter.all false
set_option maxRecDepth 100000
set_option maxHeartbeats 1000000
namespace K00
open PySem PySem.Spec PyProof.Rows L2 DL
/-- a letter of the kind, with its bounds -/
def Let (k : Kd) (v : D) : Prop := isL k v = true ∧ val v k.depth = true ∧ wid v 3 = true
/-- _law_letter(tape, kind, theory) -/
def spLetter (n : Nat) : Sp' := fun ds h Q _ => ∃ (a : Addr) (k : Kd) (top : Int) (x : D), ds = [.ref a, kD k, .tup [.int top, x]] ∧ k.ok ∧ k.depth ≤ n ∧ k.cnt ≤ 100 ∧ 0 ≤ top ∧ top ≤ 1000000 ∧ Tp h a ∧ ∀ v t, Let k v → TOk t → Q v (put h a t)
theorem let_pr {a b : Kd} {x y : D} (p : Let a x) (q : Let b y) : Let (.pr a b) (.tup [.str "pair", x, y]) := by
  obtain ⟨p1, p2, p3⟩ := p
  obtain ⟨q1, q2, q3⟩ := q
  refine ⟨?_, ?_, ?_⟩
  · simp only [isL, isStr, decide_true, Bool.true_and, p1, q1]
  · show val _ (1 + max a.depth b.depth) = true
    rw [Nat.add_comm]
    simp only [val, vals, sok_of, Bool.true_and, Bool.and_true, Bool.and_eq_true]
    exact ⟨val_mono _ _ _ (by omega) p2, val_mono _ _ _ (by omega) q2⟩
  · simp only [wid, wids, p3, q3]; rfl
theorem let_ei {ks : List Kd} {k : Kd} {x : D} {i : Int} (h0 : 0 ≤ i) (e : ks[i.toNat]? = some k) (p : Let k x) : Let (.ei ks) (.tup [.str "case", .int i, x]) := by
  obtain ⟨p1, p2, p3⟩ := p
  have m := Kd.depth_mem (List.mem_of_getElem? e)
  refine ⟨?_, ?_, ?_⟩
  · simp only [isL, isStr, isLn_get, e, decide_true, Bool.true_and, p1, decide_eq_true h0]
  · show val _ (1 + Kd.depths ks) = true
    rw [Nat.add_comm]
    simp only [val, vals, sok_of, Bool.true_and, Bool.and_true]
    exact val_mono _ _ _ m p2
  · simp only [wid, wids, p3]; rfl
theorem let_mb {k : Kd} {x : D} (p : Let k x) : Let (.mb k) (.tup [.str "some", x]) := by
  obtain ⟨p1, p2, p3⟩ := p
  refine ⟨?_, ?_, ?_⟩
  · simp only [isL, isStr, decide_true, Bool.true_and, p1]
  · show val _ (1 + k.depth) = true
    rw [Nat.add_comm]
    simp only [val, vals, sok_of, Bool.true_and, Bool.and_true]
    exact p2
  · simp only [wid, wids, p3]; rfl
theorem let_no {k : Kd} : Let (.mb k) (.tup [.str "none"]) := by
  refine ⟨by simp only [isL, isStr, decide_true], ?_, rfl⟩
  show val _ (1 + k.depth) = true
  rw [Nat.add_comm]
  simp only [val, vals, sok_of, Bool.and_true]
theorem rd__law_letter (n : Nat) (ds : List D) (h : DH) (Q : VK') (E' : XK') (q : spLetter (n + 1) ds h Q E') : t__law_letter spDraw spInt (spLetter n) (ends Q) (slots n__law_letter ds) h := by
  obtain ⟨a, k, top, x, rfl, hk, hd, hc, t0, t1, tp, q⟩ := q
  show t__law_letter _ _ _ (ends Q) [some (.ref a), some (kD k), some (.tup [.int top, x]), none, none] h
  unfold t__law_letter
  cases k with
  | nm ns =>
    simp only [kD]
    obtain ⟨n1, n4, no⟩ := hk
    walk_at "dl7"
    refine drw tp (fun r t r0 r1 ot => ?_) (by rw [List.length_map]; omega)
    walk_at "dl7"
    rw [q_ixt]
    obtain ⟨d, e, m⟩ := pick (xs := ns.map D.str) r0 (by rw [List.length_map] at r1 ⊢; omega)
    obtain ⟨s, ms, rfl⟩ := List.mem_map.mp m
    exact ⟨_, e, fin (q (.str s) t ⟨by simpa [isL] using ms, (no s ms).1, rfl⟩ ot)⟩
  | it =>
    simp only [kD]
    walk_at "dl7"
    exact ⟨a, top, rfl, t0, t1, tp, fun r t ot => fin (q (.int r) t ⟨rfl, rfl, rfl⟩ ot)⟩
  | pr k1 k2 =>
    simp only [kD]
    simp only [Kd.depth] at hd
    simp only [Kd.cnt] at hc
    walk_at "dl7"
    refine ⟨a, k1, top, x, rfl, hk.1, by omega, by omega, t0, t1, tp, fun u t lu ot => ?_⟩
    walk_at "dl7"
    refine ⟨a, k2, top, x, rfl, hk.2, by omega, by omega, t0, t1, tp_put ot, fun v t lv ot => ?_⟩
    walk_at "dl7"
    exact fin (q _ t (let_pr lu lv) ot)
  | ei ks =>
    simp only [kD]
    simp only [Kd.depth] at hd
    simp only [Kd.cnt] at hc
    have ln := Kd.len_cnts ks
    have l1 : 1 ≤ ks.length := hk.1
    walk_at "dl7"
    refine drw tp (fun r t r0 r1 ot => ?_) (by rw [len_kDs]; omega)
    rw [len_kDs] at r1
    have hr : r.toNat < ks.length := by omega
    have eg := List.getElem?_eq_getElem hr
    have mk := List.getElem_mem hr
    have m1 := Kd.depth_mem mk
    have m2 := Kd.cnt_mem mk
    walk_at "dl7"
    rw [q_ixt]
    refine ⟨_, atI_kDs r0 eg, ?_⟩
    refine ⟨a, ks[r.toNat], top, x, rfl, Kd.oks_mem.mp hk.2 _ mk, by omega, by omega, t0, t1, tp_put ot, fun v t lv ot => ?_⟩
    walk_at "dl7"
    exact fin (q _ t (let_ei r0 eg lv) ot)
  | mb k =>
    simp only [kD]
    simp only [Kd.depth] at hd
    simp only [Kd.cnt] at hc
    walk_at "dl7"
    refine drw tp (fun r t r0 r1 ot => ?_)
    walk_at "dl7"
    refine sif_i (fun c => ?_) (fun c => ?_)
    · walk_at "dl7"
      exact fin (q _ t let_no ot)
    · walk_at "dl7"
      refine ⟨a, k, top, x, rfl, hk, by omega, by omega, t0, t1, tp_put ot, fun v t lv ot => ?_⟩
      walk_at "dl7"
      exact fin (q _ t (let_mb lv) ot)
/-- _law_wild(tape, depth) -/
def spWild (n : Nat) : Sp' := fun ds h Q _ => ∃ (a : Addr) (d : Int), ds = [.ref a, .int d] ∧ 0 ≤ d ∧ d < n ∧ Tp h a ∧ ∀ v t, val v d.toNat = true → wid v 3 = true → TOk t → Q v (put h a t)
theorem rd__law_wild (n : Nat) (ds : List D) (h : DH) (Q : VK') (E' : XK') (q : spWild (n + 1) ds h Q E') : t__law_wild spDraw spInt (spWild n) (ends Q) (slots n__law_wild ds) h := by
  obtain ⟨a, d, rfl, h0, hd, tp, q⟩ := q
  show t__law_wild _ _ _ (ends Q) [some (.ref a), some (.int d), none, none] h
  unfold t__law_wild
  walk_at "dl7"
  refine drw tp (fun c t c0 c1 ot => ?_)
  walk_at "dl7"
  refine sif_i (fun b => ?_) (fun b => ?_)
  · walk_at "dl7"
    refine drw (tp_put ot) (fun r t r0 r1 ot => ?_)
    walk_at "dl7"
    rw [q_ixl]
    obtain ⟨v, e, m⟩ := pick (xs := [D.bl true, .bl false, .non]) r0 (by simp only [List.length_cons, List.length_nil]; omega)
    refine ⟨v, e, fin (q v t ?_ ?_ ot)⟩ <;> (simp only [List.mem_cons, List.not_mem_nil, or_false] at m; rcases m with rfl | rfl | rfl <;> rfl)
  · walk_at "dl7"
    refine sif_i (fun b2 => ?_) (fun b2 => ?_)
    · walk_at "dl7"
      refine ⟨a, 20, rfl, by decide, by decide, tp_put ot, fun u t ot => ?_⟩
      walk_at "dl7"
      refine drw (tp_put ot) (fun r t r0 r1 ot => ?_)
      walk_at "dl7"
      rw [q_ixl]
      obtain ⟨v, e, m⟩ := pick (xs := [D.int 0, .int 1, .int 2, .int (-1), .int u]) r0 (by simp only [List.length_cons, List.length_nil]; omega)
      refine ⟨v, e, fin (q v t ?_ ?_ ot)⟩ <;> (simp only [List.mem_cons, List.not_mem_nil, or_false] at m; rcases m with rfl | rfl | rfl | rfl | rfl <;> rfl)
    · walk_at "dl7"
      refine sif_i (fun b3 => ?_) (fun b3 => ?_)
      · walk_at "dl7"
        refine drw (tp_put ot) (fun r t r0 r1 ot => ?_)
        walk_at "dl7"
        rw [q_ixl]
        obtain ⟨v, e, m⟩ := pick (xs := [D.str "pair", .str "case", .str "some", .str "none", .str "a", .str ""]) r0 (by simp only [List.length_cons, List.length_nil]; omega)
        refine ⟨v, e, fin (q v t ?_ ?_ ot)⟩ <;> (simp only [List.mem_cons, List.not_mem_nil, or_false] at m; rcases m with rfl | rfl | rfl | rfl | rfl | rfl <;> first | exact sok_of _ | rfl)
      · simp only [Bool.or_eq_false_iff, decide_eq_false_iff_not] at b3
        walk_at "dl7"
        rw [q_lc]
        walk_at "dl7"
        refine drw (tp_put ot) (fun r t r0 r1 ot => ?_)
        walk_at "dl7"
        refine ⟨by omega, by omega, fun p np => ?_⟩
        have pa := ne_put np
        have nh := free_put np
        refine lc_ind (fun xs acc g => ∃ (i : Int) (rem : Nat) (t : DO), xs = rngD i rem ∧ acc.length + rem ≤ 3 ∧ (∀ v ∈ acc, val v (d - 1).toNat = true ∧ wid v 3 = true) ∧ g = put (put h a t) p .hid ∧ TOk t) ?_ ?_ _ _ _
          ⟨0, r.toNat, t, rfl, by simp only [List.length_nil]; omega, by simp, rfl, ot⟩
        · rintro acc g ⟨i, rem, t, e, hl, ha, rfl, ot⟩
          have e0 : rem = 0 := by
            cases rem with
            | zero => rfl
            | succ n => rw [rngD_succ] at e; cases e
          subst e0
          rw [q_lnil]
          walk_at "dl7"
          have npt : put h a t p = none := by rw [put_ne pa]; exact nh
          rw [del_put npt]
          refine fin (q (.tup acc) t ?_ ?_ ot)
          · rw [show d.toNat = (d - 1).toNat + 1 by omega]
            simp only [val]
            exact vals_mem.mpr fun x hx => (ha x hx).1
          · simp only [wid, Bool.and_eq_true, decide_eq_true_eq]
            exact ⟨by omega, wids_mem.mpr fun x hx => (ha x hx).2⟩
        · rintro x xs ih acc g ⟨i, rem, t, e, hl, ha, rfl, ot⟩
          cases rem with
          | zero => cases e
          | succ rem =>
            rw [rngD_succ] at e
            cases e
            rw [q_lcons]
            walk_at "dl7"
            refine ⟨a, d - 1, rfl, by omega, by omega, tp_under pa ot, fun v t hv hw ot => ?_⟩
            rw [put3 pa]
            refine ⟨Nat.lt_of_le_of_lt (show _ ≤ 3 by omega) (by decide), ih _ _ ⟨i + 1, rem, t, rfl, ?_, ?_, rfl, ot⟩⟩
            · rw [List.length_append]; simp only [List.length_cons, List.length_nil]; omega
            · intro y hy
              rcases List.mem_append.mp hy with hy | hy
              · exact ha y hy
              · cases List.mem_singleton.mp hy; exact ⟨hv, hw⟩
end K00

set_option Elab.async false
set_option linter.all false
set_option maxRecDepth 100000
set_option maxHeartbeats 1000000
namespace K00
open PySem PySem.Spec PyProof.Rows L2 DL
/-- _law_spoilt(tape, value) -/
def spSpoilt (n : Nat) : Sp' := fun ds h Q _ => ∃ (a : Addr) (v : D) (m w : Nat), ds = [.ref a, v] ∧ val v m = true ∧ m < n ∧ wid v w = true ∧ 3 ≤ w ∧ w ≤ 1000 ∧ Tp h a ∧ ∀ u t, val u (m + 1) = true → wid u (w + 1) = true → TOk t → Q u (put h a t)
theorem rd__law_spoilt (n : Nat) (ds : List D) (h : DH) (Q : VK') (E' : XK') (q : spSpoilt (n + 1) ds h Q E') : t__law_spoilt spDraw (spSpoilt n) sp_is_integer (spWild 5) (ends Q) (slots n__law_spoilt ds) h := by
  obtain ⟨a, v, m, w, rfl, hv, hm, hw, w3, w9, tp, q⟩ := q
  show t__law_spoilt _ _ _ _ (ends Q) [some (.ref a), some v, none, none] h
  unfold t__law_spoilt
  have small : ∀ {n : Nat}, n ≤ 2002 → n ≤ sizeLine := fun h => Nat.le_trans h (by decide)
  walk_at "dl7"
  refine drw tp (fun c t c0 c1 ot => ?_)
  walk_at "dl7"
  have wild : ∀ {t : DO} {E : XK'}, TOk t → spWild 5 [.ref a, .int 1] (put h a t) (ends Q).rt E := fun {t E} ot =>
    ⟨a, 1, rfl, by decide, by decide, tp_put ot, fun u t hu wu ot => by
      rw [put_put]
      exact fin (q u t (val_mono _ _ _ (by simp only [show Int.toNat 1 = 1 from rfl]; omega) hu) (wid_mono _ _ _ (by omega) wu) ot)⟩
  cases v with
  | scr _ => simp [val] at hv
  | ref _ => simp [val] at hv
  | ty _ => simp [val] at hv
  | lis _ => simp [val] at hv
  | tup xs =>
    simp only [wid, Bool.and_eq_true, decide_eq_true_eq] at hw
    obtain ⟨m', rfl, hv⟩ : ∃ m', m = m' + 1 ∧ vals xs m' = true := by
      cases m with
      | zero => simp [val] at hv
      | succ m => exact ⟨m, rfl, by simpa [val] using hv⟩
    have hv' := vals_mem.mp hv
    have hw' := wids_mem.mp hw.2
    -- what is left of the tuple, with something in it
    have res : ∀ (ys : List D) (t : DO), (∀ y ∈ ys, val y (m' + 1) = true ∧ wid y (w + 1) = true) → ys.length ≤ w + 1 → TOk t → Q (.tup ys) (put h a t) := fun ys t hy hl ot =>
      q (.tup ys) t (by simp only [val]; exact vals_mem.mpr fun y z => (hy y z).1) (by simp only [wid, Bool.and_eq_true, decide_eq_true_eq]; exact ⟨hl, wids_mem.mpr fun y z => (hy y z).2⟩) ot
    have old : ∀ y ∈ xs, val y (m' + 1) = true ∧ wid y (w + 1) = true := fun y hy => ⟨val_mono _ _ _ (by omega) (hv' y hy), wid_mono _ _ _ (by omega) (hw' y hy)⟩
    walk_at "dl7"
    refine sif_i (fun b => ?_) (fun b => ?_)
    · have b := of_decide_eq_true b
      walk_at "dl7"
      refine sif_i (fun b2 => ?_) (fun b2 => ?_)
      · walk_at "dl7"
        refine drw (tp_put ot) (fun r t r0 r1 ot => ?_) (by omega)
        have r1 : r < (xs.length : Int) := by omega
        have e1 : cutD xs none (some r) = xs.take r.toNat := cut_take r0 (by omega)
        have e2 : cutD xs (some (r + 1)) none = xs.drop (r + 1).toNat := cut_drop (by omega) (by omega)
        have l1 : (xs.take r.toNat).length = r.toNat := by rw [List.length_take]; omega
        have l2 : (xs.drop (r + 1).toNat).length + r.toNat + 1 = xs.length := by rw [List.length_drop]; omega
        walk_at "dl7"
        refine sif_i (fun b3 => ?_) (fun b3 => ?_)
        · walk_at "dl7"
          rw [q_ixt]
          obtain ⟨x, ex, mx⟩ := pick r0 r1
          refine ⟨x, ex, a, x, m', w, rfl, hv' x mx, by omega, hw' x mx, w3, w9, tp_put ot, fun u t hu wu ot => ?_⟩
          ((walk_at "dl7"); repeat (simp only [e1, e2, List.length_append]; (walk_at "dl7")))
          refine ⟨small (by omega), small (by omega), fin (res _ t ?_ ?_ ot)⟩
          · intro y hy
            simp only [List.mem_append, List.mem_cons, List.not_mem_nil, or_false] at hy
            rcases hy with (hy | rfl) | hy
            · exact old y (List.mem_of_mem_take hy)
            · exact ⟨hu, wu⟩
            · exact old y (List.mem_of_mem_drop hy)
          · simp only [List.length_append, List.length_cons, List.length_nil]; omega
        · walk_at "dl7"
          refine sif_i (fun b4 => ?_) (fun b4 => ?_)
          · ((walk_at "dl7"); repeat (simp only [e1, e2]; (walk_at "dl7")))
            refine ⟨small (by omega), fin (res _ t ?_ ?_ ot)⟩
            · intro y hy
              rcases List.mem_append.mp hy with hy | hy
              · exact old y (List.mem_of_mem_take hy)
              · exact old y (List.mem_of_mem_drop hy)
            · rw [List.length_append]; omega
          · walk_at "dl7"
            refine ⟨small (by omega), fin (res _ t ?_ ?_ ot)⟩
            · intro y hy
              rcases List.mem_append.mp hy with hy | hy
              · exact old y hy
              · cases List.mem_singleton.mp hy; exact ⟨rfl, rfl⟩
            · rw [List.length_append]; simp only [List.length_cons, List.length_nil]; omega
      · walk_at "dl7"
        refine ⟨_, rfl, rfl, ?_⟩
        ((walk_at "dl7"); repeat (simp only [isInt]; (walk_at "dl7")))
        exact wild ot
    · walk_at "dl7"
      refine ⟨_, rfl, rfl, ?_⟩
      ((walk_at "dl7"); repeat (simp only [isInt]; (walk_at "dl7")))
      exact wild ot
  | int i =>
    walk_at "dl7"
    refine ⟨.int i, rfl, rfl, ?_⟩
    ((walk_at "dl7"); repeat (simp only [isInt]; (walk_at "dl7")))
    refine sif_i (fun b => ?_) (fun b => ?_)
    · walk_at "dl7"
      refine sif_i (fun b2 => ?_) (fun b2 => ?_)
      · walk_at "dl7"
        refine sif_i (fun b3 => ?_) (fun b3 => ?_)
        · have b3 := of_decide_eq_true b3
          walk_at "dl7"
          rw [q_ixl]
          obtain ⟨v, e, m⟩ := pick (xs := [D.bl (decide (i = 1)), .bl (decide (i = 1)), .int (-1), .int (i - 3), .int (i + 1)]) c0 (by simp only [List.length_cons, List.length_nil]; omega)
          refine ⟨v, e, fin (q v t ?_ ?_ ot)⟩ <;> (simp only [List.mem_cons, List.not_mem_nil, or_false] at m; rcases m with rfl | rfl | rfl | rfl | rfl <;> rfl)
        · walk_at "dl7"
          exact wild ot
      · walk_at "dl7"
        exact wild ot
    · walk_at "dl7"
      exact wild ot
  | _ =>
    walk_at "dl7"
    refine ⟨_, rfl, rfl, ?_⟩
    ((walk_at "dl7"); repeat (simp only [isInt]; (walk_at "dl7")))
    exact wild ot
end K00

set_option Elab.async false
set_option linter.all false
set_option maxRecDepth 100000
set_option maxHeartbeats 1000000
namespace K00
open PySem PySem.Spec PyProof.Rows L2 DL
/-- a tuple that does not begin with a text is no letter -/
theorem isL_ns {k : Kd} {t : D} {xs : List D} (h : instD t "str" = false) (hk : (∃ a b, k = .pr a b) ∨ (∃ ks, k = .ei ks) ∨ ∃ k', k = .mb k') : isL k (.tup (t :: xs)) = false := by
  have z : ∀ s, isStr t s = false := fun s => by
    cases t with
    | str _ => simp [instD] at h
    | _ => rfl
  rcases hk with ⟨a, b, rfl⟩ | ⟨ks, rfl⟩ | ⟨k', rfl⟩
  · match xs with
    | [x, y] => simp only [isL, z, Bool.false_and]
    | [] => rfl
    | [_] => rfl
    | _ :: _ :: _ :: _ => rfl
  · by_cases hl : xs.length = 2
    · match xs, hl with
      | [x, y], _ =>
        cases x with
        | int i => simp only [isL, z, Bool.false_and]
        | _ => rfl
    · exact isL_ei (by simp only [List.length_cons]; omega)
  · match xs with
    | [] => simp only [isL, z]
    | [x] => simp only [isL, z, Bool.false_and]
    | _ :: _ :: _ => rfl
theorem rd__law_is_letter (n : Nat) (ds : List D) (h : DH) (Q : VK') (E' : XK') (q : sp_is_letter (n + 1) ds h Q E') : t__law_is_letter sp_is_integer (sp_is_letter n) (ends Q) (slots n__law_is_letter ds) h := by
  obtain ⟨k, v, rfl, hk, hv, q⟩ := q
  show t__law_is_letter _ _ (ends Q) [some (kD k), some v] h
  unfold t__law_is_letter
  have pv := val_plain hv
  cases k with
  | nm ns =>
    simp only [kD]
    cases v with
    | str x =>
      ((walk_at "dl7"); repeat (simp only [flat_str, inD_str]; (walk_at "dl7")))
      exact ⟨rfl, fin q⟩
    | scr _ => cases pv
    | ref _ => cases pv
    | ty _ => cases pv
    | _ => walk_at "dl7"; exact fin q
  | it =>
    simp only [kD]
    walk_at "dl7"
    refine ⟨v, rfl, pv, fin ?_⟩
    cases v <;> exact q
  | pr a b =>
    simp only [kD]
    have hd : a.depth ≤ n ∧ b.depth ≤ n := by simp only [Kd.depth] at hk; omega
    cases v with
    | tup xs =>
      cases xs with
      | nil => walk_at "dl7"; exact fin q
      | cons t xs =>
        have e0 : decide (((xs.length + 1 : Nat) : Int) = 0) = false := decide_eq_false (by omega)
        simp only [val, vals, Bool.and_eq_true] at hv
        ((walk_at "dl7"); repeat (simp only [e0, val_plain hv.1]; (walk_at "dl7")))
        cases ht : instD t "str" with
        | false =>
          walk_at "dl7"
          rw [isL_ns ht (.inl ⟨a, b, rfl⟩)] at q
          exact fin q
        | true =>
          ((walk_at "dl7"); repeat (simp only [neS (val_ok hv.1)]; (walk_at "dl7")))
          refine sif_i (fun c => ?_) (fun c => ?_)
          · rw [Bool.not_eq_true'] at c
            have z : isL (.pr a b) (.tup (t :: xs)) = false := by
              match xs with
              | [x, y] => simp only [isL, c, Bool.false_and]
              | [] => rfl
              | [_] => rfl
              | _ :: _ :: _ :: _ => rfl
            rw [z] at q
            walk_at "dl7"
            exact fin q
          · rw [Bool.not_eq_false'] at c
            by_cases hl : xs.length = 2
            · match xs, hl, hv, q with
              | [x, y], _, hv, q =>
                simp only [vals, Bool.and_eq_true] at hv
                walk_at "dl7"
                refine ⟨a, x, rfl, hd.1, val_mono _ _ _ (by decide) hv.2.1, ?_⟩
                walk_at "dl7"
                refine sif_i (fun c2 => ?_) (fun c2 => ?_)
                · walk_at "dl7"
                  refine ⟨b, y, rfl, hd.2, val_mono _ _ _ (by decide) hv.2.2.1, fin ?_⟩
                  simp only [isL, c, c2, Bool.true_and] at q
                  exact q
                · simp only [isL, c, c2, Bool.true_and, Bool.false_and] at q
                  exact fin q
            · have e3 : decide (((xs.length + 1 : Nat) : Int) = 3) = false := decide_eq_false (by omega)
              ((walk_at "dl7"); repeat (simp only [e3]; (walk_at "dl7")))
              rw [isL_pr (by simp only [List.length_cons]; omega)] at q
              exact fin q
    | scr _ => cases pv
    | ref _ => cases pv
    | ty _ => cases pv
    | _ => walk_at "dl7"; exact fin q
  | ei ks =>
    simp only [kD]
    have hd : Kd.depths ks ≤ n := by simp only [Kd.depth] at hk; omega
    cases v with
    | tup xs =>
      cases xs with
      | nil => walk_at "dl7"; exact fin q
      | cons t xs =>
        have e0 : decide (((xs.length + 1 : Nat) : Int) = 0) = false := decide_eq_false (by omega)
        simp only [val, vals, Bool.and_eq_true] at hv
        ((walk_at "dl7"); repeat (simp only [e0, val_plain hv.1]; (walk_at "dl7")))
        cases ht : instD t "str" with
        | false =>
          walk_at "dl7"
          rw [isL_ns ht (.inr (.inl ⟨ks, rfl⟩))] at q
          exact fin q
        | true =>
          ((walk_at "dl7"); repeat (simp only [neS (val_ok hv.1)]; (walk_at "dl7")))
          refine sif_i (fun c => ?_) (fun c => ?_)
          · rw [Bool.not_eq_true'] at c
            have z : isL (.ei ks) (.tup (t :: xs)) = false := by
              by_cases hl : xs.length = 2
              · match xs, hl with
                | [x, y], _ =>
                  cases x with
                  | int i => simp only [isL, c, Bool.false_and]
                  | _ => rfl
              · exact isL_ei (by simp only [List.length_cons]; omega)
            rw [z] at q
            walk_at "dl7"
            exact fin q
          · rw [Bool.not_eq_false'] at c
            by_cases hl : xs.length = 2
            · match xs, hl, hv, q with
              | [x, y], _, hv, q =>
                simp only [vals, Bool.and_eq_true] at hv
                walk_at "dl7"
                refine ⟨x, rfl, val_plain hv.2.1, ?_⟩
                cases x with
                | int i =>
                  ((walk_at "dl7"); repeat (simp only [isInt, len_kDs]; (walk_at "dl7")))
                  refine sif_i (fun b => ?_) (fun b => ?_)
                  · have b := of_decide_eq_true b
                    have z : isL (.ei ks) (.tup [t, .int i, y]) = false := by simp only [isL, decide_eq_false (show ¬ 0 ≤ i by omega), Bool.false_and, Bool.and_false]
                    rw [z] at q
                    walk_at "dl7"
                    exact fin q
                  · have b := of_decide_eq_false b
                    ((walk_at "dl7"); repeat (simp only [len_kDs]; (walk_at "dl7")))
                    refine sif_i (fun b2 => ?_) (fun b2 => ?_)
                    · have b2 := of_decide_eq_true b2
                      have z : isL (.ei ks) (.tup [t, .int i, y]) = false := by
                        simp only [isL, isLn_get, List.getElem?_eq_none (show ks.length ≤ i.toNat by omega), Bool.and_false]
                      rw [z] at q
                      walk_at "dl7"
                      exact fin q
                    · have b2 := of_decide_eq_false b2
                      have hi : i.toNat < ks.length := by omega
                      have eg := List.getElem?_eq_getElem hi
                      walk_at "dl7"
                      rw [q_ixt]
                      refine ⟨_, atI_kDs (by omega) eg, ?_⟩
                      refine ⟨_, y, rfl, Nat.le_trans (Kd.depth_mem (List.getElem_mem hi)) hd, val_mono _ _ _ (by decide) hv.2.2.1, fin ?_⟩
                      simp only [isL, c, isLn_get, eg, Bool.true_and, decide_eq_true (show 0 ≤ i by omega)] at q
                      exact q
                | _ => ((walk_at "dl7"); repeat (simp only [isInt]; (walk_at "dl7"))); exact fin q
            · have e3 : decide (((xs.length + 1 : Nat) : Int) = 3) = false := decide_eq_false (by omega)
              ((walk_at "dl7"); repeat (simp only [e3]; (walk_at "dl7")))
              rw [isL_ei (by simp only [List.length_cons]; omega)] at q
              exact fin q
    | scr _ => cases pv
    | ref _ => cases pv
    | ty _ => cases pv
    | _ => walk_at "dl7"; exact fin q
  | mb k =>
    simp only [kD]
    have hd : k.depth ≤ n := by simp only [Kd.depth] at hk; omega
    cases v with
    | tup xs =>
      cases xs with
      | nil => walk_at "dl7"; exact fin q
      | cons t xs =>
        have e0 : decide (((xs.length + 1 : Nat) : Int) = 0) = false := decide_eq_false (by omega)
        simp only [val, vals, Bool.and_eq_true] at hv
        ((walk_at "dl7"); repeat (simp only [e0, val_plain hv.1]; (walk_at "dl7")))
        cases ht : instD t "str" with
        | false =>
          walk_at "dl7"
          rw [isL_ns ht (.inr (.inr ⟨k, rfl⟩))] at q
          exact fin q
        | true =>
          ((walk_at "dl7"); repeat (simp only [eqS (val_ok hv.1)]; (walk_at "dl7")))
          refine sif_i (fun c => ?_) (fun c => ?_)
          · have z : isL (.mb k) (.tup (t :: xs)) = decide (((xs.length + 1 : Nat) : Int) = 1) := by
              match xs with
              | [] => simp only [isL, c]; rfl
              | [x] =>
                have e : isStr t "some" = false := by
                  cases t with
                  | str s =>
                    simp only [isStr, decide_eq_true_eq] at c
                    subst c
                    simp only [isStr, ofStr_inj, String.reduceEq, decide_false]
                  | _ => rfl
                simp only [isL, e, Bool.false_and]
                exact (decide_eq_false (by simp only [List.length_cons, List.length_nil]; omega)).symm
              | x :: y :: r => exact (isL_mb (by simp only [List.length_cons]; omega) (by simp only [List.length_cons]; omega)).trans (decide_eq_false (by simp only [List.length_cons]; omega)).symm
            rw [z] at q
            walk_at "dl7"
            exact fin q
          · ((walk_at "dl7"); repeat (simp only [eqS (val_ok hv.1)]; (walk_at "dl7")))
            refine sif_i (fun c2 => ?_) (fun c2 => ?_)
            · by_cases hl : xs.length = 1
              · match xs, hl, hv, q with
                | [x], _, hv, q =>
                  simp only [vals, Bool.and_eq_true] at hv
                  walk_at "dl7"
                  refine ⟨k, x, rfl, hd, val_mono _ _ _ (by decide) hv.2.1, fin ?_⟩
                  simp only [isL, c2, Bool.true_and] at q
                  exact q
              · have e3 : decide (((xs.length + 1 : Nat) : Int) = 2) = false := decide_eq_false (by omega)
                ((walk_at "dl7"); repeat (simp only [e3]; (walk_at "dl7")))
                have z : isL (.mb k) (.tup (t :: xs)) = false := by
                  match xs with
                  | [] => simp only [isL, c]
                  | [x] => exact absurd rfl hl
                  | x :: y :: r => exact isL_mb (by simp only [List.length_cons]; omega) (by simp only [List.length_cons]; omega)
                rw [z] at q
                exact fin q
            · have z : isL (.mb k) (.tup (t :: xs)) = false := by
                match xs with
                | [] => simp only [isL, c]
                | [x] => simp only [isL, c2, Bool.false_and]
                | x :: y :: r => exact isL_mb (by simp only [List.length_cons]; omega) (by simp only [List.length_cons]; omega)
              rw [z] at q
              exact fin q
    | scr _ => cases pv
    | ref _ => cases pv
    | ty _ => cases pv
    | _ => walk_at "dl7"; exact fin q
end K00

set_option Elab.async false
set_option linter.all false
set_option maxRecDepth 100000
set_option maxHeartbeats 1000000
namespace K00
open PySem PySem.Spec PyProof.Rows L2 DL
theorem rd_law (ds : List D) (h : DH) (Q : VK') (E' : XK') (q : spLaw ds h Q E') : t_law spTape (spKind 3) (spLetter 3) (spSpoilt 5) (spWild 5) spDraw (sp_is_letter 3) (sp_is_letter 3) (ends Q) (slots n_law ds) h := by
  obtain ⟨ns, rfl, hl, hn, q⟩ := q
  show t_law _ _ _ _ _ _ _ _ (ends Q) [some (.scr ns), none, none, none, none, none, none, none, none, none] h
  unfold t_law
  have done : ∀ h', (ends Q).rt (.bl true) h' := fun h' => fin (q h')
  walk_at "dl7"
  refine ⟨ns, rfl, fun a t na ot => ?_⟩
  walk_at "dl7"
  refine ⟨a, 3, 6, rfl, by decide, by decide, by decide, by decide, tp_put ot, fun k t hk kd kc ot => ?_⟩
  walk_at "dl7"
  refine ⟨a, 3, 6, rfl, by decide, by decide, by decide, by decide, tp_put ot, fun k2 t hk2 kd2 kc2 ot => ?_⟩
  walk_at "dl7"
  have kd : k.depth ≤ 3 := by omega
  have kd2 : k2.depth ≤ 3 := by omega
  refine ⟨a, k, 20, .int 12, rfl, hk, kd, by omega, by decide, by decide, tp_put ot, fun l t ⟨_, lv, lw⟩ ot => ?_⟩
  walk_at "dl7"
  refine ⟨a, l, 3, 3, rfl, val_mono _ _ _ kd lv, by decide, lw, by decide, by decide, tp_put ot, fun s t sv sw ot => ?_⟩
  walk_at "dl7"
  refine ⟨a, s, 4, 4, rfl, sv, by decide, sw, by decide, by decide, tp_put ot, fun s2 t sv2 sw2 ot => ?_⟩
  walk_at "dl7"
  refine ⟨a, k2, 20, .int 12, rfl, hk2, kd2, by omega, by decide, by decide, tp_put ot, fun l2 t ⟨_, lv2, lw2⟩ ot => ?_⟩
  walk_at "dl7"
  refine ⟨a, 2, rfl, by decide, by decide, tp_put ot, fun w t wv ww ot => ?_⟩
  walk_at "dl7"
  refine drw (tp_put ot) (fun r t r0 r1 ot => ?_)
  walk_at "dl7"
  rw [q_ixl]
  obtain ⟨b, e, m⟩ := pick (xs := [D.bl true, .bl false, .non]) r0 (by simp only [List.length_cons, List.length_nil]; omega)
  refine ⟨b, e, ?_⟩
  have bv : val b 40 = true := by
    simp only [List.mem_cons, List.not_mem_nil, or_false] at m
    rcases m with rfl | rfl | rfl <;> rfl
  walk_at "dl7"
  have vs : ∀ x ∈ [l, s, s2, l2, w] ++ [b, l], val x 40 = true := by
    intro x hx
    simp only [List.cons_append, List.nil_append, List.mem_cons, List.not_mem_nil, or_false] at hx
    rcases hx with rfl | rfl | rfl | rfl | rfl | rfl | rfl
    · exact val_mono _ _ _ (by omega) lv
    · exact val_mono _ _ _ (by omega) sv
    · exact val_mono _ _ _ (by omega) sv2
    · exact val_mono _ _ _ (by omega) lv2
    · exact val_mono _ _ _ (by simp only [show Int.toNat 2 = 2 from rfl]; omega) wv
    · exact bv
    · exact val_mono _ _ _ (by omega) lv
  have check : ∀ (x : D), val x 40 = true → ∀ (kk : Kd), kk.depth ≤ 3 → ∀ {g : DH} {E : XK'} {R : VK'}, R (.bl (isL kk x)) g → sp_is_letter 3 [kD kk, x] g R E := fun x hx kk hd {g E R} q => ⟨kk, x, rfl, hd, hx, q⟩
  refine for_ind (fun xs τ g => (∀ x ∈ xs, val x 40 = true) ∧ ∃ x7 x8 x9 : Option D, τ = [some (.scr ns), some (.ref a), some (kD k), some (kD k2), some l, some s, some (.lis ([l, s, s2, l2, w] ++ [b, l])), x7, x8, x9]) ?_ ?_ _ _ _ ⟨vs, none, none, none, rfl⟩
  · rintro τ g ⟨_, x7, x8, x9, rfl⟩
    rw [q_fnil]
    walk_at "dl7"
    exact done g
  · rintro x xs ih τ g ⟨hx, x7, x8, x9, rfl⟩
    rw [q_fcons]
    walk_at "dl7"
    have xv := hx x List.mem_cons_self
    refine for_ind (fun ys τ g => (∀ y ∈ ys, ∃ kk : Kd, y = kD kk ∧ kk.depth ≤ 3) ∧ ∃ x8 x9 : Option D, τ = [some (.scr ns), some (.ref a), some (kD k), some (kD k2), some l, some s, some (.lis ([l, s, s2, l2, w] ++ [b, l])), some x, x8, x9]) ?_ ?_ _ _ _ ⟨?_, x8, x9, rfl⟩
    · rintro τ g ⟨_, x8, x9, rfl⟩
      rw [q_fnil]
      walk_at "dl7"
      exact ih _ _ ⟨fun y hy => hx y (List.mem_cons_of_mem _ hy), _, _, _, rfl⟩
    · rintro y ys ih2 τ g ⟨hy, x8, x9, rfl⟩
      obtain ⟨kk, rfl, hd⟩ := hy y List.mem_cons_self
      rw [q_fcons]
      walk_at "dl7"
      refine check x xv kk hd ?_
      walk_at "dl7"
      refine check x xv kk hd ?_
      walk_at "dl7"
      exact ih2 _ _ ⟨fun z hz => hy z (List.mem_cons_of_mem _ hz), _, _, rfl⟩
    · intro y hy
      simp only [List.mem_cons, List.not_mem_nil, or_false] at hy
      rcases hy with rfl | rfl | rfl
      · exact ⟨k, rfl, kd⟩
      · exact ⟨k2, rfl, kd2⟩
      · exact ⟨k, rfl, kd⟩
end K00

set_option Elab.async false
set_option linter.all false
set_option maxRecDepth 100000
set_option maxHeartbeats 1000000
namespace K01
open PySem PySem.Spec PyProof.Rows L2 DL K00
section
variable {τ : St'} {h : DH} {Q : VK'} {D' : Ends'}
theorem q_raise {E : XK'} {c : Value} : traise E c D' τ h = E c h := id rfl
theorem q_bmT {r : DM} {to : TE'} {ta : TA'} : tbmT r to ta τ h Q = to τ h fun x h1 => isTp x ∧ ta τ h1 fun ds h2 => r x ds h2 Q := id rfl
theorem q_isTp {xs : List D} : isTp (.tup xs) = True := id rfl
theorem q_mIx {xs : List D} {z : Str} : mIx (.tup xs) [.str z] h Q = ixK xs z fun j => Q (.int (j : Nat)) h := id rfl
theorem q_ltN {x y : D} : opLtN x y h Q = (dOk x ∧ dOk y ∧ ∃ k, cmpD x y = some k ∧ Q (.bl k) h) := id rfl
theorem q_gtN {x y : D} : opGtN x y h Q = (dOk x ∧ dOk y ∧ ∃ k, cmpD y x = some k ∧ Q (.bl k) h) := id rfl
theorem q_rev {te : TE'} : trev te τ h Q = te τ h fun x h1 => match x with | .tup ds => Q (.tup ds.reverse) h1 | _ => False := id rfl
theorem q_try {sp : Sp'} {ta : TA'} {ct : Value → Option Bool} {i : Nat} {ts : Value → Addr → TS'} : ttry sp ta ct i ts D' τ h = ta τ h fun ds h1 => sp ds h1 (fun _ h2 => D'.nx τ h2) fun c h2 => ct c = some true ∧ ∀ a, h2 a = none → ts c a (unE i D') (τ.set i (some (.ref a))) h2 := id rfl
end
theorem sc_deq {x y : D} {b : Bool} (e : sc x y = some b) : deq x y = b := by
  cases x <;> cases y <;> first
    | cases (show none = some b from e)
    | (have e' := Option.some.inj e
       subst e'
       simp [deq, toPy, PyData.eqv, Bool.beq_eq_decide_eq])
theorem ne_ok {x y : D} {h : DH} {Q : VK'} (a : dOk x) (b : dOk y) (q : Q (.bl (!deq x y)) h) : opNe x y h Q := by
  unfold opNe
  split
  · rename_i k e
    rw [sc_deq e] at q
    exact q
  · exact ⟨a, b, q⟩
theorem idx_ok {ns : List Str} {x : Str} (m : x ∈ ns) {k : Nat → Prop} (q : k (ixf ns x)) : ixK (ns.map D.str) x k :=
  ⟨ns, rfl, ixf ns x, (ixf_ok m).1, (ixf_ok m).2, q⟩
def sp_integer_rank : Sp' := fun ds h Q _ => ∃ i, ds = [.int i] ∧ Q (.int (zz i)) h
theorem rd_integer_rank (ds : List D) (h : DH) (Q : VK') (E' : XK') (q : sp_integer_rank ds h Q E') : t_integer_rank (ends Q) (slots n_integer_rank ds) h := by
  obtain ⟨i, rfl, q⟩ := q
  show t_integer_rank (ends Q) [some (.int i)] h
  unfold t_integer_rank
  walk_at "dl7"
  refine sif_i (fun c => ?_) (fun c => ?_)
  · walk_at "dl7"
    rw [zz, if_pos (of_decide_eq_true c)] at q
    exact fin q
  · walk_at "dl7"
    rw [zz, if_neg (of_decide_eq_false c)] at q
    exact fin q
def sp_check_letter (bl : Addr) : Sp' := fun ds h Q E => ∃ k v, ds = [kD k, v] ∧ k.depth ≤ 3 ∧ val v 40 = true ∧ (isL k v = true → Q .non h) ∧ (isL k v = false → E (.ref bl) h)
theorem rd_check_letter (bl : Addr) (ds : List D) (h : DH) (Q : VK') (E' : XK') (q : sp_check_letter bl ds h Q E') : t_check_letter (sp_is_letter 3) bl E' (ends Q) (slots n_check_letter ds) h := by
  obtain ⟨k, v, rfl, hd, hv, q1, q2⟩ := q
  show t_check_letter _ _ _ (ends Q) [some (kD k), some v] h
  unfold t_check_letter
  walk_at "dl7"
  refine ⟨k, v, rfl, hd, hv, ?_⟩
  cases e : isL k v with
  | true => walk_at "dl7"; exact fin (q1 e)
  | false => ((walk_at "dl7"); repeat (simp only [q_raise]; (walk_at "dl7"))); exact q2 e
def allL (k : Kd) (vs : List D) : Bool := vs.all (isL k)
def sp_check_word (bl : Addr) : Sp' := fun ds h Q E => ∃ k vs, ds = [kD k, .tup vs] ∧ k.depth ≤ 3 ∧ (∀ v ∈ vs, val v 40 = true) ∧ (allL k vs = true → Q .non h) ∧ (allL k vs = false → E (.ref bl) h)
theorem rd_check_word (bl : Addr) (ds : List D) (h : DH) (Q : VK') (E' : XK') (q : sp_check_word bl ds h Q E') : t_check_word (sp_check_letter bl) E' (ends Q) (slots n_check_word ds) h := by
  obtain ⟨k, vs, rfl, hd, hv, q1, q2⟩ := q
  show t_check_word _ _ (ends Q) [some (kD k), some (.tup vs), none] h
  unfold t_check_word
  walk_at "dl7"
  refine for_ind (fun xs τ g => g = h ∧ (∀ v ∈ xs, val v 40 = true) ∧ (allL k xs = true → Q .non h) ∧ (allL k xs = false → E' (.ref bl) h) ∧ ∃ c, τ = [some (kD k), some (.tup vs), c]) ?_ ?_ _ _ _ ⟨rfl, hv, q1, q2, none, rfl⟩
  · rintro τ g ⟨rfl, _, q1, _, c, rfl⟩
    rw [q_fnil]
    walk_at "dl7"
    exact fin (q1 rfl)
  · rintro x xs ih τ g ⟨rfl, hx, q1, q2, c, rfl⟩
    rw [q_fcons]
    walk_at "dl7"
    refine ⟨k, x, rfl, hd, hx x List.mem_cons_self, fun e => ?_, fun e => q2 (by simp [allL, e])⟩
    walk_at "dl7"
    exact ih _ _ ⟨rfl, fun v m => hx v (List.mem_cons_of_mem _ m), fun z => q1 (by simp only [allL, List.all_cons, e, Bool.true_and]; exact z), fun z => q2 (by simp only [allL, List.all_cons, e, Bool.true_and]; exact z), _, rfl⟩
def sp_letter_rank (n : Nat) : Sp' := fun ds h Q _ => ∃ k v, ds = [kD k, v] ∧ k.depth ≤ n ∧ isL k v = true ∧ Q (rk false k v) h
theorem rd_letter_rank (n : Nat) (ds : List D) (h : DH) (Q : VK') (E' : XK') (q : sp_letter_rank (n + 1) ds h Q E') : t_letter_rank sp_integer_rank (sp_letter_rank n) (ends Q) (slots n_letter_rank ds) h := by
  obtain ⟨k, v, rfl, hd, hv, q⟩ := q
  show t_letter_rank _ _ (ends Q) [some (kD k), some v, none] h
  unfold t_letter_rank
  cases k with
  | nm ns =>
    obtain ⟨x, rfl, m⟩ := nm_form hv
    simp only [kD]
    ((walk_at "dl7"); repeat (simp only [q_bmT, q_isTp, q_mIx]; (walk_at "dl7")))
    exact idx_ok m (fin (by simpa [rk, wr] using q))
  | it =>
    obtain ⟨i, rfl⟩ := it_form hv
    simp only [kD]
    walk_at "dl7"
    refine ⟨i, rfl, fin ?_⟩
    simpa [rk, wr] using q
  | pr a b =>
    simp only [Kd.depth] at hd
    obtain ⟨x, y, rfl, p1, p2⟩ := pr_form hv
    simp only [kD]
    walk_at "dl7"
    refine ⟨a, x, rfl, by omega, p1, ?_⟩
    walk_at "dl7"
    refine ⟨b, y, rfl, by omega, p2, ?_⟩
    walk_at "dl7"
    exact fin (by simpa [rk] using q)
  | ei ks =>
    simp only [Kd.depth] at hd
    obtain ⟨i, x, k1, rfl, i0, e1, p1⟩ := ei_form hv
    have := Kd.depth_mem (List.mem_of_getElem? e1)
    simp only [kD]
    walk_at "dl7"
    rw [q_ixt]
    refine ⟨_, atI_kDs i0 e1, ?_⟩
    walk_at "dl7"
    refine ⟨k1, x, rfl, by omega, p1, ?_⟩
    walk_at "dl7"
    exact fin (by simpa [rk, rkn_get _ ks _ _ _ e1] using q)
  | mb k =>
    simp only [Kd.depth] at hd
    rcases mb_form hv with rfl | ⟨x, rfl, p1⟩
    · simp only [kD]
      walk_at "dl7"
      exact fin (by simpa [rk] using q)
    · simp only [kD]
      walk_at "dl7"
      refine ⟨k, x, rfl, by omega, p1, ?_⟩
      walk_at "dl7"
      exact fin (by simpa [rk] using q)
end K01

set_option Elab.async false
set_option linter.all false
set_option maxRecDepth 100000
set_option maxHeartbeats 1000000
namespace K01
open PySem PySem.Spec PyProof.Rows L2 DL K00
def sp__law_key (n : Nat) : Sp' := fun ds h Q _ => ∃ k v, ds = [kD k, v] ∧ k.depth ≤ n ∧ isL k v = true ∧ Q (rk true k v) h
theorem zz_key (i : Int) : 2 * (i.natAbs : Int) - (if decide (0 < i) = true then 1 else 0) = zz i := by
  unfold zz
  by_cases h : 0 < i
  · rw [if_pos h, if_pos (decide_eq_true h)]; omega
  · rw [if_neg h, if_neg (by simpa using h)]; omega
theorem rd__law_key (n : Nat) (ds : List D) (h : DH) (Q : VK') (E' : XK') (q : sp__law_key (n + 1) ds h Q E') : t__law_key (sp__law_key n) (ends Q) (slots n__law_key ds) h := by
  obtain ⟨k, v, rfl, hd, hv, q⟩ := q
  show t__law_key _ (ends Q) [some (kD k), some v] h
  unfold t__law_key
  cases k with
  | nm ns =>
    obtain ⟨x, rfl, m⟩ := nm_form hv
    simp only [kD]
    ((walk_at "dl7"); repeat (simp only [q_bmT, q_isTp, q_mIx]; (walk_at "dl7")))
    refine idx_ok m ?_
    walk_at "dl7"
    exact fin (by simpa [rk, wr] using q)
  | it =>
    obtain ⟨i, rfl⟩ := it_form hv
    simp only [kD]
    walk_at "dl7"
    rw [zz_key]
    exact fin (by simpa [rk, wr] using q)
  | pr a b =>
    simp only [Kd.depth] at hd
    obtain ⟨x, y, rfl, p1, p2⟩ := pr_form hv
    simp only [kD]
    walk_at "dl7"
    refine ⟨a, x, rfl, by omega, p1, ?_⟩
    walk_at "dl7"
    refine ⟨b, y, rfl, by omega, p2, ?_⟩
    walk_at "dl7"
    exact fin (by simpa [rk] using q)
  | ei ks =>
    simp only [Kd.depth] at hd
    obtain ⟨i, x, k1, rfl, i0, e1, p1⟩ := ei_form hv
    have := Kd.depth_mem (List.mem_of_getElem? e1)
    simp only [kD]
    walk_at "dl7"
    rw [q_ixt]
    refine ⟨_, atI_kDs i0 e1, ?_⟩
    walk_at "dl7"
    refine ⟨k1, x, rfl, by omega, p1, ?_⟩
    walk_at "dl7"
    exact fin (by simpa [rk, rkn_get _ ks _ _ _ e1] using q)
  | mb k =>
    simp only [Kd.depth] at hd
    rcases mb_form hv with rfl | ⟨x, rfl, p1⟩
    · simp only [kD]
      walk_at "dl7"
      exact fin (by simpa [rk] using q)
    · simp only [kD]
      walk_at "dl7"
      refine ⟨k, x, rfl, by omega, p1, ?_⟩
      walk_at "dl7"
      exact fin (by simpa [rk] using q)
def sp_compared_ranks : Sp' := fun ds h Q _ => ∃ a b o, ds = [a, b] ∧ Tri a b o ∧ val a 60 = true ∧ val b 60 = true ∧ Q (.int (ov o)) h
theorem rd_compared_ranks (ds : List D) (h : DH) (Q : VK') (E' : XK') (q : sp_compared_ranks ds h Q E') : t_compared_ranks (ends Q) (slots n_compared_ranks ds) h := by
  obtain ⟨a, b, o, rfl, t, va, vb, q⟩ := q
  have oa := val_ok va
  have ob := val_ok vb
  show t_compared_ranks (ends Q) [some a, some b] h
  unfold t_compared_ranks
  ((walk_at "dl7"); repeat (simp only [q_ltN]; (walk_at "dl7")))
  refine ⟨oa, ob, _, t.1, ?_⟩
  cases o with
  | lt => walk_at "dl7"; exact fin q
  | eq =>
    rw [show (Ordering.eq == Ordering.lt) = false from rfl]
    walk_at "dl7"
    refine ne_ok oa ob ?_
    rw [t.2.2.1, show (Ordering.eq == Ordering.eq) = true from rfl]
    walk_at "dl7"
    exact fin q
  | gt =>
    rw [show (Ordering.gt == Ordering.lt) = false from rfl]
    walk_at "dl7"
    refine ne_ok oa ob ?_
    rw [t.2.2.1, show (Ordering.gt == Ordering.eq) = false from rfl]
    walk_at "dl7"
    exact fin q
def sp_compared (bl : Addr) : Sp' := fun ds h Q E => ∃ k x y, ds = [kD k, x, y] ∧ k.depth ≤ 3 ∧ val x 40 = true ∧ val y 40 = true ∧ (isL k x = true → isL k y = true → ∃ o, (∀ w, Tri (rk w k x) (rk w k y) o) ∧ Q (.int (ov o)) h) ∧ ((isL k x && isL k y) = false → E (.ref bl) h)
theorem rd_compared (bl : Addr) (ds : List D) (h : DH) (Q : VK') (E' : XK') (q : sp_compared bl ds h Q E') : t_compared (sp_check_word bl) (sp_letter_rank 3) sp_compared_ranks E' (ends Q) (slots n_compared ds) h := by
  obtain ⟨k, x, y, rfl, hd, vx, vy, q1, q2⟩ := q
  show t_compared _ _ _ _ (ends Q) [some (kD k), some x, some y] h
  unfold t_compared
  walk_at "dl7"
  refine ⟨k, [x, y], rfl, hd, ?_, fun e => ?_, fun e => q2 (by simpa [allL] using e)⟩
  · intro v m
    simp only [List.mem_cons, List.not_mem_nil, or_false] at m
    rcases m with rfl | rfl
    · exact vx
    · exact vy
  · simp only [allL, List.all_cons, List.all_nil, Bool.and_true, Bool.and_eq_true] at e
    obtain ⟨o, t, q⟩ := q1 e.1 e.2
    walk_at "dl7"
    refine ⟨k, x, rfl, hd, e.1, ?_⟩
    walk_at "dl7"
    refine ⟨k, y, rfl, hd, e.2, ?_⟩
    walk_at "dl7"
    exact ⟨_, _, o, rfl, t false, val_mono _ _ _ (by omega) (rk_val false 3 k x hd e.1), val_mono _ _ _ (by omega) (rk_val false 3 k y hd e.2), fin q⟩
def sp__law_answers : Sp' := fun ds h Q _ => ∃ k x y, ds = [kD k, x, y] ∧ k.depth ≤ 3 ∧ val x 40 = true ∧ val y 40 = true ∧ isL k x = true ∧ isL k y = true ∧ Q (.bl true) h
theorem rd__law_answers (bl : Addr) (ds : List D) (h : DH) (Q : VK') (E' : XK') (q : sp__law_answers ds h Q E') : t__law_answers (sp_compared bl) (sp__law_key 3) sp_is_integer (ends Q) (slots n__law_answers ds) h := by
  obtain ⟨k, x, y, rfl, hd, vx, vy, lx, ly, q⟩ := q
  show t__law_answers _ _ _ (ends Q) [some (kD k), some x, some y, none, none, none] h
  unfold t__law_answers
  obtain ⟨o, t⟩ := tri_rk 3 k x y hd lx ly
  have oa := val_ok (rk_val true 3 k x hd lx)
  have ob := val_ok (rk_val true 3 k y hd ly)
  walk_at "dl7"
  refine ⟨k, x, y, rfl, hd, vx, vy, fun _ _ => ⟨o, t, ?_⟩, fun e => by rw [lx, ly] at e; cases e⟩
  walk_at "dl7"
  refine ⟨k, x, rfl, hd, lx, ?_⟩
  walk_at "dl7"
  refine ⟨k, y, rfl, hd, ly, ?_⟩
  walk_at "dl7"
  refine ⟨_, rfl, rfl, ?_⟩
  ((walk_at "dl7"); repeat (simp only [K00.isInt, q_gtN]; (walk_at "dl7")))
  refine ⟨oa, ob, _, (t true).2.1, ?_⟩
  ((walk_at "dl7"); repeat (simp only [q_ltN]; (walk_at "dl7")))
  refine ⟨oa, ob, _, (t true).1, ?_⟩
  walk_at "dl7"
  refine fin ?_
  cases o <;> exact q
def sp__law_turned (n : Nat) : Sp' := fun ds h Q _ => ∃ k, ds = [kD k] ∧ k.depth ≤ n ∧ k.cnt ≤ 100 ∧ Q (kD (turn k)) h
theorem kD_rev (ns : List Str) : (ns.map D.str).reverse = ns.reverse.map D.str := by rw [List.map_reverse]
theorem rd__law_turned (n : Nat) (ds : List D) (h : DH) (Q : VK') (E' : XK') (q : sp__law_turned (n + 1) ds h Q E') : t__law_turned (sp__law_turned n) (ends Q) (slots n__law_turned ds) h := by
  obtain ⟨k, rfl, hd, hc, q⟩ := q
  show t__law_turned _ (ends Q) [some (kD k), none] h
  unfold t__law_turned
  cases k with
  | nm ns =>
    simp only [kD]
    ((walk_at "dl7"); repeat (simp only [q_rev]; (walk_at "dl7")))
    rw [kD_rev]
    exact fin q
  | it => simp only [kD]; walk_at "dl7"; exact fin q
  | pr a b =>
    simp only [Kd.depth] at hd
    simp only [Kd.cnt] at hc
    simp only [kD]
    walk_at "dl7"
    refine ⟨a, rfl, by omega, by omega, ?_⟩
    walk_at "dl7"
    refine ⟨b, rfl, by omega, by omega, ?_⟩
    walk_at "dl7"
    exact fin q
  | ei ks =>
    simp only [Kd.depth] at hd
    simp only [Kd.cnt] at hc
    simp only [kD]
    walk_at "dl7"
    rw [q_lc]
    walk_at "dl7"
    intro p np
    refine lc_ind (fun xs acc g => ∃ ks1 ks2 : List Kd, ks = ks1 ++ ks2 ∧ xs = kDs ks2 ∧ acc = kDs (turns ks1) ∧ g = put h p .hid) ?_ ?_ _ _ _ ⟨[], ks, rfl, rfl, rfl, rfl⟩
    · rintro acc g ⟨ks1, ks2, e, ex, rfl, rfl⟩
      have e2 : ks2 = [] := by cases ks2 with | nil => rfl | cons k ks => cases ex
      subst e2
      rw [List.append_nil] at e
      subst e
      rw [q_lnil]
      walk_at "dl7"
      rw [del_put np]
      walk_at "dl7"
      exact fin q
    · rintro x xs ih acc g ⟨ks1, ks2, e, ex, rfl, rfl⟩
      cases ks2 with
      | nil => cases ex
      | cons k ks2 =>
        simp only [kDs, List.cons.injEq] at ex
        obtain ⟨rfl, rfl⟩ := ex
        have m : k ∈ ks := by rw [e]; simp
        have := Kd.depth_mem m
        have := Kd.cnt_mem m
        have := Kd.len_cnts ks
        rw [q_lcons]
        walk_at "dl7"
        refine ⟨k, rfl, by omega, by omega, ?_⟩
        refine ⟨Nat.lt_of_le_of_lt (show _ ≤ 100 by rw [len_kDs, turns_map, List.length_map]; rw [e] at this; rw [List.length_append] at this; rw [e] at hc; omega) (by decide), ih _ _ ⟨ks1 ++ [k], ks2, by rw [e]; simp, rfl, ?_, rfl⟩⟩
        rw [turns_map, turns_map, List.map_append, kDs_app]
        rfl
  | mb k =>
    simp only [Kd.depth] at hd
    simp only [Kd.cnt] at hc
    simp only [kD]
    walk_at "dl7"
    refine ⟨k, rfl, by omega, by omega, ?_⟩
    walk_at "dl7"
    exact fin q
end K01

set_option Elab.async false
set_option linter.all false
set_option maxRecDepth 100000
set_option maxHeartbeats 1000000
namespace K01
open PySem PySem.Spec PyProof.Rows L2 DL K00
theorem q_isE {is : D → Option Bool} {a b : Addr} {c : D} {h : DH} {Q : VK'} : caIsE is a [.ref b, c] h Q = (b = a ∧ ∃ k, is c = some k ∧ Q (.bl k) h) := id rfl
theorem q_bmL {r : DM} {to : TE'} {ta : TA'} {τ : St'} {h : DH} {Q : VK'} : tbm isLs r to ta τ h Q = to τ h fun x h1 => isLs x h1 ∧ ta τ h1 fun ds h2 => r x ds h2 Q := id rfl
theorem q_isLs {xs : List D} {h : DH} : isLs (.lis xs) h = True := id rfl
/-- the law's name for an error: the place of its class -/
def sp__law_error (bl : Addr) : Value → Addr → Sp' := fun c a ds h Q _ => c = .ref bl ∧ ds = [.ref a] ∧ Q (.int 0) h
theorem rd__law_error {c1 c2 c3 c4 c5 c6 c7 c8 c9 c10 c11 c12 c13 c14 : Addr} {is : D → Option Bool} (i1 : is (.ref c1) = some true) (i2 : is (.ref c2) = some false) (i3 : is (.ref c3) = some false) (i4 : is (.ref c4) = some false)
    (i5 : is (.ref c5) = some false) (i6 : is (.ref c6) = some false) (i7 : is (.ref c7) = some false) (i8 : is (.ref c8) = some false) (i9 : is (.ref c9) = some false) (i10 : is (.ref c10) = some false) (i11 : is (.ref c11) = some false)
    (i12 : is (.ref c12) = some false) (i13 : is (.ref c13) = some false) (i14 : is (.ref c14) = some false) (iv : is (.ty "ValueError") = some true)
    (a : Addr) (ds : List D) (h : DH) (Q : VK') (E' : XK') (q : sp__law_error c1 (.ref c1) a ds h Q E') : t__law_error c3 c2 c1 c6 c5 c4 c9 c8 c7 c12 c11 c10 c14 c13 is a (ends Q) (slots n__law_error ds) h := by
  obtain ⟨_, rfl, q⟩ := q
  show t__law_error _ _ _ _ _ _ _ _ _ _ _ _ _ _ _ _ (ends Q) [some (.ref a), none] h
  unfold t__law_error
  ((walk_at "dl7"); repeat (simp only [q_isE]; (walk_at "dl7")))
  refine ⟨_, i1, _, i2, _, i3, _, i4, _, i5, _, i6, _, i7, _, i8, _, i9, by decide, _, i10, _, i11, _, i12, by decide, _, i13, _, i14, by decide, _, iv, ?_⟩
  ((walk_at "dl7"); repeat (simp only [q_bmL, q_isLs]; (walk_at "dl7")))
  refine ⟨[true, false, false, false, false, false, false, false, false, false, false, false, false, false], rfl, ?_⟩
  ((walk_at "dl7"); repeat (simp only [q_bmL, q_isLs]; (walk_at "dl7")))
  refine sif_i (fun c => absurd c (by decide)) (fun _ => ?_)
  ((walk_at "dl7"); repeat (simp only [q_bmL, q_isLs]; (walk_at "dl7")))
  exact ⟨[true, false, false, false, false, false, false, false, false, false, false, false, false, false], rfl, 0, rfl, fun m hm => absurd hm (Nat.not_lt_zero m), fin q⟩
def sp__law_refused : Sp' := fun ds h Q _ => ∃ k x y, ds = [kD k, x, y] ∧ k.depth ≤ 3 ∧ val x 40 = true ∧ val y 40 = true ∧ (isL k x && isL k y) = false ∧ Q (.bl true) h
theorem rd__law_refused (bl : Addr) {ct : Value → Option Bool} (hc : ct (.ref bl) = some true) (ds : List D) (h : DH) (Q : VK') (E' : XK') (q : sp__law_refused ds h Q E') : t__law_refused (sp_compared bl) (sp__law_error bl) ct (ends Q) (slots n__law_refused ds) h := by
  obtain ⟨k, x, y, rfl, hd, vx, vy, e, q⟩ := q
  show t__law_refused _ _ _ (ends Q) [some (kD k), some x, some y, none] h
  unfold t__law_refused
  ((walk_at "dl7"); repeat (simp only [q_try]; (walk_at "dl7")))
  refine ⟨k, x, y, rfl, hd, vx, vy, fun a b => ?_, fun _ => ⟨hc, fun a na => ?_⟩⟩
  · rw [a, b] at e; cases e
  · walk_at "dl7"
    refine ⟨rfl, rfl, ?_⟩
    walk_at "dl7"
    exact fin q
end K01

set_option Elab.async false
set_option linter.all false
set_option maxRecDepth 100000
set_option maxHeartbeats 1000000
namespace K01
open PySem PySem.Spec PyProof.Rows L2 DL K00
theorem let_of : ∀ (n : Nat) (k : Kd) (v : D), k.depth ≤ n → k.ok → isL k v = true → Let k v
  | 0, k, v, h, _, _ => by have := k.depth_pos; omega
  | n + 1, k, v, h, o, hv => by
    cases k with
    | nm ns =>
      obtain ⟨x, rfl, m⟩ := nm_form hv
      exact ⟨hv, (o.2.2 x m).1, rfl⟩
    | it =>
      obtain ⟨i, rfl⟩ := it_form hv
      exact ⟨rfl, rfl, rfl⟩
    | pr a b =>
      simp only [Kd.depth] at h
      obtain ⟨x, y, rfl, p1, p2⟩ := pr_form hv
      exact let_pr (let_of n a x (by omega) o.1 p1) (let_of n b y (by omega) o.2 p2)
    | ei ks =>
      simp only [Kd.depth] at h
      obtain ⟨i, x, k1, rfl, i0, e1, p1⟩ := ei_form hv
      have m := List.mem_of_getElem? e1
      have := Kd.depth_mem m
      exact let_ei i0 e1 (let_of n k1 x (by omega) (Kd.oks_mem.mp o.2 _ m) p1)
    | mb k =>
      simp only [Kd.depth] at h
      rcases mb_form hv with rfl | ⟨x, rfl, p1⟩
      · exact let_no
      · exact let_mb (let_of n k x (by omega) o p1)
/-- _law_near(tape, kind, letter) -/
def spNear (n : Nat) : Sp' := fun ds h Q _ => ∃ (a : Addr) (k : Kd) (v : D), ds = [.ref a, kD k, v] ∧ k.ok ∧ k.depth ≤ n ∧ k.depth ≤ 3 ∧ k.cnt ≤ 100 ∧ isL k v = true ∧ Tp h a ∧ ∀ u t, isL k u = true → TOk t → Q u (put h a t)
theorem rd__law_near (n : Nat) (ds : List D) (h : DH) (Q : VK') (E' : XK') (q : spNear (n + 1) ds h Q E') : t__law_near spDraw (spNear n) (spLetter 3) (ends Q) (slots n__law_near ds) h := by
  obtain ⟨a, k, v, rfl, hk, hd, h3, hc, hv, tp, q⟩ := q
  show t__law_near _ _ _ (ends Q) [some (.ref a), some (kD k), some v, none, none] h
  unfold t__law_near
  cases k with
  | nm ns =>
    obtain ⟨x, rfl, m⟩ := nm_form hv
    simp only [kD]
    obtain ⟨n1, n4, no⟩ := hk
    walk_at "dl7"
    refine drw tp (fun r t r0 r1 ot => ?_) (by rw [List.length_map]; omega)
    walk_at "dl7"
    rw [q_ixt]
    obtain ⟨d, e, m⟩ := pick (xs := ns.map D.str) r0 (by rw [List.length_map] at r1 ⊢; omega)
    obtain ⟨s, ms, rfl⟩ := List.mem_map.mp m
    exact ⟨_, e, fin (q (.str s) t (by simpa [isL] using ms) ot)⟩
  | it =>
    obtain ⟨i, rfl⟩ := it_form hv
    simp only [kD]
    walk_at "dl7"
    refine drw tp (fun r t r0 r1 ot => ?_)
    walk_at "dl7"
    rw [q_ixl]
    obtain ⟨d, e, m⟩ := pick (xs := [D.int (i + 1), .int (i - 1), .int (-i), .int (i + 12), .int 0]) r0 (by simp only [List.length_cons, List.length_nil]; omega)
    obtain ⟨j, rfl⟩ : ∃ j : Int, d = .int j := by
      simp only [List.mem_cons, List.not_mem_nil, or_false] at m
      rcases m with rfl | rfl | rfl | rfl | rfl <;> exact ⟨_, rfl⟩
    exact ⟨_, e, fin (q _ t rfl ot)⟩
  | pr k1 k2 =>
    simp only [Kd.depth] at hd h3
    simp only [Kd.cnt] at hc
    obtain ⟨x, y, rfl, p1, p2⟩ := pr_form hv
    simp only [kD]
    walk_at "dl7"
    refine drw tp (fun r t r0 r1 ot => ?_)
    have rr : r = 0 ∨ r = 1 := by omega
    rcases rr with rfl | rfl
    · walk_at "dl7"
      refine ⟨a, k1, x, rfl, hk.1, by omega, by omega, by omega, p1, tp_put ot, fun u t lu ot => ?_⟩
      walk_at "dl7"
      exact ⟨show 2 ≤ sizeLine by decide, show 3 ≤ sizeLine by decide, fin (q (.tup [.str "pair", u, y]) t (by simp only [isL, isStr, decide_true, Bool.true_and, lu, p2]) ot)⟩
    · walk_at "dl7"
      refine ⟨a, k2, y, rfl, hk.2, by omega, by omega, by omega, p2, tp_put ot, fun u t lu ot => ?_⟩
      walk_at "dl7"
      exact ⟨show 3 ≤ sizeLine by decide, show 3 ≤ sizeLine by decide, fin (q (.tup [.str "pair", x, u]) t (by simp only [isL, isStr, decide_true, Bool.true_and, lu, p1]) ot)⟩
  | ei ks =>
    simp only [Kd.depth] at hd h3
    simp only [Kd.cnt] at hc
    obtain ⟨i, x, k1, rfl, i0, e1, p1⟩ := ei_form hv
    simp only [kD]
    have ln := Kd.len_cnts ks
    have l1 : 1 ≤ ks.length := hk.1
    walk_at "dl7"
    refine drw tp (fun r t r0 r1 ot => ?_) (by rw [len_kDs]; omega)
    rw [len_kDs] at r1
    have hr : r.toNat < ks.length := by omega
    have eg := List.getElem?_eq_getElem hr
    have mk := List.getElem_mem hr
    have m1 := Kd.depth_mem mk
    have m2 := Kd.cnt_mem mk
    walk_at "dl7"
    refine sif_i (fun c => ?_) (fun c => ?_)
    · have c := of_decide_eq_true c
      subst c
      rw [eg] at e1
      cases e1
      walk_at "dl7"
      rw [q_ixt]
      refine ⟨_, atI_kDs r0 eg, ?_⟩
      walk_at "dl7"
      refine ⟨a, ks[r.toNat], x, rfl, Kd.oks_mem.mp hk.2 _ mk, by omega, by omega, by omega, p1, tp_put ot, fun u t lu ot => ?_⟩
      walk_at "dl7"
      exact fin (q _ t (by simp only [isL, isStr, decide_true, Bool.true_and, isLn_get, eg, lu, decide_eq_true r0]) ot)
    · walk_at "dl7"
      rw [q_ixt]
      refine ⟨_, atI_kDs r0 eg, ?_⟩
      walk_at "dl7"
      refine ⟨a, ks[r.toNat], 20, .int 12, rfl, Kd.oks_mem.mp hk.2 _ mk, by omega, by omega, by decide, by decide, tp_put ot, fun u t lu ot => ?_⟩
      walk_at "dl7"
      exact fin (q _ t (by simp only [isL, isStr, decide_true, Bool.true_and, isLn_get, eg, lu.1, decide_eq_true r0]) ot)
  | mb k =>
    simp only [Kd.depth] at hd h3
    simp only [Kd.cnt] at hc
    rcases mb_form hv with rfl | ⟨x, rfl, p1⟩
    · simp only [kD]
      walk_at "dl7"
      refine ⟨a, k, 20, .int 12, rfl, hk, by omega, by omega, by decide, by decide, tp, fun u t lu ot => ?_⟩
      walk_at "dl7"
      exact fin (q _ t (by simp only [isL, isStr, decide_true, Bool.true_and, lu.1]) ot)
    · simp only [kD]
      walk_at "dl7"
      refine drw tp (fun r t r0 r1 ot => ?_)
      walk_at "dl7"
      refine sif_i (fun c => ?_) (fun c => ?_)
      · walk_at "dl7"
        exact fin (q _ t (by simp only [isL, isStr, decide_true]) ot)
      · walk_at "dl7"
        refine ⟨a, k, x, rfl, hk, by omega, by omega, by omega, p1, tp_put ot, fun u t lu ot => ?_⟩
        walk_at "dl7"
        exact fin (q _ t (by simp only [isL, isStr, decide_true, Bool.true_and, lu]) ot)
end K01

set_option Elab.async false
set_option linter.all false
set_option maxRecDepth 100000
set_option maxHeartbeats 1000000
namespace K01
open PySem PySem.Spec PyProof.Rows L2 DL K00
theorem q_slS {te : TE'} {tl th : TO'} {τ : St'} {h : DH} {Q : VK'} : tslS te tl th τ h Q = te τ h fun x h1 => tl τ h1 fun l h2 => th τ h2 fun u h3 => slS x l u h3 Q := id rfl
theorem q_slSs {z : Str} {lo hi : Option Int} {h : DH} {Q : VK'} : slS (.str z) lo hi h Q = (z.length ≤ sizeLine ∧ Q (.str (cutS z lo hi)) h) := id rfl
theorem q_str {t : TE'} {τ : St'} {h : DH} {Q : List D → (DH → Prop) → DH → Prop} : tstr t τ h Q = t τ h fun x h1 => match x with | .str z => Q (signs z) (fun _ => True) h1 | _ => False := id rfl
/-- _law_strange(names) -/
def spStrange : Sp' := fun ds h Q _ => ∃ ns, ds = [.tup (ns.map .str)] ∧ namesOk ns ∧ ∀ s, s ∉ ns → PyData.strOk s = true → Q (.str s) h
/-- five signs, fewer names -/
theorem pigeon : ∀ (xs ys : List Str), xs.Nodup → (∀ x ∈ xs, x ∈ ys) → xs.length ≤ ys.length
  | [], _, _, _ => by simp
  | x :: xs, ys, nd, h => by
    have nd' := List.nodup_cons.mp nd
    have m := h x List.mem_cons_self
    have := pigeon xs (ys.erase x) nd'.2 fun z hz => (List.mem_erase_of_ne (fun e => nd'.1 (by rw [← e]; exact hz))).mpr (h z (List.mem_cons_of_mem _ hz))
    rw [List.length_erase_of_mem m] at this
    have := List.length_pos_of_mem m
    simp only [List.length_cons]
    omega
theorem rd__law_strange (ds : List D) (h : DH) (Q : VK') (E' : XK') (q : spStrange ds h Q E') : t__law_strange (ends Q) (slots n__law_strange ds) h := by
  obtain ⟨ns, rfl, ⟨n1, n4, no⟩, q⟩ := q
  show t__law_strange (ends Q) [some (.tup (ns.map .str)), none, none] h
  unfold t__law_strange
  cases ns with
  | nil => simp at n1
  | cons n0 rest =>
  have l0 := (no n0 List.mem_cons_self).2
  have o0 := (no n0 List.mem_cons_self).1
  simp only [List.map_cons]
  have small : ∀ {n : Nat}, n ≤ 40 → n ≤ sizeLine := fun h => Nat.le_trans h (by decide)
  have ul : (cutS n0 none (some 5)).length ≤ 20 := by
    show (cutS n0 none (some 5)).cps.size ≤ 20
    unfold cutS
    simp only [List.size_toArray, List.length_take, List.length_drop, Array.length_toList]
    have : n0.cps.size ≤ 20 := l0
    omega
  have uo : PyData.strOk (cutS n0 none (some 5)) = true := by
    have o1 : n0.cps.all _ = true := o0
    rw [← Array.all_toList, List.all_eq_true] at o1
    show (cutS n0 none (some 5)).cps.all _ = true
    unfold cutS
    rw [← Array.all_toList, List.all_eq_true]
    intro c m
    exact o1 c (List.mem_of_mem_drop (List.mem_of_mem_take m))
  walk_at "dl7"
  rw [q_lc]
  walk_at "dl7"
  rw [q_lc]
  ((walk_at "dl7"); repeat (simp only [q_str]; (walk_at "dl7")))
  intro p np
  let cs : List Str := [⟨#[112]⟩, ⟨#[113]⟩, ⟨#[114]⟩, ⟨#[115]⟩, ⟨#[116]⟩]
  refine lc_ind (fun xs acc g => ∃ c1 c2 : List Str, cs = c1 ++ c2 ∧ xs = c2.map D.str ∧ acc = c1.map (fun c => D.str (cutS n0 none (some 5) ++ c)) ∧ g = put h p .hid) ?_ ?_ _ _ _ ⟨[], cs, rfl, rfl, rfl, rfl⟩
  · rintro acc g ⟨c1, c2, e, ex, rfl, rfl⟩
    have e2 : c2 = [] := by cases c2 with | nil => rfl | cons k ks => cases ex
    subst e2
    rw [List.append_nil] at e
    subst e
    rw [q_lnil]
    walk_at "dl7"
    rw [del_put np]
    intro p2 np2
    rw [show (D.str n0 :: List.map D.str rest) = (n0 :: rest).map D.str from rfl]
    generalize en : n0 :: rest = ns at *
    have exi : ∃ c ∈ cs, (cutS n0 none (some 5) ++ c) ∉ ns := by
      apply Classical.byContradiction
      intro no'
      have all : ∀ c ∈ cs, (cutS n0 none (some 5) ++ c) ∈ ns := fun c m => Classical.byContradiction fun z => no' ⟨c, m, z⟩
      have nd : (cs.map fun c => cutS n0 none (some 5) ++ c).Nodup := by
        unfold List.Nodup
        rw [List.pairwise_map]
        have inj : ∀ {a b : Str}, a ≠ b → cutS n0 none (some 5) ++ a ≠ cutS n0 none (some 5) ++ b := fun {a b} ne e => ne (by
          have e2 : ((cutS n0 none (some 5)).cps ++ a.cps) = ((cutS n0 none (some 5)).cps ++ b.cps) := congrArg Str.cps e
          have e3 : a.cps = b.cps := by
            have := congrArg Array.toList e2
            simp only [Array.toList_append] at this
            exact Array.toList_inj.mp (List.append_cancel_left this)
          cases a; cases b; simp at e3; rw [e3])
        have base : List.Pairwise (fun a b : Str => a ≠ b) cs := by decide
        exact base.imp fun h => inj h
      have := pigeon _ ns nd (fun x m => by obtain ⟨c, mc, rfl⟩ := List.mem_map.mp m; exact all c mc)
      rw [List.length_map] at this
      have : cs.length = 5 := rfl
      omega
    have oks : ∀ c ∈ cs, PyData.strOk (cutS n0 none (some 5) ++ c) = true := fun c m => str_ok uo (by
      simp only [cs, List.mem_cons, List.not_mem_nil, or_false] at m
      rcases m with rfl | rfl | rfl | rfl | rfl <;> decide +kernel)
    have dl : cs.length ≤ sizeLine := show 5 ≤ sizeLine by decide
    generalize cs = ds at exi oks dl
    refine lc_ind (fun xs acc g => ∃ c2 as : List Str, xs = c2.map (fun c => D.str (cutS n0 none (some 5) ++ c)) ∧ acc = as.map D.str ∧ (∀ s ∈ as, s ∉ ns ∧ PyData.strOk s = true) ∧ (as ≠ [] ∨ ∃ c ∈ c2, (cutS n0 none (some 5) ++ c) ∉ ns) ∧ (∀ c ∈ c2, PyData.strOk (cutS n0 none (some 5) ++ c) = true) ∧ as.length + c2.length ≤ sizeLine ∧ g = put h p2 .hid) ?_ ?_ _ _ _ ⟨ds, [], rfl, rfl, by simp, .inr exi, oks, ?_, rfl⟩
    · rintro acc g ⟨c2, as, ex, rfl, ha, hex, _, _, rfl⟩
      have e2 : c2 = [] := by cases c2 with | nil => rfl | cons k ks => cases ex
      subst e2
      cases as with
      | nil => rcases hex with z | ⟨_, m, _⟩; exact absurd rfl z; cases m
      | cons s as =>
        rw [q_lnil]
        simp only [List.map_cons]
        walk_at "dl7"
        rw [del_put np2]
        exact fin (q s (ha s List.mem_cons_self).1 (ha s List.mem_cons_self).2)
    · rintro x xs ih acc g ⟨c2, as, ex, rfl, ha, hex, ho, hs, rfl⟩
      cases c2 with
      | nil => cases ex
      | cons c c2 =>
        simp only [List.map_cons, List.cons.injEq] at ex
        obtain ⟨rfl, rfl⟩ := ex
        simp only [List.length_cons] at hs
        rw [q_lcons]
        ((walk_at "dl7"); repeat (simp only [flat_str, inD_str]; (walk_at "dl7")))
        refine ⟨rfl, sif_i (fun z => ?_) (fun z => ?_)⟩
        · walk_at "dl7"
          refine ⟨by rw [List.length_map]; omega, ih _ _ ⟨c2, as ++ [cutS n0 none (some 5) ++ c], rfl, by simp, ?_, .inl (by simp), fun c m => ho c (List.mem_cons_of_mem _ m), by rw [List.length_append]; simp only [List.length_cons, List.length_nil]; omega, rfl⟩⟩
          intro s m
          rcases List.mem_append.mp m with m | m
          · exact ha s m
          · rw [List.mem_singleton.mp m]
            exact ⟨by simpa using z, ho c List.mem_cons_self⟩
        · refine ih _ _ ⟨c2, as, rfl, rfl, ha, ?_, fun c m => ho c (List.mem_cons_of_mem _ m), by omega, rfl⟩
          rcases hex with w | ⟨d, m, w⟩
          · exact .inl w
          · rcases List.mem_cons.mp m with rfl | m
            · exact absurd w (by simpa using z)
            · exact .inr ⟨d, m, w⟩
    · simpa using dl
  · rintro x xs ih acc g ⟨c1, c2, e, ex, rfl, rfl⟩
    cases c2 with
    | nil => cases ex
    | cons c c2 =>
      simp only [List.map_cons, List.cons.injEq] at ex
      obtain ⟨rfl, rfl⟩ := ex
      have cl : c.length = 1 ∧ c1.length ≤ 5 := by
        have m : c ∈ cs := by rw [e]; simp
        have ll : cs.length = c1.length + (c2.length + 1) := by rw [e]; simp
        have : cs.length = 5 := rfl
        refine ⟨?_, by omega⟩
        simp only [cs, List.mem_cons, List.not_mem_nil, or_false] at m
        rcases m with rfl | rfl | rfl | rfl | rfl <;> rfl
      rw [q_lcons]
      ((walk_at "dl7"); repeat (simp only [q_slS, q_slSs]; (walk_at "dl7")))
      refine ⟨small (by omega), small (by have := cl.1; omega), Nat.lt_of_le_of_lt (show _ ≤ 5 by rw [List.length_map]; exact cl.2) (by decide), ih _ _ ⟨c1 ++ [c], c2, by rw [e]; simp, rfl, by simp, rfl⟩⟩
/-- _law_foreign(tape, kind, letter) -/
def spForeign (n : Nat) : Sp' := fun ds h Q _ => ∃ (a : Addr) (k : Kd) (v : D), ds = [.ref a, kD k, v] ∧ k.ok ∧ k.depth ≤ n ∧ k.depth ≤ 3 ∧ k.cnt ≤ 100 ∧ isL k v = true ∧ Tp h a ∧ ∀ u t, isL k u = false → val u (k.depth + 2) = true → TOk t → Q u (put h a t)
theorem val_of {k : Kd} {v : D} (o : k.ok) (h : isL k v = true) : val v k.depth = true := (let_of _ k v (Nat.le_refl _) o h).2.1
theorem rd__law_foreign (n : Nat) (ds : List D) (h : DH) (Q : VK') (E' : XK') (q : spForeign (n + 1) ds h Q E') : t__law_foreign spDraw (spKinds 50) (spForeign n) spInt spStrange (sp_is_letter 3) (ends Q) (slots n__law_foreign ds) h := by
  obtain ⟨a, k, v, rfl, hk, hd, h3, hc, hv, tp, q⟩ := q
  show t__law_foreign _ _ _ _ _ _ (ends Q) [some (.ref a), some (kD k), some v, none, none, none, none, none] h
  unfold t__law_foreign
  walk_at "dl7"
  refine drw tp (fun c t c0 c1 ot => ?_)
  walk_at "dl7"
  refine ⟨fun τ g => ∃ t x4, τ = [some (.ref a), some (kD k), some v, some (.int c), x4, none, none, none] ∧ g = put h a t ∧ TOk t, ?_, ?_⟩
  · walk_at "dl7"
    refine sif_i (fun b1 => ?_) (fun b1 => ?_)
    · walk_at "dl7"
      refine ⟨k, rfl, by omega, hc, ?_⟩
      walk_at "dl7"
      refine sif_i (fun b2 => ?_) (fun b2 => ?_)
      · cases k with
        | nm ns => simp only [kD]; walk_at "dl7"; exact ⟨t, none, rfl, rfl, ot⟩
        | it => simp only [kD]; walk_at "dl7"; exact ⟨t, none, rfl, rfl, ot⟩
        | pr k1 k2 =>
          simp only [Kd.depth] at hd h3
          simp only [Kd.cnt] at hc
          obtain ⟨x, y, rfl, p1, p2⟩ := pr_form hv
          have vx := val_of hk.1 p1
          have vy := val_of hk.2 p2
          simp only [kD]
          walk_at "dl7"
          refine drw (tp_put ot) (fun r t r0 r1 ot => ?_)
          have rr : r = 0 ∨ r = 1 := by omega
          rcases rr with rfl | rfl
          · walk_at "dl7"
            refine ⟨a, k1, x, rfl, hk.1, by omega, by omega, by omega, p1, tp_put ot, fun u t lu vu ot => ?_⟩
            walk_at "dl7"
            exact ⟨show 2 ≤ sizeLine by decide, show 3 ≤ sizeLine by decide, fin (q (.tup [.str "pair", u, y]) t (by simp only [isL, isStr, decide_true, Bool.true_and, lu, Bool.false_and]) (by
              rw [show (Kd.pr k1 k2).depth + 2 = (1 + max k1.depth k2.depth + 1) + 1 from rfl]
              simp only [val, vals, sok_of, Bool.true_and, Bool.and_true, Bool.and_eq_true]
              exact ⟨val_mono _ _ _ (by omega) vu, val_mono _ _ _ (by omega) vy⟩) ot)⟩
          · walk_at "dl7"
            refine ⟨a, k2, y, rfl, hk.2, by omega, by omega, by omega, p2, tp_put ot, fun u t lu vu ot => ?_⟩
            walk_at "dl7"
            exact ⟨show 3 ≤ sizeLine by decide, show 3 ≤ sizeLine by decide, fin (q (.tup [.str "pair", x, u]) t (by simp only [isL, isStr, decide_true, Bool.true_and, lu, Bool.and_false]) (by
              rw [show (Kd.pr k1 k2).depth + 2 = (1 + max k1.depth k2.depth + 1) + 1 from rfl]
              simp only [val, vals, sok_of, Bool.true_and, Bool.and_true, Bool.and_eq_true]
              exact ⟨val_mono _ _ _ (by omega) vx, val_mono _ _ _ (by omega) vu⟩) ot)⟩
        | ei ks =>
          simp only [Kd.depth] at hd h3
          simp only [Kd.cnt] at hc
          obtain ⟨i, x, k1, rfl, i0, e1, p1⟩ := ei_form hv
          have mk := List.mem_of_getElem? e1
          have m1 := Kd.depth_mem mk
          have m2 := Kd.cnt_mem mk
          have ok1 := Kd.oks_mem.mp hk.2 _ mk
          have vx := val_of ok1 p1
          have dd : (Kd.ei ks).depth + 2 = (1 + Kd.depths ks + 1) + 1 := rfl
          simp only [kD]
          walk_at "dl7"
          refine sif_i (fun b3 => ?_) (fun b3 => ?_)
          · ((walk_at "dl7"); repeat (simp only [len_kDs]; (walk_at "dl7")))
            refine sif_i (fun b4 => ?_) (fun b4 => ?_)
            · ((walk_at "dl7"); repeat (simp only [len_kDs]; (walk_at "dl7")))
              exact fin (q (.tup [.str "case", .int (ks.length : Int), x]) t (by
                simp only [isL, isStr, decide_true, Bool.true_and, isLn_get, Int.toNat_natCast, List.getElem?_eq_none (Nat.le_refl ks.length), Bool.and_false]) (by
                rw [dd]
                simp only [val, vals, sok_of, Bool.true_and, Bool.and_true]
                exact val_mono _ _ _ (by omega) vx) ot)
            · walk_at "dl7"
              rw [q_ixt]
              refine ⟨_, atI_kDs i0 e1, ?_⟩
              walk_at "dl7"
              refine ⟨a, k1, x, rfl, ok1, by omega, by omega, by omega, p1, tp_put ot, fun u t lu vu ot => ?_⟩
              walk_at "dl7"
              exact fin (q (.tup [.str "case", .int i, u]) t (by simp only [isL, isStr, decide_true, Bool.true_and, isLn_get, e1, lu, Bool.and_false]) (by
                rw [dd]
                simp only [val, vals, sok_of, Bool.true_and, Bool.and_true]
                exact val_mono _ _ _ (by omega) vu) ot)
          · walk_at "dl7"
            rw [q_ixt]
            refine ⟨_, atI_kDs i0 e1, ?_⟩
            walk_at "dl7"
            refine ⟨a, k1, x, rfl, ok1, by omega, by omega, by omega, p1, tp_put ot, fun u t lu vu ot => ?_⟩
            walk_at "dl7"
            exact fin (q (.tup [.str "case", .int i, u]) t (by simp only [isL, isStr, decide_true, Bool.true_and, isLn_get, e1, lu, Bool.and_false]) (by
              rw [dd]
              simp only [val, vals, sok_of, Bool.true_and, Bool.and_true]
              exact val_mono _ _ _ (by omega) vu) ot)
        | mb k1 =>
          simp only [Kd.depth] at hd h3
          simp only [Kd.cnt] at hc
          have dd : (Kd.mb k1).depth + 2 = (1 + k1.depth + 1) + 1 := rfl
          rcases mb_form hv with rfl | ⟨x, rfl, p1⟩
          · simp only [kD]
            walk_at "dl7"
            exact ⟨t, none, rfl, rfl, ot⟩
          · simp only [kD]
            walk_at "dl7"
            refine ⟨a, k1, x, rfl, hk, by omega, by omega, by omega, p1, tp_put ot, fun u t lu vu ot => ?_⟩
            walk_at "dl7"
            exact fin (q (.tup [.str "some", u]) t (by simp only [isL, isStr, decide_true, Bool.true_and, lu]) (by
              rw [dd]
              simp only [val, vals, sok_of, Bool.true_and, Bool.and_true]
              exact val_mono _ _ _ (by omega) vu) ot)
      · walk_at "dl7"
        exact ⟨t, none, rfl, rfl, ot⟩
    · walk_at "dl7"
      exact ⟨t, none, rfl, rfl, ot⟩
  · rintro τ g ⟨t, x4, rfl, rfl, ot⟩
    have oth : isL k (.int 0) = false → tlc (tse (tv 5)) 7 (tnot (tb' (tcall (sp_is_letter 3) (fun _ _ => False) (tac (tv 1) (tac (tv 7) tan))))) (tv 7)
        [some (.ref a), some (kD k), some v, some (.int c), x4, some (.lis [.int 0, .str "q", .tup [.str "none"], .tup [.str "some", .int 1], .tup [.str "some", .str "q"], .tup [.str "case", .int 0, .int 1], .tup [.str "pair", .int 0, .str "q"]]), none, none]
        (put h a t) (fun x h1 => caLen [x] h1 fun x_1 h1 => pcall spDraw [.ref a, x_1] h1 (fun y h2 => opIx x y h2 (ends Q).rt) (fun _ _ => False) ⟨⟩) := fun hne => by
      rw [q_lc]
      walk_at "dl7"
      intro p np
      have pa := ne_put np
      refine lc_ind (fun xs acc g => (∀ y ∈ xs, val y 1 = true) ∧ (∀ y ∈ acc, isL k y = false ∧ val y 1 = true) ∧ acc.length + xs.length ≤ 7 ∧ (acc ≠ [] ∨ .int 0 ∈ xs) ∧ g = put (put h a t) p .hid) ?_ ?_ _ _ _ ⟨?_, by simp, by decide, .inr List.mem_cons_self, rfl⟩
      · rintro acc g ⟨_, ha, hl, hex, rfl⟩
        have l1 : 1 ≤ acc.length := by
          rcases hex with z | z
          · exact List.length_pos_iff.mpr z
          · cases z
        rw [q_lnil]
        walk_at "dl7"
        rw [del_put np]
        refine drw (tp_put ot) (fun r t r0 r1 ot => ?_) (by simp only [List.length_nil] at hl; omega)
        walk_at "dl7"
        rw [q_ixl]
        obtain ⟨d, e, m⟩ := pick (xs := acc) r0 (by omega)
        exact ⟨d, e, fin (q d t (ha d m).1 (val_mono _ _ _ (by omega) (ha d m).2) ot)⟩
      · rintro x xs ih acc g ⟨hx, ha, hl, hex, rfl⟩
        have vx := hx x List.mem_cons_self
        simp only [List.length_cons] at hl
        rw [q_lcons]
        walk_at "dl7"
        refine ⟨k, x, rfl, h3, val_mono _ _ _ (by decide) vx, ?_⟩
        cases e : isL k x with
        | true =>
          walk_at "dl7"
          refine ih _ _ ⟨fun y m => hx y (List.mem_cons_of_mem _ m), ha, by omega, ?_, rfl⟩
          rcases hex with z | z
          · exact .inl z
          · rcases List.mem_cons.mp z with z | z
            · rw [← z, hne] at e; cases e
            · exact .inr z
        | false =>
          walk_at "dl7"
          refine ⟨Nat.lt_of_le_of_lt (show acc.length ≤ 7 by omega) (by decide), ih _ _ ⟨fun y m => hx y (List.mem_cons_of_mem _ m), fun y m => ?_, by rw [List.length_append]; simp only [List.length_cons, List.length_nil]; omega, .inl (by simp), rfl⟩⟩
          rcases List.mem_append.mp m with m | m
          · exact ha y m
          · rw [List.mem_singleton.mp m]; exact ⟨e, vx⟩
      · intro y m
        simp only [List.mem_cons, List.not_mem_nil, or_false] at m
        rcases m with rfl | rfl | rfl | rfl | rfl | rfl | rfl <;> simp only [val, vals, sok_of, Bool.and_self]
    cases k with
    | nm ns =>
      simp only [kD]
      walk_at "dl7"
      refine ⟨ns, rfl, hk, fun s sn so => ?_⟩
      walk_at "dl7"
      refine ⟨a, 20, rfl, by decide, by decide, tp_put ot, fun r t ot => ?_⟩
      walk_at "dl7"
      refine drw (tp_put ot) (fun r2 t r0 r1 ot => ?_)
      walk_at "dl7"
      rw [q_ixl]
      obtain ⟨d, e, m⟩ := pick (xs := [D.str s, .int 0, .int 1, .int r]) r0 (by simp only [List.length_cons, List.length_nil]; omega)
      refine ⟨d, e, fin (q d t ?_ ?_ ot)⟩
      · simp only [List.mem_cons, List.not_mem_nil, or_false] at m
        rcases m with rfl | rfl | rfl | rfl
        · simpa [isL] using sn
        · rfl
        · rfl
        · rfl
      · simp only [List.mem_cons, List.not_mem_nil, or_false] at m
        rcases m with rfl | rfl | rfl | rfl
        · exact so
        · rfl
        · rfl
        · rfl
    | it =>
      simp only [kD]
      walk_at "dl7"
      refine drw (tp_put ot) (fun r2 t r0 r1 ot => ?_)
      walk_at "dl7"
      rw [q_ixl]
      obtain ⟨d, e, m⟩ := pick (xs := [D.str "0", .str "q", .str "some"]) r0 (by simp only [List.length_cons, List.length_nil]; omega)
      refine ⟨d, e, fin (q d t ?_ ?_ ot)⟩
      · simp only [List.mem_cons, List.not_mem_nil, or_false] at m
        rcases m with rfl | rfl | rfl <;> rfl
      · simp only [List.mem_cons, List.not_mem_nil, or_false] at m
        rcases m with rfl | rfl | rfl <;> exact sok_of _
    | pr k1 k2 => simp only [kD]; walk_at "dl7"; exact oth rfl
    | ei ks => simp only [kD]; walk_at "dl7"; exact oth rfl
    | mb k1 => simp only [kD]; walk_at "dl7"; exact oth rfl
end K01

set_option Elab.async false
set_option linter.all false
set_option maxRecDepth 100000
set_option maxHeartbeats 1000000
namespace K01
open PySem PySem.Spec PyProof.Rows L2 DL K00
theorem rd_law (ds : List D) (h : DH) (Q : VK') (E' : XK') (q : spLaw ds h Q E') : t_law spTape (spKind 3) (sp__law_turned 3) (spLetter 3) spDraw (spNear 3) (spForeign 3) sp__law_answers sp__law_refused (ends Q) (slots n_law ds) h := by
  obtain ⟨ns, rfl, hl, hn, q⟩ := q
  show t_law _ _ _ _ _ _ _ _ _ (ends Q) [some (.scr ns), none, none, none, none, none, none, none, none, none] h
  unfold t_law
  have done : ∀ h', (ends Q).rt (.bl true) h' := fun h' => fin (q h')
  walk_at "dl7"
  refine ⟨ns, rfl, fun a t na ot => ?_⟩
  walk_at "dl7"
  refine ⟨a, 3, 6, rfl, by decide, by decide, by decide, by decide, tp_put ot, fun k t hk kd kc ot => ?_⟩
  walk_at "dl7"
  have kd : k.depth ≤ 3 := by omega
  have td : (turn k).depth ≤ 3 := by rw [turn_depth]; exact kd
  refine ⟨k, rfl, kd, by omega, ?_⟩
  walk_at "dl7"
  refine ⟨a, k, 20, .int 12, rfl, hk, kd, by omega, by decide, by decide, tp_put ot, fun l1 t le1 ot => ?_⟩
  walk_at "dl7"
  refine ⟨a, k, 20, .int 12, rfl, hk, kd, by omega, by decide, by decide, tp_put ot, fun l2 t le2 ot => ?_⟩
  walk_at "dl7"
  refine ⟨fun τ g => ∃ l2 t, τ = [some (.scr ns), some (.ref a), some (kD k), some (kD (turn k)), some l1, some l2, none, none, none, none] ∧ isL k l2 = true ∧ g = put h a t ∧ TOk t, ?_, ?_⟩
  · walk_at "dl7"
    refine drw (tp_put ot) (fun r t r0 r1 ot => ?_)
    walk_at "dl7"
    refine sif_i (fun b1 => ?_) (fun b1 => ?_)
    · walk_at "dl7"
      refine ⟨a, k, l1, rfl, hk, kd, kd, by omega, le1.1, tp_put ot, fun u t lu ot => ?_⟩
      walk_at "dl7"
      exact ⟨u, t, rfl, lu, rfl, ot⟩
    · walk_at "dl7"
      exact ⟨l2, t, rfl, le2.1, rfl, ot⟩
  · rintro τ g ⟨l2, t, rfl, i2, rfl, ot⟩
    walk_at "dl7"
    refine ⟨a, k, 20, .int 12, rfl, hk, kd, by omega, by decide, by decide, tp_put ot, fun l3 t le3 ot => ?_⟩
    walk_at "dl7"
    refine ⟨a, k, l1, rfl, hk, kd, kd, by omega, le1.1, tp_put ot, fun f t nf vf ot => ?_⟩
    walk_at "dl7"
    have i1 := le1.1
    have i3 := le3.1
    have vl : ∀ {x : D}, isL k x = true → val x 40 = true := fun i => val_mono _ _ _ (by omega) (val_of hk i)
    have v40 : val f 40 = true := val_mono _ _ _ (by omega) vf
    have ans : ∀ {kk : Kd} {x y : D}, kk = k ∨ kk = turn k → isL k x = true → isL k y = true → ∀ {g : DH} {R : VK'} {E : XK'}, R (.bl true) g → sp__law_answers [kD kk, x, y] g R E := fun {kk x y} o ix iy {g R E} q => by
      rcases o with rfl | rfl
      · exact ⟨_, x, y, rfl, kd, vl ix, vl iy, ix, iy, q⟩
      · exact ⟨_, x, y, rfl, td, vl ix, vl iy, isL_turn 3 k x kd ix, isL_turn 3 k y kd iy, q⟩
    refine for_ind (fun xs τ g => (∀ x ∈ xs, ∃ kk, x = kD kk ∧ (kk = k ∨ kk = turn k)) ∧ ∃ x8 x9 : Option D, τ = [some (.scr ns), some (.ref a), some (kD k), some (kD (turn k)), some l1, some l2, some l3, some f, x8, x9]) ?_ ?_ _ _ _ ⟨?_, none, none, rfl⟩
    · rintro τ g ⟨_, x8, x9, rfl⟩
      rw [q_fnil]
      walk_at "dl7"
      refine ⟨k, f, l2, rfl, kd, v40, vl i2, by rw [nf]; rfl, ?_⟩
      walk_at "dl7"
      refine ans (.inl rfl) i2 i2 ?_
      walk_at "dl7"
      refine ⟨k, l1, f, rfl, kd, vl i1, v40, by rw [nf, Bool.and_false], ?_⟩
      walk_at "dl7"
      refine ans (.inl rfl) i3 i2 ?_
      walk_at "dl7"
      exact done _
    · rintro x xs ih τ g ⟨hx, x8, x9, rfl⟩
      obtain ⟨kk, rfl, ok⟩ := hx x List.mem_cons_self
      rw [q_fcons]
      walk_at "dl7"
      refine for_ind (fun ys τ g => (∀ y ∈ ys, ∃ u w, y = .tup [u, w] ∧ isL k u = true ∧ isL k w = true) ∧ ∃ x9 : Option D, τ = [some (.scr ns), some (.ref a), some (kD k), some (kD (turn k)), some l1, some l2, some l3, some f, some (kD kk), x9]) ?_ ?_ _ _ _ ⟨?_, x9, rfl⟩
      · rintro τ g ⟨_, x9, rfl⟩
        rw [q_fnil]
        walk_at "dl7"
        exact ih _ _ ⟨fun y m => hx y (List.mem_cons_of_mem _ m), _, _, rfl⟩
      · rintro y ys ih2 τ g ⟨hy, x9, rfl⟩
        obtain ⟨u, w, rfl, iu, iw⟩ := hy y List.mem_cons_self
        rw [q_fcons]
        walk_at "dl7"
        refine ans ok iu iw ?_
        walk_at "dl7"
        exact ih2 _ _ ⟨fun z m => hy z (List.mem_cons_of_mem _ m), _, rfl⟩
      · intro y m
        simp only [List.mem_cons, List.not_mem_nil, or_false] at m
        rcases m with rfl | rfl | rfl
        · exact ⟨_, _, rfl, i1, i2⟩
        · exact ⟨_, _, rfl, i2, i1⟩
        · exact ⟨_, _, rfl, i1, i3⟩
    · intro x m
      simp only [List.mem_cons, List.not_mem_nil, or_false] at m
      rcases m with rfl | rfl | rfl
      · exact ⟨_, rfl, .inl rfl⟩
      · exact ⟨_, rfl, .inr rfl⟩
      · exact ⟨_, rfl, .inl rfl⟩
end K01

set_option Elab.async false
set_option linter.all false
set_option maxRecDepth 100000
set_option maxHeartbeats 1000000
namespace K04
open PySem PySem.Spec PyProof.Rows L2 DL K00 K01
variable {dm : Kd → Ls → Prop} {S : Kd → Ls → Bool} {C : Ls → D → Bool}
def spIsSet (dm : Kd → Ls → Prop) (S : Kd → Ls → Bool) : Sp' := fun ds h Q _ => ∃ k s, ds = [kD k, sD s] ∧ dm k s ∧ Q (.bl (S k s)) h
def spFits (dm : Kd → Ls → Prop) (S : Kd → Ls → Bool) (n : Nat) : Sp' := fun ds h Q _ => ∃ k c, ds = [kD k, cD c] ∧ 2 * c.depth ≤ n ∧ okC c ∧ domC dm k c ∧ Q (.bl (fitsC S k c)) h
def spFitsShape (dm : Kd → Ls → Prop) (S : Kd → Ls → Bool) (n : Nat) : Sp' := fun ds h Q _ => ∃ k c, ds = [kD k, cD c] ∧ 2 * c.depth ≤ n + 1 ∧ okC c ∧ domC dm k c ∧ (match c with | .tt | .ff | .ng _ | .an _ _ | .orr _ _ | .inn _ => False | _ => True) ∧ Q (.bl (fitsC S k c)) h
theorem rd_fits (n : Nat) (ds : List D) (h : DH) (Q : VK') (E' : XK') (q : spFits dm S (n + 1) ds h Q E') : t_fits (spFits dm S n) (spIsSet dm S) (spFitsShape dm S n) (ends Q) (slots n_fits ds) h := by
  obtain ⟨k, c, rfl, hd, ho, hm, q⟩ := q
  show t_fits _ _ _ (ends Q) [some (kD k), some (cD c), none] h
  unfold t_fits
  cases c with
  | tt => simp only [cD]; ((walk_at "dl7"); repeat (simp only [Bool.or_false, Bool.or_true, Bool.true_or, Bool.false_or]; (walk_at "dl7"))); exact fin (by simpa [fitsC] using q)
  | ff => simp only [cD]; ((walk_at "dl7"); repeat (simp only [Bool.or_false, Bool.or_true, Bool.true_or, Bool.false_or]; (walk_at "dl7"))); exact fin (by simpa [fitsC] using q)
  | ng c =>
    simp only [Cn.depth] at hd
    simp only [cD]
    ((walk_at "dl7"); repeat (simp only [Bool.or_false, Bool.or_true, Bool.true_or, Bool.false_or]; (walk_at "dl7")))
    exact ⟨k, c, rfl, by omega, ho, by simpa [domC] using hm, fin (by simpa [fitsC] using q)⟩
  | an a b =>
    simp only [Cn.depth] at hd
    simp only [cD]
    simp only [domC] at hm
    ((walk_at "dl7"); repeat (simp only [Bool.or_false, Bool.or_true, Bool.true_or, Bool.false_or]; (walk_at "dl7")))
    refine ⟨k, a, rfl, by omega, ho.1, hm.1, ?_⟩
    simp only [fitsC] at q
    cases e : fitsC S k a with
    | true =>
      rw [e] at q
      ((walk_at "dl7"); repeat (simp only [Bool.or_false, Bool.or_true, Bool.true_or, Bool.false_or]; (walk_at "dl7")))
      exact ⟨k, b, rfl, by omega, ho.2, hm.2, fin q⟩
    | false =>
      rw [e] at q
      ((walk_at "dl7"); repeat (simp only [Bool.or_false, Bool.or_true, Bool.true_or, Bool.false_or]; (walk_at "dl7")))
      exact fin q
  | orr a b =>
    simp only [Cn.depth] at hd
    simp only [cD]
    simp only [domC] at hm
    ((walk_at "dl7"); repeat (simp only [Bool.or_false, Bool.or_true, Bool.true_or, Bool.false_or]; (walk_at "dl7")))
    refine ⟨k, a, rfl, by omega, ho.1, hm.1, ?_⟩
    simp only [fitsC] at q
    cases e : fitsC S k a with
    | true =>
      rw [e] at q
      ((walk_at "dl7"); repeat (simp only [Bool.or_false, Bool.or_true, Bool.true_or, Bool.false_or]; (walk_at "dl7")))
      exact ⟨k, b, rfl, by omega, ho.2, hm.2, fin q⟩
    | false =>
      rw [e] at q
      ((walk_at "dl7"); repeat (simp only [Bool.or_false, Bool.or_true, Bool.true_or, Bool.false_or]; (walk_at "dl7")))
      exact fin q
  | inn s =>
    simp only [cD]
    ((walk_at "dl7"); repeat (simp only [Bool.or_false, Bool.or_true, Bool.true_or, Bool.false_or]; (walk_at "dl7")))
    exact ⟨k, s, rfl, by simpa [domC] using hm, fin (by simpa [fitsC] using q)⟩
  | is s => simp only [cD]; ((walk_at "dl7"); repeat (simp only [Bool.or_false, Bool.or_true, Bool.true_or, Bool.false_or]; (walk_at "dl7"))); exact ⟨k, .is s, rfl, by simp only [Cn.depth] at hd ⊢; omega, ho, hm, trivial, fin q⟩
  | lt s => simp only [cD]; ((walk_at "dl7"); repeat (simp only [Bool.or_false, Bool.or_true, Bool.true_or, Bool.false_or]; (walk_at "dl7"))); exact ⟨k, .lt s, rfl, by simp only [Cn.depth] at hd ⊢; omega, ho, hm, trivial, fin q⟩
  | eq s => simp only [cD]; ((walk_at "dl7"); repeat (simp only [Bool.or_false, Bool.or_true, Bool.true_or, Bool.false_or]; (walk_at "dl7"))); exact ⟨k, .eq s, rfl, by simp only [Cn.depth] at hd ⊢; omega, ho, hm, trivial, fin q⟩
  | gt s => simp only [cD]; ((walk_at "dl7"); repeat (simp only [Bool.or_false, Bool.or_true, Bool.true_or, Bool.false_or]; (walk_at "dl7"))); exact ⟨k, .gt s, rfl, by simp only [Cn.depth] at hd ⊢; omega, ho, hm, trivial, fin q⟩
  | md m r => simp only [cD]; ((walk_at "dl7"); repeat (simp only [Bool.or_false, Bool.or_true, Bool.true_or, Bool.false_or]; (walk_at "dl7"))); exact ⟨k, .md m r, rfl, by simp only [Cn.depth] at hd ⊢; omega, ho, hm, trivial, fin q⟩
  | no => simp only [cD]; ((walk_at "dl7"); repeat (simp only [Bool.or_false, Bool.or_true, Bool.true_or, Bool.false_or]; (walk_at "dl7"))); exact ⟨k, .no, rfl, by simp only [Cn.depth] at hd ⊢; omega, ho, hm, trivial, fin q⟩
  | fs c => simp only [cD]; ((walk_at "dl7"); repeat (simp only [Bool.or_false, Bool.or_true, Bool.true_or, Bool.false_or]; (walk_at "dl7"))); exact ⟨k, .fs c, rfl, by simp only [Cn.depth] at hd ⊢; omega, ho, hm, trivial, fin q⟩
  | sn c => simp only [cD]; ((walk_at "dl7"); repeat (simp only [Bool.or_false, Bool.or_true, Bool.true_or, Bool.false_or]; (walk_at "dl7"))); exact ⟨k, .sn c, rfl, by simp only [Cn.depth] at hd ⊢; omega, ho, hm, trivial, fin q⟩
  | so c => simp only [cD]; ((walk_at "dl7"); repeat (simp only [Bool.or_false, Bool.or_true, Bool.true_or, Bool.false_or]; (walk_at "dl7"))); exact ⟨k, .so c, rfl, by simp only [Cn.depth] at hd ⊢; omega, ho, hm, trivial, fin q⟩
  | cs i c => simp only [cD]; ((walk_at "dl7"); repeat (simp only [Bool.or_false, Bool.or_true, Bool.true_or, Bool.false_or]; (walk_at "dl7"))); exact ⟨k, .cs i c, rfl, by simp only [Cn.depth] at hd ⊢; omega, ho, hm, trivial, fin q⟩
theorem rd_fits_shape (n : Nat) (ds : List D) (h : DH) (Q : VK') (E' : XK') (q : spFitsShape dm S (n + 1) ds h Q E') : t_fits_shape (spFits dm S n) (ends Q) (slots n_fits_shape ds) h := by
  obtain ⟨k, c, rfl, hd, ho, hm, hs, q⟩ := q
  show t_fits_shape _ (ends Q) [some (kD k), some (cD c), none, none] h
  unfold t_fits_shape
  cases c with
  | tt | ff | ng c | an a b | orr a b | inn s => exact hs.elim
  | is s =>
    cases k with
    | nm ns =>
      simp only [cD, kD]
      ((walk_at "dl7"); repeat (simp only [Bool.or_false, Bool.or_true, Bool.true_or, Bool.false_or, flat_str, inD_str]; (walk_at "dl7")))
      exact ⟨rfl, fin (by simpa [fitsC] using q)⟩
    | _ => simp only [cD, kD]; ((walk_at "dl7"); repeat (simp only [Bool.or_false, Bool.or_true, Bool.true_or, Bool.false_or]; (walk_at "dl7"))); exact fin (by simpa [fitsC] using q)
  | lt i => cases k <;> simp only [cD, kD] <;> ((walk_at "dl7"); repeat (simp only [Bool.or_false, Bool.or_true, Bool.true_or, Bool.false_or]; (walk_at "dl7"))) <;> exact fin (by simpa [fitsC] using q)
  | eq i => cases k <;> simp only [cD, kD] <;> ((walk_at "dl7"); repeat (simp only [Bool.or_false, Bool.or_true, Bool.true_or, Bool.false_or]; (walk_at "dl7"))) <;> exact fin (by simpa [fitsC] using q)
  | gt i => cases k <;> simp only [cD, kD] <;> ((walk_at "dl7"); repeat (simp only [Bool.or_false, Bool.or_true, Bool.true_or, Bool.false_or]; (walk_at "dl7"))) <;> exact fin (by simpa [fitsC] using q)
  | md m r => cases k <;> simp only [cD, kD] <;> ((walk_at "dl7"); repeat (simp only [Bool.or_false, Bool.or_true, Bool.true_or, Bool.false_or]; (walk_at "dl7"))) <;> exact fin (by simpa [fitsC] using q)
  | no => cases k <;> simp only [cD, kD] <;> ((walk_at "dl7"); repeat (simp only [Bool.or_false, Bool.or_true, Bool.true_or, Bool.false_or]; (walk_at "dl7"))) <;> exact fin (by simpa [fitsC] using q)
  | fs c =>
    simp only [Cn.depth] at hd
    cases k with
    | pr a b =>
      simp only [cD, kD]
      ((walk_at "dl7"); repeat (simp only [Bool.or_false, Bool.or_true, Bool.true_or, Bool.false_or]; (walk_at "dl7")))
      exact ⟨a, c, rfl, by omega, ho, by simpa [domC] using hm, fin (by simpa [fitsC] using q)⟩
    | _ => simp only [cD, kD]; ((walk_at "dl7"); repeat (simp only [Bool.or_false, Bool.or_true, Bool.true_or, Bool.false_or]; (walk_at "dl7"))); exact fin (by simpa [fitsC] using q)
  | sn c =>
    simp only [Cn.depth] at hd
    cases k with
    | pr a b =>
      simp only [cD, kD]
      ((walk_at "dl7"); repeat (simp only [Bool.or_false, Bool.or_true, Bool.true_or, Bool.false_or]; (walk_at "dl7")))
      exact ⟨b, c, rfl, by omega, ho, by simpa [domC] using hm, fin (by simpa [fitsC] using q)⟩
    | _ => simp only [cD, kD]; ((walk_at "dl7"); repeat (simp only [Bool.or_false, Bool.or_true, Bool.true_or, Bool.false_or]; (walk_at "dl7"))); exact fin (by simpa [fitsC] using q)
  | so c =>
    simp only [Cn.depth] at hd
    cases k with
    | mb a =>
      simp only [cD, kD]
      ((walk_at "dl7"); repeat (simp only [Bool.or_false, Bool.or_true, Bool.true_or, Bool.false_or]; (walk_at "dl7")))
      exact ⟨a, c, rfl, by omega, ho, by simpa [domC] using hm, fin (by simpa [fitsC] using q)⟩
    | _ => simp only [cD, kD]; ((walk_at "dl7"); repeat (simp only [Bool.or_false, Bool.or_true, Bool.true_or, Bool.false_or]; (walk_at "dl7"))); exact fin (by simpa [fitsC] using q)
  | cs i c =>
    simp only [Cn.depth] at hd
    cases k with
    | ei ks =>
      simp only [cD, kD]
      ((walk_at "dl7"); repeat (simp only [Bool.or_false, Bool.or_true, Bool.true_or, Bool.false_or, len_kDs]; (walk_at "dl7")))
      refine sif_i (fun z => ?_) (fun z => ?_)
      · have z := of_decide_eq_true z
        have hi : i.toNat < ks.length := by have := ho.1; omega
        have eg := List.getElem?_eq_getElem hi
        walk_at "dl7"
        rw [q_ixt]
        refine ⟨_, atI_kDs ho.1 eg, ?_⟩
        walk_at "dl7"
        simp only [domC] at hm
        exact ⟨_, c, rfl, by omega, ho.2, hm _ eg, fin (by simpa [fitsC, eg] using q)⟩
      · have z : ¬ i < (ks.length : Int) := by simpa using z
        have e : ks[i.toNat]? = none := List.getElem?_eq_none (by omega)
        simp only [fitsC, e] at q
        exact fin q
    | _ => simp only [cD, kD]; ((walk_at "dl7"); repeat (simp only [Bool.or_false, Bool.or_true, Bool.true_or, Bool.false_or]; (walk_at "dl7"))); exact fin (by simpa [fitsC] using q)
def spCheckCond (dm : Kd → Ls → Prop) (S : Kd → Ls → Bool) (n : Nat) (bl : Addr) : Sp' := fun ds h Q E => ∃ k c, ds = [kD k, cD c] ∧ 2 * c.depth ≤ n ∧ okC c ∧ domC dm k c ∧ (fitsC S k c = true → Q .non h) ∧ (fitsC S k c = false → E (.ref bl) h)
theorem rd_check_condition (n : Nat) (bl : Addr) (ds : List D) (h : DH) (Q : VK') (E' : XK') (q : spCheckCond dm S n bl ds h Q E') : t_check_condition (spFits dm S n) bl E' (ends Q) (slots n_check_condition ds) h := by
  obtain ⟨k, c, rfl, hd, ho, hm, q1, q2⟩ := q
  show t_check_condition _ _ _ (ends Q) [some (kD k), some (cD c)] h
  unfold t_check_condition
  ((walk_at "dl7"); repeat (simp only [q_raise]; (walk_at "dl7")))
  refine ⟨k, c, rfl, hd, ho, hm, ?_⟩
  cases e : fitsC S k c with
  | true => walk_at "dl7"; exact fin (q1 e)
  | false => ((walk_at "dl7"); repeat (simp only [q_raise]; (walk_at "dl7"))); exact q2 e
/-- whether a letter is in a set -/
def spContains (dm : Kd → Ls → Prop) (S : Kd → Ls → Bool) (C : Ls → D → Bool) : Sp' := fun ds h Q _ => ∃ k s v, ds = [kD k, sD s, v] ∧ dm k s ∧ S k s = true ∧ isL k v = true ∧ Q (.bl (C s v)) h
def spMetVal : Sp' := fun ds h Q _ => ∃ k c v, ds = [cD c, v] ∧ okC c ∧ (match c with | .is _ | .lt _ | .eq _ | .gt _ | .md _ _ => True | _ => False) ∧ fitsC (fun _ _ => false) k c = true ∧ isL k v = true ∧ Q (.bl (metC (fun _ _ => false) c v)) h
theorem rd_met_by_value (ds : List D) (h : DH) (Q : VK') (E' : XK') (q : spMetVal ds h Q E') : t_met_by_value (ends Q) (slots n_met_by_value ds) h := by
  obtain ⟨k, c, v, rfl, ho, hs, hf, hv, q⟩ := q
  show t_met_by_value (ends Q) [some (cD c), some v, none] h
  unfold t_met_by_value
  cases c with
  | tt | ff | ng c | an a b | orr a b | inn s | no | fs c | sn c | so c | cs i c => exact hs.elim
  | is s =>
    cases k <;> simp [fitsC] at hf
    obtain ⟨x, rfl, m⟩ := nm_form hv
    simp only [cD]
    walk_at "dl7"
    exact fin (by simpa [metC] using q)
  | lt i =>
    cases k <;> simp [fitsC] at hf
    obtain ⟨j, rfl⟩ := it_form hv
    simp only [cD]
    walk_at "dl7"
    exact fin (by simpa [metC] using q)
  | eq i =>
    cases k <;> simp [fitsC] at hf
    obtain ⟨j, rfl⟩ := it_form hv
    simp only [cD]
    walk_at "dl7"
    exact fin (by simpa [metC] using q)
  | gt i =>
    cases k <;> simp [fitsC] at hf
    obtain ⟨j, rfl⟩ := it_form hv
    simp only [cD]
    walk_at "dl7"
    exact fin (by simpa [metC] using q)
  | md m r =>
    cases k <;> simp [fitsC] at hf
    obtain ⟨j, rfl⟩ := it_form hv
    simp only [cD]
    walk_at "dl7"
    exact ⟨ho, fin (by simpa [metC] using q)⟩
end K04

set_option Elab.async false
set_option linter.all false
set_option maxRecDepth 100000
set_option maxHeartbeats 1000000
namespace K04
open PySem PySem.Spec PyProof.Rows L2 DL K00 K01
variable {dm : Kd → Ls → Prop} {S : Kd → Ls → Bool} {C : Ls → D → Bool}
def spMet (dm : Kd → Ls → Prop) (S : Kd → Ls → Bool) (C : Ls → D → Bool) (n : Nat) : Sp' := fun ds h Q _ => ∃ k c v, ds = [kD k, cD c, v] ∧ c.depth ≤ n ∧ okC c ∧ domC dm k c ∧ fitsC S k c = true ∧ isL k v = true ∧ Q (.bl (metC C c v)) h
theorem rd_met (n : Nat) (ds : List D) (h : DH) (Q : VK') (E' : XK') (q : spMet dm S C (n + 1) ds h Q E') : t_met (spMet dm S C n) (spContains dm S C) spMetVal (ends Q) (slots n_met ds) h := by
  obtain ⟨k, c, v, rfl, hd, ho, hm, hf, hv, q⟩ := q
  show t_met _ _ _ (ends Q) [some (kD k), some (cD c), some v, none] h
  unfold t_met
  cases c with
  | tt => simp only [cD]; ((walk_at "dl7"); repeat (simp only [Bool.or_false, Bool.or_true, Bool.true_or, Bool.false_or]; (walk_at "dl7"))); exact fin (by simpa [metC] using q)
  | ff => simp only [cD]; ((walk_at "dl7"); repeat (simp only [Bool.or_false, Bool.or_true, Bool.true_or, Bool.false_or]; (walk_at "dl7"))); exact fin (by simpa [metC] using q)
  | ng c =>
    simp only [Cn.depth] at hd
    simp only [domC] at hm
    simp only [fitsC] at hf
    simp only [cD]
    ((walk_at "dl7"); repeat (simp only [Bool.or_false, Bool.or_true, Bool.true_or, Bool.false_or]; (walk_at "dl7")))
    refine ⟨k, c, v, rfl, by omega, ho, hm, hf, hv, ?_⟩
    walk_at "dl7"
    exact fin (by simpa [metC] using q)
  | an a b =>
    simp only [Cn.depth] at hd
    simp only [domC] at hm
    simp only [fitsC, Bool.and_eq_true] at hf
    simp only [cD]
    ((walk_at "dl7"); repeat (simp only [Bool.or_false, Bool.or_true, Bool.true_or, Bool.false_or]; (walk_at "dl7")))
    refine ⟨k, a, v, rfl, by omega, ho.1, hm.1, hf.1, hv, ?_⟩
    simp only [metC] at q
    cases e : metC C a v with
    | true =>
      rw [e] at q
      ((walk_at "dl7"); repeat (simp only [Bool.or_false, Bool.or_true, Bool.true_or, Bool.false_or]; (walk_at "dl7")))
      exact ⟨k, b, v, rfl, by omega, ho.2, hm.2, hf.2, hv, fin q⟩
    | false =>
      rw [e] at q
      ((walk_at "dl7"); repeat (simp only [Bool.or_false, Bool.or_true, Bool.true_or, Bool.false_or]; (walk_at "dl7")))
      exact fin q
  | orr a b =>
    simp only [Cn.depth] at hd
    simp only [domC] at hm
    simp only [fitsC, Bool.and_eq_true] at hf
    simp only [cD]
    ((walk_at "dl7"); repeat (simp only [Bool.or_false, Bool.or_true, Bool.true_or, Bool.false_or]; (walk_at "dl7")))
    refine ⟨k, a, v, rfl, by omega, ho.1, hm.1, hf.1, hv, ?_⟩
    simp only [metC] at q
    cases e : metC C a v with
    | true =>
      rw [e] at q
      ((walk_at "dl7"); repeat (simp only [Bool.or_false, Bool.or_true, Bool.true_or, Bool.false_or]; (walk_at "dl7")))
      exact fin q
    | false =>
      rw [e] at q
      ((walk_at "dl7"); repeat (simp only [Bool.or_false, Bool.or_true, Bool.true_or, Bool.false_or]; (walk_at "dl7")))
      exact ⟨k, b, v, rfl, by omega, ho.2, hm.2, hf.2, hv, fin q⟩
  | inn s =>
    simp only [domC] at hm
    simp only [fitsC] at hf
    simp only [cD]
    ((walk_at "dl7"); repeat (simp only [Bool.or_false, Bool.or_true, Bool.true_or, Bool.false_or]; (walk_at "dl7")))
    exact ⟨k, s, v, rfl, hm, hf, hv, fin (by simpa [metC] using q)⟩
  | is s =>
    simp only [cD]; ((walk_at "dl7"); repeat (simp only [Bool.or_false, Bool.or_true, Bool.true_or, Bool.false_or]; (walk_at "dl7")))
    exact ⟨k, .is s, v, rfl, ho, trivial, by cases k <;> simpa [fitsC] using hf, hv, fin (by cases v <;> simpa [metC] using q)⟩
  | lt s =>
    simp only [cD]; ((walk_at "dl7"); repeat (simp only [Bool.or_false, Bool.or_true, Bool.true_or, Bool.false_or]; (walk_at "dl7")))
    exact ⟨k, .lt s, v, rfl, ho, trivial, by cases k <;> simpa [fitsC] using hf, hv, fin (by cases v <;> simpa [metC] using q)⟩
  | eq s =>
    simp only [cD]; ((walk_at "dl7"); repeat (simp only [Bool.or_false, Bool.or_true, Bool.true_or, Bool.false_or]; (walk_at "dl7")))
    exact ⟨k, .eq s, v, rfl, ho, trivial, by cases k <;> simpa [fitsC] using hf, hv, fin (by cases v <;> simpa [metC] using q)⟩
  | gt s =>
    simp only [cD]; ((walk_at "dl7"); repeat (simp only [Bool.or_false, Bool.or_true, Bool.true_or, Bool.false_or]; (walk_at "dl7")))
    exact ⟨k, .gt s, v, rfl, ho, trivial, by cases k <;> simpa [fitsC] using hf, hv, fin (by cases v <;> simpa [metC] using q)⟩
  | md m r =>
    simp only [cD]; ((walk_at "dl7"); repeat (simp only [Bool.or_false, Bool.or_true, Bool.true_or, Bool.false_or]; (walk_at "dl7")))
    exact ⟨k, .md m r, v, rfl, ho, trivial, by cases k <;> simpa [fitsC] using hf, hv, fin (by cases v <;> simpa [metC] using q)⟩
  | no =>
    cases k <;> simp [fitsC] at hf
    rename_i k1
    simp only [cD]
    rcases mb_form hv with rfl | ⟨x, rfl, p1⟩
    · ((walk_at "dl7"); repeat (simp only [Bool.or_false, Bool.or_true, Bool.true_or, Bool.false_or]; (walk_at "dl7"))); exact fin (by simpa [metC] using q)
    · ((walk_at "dl7"); repeat (simp only [Bool.or_false, Bool.or_true, Bool.true_or, Bool.false_or]; (walk_at "dl7"))); exact fin (by simpa [metC] using q)
  | fs c =>
    simp only [Cn.depth] at hd
    cases k <;> simp [fitsC] at hf
    rename_i k1 k2
    simp only [domC] at hm
    obtain ⟨x, y, rfl, p1, p2⟩ := pr_form hv
    simp only [cD, kD]
    ((walk_at "dl7"); repeat (simp only [Bool.or_false, Bool.or_true, Bool.true_or, Bool.false_or]; (walk_at "dl7")))
    exact ⟨k1, c, x, rfl, by omega, ho, hm, hf, p1, fin (by simpa [metC] using q)⟩
  | sn c =>
    simp only [Cn.depth] at hd
    cases k <;> simp [fitsC] at hf
    rename_i k1 k2
    simp only [domC] at hm
    obtain ⟨x, y, rfl, p1, p2⟩ := pr_form hv
    simp only [cD, kD]
    ((walk_at "dl7"); repeat (simp only [Bool.or_false, Bool.or_true, Bool.true_or, Bool.false_or]; (walk_at "dl7")))
    exact ⟨k2, c, y, rfl, by omega, ho, hm, hf, p2, fin (by simpa [metC] using q)⟩
  | cs i c =>
    simp only [Cn.depth] at hd
    cases k <;> simp [fitsC] at hf
    rename_i ks
    simp only [domC] at hm
    obtain ⟨j, x, k1, rfl, j0, e1, p1⟩ := ei_form hv
    simp only [cD, kD]
    simp only [metC] at q
    ((walk_at "dl7"); repeat (simp only [Bool.or_false, Bool.or_true, Bool.true_or, Bool.false_or]; (walk_at "dl7")))
    refine sif_i (fun z => ?_) (fun z => ?_)
    · have z := of_decide_eq_true z
      subst z
      simp only [e1] at hf
      walk_at "dl7"
      rw [q_ixt]
      refine ⟨_, atI_kDs j0 e1, ?_⟩
      walk_at "dl7"
      exact ⟨k1, c, x, rfl, by omega, ho.2, hm _ e1, hf, p1, fin (by simpa using q)⟩
    · rw [z] at q
      exact fin (by simpa using q)
  | so c =>
    simp only [Cn.depth] at hd
    cases k <;> simp [fitsC] at hf
    rename_i k1
    simp only [domC] at hm
    simp only [cD, kD]
    rcases mb_form hv with rfl | ⟨x, rfl, p1⟩
    · ((walk_at "dl7"); repeat (simp only [Bool.or_false, Bool.or_true, Bool.true_or, Bool.false_or]; (walk_at "dl7"))); exact fin (by simpa [metC] using q)
    · ((walk_at "dl7"); repeat (simp only [Bool.or_false, Bool.or_true, Bool.true_or, Bool.false_or]; (walk_at "dl7")))
      exact ⟨k1, c, x, rfl, by omega, ho, hm, hf, p1, fin (by simpa [metC] using q)⟩
/-- meets: an answer, BadCondition (bc) or BadLetter (bl) -/
def spMeets (dm : Kd → Ls → Prop) (S : Kd → Ls → Bool) (C : Ls → D → Bool) (n : Nat) (bc bl : Addr) : Sp' := fun ds h Q E => ∃ k c v, ds = [kD k, cD c, v] ∧ 2 * c.depth ≤ n ∧ k.depth ≤ 3 ∧ okC c ∧ domC dm k c ∧ val v 40 = true ∧
  (fitsC S k c = false → E (.ref bc) h) ∧ (fitsC S k c = true → isL k v = false → E (.ref bl) h) ∧ (fitsC S k c = true → isL k v = true → Q (.bl (metC C c v)) h)
theorem rd_meets (n : Nat) (bc bl : Addr) (ds : List D) (h : DH) (Q : VK') (E' : XK') (q : spMeets dm S C n bc bl ds h Q E') : t_meets (spCheckCond dm S n bc) (sp_check_letter bl) (spMet dm S C n) E' (ends Q) (slots n_meets ds) h := by
  obtain ⟨k, c, v, rfl, hd, hk, ho, hm, vv, q1, q2, q3⟩ := q
  show t_meets _ _ _ _ (ends Q) [some (kD k), some (cD c), some v] h
  unfold t_meets
  walk_at "dl7"
  refine ⟨k, c, rfl, hd, ho, hm, fun hf => ?_, q1⟩
  walk_at "dl7"
  refine ⟨k, v, rfl, hk, vv, fun hv => ?_, q2 hf⟩
  walk_at "dl7"
  exact ⟨k, c, v, rfl, by omega, ho, hm, hf, hv, fin (q3 hf hv)⟩
/-- _law_in, of a set of the kind -/
def spLawIn (dm : Kd → Ls → Prop) (S : Kd → Ls → Bool) (C : Ls → D → Bool) : Sp' := fun ds h Q _ => ∃ k s v, ds = [sD s, v] ∧ dm k s ∧ S k s = true ∧ isL k v = true ∧ Q (.bl (C s v)) h
def spLawMeets (dm : Kd → Ls → Prop) (S : Kd → Ls → Bool) (C : Ls → D → Bool) (n : Nat) : Sp' := fun ds h Q _ => ∃ k c v, ds = [cD c, v] ∧ c.depth ≤ n ∧ okC c ∧ domC dm k c ∧ fitsC S k c = true ∧ isL k v = true ∧ Q (.bl (metC C c v)) h
theorem rd__law_meets (n : Nat) (ds : List D) (h : DH) (Q : VK') (E' : XK') (q : spLawMeets dm S C (n + 1) ds h Q E') : t__law_meets (spLawMeets dm S C n) (spLawIn dm S C) (ends Q) (slots n__law_meets ds) h := by
  obtain ⟨k, c, v, rfl, hd, ho, hm, hf, hv, q⟩ := q
  show t__law_meets _ _ (ends Q) [some (cD c), some v, none] h
  unfold t__law_meets
  cases c with
  | tt => simp only [cD]; ((walk_at "dl7"); repeat (simp only [Bool.or_false, Bool.or_true, Bool.true_or, Bool.false_or]; (walk_at "dl7"))); exact fin (by simpa [metC] using q)
  | ff => simp only [cD]; ((walk_at "dl7"); repeat (simp only [Bool.or_false, Bool.or_true, Bool.true_or, Bool.false_or]; (walk_at "dl7"))); exact fin (by simpa [metC] using q)
  | ng c =>
    simp only [Cn.depth] at hd
    simp only [domC] at hm
    simp only [fitsC] at hf
    simp only [cD]
    ((walk_at "dl7"); repeat (simp only [Bool.or_false, Bool.or_true, Bool.true_or, Bool.false_or]; (walk_at "dl7")))
    refine ⟨k, c, v, rfl, by omega, ho, hm, hf, hv, ?_⟩
    walk_at "dl7"
    exact fin (by simpa [metC] using q)
  | an a b =>
    simp only [Cn.depth] at hd
    simp only [domC] at hm
    simp only [fitsC, Bool.and_eq_true] at hf
    simp only [cD]
    ((walk_at "dl7"); repeat (simp only [Bool.or_false, Bool.or_true, Bool.true_or, Bool.false_or]; (walk_at "dl7")))
    refine ⟨k, a, v, rfl, by omega, ho.1, hm.1, hf.1, hv, ?_⟩
    simp only [metC] at q
    cases e : metC C a v with
    | true =>
      rw [e] at q
      ((walk_at "dl7"); repeat (simp only [Bool.or_false, Bool.or_true, Bool.true_or, Bool.false_or]; (walk_at "dl7")))
      exact ⟨k, b, v, rfl, by omega, ho.2, hm.2, hf.2, hv, fin q⟩
    | false =>
      rw [e] at q
      ((walk_at "dl7"); repeat (simp only [Bool.or_false, Bool.or_true, Bool.true_or, Bool.false_or]; (walk_at "dl7")))
      exact fin q
  | orr a b =>
    simp only [Cn.depth] at hd
    simp only [domC] at hm
    simp only [fitsC, Bool.and_eq_true] at hf
    simp only [cD]
    ((walk_at "dl7"); repeat (simp only [Bool.or_false, Bool.or_true, Bool.true_or, Bool.false_or]; (walk_at "dl7")))
    refine ⟨k, a, v, rfl, by omega, ho.1, hm.1, hf.1, hv, ?_⟩
    simp only [metC] at q
    cases e : metC C a v with
    | true =>
      rw [e] at q
      ((walk_at "dl7"); repeat (simp only [Bool.or_false, Bool.or_true, Bool.true_or, Bool.false_or]; (walk_at "dl7")))
      exact fin q
    | false =>
      rw [e] at q
      ((walk_at "dl7"); repeat (simp only [Bool.or_false, Bool.or_true, Bool.true_or, Bool.false_or]; (walk_at "dl7")))
      exact ⟨k, b, v, rfl, by omega, ho.2, hm.2, hf.2, hv, fin q⟩
  | inn s =>
    simp only [domC] at hm
    simp only [fitsC] at hf
    simp only [cD]
    ((walk_at "dl7"); repeat (simp only [Bool.or_false, Bool.or_true, Bool.true_or, Bool.false_or]; (walk_at "dl7")))
    exact ⟨k, s, v, rfl, hm, hf, hv, fin (by simpa [metC] using q)⟩
  | is s =>
    cases k <;> simp [fitsC] at hf
    obtain ⟨x, rfl, m⟩ := nm_form hv
    simp only [cD]; ((walk_at "dl7"); repeat (simp only [Bool.or_false, Bool.or_true, Bool.true_or, Bool.false_or]; (walk_at "dl7")))
    exact fin (by simpa [metC] using q)
  | lt s =>
    cases k <;> simp [fitsC] at hf
    obtain ⟨j, rfl⟩ := it_form hv
    simp only [cD]; ((walk_at "dl7"); repeat (simp only [Bool.or_false, Bool.or_true, Bool.true_or, Bool.false_or]; (walk_at "dl7")))
    exact fin (by simpa [metC] using q)
  | eq s =>
    cases k <;> simp [fitsC] at hf
    obtain ⟨j, rfl⟩ := it_form hv
    simp only [cD]; ((walk_at "dl7"); repeat (simp only [Bool.or_false, Bool.or_true, Bool.true_or, Bool.false_or]; (walk_at "dl7")))
    exact fin (by simpa [metC] using q)
  | gt s =>
    cases k <;> simp [fitsC] at hf
    obtain ⟨j, rfl⟩ := it_form hv
    simp only [cD]; ((walk_at "dl7"); repeat (simp only [Bool.or_false, Bool.or_true, Bool.true_or, Bool.false_or]; (walk_at "dl7")))
    exact fin (by simpa [metC] using q)
  | md m r =>
    cases k <;> simp [fitsC] at hf
    obtain ⟨j, rfl⟩ := it_form hv
    simp only [cD]; ((walk_at "dl7"); repeat (simp only [Bool.or_false, Bool.or_true, Bool.true_or, Bool.false_or]; (walk_at "dl7")))
    exact ⟨ho, fin (by simpa [metC] using q)⟩
  | no =>
    cases k <;> simp [fitsC] at hf
    rename_i k1
    simp only [cD]
    rcases mb_form hv with rfl | ⟨x, rfl, p1⟩
    · ((walk_at "dl7"); repeat (simp only [Bool.or_false, Bool.or_true, Bool.true_or, Bool.false_or]; (walk_at "dl7"))); exact fin (by simpa [metC] using q)
    · ((walk_at "dl7"); repeat (simp only [Bool.or_false, Bool.or_true, Bool.true_or, Bool.false_or]; (walk_at "dl7"))); exact fin (by simpa [metC] using q)
  | fs c =>
    simp only [Cn.depth] at hd
    cases k <;> simp [fitsC] at hf
    rename_i k1 k2
    simp only [domC] at hm
    obtain ⟨x, y, rfl, p1, p2⟩ := pr_form hv
    simp only [cD]
    ((walk_at "dl7"); repeat (simp only [Bool.or_false, Bool.or_true, Bool.true_or, Bool.false_or]; (walk_at "dl7")))
    exact ⟨k1, c, x, rfl, by omega, ho, hm, hf, p1, fin (by simpa [metC] using q)⟩
  | sn c =>
    simp only [Cn.depth] at hd
    cases k <;> simp [fitsC] at hf
    rename_i k1 k2
    simp only [domC] at hm
    obtain ⟨x, y, rfl, p1, p2⟩ := pr_form hv
    simp only [cD]
    ((walk_at "dl7"); repeat (simp only [Bool.or_false, Bool.or_true, Bool.true_or, Bool.false_or]; (walk_at "dl7")))
    exact ⟨k2, c, y, rfl, by omega, ho, hm, hf, p2, fin (by simpa [metC] using q)⟩
  | cs i c =>
    simp only [Cn.depth] at hd
    cases k <;> simp [fitsC] at hf
    rename_i ks
    simp only [domC] at hm
    obtain ⟨j, x, k1, rfl, j0, e1, p1⟩ := ei_form hv
    simp only [cD]
    simp only [metC] at q
    ((walk_at "dl7"); repeat (simp only [Bool.or_false, Bool.or_true, Bool.true_or, Bool.false_or]; (walk_at "dl7")))
    refine sif_i (fun z => ?_) (fun z => ?_)
    · have z := of_decide_eq_true z
      subst z
      simp only [e1] at hf
      walk_at "dl7"
      exact ⟨k1, c, x, rfl, by omega, ho.2, hm _ e1, hf, p1, fin (by simpa using q)⟩
    · rw [z] at q
      exact fin (by simpa using q)
  | so c =>
    simp only [Cn.depth] at hd
    cases k <;> simp [fitsC] at hf
    rename_i k1
    simp only [domC] at hm
    simp only [cD]
    rcases mb_form hv with rfl | ⟨x, rfl, p1⟩
    · ((walk_at "dl7"); repeat (simp only [Bool.or_false, Bool.or_true, Bool.true_or, Bool.false_or]; (walk_at "dl7"))); exact fin (by simpa [metC] using q)
    · ((walk_at "dl7"); repeat (simp only [Bool.or_false, Bool.or_true, Bool.true_or, Bool.false_or]; (walk_at "dl7")))
      exact ⟨k1, c, x, rfl, by omega, ho, hm, hf, p1, fin (by simpa [metC] using q)⟩
end K04

-- set2
set_option Elab.async false
set_option linter.all false
set_option maxRecDepth 100000
set_option maxHeartbeats 1000000
local macro_rules | `(tactic| walk_at "dl7") => `(tactic| (try simp only [↓DL.q_nx, ↓DL.q_seq, ↓DL.q_br, ↓DL.q_ct, ↓DL.q_drop, ↓DL.q_ret, ↓DL.q_retn, ↓DL.q_ifs, ↓DL.q_asg, ↓DL.q_gn, ↓DL.q_gsub, ↓DL.q_gtup, ↓DL.q_gco, ↓DL.q_gni, ↓DL.q_for, ↓DL.q_yes, ↓DL.q_c, ↓DL.q_to, ↓DL.q_tu, ↓DL.q_tb, ↓DL.q_isB, ↓DL.q_isI, ↓DL.q_ch, ↓DL.q_and, ↓DL.q_or, ↓DL.q_orp, ↓DL.q_not, ↓DL.q_andv, ↓DL.q_orv, ↓DL.q_notv, ↓DL.q_if, ↓DL.q_an, ↓DL.q_ac, ↓DL.q_tup, ↓DL.q_lis, ↓DL.q_own, ↓DL.q_call, ↓DL.q_cb, ↓DL.q_bm, ↓DL.q_sl, ↓DL.q_slt, ↓DL.q_sll, ↓DL.q_pn, ↓DL.q_pe, ↓DL.q_addi, ↓DL.q_adds, ↓DL.q_addt, ↓DL.q_addl, ↓DL.q_I2, ↓DL.q_neg, ↓DL.q_eqi, ↓DL.q_eqs, ↓DL.q_eqb, ↓DL.q_neb, ↓DL.q_nei, ↓DL.q_nes, ↓DL.q_eq_non_int, ↓DL.q_ne_non_int, ↓DL.q_eq_non_bl, ↓DL.q_ne_non_bl, ↓DL.q_eq_non_str, ↓DL.q_ne_non_str, ↓DL.q_eq_int_non, ↓DL.q_ne_int_non, ↓DL.q_eq_bl_non, ↓DL.q_ne_bl_non, ↓DL.q_eq_str_non, ↓DL.q_ne_str_non, ↓DL.q_eq_int_str, ↓DL.q_ne_int_str, ↓DL.q_eq_str_int, ↓DL.q_ne_str_int, ↓DL.q_eq_bl_str, ↓DL.q_ne_bl_str, ↓DL.q_eq_str_bl, ↓DL.q_ne_str_bl, ↓DL.q_eq_non_non, ↓DL.q_ne_non_non, ↓DL.q_isnon_bl, ↓DL.q_isnon_int, ↓DL.q_isnon_str, ↓DL.q_isnon_tup, ↓DL.q_isnon_lis, ↓DL.q_isnon_non, ↓DL.q_int, ↓DL.q_inl, ↓DL.q_isn, ↓DL.q_ixc, ↓DL.q_lent, ↓DL.q_lenl, ↓DL.q_lenc, ↓DL.q_lens, ↓DL.q_is, ↓DL.q_toi, ↓DL.q_tob, ↓DL.q_abs, ↓DL.q_max, ↓DL.q_min, ↓DL.q_list, ↓DL.q_listo, ↓DL.q_tuple, ↓DL.q_sum, ↓DL.q_kt, ↓DL.q_kl, ↓DL.q_kc, ↓DL.q_tv0, ↓DL.q_st0, ↓DL.q_tv1, ↓DL.q_st1, ↓DL.q_tv2, ↓DL.q_st2, ↓DL.q_tv3, ↓DL.q_st3, ↓DL.q_tv4, ↓DL.q_st4, ↓DL.q_tv5, ↓DL.q_st5, ↓DL.q_tv6, ↓DL.q_st6, ↓DL.q_tv7, ↓DL.q_st7, ↓DL.q_tv8, ↓DL.q_st8, ↓DL.q_tv9, ↓DL.q_st9, ↓DL.q_tv10, ↓DL.q_st10, ↓DL.q_tv11, ↓DL.q_st11, ↓DL.q_tv12, ↓DL.q_st12, ↓DL.q_tv13, ↓DL.q_st13, ↓DL.q_tv14, ↓DL.q_st14, ↓DL.q_tv15, ↓DL.q_st15, ↓DL.q_ixt0, ↓DL.q_ixl0, ↓DL.q_ixt1, ↓DL.q_ixl1, ↓DL.q_ixt2, ↓DL.q_ixl2, ↓DL.q_ixt3, ↓DL.q_ixl3, ↓DL.q_ixt4, ↓DL.q_ixl4, ↓DL.q_oixr, ↓DL.q_oinr, ↓DL.q_olen, ↓DL.q_okr, ↓DL.q_oapp, ↓DL.q_olsr, ↓DL.q_osetD, ↓DL.q_ln0, ↓DL.q_sz0, ↓DL.q_ln1, ↓DL.q_sz1, ↓DL.q_ln2, ↓DL.q_sz2, ↓DL.q_ln3, ↓DL.q_sz3, ↓DL.q_ln4, ↓DL.q_sz4, ↓DL.q_ln5, ↓DL.q_sz5, ↓DL.q_ln6, ↓DL.q_sz6, ↓DL.q_ln7, ↓DL.q_sz7, ↓DL.q_ln8, ↓DL.q_sz8, ↓DL.q_wseq, ↓DL.q_wt, ↓DL.q_wl, ↓DL.q_wc, ↓DL.q_wr, ↓DL.q_wr1, ↓DL.q_wr1', ↓DL.q_setL0, ↓DL.q_setL1, ↓DL.q_setL2, ↓DL.q_setL3, ↓DL.q_setL4, ↓DL.q_pl_non, ↓DL.q_in_non_int, ↓DL.q_in_non_bool, ↓DL.q_in_non_str, ↓DL.q_in_non_tuple, ↓DL.q_in_non_list, ↓DL.q_pl_bl, ↓DL.q_in_bl_int, ↓DL.q_in_bl_bool, ↓DL.q_in_bl_str, ↓DL.q_in_bl_tuple, ↓DL.q_in_bl_list, ↓DL.q_pl_int, ↓DL.q_in_int_int, ↓DL.q_in_int_bool, ↓DL.q_in_int_str, ↓DL.q_in_int_tuple, ↓DL.q_in_int_list, ↓DL.q_pl_str, ↓DL.q_in_str_int, ↓DL.q_in_str_bool, ↓DL.q_in_str_str, ↓DL.q_in_str_tuple, ↓DL.q_in_str_list, ↓DL.q_pl_tup, ↓DL.q_in_tup_int, ↓DL.q_in_tup_bool, ↓DL.q_in_tup_str, ↓DL.q_in_tup_tuple, ↓DL.q_in_tup_list, ↓DL.q_pl_lis, ↓DL.q_in_lis_int, ↓DL.q_in_lis_bool, ↓DL.q_in_lis_str, ↓DL.q_in_lis_tuple, ↓DL.q_in_lis_list, ↓DL.q_ty_int, ↓DL.q_ty_bool, ↓DL.q_ty_str, ↓DL.q_ty_tuple, ↓DL.q_ty_list, DL.sif_t, DL.sif_f, DL.ofStr_inj, String.reduceEq, decide_true, decide_false, Bool.not_true, Bool.not_false, true_and, and_true, List.length_cons, List.length_nil, Int.reduceAdd, Int.reduceMul, Int.reduceNeg, Int.reduceSub, Nat.reduceAdd, if_true, if_false, Bool.false_eq_true, Int.reduceEq, Int.reduceLT, Int.reduceLE, eq_self, not_false_eq_true, DL.mulOk, or_true, true_or, and_self, Int.reduceToNat, Nat.reduceLT, Int.reducePow, DL.put_same, DL.put_put, ↓DL.q_tru, ↓DL.q_truB, ↓DL.q_truI, ↓DL.q_truT, ↓DL.q_truL, ↓DL.q_any, ↓DL.q_all, ↓DL.q_dnew, ↓DL.q_dget, ↓DL.q_dix, ↓DL.q_dput, ↓DL.q_ext1, ↓DL.q_rg2, ↓DL.q_rg2K, ↓DL.q_tv16, ↓DL.q_st16, ↓DL.q_tv17, ↓DL.q_st17, ↓DL.q_tv18, ↓DL.q_st18, ↓DL.q_tv19, ↓DL.q_st19, ↓DL.q_tv20, ↓DL.q_st20, ↓DL.q_tv21, ↓DL.q_st21, ↓DL.q_tv22, ↓DL.q_st22, ↓DL.q_tv23, ↓DL.q_st23, ↓DL.q_tv24, ↓DL.q_st24, ↓DL.q_tv25, ↓DL.q_st25, ↓DL.q_tv26, ↓DL.q_st26, ↓DL.q_tv27, ↓DL.q_st27, ↓DL.q_tv28, ↓DL.q_st28, ↓DL.q_tv29, ↓DL.q_st29, ↓DL.q_tv30, ↓DL.q_st30, ↓DL.q_tv31, ↓DL.q_st31, ↓DL.q_tv32, ↓DL.q_st32, ↓DL.q_tv33, ↓DL.q_st33, ↓DL.q_tv34, ↓DL.q_st34, ↓DL.q_tv35, ↓DL.q_st35]))
namespace K04
open PySem PySem.Spec PyProof.Rows L2 DL K00 K01
/-! whether a letter is in a set -/
theorem flat_int (ns : List Int) : (ns.map D.int).all flatD = true := by
  induction ns with
  | nil => rfl
  | cons n ns ih => simpa [flatD] using ih
theorem inD_intl (x : Int) (ns : List Int) : inD (.int x) (ns.map .int) = ns.contains x := by
  induction ns with
  | nil => rfl
  | cons n ns ih =>
    simp only [List.map_cons, List.contains_cons, inD_ii, ih]
    rw [Bool.beq_eq_decide_eq]
    congr 1
    exact decide_eq_decide.mpr ⟨fun h => h.symm, fun h => h.symm⟩
theorem atI_bl {bs : List Bool} {r : Int} (h0 : 0 ≤ r) (h1 : r < (bs.length : Int)) : atI (bs.map D.bl) r = some (.bl (atB bs r)) := by
  have hi : r.toNat < bs.length := by omega
  have z : atI (bs.map D.bl) ((r.toNat : Nat) : Int) = some (.bl bs[r.toNat]) := atI_nat (by rw [List.getElem?_map, List.getElem?_eq_getElem hi]; rfl)
  rw [show ((r.toNat : Nat) : Int) = r by omega] at z
  rw [z]
  unfold atB
  rw [List.getD_eq_getElem?_getD, List.getElem?_eq_getElem hi]
  rfl
def sp_has_integer : Sp' := fun ds h Q _ => ∃ lo bel mem hi abv i, ds = [sD (.it lo bel mem hi abv), .int i] ∧ tailOk bel ∧ tailOk abv ∧ Q (.bl (inI lo bel mem hi abv i)) h
theorem rd_has_integer (ds : List D) (h : DH) (Q : VK') (E' : XK') (q : sp_has_integer ds h Q E') : t_has_integer (ends Q) (slots n_has_integer ds) h := by
  obtain ⟨lo, bel, mem, hi, abv, i, rfl, hb, ha, q⟩ := q
  show t_has_integer (ends Q) [some (sD (.it lo bel mem hi abv)), some (.int i), none, none, none, none] h
  unfold t_has_integer
  simp only [sD]
  walk_at "dl7"
  unfold inI at q
  have b0 : (0 : Int) < (bel.length : Int) := by have := hb.1; omega
  have a0 : (0 : Int) < (abv.length : Int) := by have := ha.1; omega
  refine sif_i (fun c => ?_) (fun c => ?_)
  · have c := of_decide_eq_true c
    rw [if_pos c] at q
    ((walk_at "dl7"); repeat (simp only [List.length_map]; (walk_at "dl7")))
    refine ⟨a0, ?_⟩
    rw [q_ixt]
    exact ⟨_, atI_bl (Int.emod_nonneg _ (by omega)) (Int.emod_lt_of_pos _ a0), fin q⟩
  · have c : ¬ hi ≤ i := by simpa using c
    rw [if_neg c] at q
    walk_at "dl7"
    refine sif_i (fun c => ?_) (fun c => ?_)
    · have c := of_decide_eq_true c
      rw [if_pos c] at q
      ((walk_at "dl7"); repeat (simp only [List.length_map]; (walk_at "dl7")))
      refine ⟨b0, ?_⟩
      rw [q_ixt]
      exact ⟨_, atI_bl (Int.emod_nonneg _ (by omega)) (Int.emod_lt_of_pos _ b0), fin q⟩
    · have c : ¬ i ≤ lo := by simpa using c
      rw [if_neg c] at q
      ((walk_at "dl7"); repeat (simp only [flat_int, inD_intl]; (walk_at "dl7")))
      exact ⟨rfl, fin q⟩
/-- the row of a first part -/
def rwOf : Rw → D → Option Ls
  | .nil, _ => none
  | .cons f r t, x => if inS f x = true then some r else rwOf t x
theorem rwOf_in : ∀ (r : Rw) (x y : D), inRw r x y = match rwOf r x with | some s => inS s y | none => false
  | .nil, _, _ => by simp [inRw, rwOf]
  | .cons f r t, x, y => by
    simp only [inRw, rwOf]
    split
    · rfl
    · exact rwOf_in t x y
theorem rwOf_wf : ∀ (r : Rw) (a b : Kd) (x : D) (s : Ls), wfRw a b r → rwOf r x = some s → wfS b s
  | .nil, _, _, _, _, _, h => by simp [rwOf] at h
  | .cons f r t, a, b, x, s, w, h => by
    simp only [wfRw] at w
    simp only [rwOf] at h
    split at h
    · cases h; exact w.2.1
    · exact rwOf_wf t a b x s w.2.2 h
theorem non_sD (s : Ls) : isNon (sD s) = false := by cases s <;> simp only [sD] <;> rfl
def oS : Option Ls → D
  | none => .non
  | some s => sD s
def spContN (n : Nat) : Sp' := fun ds h Q _ => ∃ k s v, ds = [kD k, sD s, v] ∧ k.depth ≤ n ∧ wfS k s ∧ isL k v = true ∧ Q (.bl (inS s v)) h
def spRowOf (n : Nat) : Sp' := fun ds h Q _ => ∃ a b r x, ds = [kD (.pr a b), sD (.pr r), x] ∧ a.depth ≤ n ∧ wfRw a b r ∧ isL a x = true ∧ Q (oS (rwOf r x)) h
theorem rd_row_of (n : Nat) (ds : List D) (h : DH) (Q : VK') (E' : XK') (q : spRowOf n ds h Q E') : t_row_of (spContN n) (ends Q) (slots n_row_of ds) h := by
  obtain ⟨a, b, r, x, rfl, hd, hw, hx, q⟩ := q
  show t_row_of _ (ends Q) [some (kD (.pr a b)), some (sD (.pr r)), some x, none, none] h
  unfold t_row_of
  simp only [kD, sD]
  walk_at "dl7"
  refine for_ind (fun xs τ g => ∃ (t : Rw) (y z : Option D), xs = rwD t ∧ τ = [some (.tup [.str "pair", kD a, kD b]), some (.tup [.str "pairs", .tup (rwD r)]), some x, y, z] ∧ wfRw a b t ∧ rwOf r x = rwOf t x ∧ g = h) ?_ ?_ _ _ _ ⟨r, none, none, rfl, rfl, hw, rfl, rfl⟩
  · rintro τ g ⟨t, y, z, e, rfl, w, e2, rfl⟩
    cases t with
    | cons _ _ _ => cases e
    | nil =>
      rw [q_fnil]
      walk_at "dl7"
      rw [e2] at q
      exact fin q
  · rintro d ds ih τ g ⟨t, y, z, e, rfl, w, e2, rfl⟩
    cases t with
    | nil => cases e
    | cons f s t =>
      simp only [rwD, List.cons.injEq] at e
      obtain ⟨rfl, rfl⟩ := e
      simp only [wfRw] at w
      simp only [rwOf] at e2
      rw [q_fcons]
      walk_at "dl7"
      refine ⟨a, f, x, rfl, hd, w.1, hx, ?_⟩
      cases c : inS f x with
      | true =>
        rw [c, if_pos rfl] at e2
        rw [e2] at q
        walk_at "dl7"
        exact fin q
      | false =>
        rw [c, if_neg Bool.false_ne_true] at e2
        walk_at "dl7"
        exact ih _ _ ⟨t, _, _, rfl, rfl, w.2.2, e2, rfl⟩
theorem inLp_ok : ∀ (ks : List Kd) (p : Lp) (i : Nat) (k : Kd), wfLp ks p → ks[i]? = some k → ∃ s, (lpD p)[i]? = some (sD s) ∧ wfS k s ∧ ∀ x, inLp p i x = inS s x
  | [], p, i, k, _, e => by simp at e
  | k :: ks, .nil, i, _, w, _ => by simp [wfLp] at w
  | k :: ks, .cons s t, 0, k', w, e => by
    simp only [wfLp] at w
    simp only [List.getElem?_cons_zero, Option.some.injEq] at e
    subst e
    exact ⟨s, by simp [lpD], w.1, fun x => by simp [inLp]⟩
  | k :: ks, .cons s t, i + 1, k', w, e => by
    simp only [wfLp] at w
    obtain ⟨s', e1, w1, i1⟩ := inLp_ok ks t i k' w.2 (by simpa using e)
    exact ⟨s', by simpa [lpD] using e1, w1, fun x => by simp only [inLp]; exact i1 x⟩
theorem rd_contains (n : Nat) (ds : List D) (h : DH) (Q : VK') (E' : XK') (q : spContN (n + 1) ds h Q E') : t_contains sp_has_integer (spRowOf n) (spContN n) (ends Q) (slots n_contains ds) h := by
  obtain ⟨k, s, v, rfl, hd, hw, hv, q⟩ := q
  show t_contains _ _ _ (ends Q) [some (kD k), some (sD s), some v, none, none] h
  unfold t_contains
  cases k with
  | nm ns =>
    cases s <;> simp only [wfS] at hw
    rename_i xs
    obtain ⟨x, rfl, m⟩ := nm_form hv
    simp only [kD, sD]
    ((walk_at "dl7"); repeat (simp only [flat_str, inD_str]; (walk_at "dl7")))
    exact ⟨rfl, fin (by simpa [inS] using q)⟩
  | it =>
    cases s <;> simp only [wfS] at hw
    obtain ⟨i, rfl⟩ := it_form hv
    simp only [kD]
    walk_at "dl7"
    exact ⟨_, _, _, _, _, i, rfl, hw.1, hw.2.1, fin (by simpa [inS] using q)⟩
  | pr a b =>
    simp only [Kd.depth] at hd
    cases s <;> simp only [wfS] at hw
    rename_i r
    obtain ⟨x, y, rfl, p1, p2⟩ := pr_form hv
    simp only [kD]
    walk_at "dl7"
    refine ⟨a, b, r, x, rfl, by omega, hw, p1, ?_⟩
    simp only [inS, rwOf_in] at q
    cases e : rwOf r x with
    | none =>
      rw [e] at q
      simp only [oS]
      walk_at "dl7"
      exact fin q
    | some s =>
      rw [e] at q
      simp only [oS]
      ((walk_at "dl7"); repeat (simp only [non_sD]; (walk_at "dl7")))
      exact ⟨b, s, y, rfl, by omega, rwOf_wf _ _ _ _ _ hw e, p2, fin q⟩
  | ei ks =>
    simp only [Kd.depth] at hd
    cases s <;> simp only [wfS] at hw
    rename_i p
    obtain ⟨i, x, k1, rfl, i0, e1, p1⟩ := ei_form hv
    have := Kd.depth_mem (List.mem_of_getElem? e1)
    obtain ⟨s, e2, w2, i2⟩ := inLp_ok _ _ _ _ hw e1
    have e3 : atI (lpD p) i = some (sD s) := by
      have z : atI (lpD p) ((i.toNat : Nat) : Int) = some (sD s) := atI_nat e2
      rwa [show ((i.toNat : Nat) : Int) = i by omega] at z
    simp only [kD, sD]
    walk_at "dl7"
    rw [q_ixt]
    refine ⟨_, atI_kDs i0 e1, ?_⟩
    walk_at "dl7"
    rw [q_ixt]
    refine ⟨_, e3, ?_⟩
    walk_at "dl7"
    refine ⟨k1, s, x, rfl, by omega, w2, p1, fin ?_⟩
    simpa [inS, i2] using q
  | mb k1 =>
    simp only [Kd.depth] at hd
    cases s <;> simp only [wfS] at hw
    rename_i b s
    simp only [kD, sD]
    rcases mb_form hv with rfl | ⟨x, rfl, p1⟩
    · walk_at "dl7"
      exact fin (by simpa [inS] using q)
    · walk_at "dl7"
      exact ⟨k1, s, x, rfl, by omega, hw, p1, fin (by simpa [inS] using q)⟩
def spInN (n : Nat) : Sp' := fun ds h Q _ => ∃ k s v, ds = [sD s, v] ∧ k.depth ≤ n ∧ wfS k s ∧ isL k v = true ∧ Q (.bl (inS s v)) h
theorem rd__law_in (n : Nat) (ds : List D) (h : DH) (Q : VK') (E' : XK') (q : spInN (n + 1) ds h Q E') : t__law_in (spInN n) (ends Q) (slots n__law_in ds) h := by
  obtain ⟨k, s, v, rfl, hd, hw, hv, q⟩ := q
  show t__law_in _ (ends Q) [some (sD s), some v, none, none, none] h
  unfold t__law_in
  cases k with
  | nm ns =>
    cases s <;> simp only [wfS] at hw
    rename_i xs
    obtain ⟨x, rfl, m⟩ := nm_form hv
    simp only [sD]
    ((walk_at "dl7"); repeat (simp only [flat_str, inD_str]; (walk_at "dl7")))
    exact ⟨rfl, fin (by simpa [inS] using q)⟩
  | it =>
    cases s <;> simp only [wfS] at hw
    rename_i lo bel mem hi abv
    obtain ⟨i, rfl⟩ := it_form hv
    simp only [inS] at q
    unfold inI at q
    have b0 : (0 : Int) < (bel.length : Int) := by have := hw.1.1; omega
    have a0 : (0 : Int) < (abv.length : Int) := by have := hw.2.1.1; omega
    simp only [sD]
    walk_at "dl7"
    refine sif_i (fun c => ?_) (fun c => ?_)
    · have c := of_decide_eq_true c
      rw [if_pos c] at q
      ((walk_at "dl7"); repeat (simp only [List.length_map]; (walk_at "dl7")))
      refine ⟨a0, ?_⟩
      rw [q_ixt]
      exact ⟨_, atI_bl (Int.emod_nonneg _ (by omega)) (Int.emod_lt_of_pos _ a0), fin q⟩
    · have c : ¬ hi ≤ i := by simpa using c
      rw [if_neg c] at q
      walk_at "dl7"
      refine sif_i (fun c => ?_) (fun c => ?_)
      · have c := of_decide_eq_true c
        rw [if_pos c] at q
        ((walk_at "dl7"); repeat (simp only [List.length_map]; (walk_at "dl7")))
        refine ⟨b0, ?_⟩
        rw [q_ixt]
        exact ⟨_, atI_bl (Int.emod_nonneg _ (by omega)) (Int.emod_lt_of_pos _ b0), fin q⟩
      · have c : ¬ i ≤ lo := by simpa using c
        rw [if_neg c] at q
        ((walk_at "dl7"); repeat (simp only [flat_int, inD_intl]; (walk_at "dl7")))
        exact ⟨rfl, fin q⟩
  | pr a b =>
    simp only [Kd.depth] at hd
    cases s <;> simp only [wfS] at hw
    rename_i r
    obtain ⟨x, y, rfl, p1, p2⟩ := pr_form hv
    simp only [inS] at q
    simp only [sD]
    walk_at "dl7"
    refine for_ind (fun xs τ g => ∃ (t : Rw) (z : Option D), xs = rwD t ∧ τ = [some (.tup [.str "pairs", .tup (rwD r)]), some (.tup [.str "pair", x, y]), none, none, z] ∧ wfRw a b t ∧ inRw r x y = inRw t x y ∧ g = h) ?_ ?_ _ _ _ ⟨r, none, rfl, rfl, hw, rfl, rfl⟩
    · rintro τ g ⟨t, z, e, rfl, w, e2, rfl⟩
      cases t with
      | cons _ _ _ => cases e
      | nil =>
        rw [q_fnil]
        walk_at "dl7"
        rw [e2] at q
        exact fin q
    · rintro d ds ih τ g ⟨t, z, e, rfl, w, e2, rfl⟩
      cases t with
      | nil => cases e
      | cons f s t =>
        simp only [rwD, List.cons.injEq] at e
        obtain ⟨rfl, rfl⟩ := e
        simp only [wfRw] at w
        simp only [inRw] at e2
        rw [q_fcons]
        walk_at "dl7"
        refine ⟨a, f, x, rfl, by omega, w.1, p1, ?_⟩
        cases c : inS f x with
        | true =>
          rw [c, if_pos rfl] at e2
          rw [e2] at q
          walk_at "dl7"
          exact ⟨b, s, y, rfl, by omega, w.2.1, p2, fin q⟩
        | false =>
          rw [c, if_neg Bool.false_ne_true] at e2
          walk_at "dl7"
          exact ih _ _ ⟨t, _, rfl, rfl, w.2.2, e2, rfl⟩
  | ei ks =>
    simp only [Kd.depth] at hd
    cases s <;> simp only [wfS] at hw
    rename_i p
    obtain ⟨i, x, k1, rfl, i0, e1, p1⟩ := ei_form hv
    have := Kd.depth_mem (List.mem_of_getElem? e1)
    obtain ⟨s, e2, w2, i2⟩ := inLp_ok _ _ _ _ hw e1
    have e3 : atI (lpD p) i = some (sD s) := by
      have z : atI (lpD p) ((i.toNat : Nat) : Int) = some (sD s) := atI_nat e2
      rwa [show ((i.toNat : Nat) : Int) = i by omega] at z
    simp only [sD]
    walk_at "dl7"
    rw [q_ixt]
    refine ⟨_, e3, ?_⟩
    walk_at "dl7"
    refine ⟨k1, s, x, rfl, by omega, w2, p1, fin ?_⟩
    simpa [inS, i2] using q
  | mb k1 =>
    simp only [Kd.depth] at hd
    cases s <;> simp only [wfS] at hw
    rename_i b s
    simp only [sD]
    rcases mb_form hv with rfl | ⟨x, rfl, p1⟩
    · walk_at "dl7"
      exact fin (by simpa [inS] using q)
    · walk_at "dl7"
      exact ⟨k1, s, x, rfl, by omega, hw, p1, fin (by simpa [inS] using q)⟩
end K04

set_option Elab.async false
set_option linter.all false
set_option maxRecDepth 100000
set_option maxHeartbeats 1000000
local macro_rules | `(tactic| walk_at "dl7") => `(tactic| (try simp only [↓DL.q_nx, ↓DL.q_seq, ↓DL.q_br, ↓DL.q_ct, ↓DL.q_drop, ↓DL.q_ret, ↓DL.q_retn, ↓DL.q_ifs, ↓DL.q_asg, ↓DL.q_gn, ↓DL.q_gsub, ↓DL.q_gtup, ↓DL.q_gco, ↓DL.q_gni, ↓DL.q_for, ↓DL.q_yes, ↓DL.q_c, ↓DL.q_to, ↓DL.q_tu, ↓DL.q_tb, ↓DL.q_isB, ↓DL.q_isI, ↓DL.q_ch, ↓DL.q_and, ↓DL.q_or, ↓DL.q_orp, ↓DL.q_not, ↓DL.q_andv, ↓DL.q_orv, ↓DL.q_notv, ↓DL.q_if, ↓DL.q_an, ↓DL.q_ac, ↓DL.q_tup, ↓DL.q_lis, ↓DL.q_own, ↓DL.q_call, ↓DL.q_cb, ↓DL.q_bm, ↓DL.q_sl, ↓DL.q_slt, ↓DL.q_sll, ↓DL.q_pn, ↓DL.q_pe, ↓DL.q_addi, ↓DL.q_adds, ↓DL.q_addt, ↓DL.q_addl, ↓DL.q_I2, ↓DL.q_neg, ↓DL.q_eqi, ↓DL.q_eqs, ↓DL.q_eqb, ↓DL.q_neb, ↓DL.q_nei, ↓DL.q_nes, ↓DL.q_eq_non_int, ↓DL.q_ne_non_int, ↓DL.q_eq_non_bl, ↓DL.q_ne_non_bl, ↓DL.q_eq_non_str, ↓DL.q_ne_non_str, ↓DL.q_eq_int_non, ↓DL.q_ne_int_non, ↓DL.q_eq_bl_non, ↓DL.q_ne_bl_non, ↓DL.q_eq_str_non, ↓DL.q_ne_str_non, ↓DL.q_eq_int_str, ↓DL.q_ne_int_str, ↓DL.q_eq_str_int, ↓DL.q_ne_str_int, ↓DL.q_eq_bl_str, ↓DL.q_ne_bl_str, ↓DL.q_eq_str_bl, ↓DL.q_ne_str_bl, ↓DL.q_eq_non_non, ↓DL.q_ne_non_non, ↓DL.q_isnon_bl, ↓DL.q_isnon_int, ↓DL.q_isnon_str, ↓DL.q_isnon_tup, ↓DL.q_isnon_lis, ↓DL.q_isnon_non, ↓DL.q_int, ↓DL.q_inl, ↓DL.q_isn, ↓DL.q_ixc, ↓DL.q_lent, ↓DL.q_lenl, ↓DL.q_lenc, ↓DL.q_lens, ↓DL.q_is, ↓DL.q_toi, ↓DL.q_tob, ↓DL.q_abs, ↓DL.q_max, ↓DL.q_min, ↓DL.q_list, ↓DL.q_listo, ↓DL.q_tuple, ↓DL.q_sum, ↓DL.q_kt, ↓DL.q_kl, ↓DL.q_kc, ↓DL.q_tv0, ↓DL.q_st0, ↓DL.q_tv1, ↓DL.q_st1, ↓DL.q_tv2, ↓DL.q_st2, ↓DL.q_tv3, ↓DL.q_st3, ↓DL.q_tv4, ↓DL.q_st4, ↓DL.q_tv5, ↓DL.q_st5, ↓DL.q_tv6, ↓DL.q_st6, ↓DL.q_tv7, ↓DL.q_st7, ↓DL.q_tv8, ↓DL.q_st8, ↓DL.q_tv9, ↓DL.q_st9, ↓DL.q_tv10, ↓DL.q_st10, ↓DL.q_tv11, ↓DL.q_st11, ↓DL.q_tv12, ↓DL.q_st12, ↓DL.q_tv13, ↓DL.q_st13, ↓DL.q_tv14, ↓DL.q_st14, ↓DL.q_tv15, ↓DL.q_st15, ↓DL.q_ixt0, ↓DL.q_ixl0, ↓DL.q_ixt1, ↓DL.q_ixl1, ↓DL.q_ixt2, ↓DL.q_ixl2, ↓DL.q_ixt3, ↓DL.q_ixl3, ↓DL.q_ixt4, ↓DL.q_ixl4, ↓DL.q_oixr, ↓DL.q_oinr, ↓DL.q_olen, ↓DL.q_okr, ↓DL.q_oapp, ↓DL.q_olsr, ↓DL.q_osetD, ↓DL.q_ln0, ↓DL.q_sz0, ↓DL.q_ln1, ↓DL.q_sz1, ↓DL.q_ln2, ↓DL.q_sz2, ↓DL.q_ln3, ↓DL.q_sz3, ↓DL.q_ln4, ↓DL.q_sz4, ↓DL.q_ln5, ↓DL.q_sz5, ↓DL.q_ln6, ↓DL.q_sz6, ↓DL.q_ln7, ↓DL.q_sz7, ↓DL.q_ln8, ↓DL.q_sz8, ↓DL.q_wseq, ↓DL.q_wt, ↓DL.q_wl, ↓DL.q_wc, ↓DL.q_wr, ↓DL.q_wr1, ↓DL.q_wr1', ↓DL.q_setL0, ↓DL.q_setL1, ↓DL.q_setL2, ↓DL.q_setL3, ↓DL.q_setL4, ↓DL.q_pl_non, ↓DL.q_in_non_int, ↓DL.q_in_non_bool, ↓DL.q_in_non_str, ↓DL.q_in_non_tuple, ↓DL.q_in_non_list, ↓DL.q_pl_bl, ↓DL.q_in_bl_int, ↓DL.q_in_bl_bool, ↓DL.q_in_bl_str, ↓DL.q_in_bl_tuple, ↓DL.q_in_bl_list, ↓DL.q_pl_int, ↓DL.q_in_int_int, ↓DL.q_in_int_bool, ↓DL.q_in_int_str, ↓DL.q_in_int_tuple, ↓DL.q_in_int_list, ↓DL.q_pl_str, ↓DL.q_in_str_int, ↓DL.q_in_str_bool, ↓DL.q_in_str_str, ↓DL.q_in_str_tuple, ↓DL.q_in_str_list, ↓DL.q_pl_tup, ↓DL.q_in_tup_int, ↓DL.q_in_tup_bool, ↓DL.q_in_tup_str, ↓DL.q_in_tup_tuple, ↓DL.q_in_tup_list, ↓DL.q_pl_lis, ↓DL.q_in_lis_int, ↓DL.q_in_lis_bool, ↓DL.q_in_lis_str, ↓DL.q_in_lis_tuple, ↓DL.q_in_lis_list, ↓DL.q_ty_int, ↓DL.q_ty_bool, ↓DL.q_ty_str, ↓DL.q_ty_tuple, ↓DL.q_ty_list, DL.sif_t, DL.sif_f, DL.ofStr_inj, String.reduceEq, decide_true, decide_false, Bool.not_true, Bool.not_false, true_and, and_true, List.length_cons, List.length_nil, Int.reduceAdd, Int.reduceMul, Int.reduceNeg, Int.reduceSub, Nat.reduceAdd, if_true, if_false, Bool.false_eq_true, Int.reduceEq, Int.reduceLT, Int.reduceLE, eq_self, not_false_eq_true, DL.mulOk, or_true, true_or, and_self, Int.reduceToNat, Nat.reduceLT, Int.reducePow, DL.put_same, DL.put_put]))
namespace K04
open PySem PySem.Spec PyProof.Rows L2 DL K00 K01
/-- _law_any_kind(tape) -/
def spAnyKind : Sp' := fun ds h Q _ => ∃ a, ds = [.ref a] ∧ Tp h a ∧ ∀ k t, Kd.ok k → k.depth ≤ 3 → k.cnt ≤ 6 → TOk t → Q (kD k) (put h a t)
theorem rd__law_any_kind (ds : List D) (h : DH) (Q : VK') (E' : XK') (q : spAnyKind ds h Q E') : t__law_any_kind spDraw (spKind 3) (ends Q) (slots n__law_any_kind ds) h := by
  obtain ⟨a, rfl, tp, q⟩ := q
  show t__law_any_kind _ _ (ends Q) [some (.ref a), none] h
  unfold t__law_any_kind
  walk_at "dl7"
  refine drw tp (fun r t r0 r1 ot => ?_)
  walk_at "dl7"
  refine sif_i (fun c => ?_) (fun c => ?_)
  · walk_at "dl7"
    exact fin (q .it t trivial (by decide) (by decide) ot)
  · have c : ¬ r < 2 := by simpa using c
    walk_at "dl7"
    rw [q_ixl]
    obtain ⟨d, e, m⟩ := pick (xs := [D.int 6, .int 3, .int 6]) (r := r - 2) (by omega) (by simp only [List.length_cons, List.length_nil]; omega)
    refine ⟨d, e, ?_⟩
    obtain ⟨j, rfl, j1, j2⟩ : ∃ j : Int, d = .int j ∧ 1 ≤ j ∧ j ≤ 6 := by
      simp only [List.mem_cons, List.not_mem_nil, or_false] at m
      rcases m with rfl | rfl | rfl <;> exact ⟨_, rfl, by decide, by decide⟩
    walk_at "dl7"
    refine ⟨a, 3, j, rfl, by decide, by decide, by omega, by omega, tp_put ot, fun k t hk kd kc ot => ?_⟩
    walk_at "dl7"
    exact fin (q k t hk (by omega) (by omega) ot)
/-- _law_conditions(condition) -/
def spConds (n : Nat) : Sp' := fun ds h Q _ => ∃ c, ds = [cD c] ∧ c.depth ≤ n ∧ Q (.int c.cnt) h
theorem rd__law_conditions (n : Nat) (ds : List D) (h : DH) (Q : VK') (E' : XK') (q : spConds (n + 1) ds h Q E') : t__law_conditions (spConds n) (ends Q) (slots n__law_conditions ds) h := by
  obtain ⟨c, rfl, hd, q⟩ := q
  show t__law_conditions _ (ends Q) [some (cD c)] h
  unfold t__law_conditions
  cases c with
  | an a b =>
    simp only [Cn.depth] at hd
    simp only [Cn.cnt] at q
    simp only [cD]
    ((walk_at "dl7"); repeat (simp only [DL.flatD, List.all_cons, List.all_nil, DL.inD_sc, DL.inD_ic, DL.inD_ii, DL.inD_nil, Bool.and_true, Bool.or_false, Bool.or_true, Bool.true_or, Bool.false_or]; (walk_at "dl7")))
    refine ⟨a, rfl, by omega, ?_⟩
    walk_at "dl7"
    refine ⟨b, rfl, by omega, ?_⟩
    walk_at "dl7"
    exact fin (by rw [show (1 + (a.cnt : Int) + (b.cnt : Int)) = ((1 + a.cnt + b.cnt : Nat) : Int) by omega]; exact q)
  | orr a b =>
    simp only [Cn.depth] at hd
    simp only [Cn.cnt] at q
    simp only [cD]
    ((walk_at "dl7"); repeat (simp only [DL.flatD, List.all_cons, List.all_nil, DL.inD_sc, DL.inD_ic, DL.inD_ii, DL.inD_nil, Bool.and_true, Bool.or_false, Bool.or_true, Bool.true_or, Bool.false_or]; (walk_at "dl7")))
    refine ⟨a, rfl, by omega, ?_⟩
    walk_at "dl7"
    refine ⟨b, rfl, by omega, ?_⟩
    walk_at "dl7"
    exact fin (by rw [show (1 + (a.cnt : Int) + (b.cnt : Int)) = ((1 + a.cnt + b.cnt : Nat) : Int) by omega]; exact q)
  | ng c | fs c | sn c | so c =>
    simp only [Cn.depth] at hd
    simp only [Cn.cnt] at q
    simp only [cD]
    ((walk_at "dl7"); repeat (simp only [DL.flatD, List.all_cons, List.all_nil, DL.inD_sc, DL.inD_ic, DL.inD_ii, DL.inD_nil, Bool.and_true, Bool.or_false, Bool.or_true, Bool.true_or, Bool.false_or]; (walk_at "dl7")))
    refine ⟨c, rfl, by omega, ?_⟩
    walk_at "dl7"
    exact fin (by rw [show (1 + (c.cnt : Int)) = ((1 + c.cnt : Nat) : Int) by omega]; exact q)
  | cs i c =>
    simp only [Cn.depth] at hd
    simp only [Cn.cnt] at q
    simp only [cD]
    ((walk_at "dl7"); repeat (simp only [DL.flatD, List.all_cons, List.all_nil, DL.inD_sc, DL.inD_ic, DL.inD_ii, DL.inD_nil, Bool.and_true, Bool.or_false, Bool.or_true, Bool.true_or, Bool.false_or]; (walk_at "dl7")))
    refine ⟨c, rfl, by omega, ?_⟩
    walk_at "dl7"
    exact fin (by rw [show (1 + (c.cnt : Int)) = ((1 + c.cnt : Nat) : Int) by omega]; exact q)
  | _ =>
    simp only [cD]
    ((walk_at "dl7"); repeat (simp only [DL.flatD, List.all_cons, List.all_nil, DL.inD_sc, DL.inD_ic, DL.inD_ii, DL.inD_nil, Bool.and_true, Bool.or_false, Bool.or_true, Bool.true_or, Bool.false_or]; (walk_at "dl7")))
    exact fin q
/-- what a drawn condition is -/
def Dr (k : Kd) (c : Cn) : Prop := okC c ∧ fits0 k c
def thy (top md : Int) : D := .tup [.int top, .int md]
def spComparison : Sp' := fun ds h Q _ => ∃ a top md, ds = [.ref a, thy top md] ∧ 0 ≤ top ∧ top ≤ 1000000 ∧ Tp h a ∧ ∀ c t, Dr .it c → c.cnt = 1 → TOk t → Q (cD c) (put h a t)
theorem rd__law_comparison (ds : List D) (h : DH) (Q : VK') (E' : XK') (q : spComparison ds h Q E') : t__law_comparison spDraw (ends Q) (slots n__law_comparison ds) h := by
  obtain ⟨a, top, md, rfl, h0, h1, tp, q⟩ := q
  show t__law_comparison _ (ends Q) [some (.ref a), some (.tup [.int top, .int md]), none, none] h
  unfold t__law_comparison
  walk_at "dl7"
  refine drw tp (fun c t c0 c1 ot => ?_)
  walk_at "dl7"
  refine drw (tp_put ot) (fun r t r0 r1 ot => ?_) (by omega)
  walk_at "dl7"
  refine ⟨fun τ g => ∃ (u : Int) (t : DO), τ = [some (.ref a), some (.tup [.int top, .int md]), some (.int c), some (.int u)] ∧ TOk t ∧ g = put h a t, ?_, ?_⟩
  · walk_at "dl7"
    refine sif_i (fun b => ?_) (fun b => ?_)
    · have b := of_decide_eq_true b
      walk_at "dl7"
      rw [q_ixl]
      obtain ⟨d, e, m⟩ := pick (xs := [D.int 0, .int top, .int (-top)]) c0 (by simp only [List.length_cons, List.length_nil]; omega)
      refine ⟨d, e, ?_⟩
      obtain ⟨j, rfl⟩ : ∃ j : Int, d = .int j := by
        simp only [List.mem_cons, List.not_mem_nil, or_false] at m
        rcases m with rfl | rfl | rfl <;> exact ⟨_, rfl⟩
      walk_at "dl7"
      exact ⟨_, _, rfl, ot, rfl⟩
    · walk_at "dl7"
      exact ⟨_, _, rfl, ot, rfl⟩
  · rintro τ g ⟨u, t, rfl, ot, rfl⟩
    walk_at "dl7"
    refine drw (tp_put ot) (fun r t r0 r1 ot => ?_)
    walk_at "dl7"
    rw [q_ixl]
    obtain ⟨d, e, m⟩ := pick (xs := [D.str "<", .str "=", .str ">"]) r0 (by simp only [List.length_cons, List.length_nil]; omega)
    refine ⟨d, e, ?_⟩
    simp only [List.mem_cons, List.not_mem_nil, or_false] at m
    rcases m with rfl | rfl | rfl
    · walk_at "dl7"; exact fin (q (.lt u) t ⟨trivial, rfl⟩ rfl ot)
    · walk_at "dl7"; exact fin (q (.eq u) t ⟨trivial, rfl⟩ rfl ot)
    · walk_at "dl7"; exact fin (q (.gt u) t ⟨trivial, rfl⟩ rfl ot)
def spModulus : Sp' := fun ds h Q _ => ∃ a top md, ds = [.ref a, thy top md] ∧ Tp h a ∧ ∀ c t, Dr .it c → c.cnt = 1 → TOk t → Q (cD c) (put h a t)
theorem rd__law_modulus (ds : List D) (h : DH) (Q : VK') (E' : XK') (q : spModulus ds h Q E') : t__law_modulus spDraw (ends Q) (slots n__law_modulus ds) h := by
  obtain ⟨a, top, md, rfl, tp, q⟩ := q
  show t__law_modulus _ (ends Q) [some (.ref a), some (.tup [.int top, .int md]), none, none] h
  unfold t__law_modulus
  walk_at "dl7"
  rw [q_lc]
  walk_at "dl7"
  intro p np
  refine lc_ind (fun xs acc g => ∃ as : List Int, acc = as.map D.int ∧ (∀ x ∈ as, 1 ≤ x ∧ x ≤ 4) ∧ (∀ x ∈ xs, ∃ j, x = D.int j ∧ 1 ≤ j ∧ j ≤ 4) ∧ acc.length + xs.length ≤ 4 ∧ (as ≠ [] ∨ .int 1 ∈ xs) ∧ g = put h p .hid) ?_ ?_ _ _ _ ⟨[], rfl, by simp, ?_, by decide, .inr List.mem_cons_self, rfl⟩
  · rintro acc g ⟨as, rfl, ha, _, hl, hex, rfl⟩
    have l1 : 1 ≤ as.length := by
      rcases hex with z | z
      · exact List.length_pos_iff.mpr z
      · cases z
    simp only [List.length_map, List.length_nil] at hl
    rw [q_lnil]
    walk_at "dl7"
    rw [del_put np]
    refine drw tp (fun r t r0 r1 ot => ?_) (by rw [List.length_map]; omega)
    walk_at "dl7"
    refine drw (tp_put ot) (fun r2 t r20 r21 ot => ?_) (by rw [List.length_map]; omega)
    walk_at "dl7"
    rw [q_ixl]
    rw [List.length_map] at r1 r21
    obtain ⟨d, e, m⟩ := pick (xs := as.map D.int) (r := max r r2) (by omega) (by rw [List.length_map]; omega)
    obtain ⟨j, mj, rfl⟩ := List.mem_map.mp m
    refine ⟨_, e, ?_⟩
    have jj := ha j mj
    walk_at "dl7"
    refine drw (tp_put ot) (fun r3 t r30 r31 ot => ?_) (by omega)
    walk_at "dl7"
    exact fin (q (.md j r3) t ⟨by show 0 < j; omega, rfl⟩ rfl ot)
  · rintro x xs ih acc g ⟨as, rfl, ha, hx, hl, hex, rfl⟩
    obtain ⟨j, rfl, j1, j4⟩ := hx x List.mem_cons_self
    simp only [List.length_cons, List.length_map] at hl
    rw [q_lcons]
    walk_at "dl7"
    refine ⟨by omega, ?_⟩
    refine sif_i (fun z => ?_) (fun z => ?_)
    · walk_at "dl7"
      refine ⟨Nat.lt_of_le_of_lt (show _ ≤ 4 by rw [List.length_map]; omega) (by decide), ih _ _ ⟨as ++ [j], by simp, ?_, fun y m => hx y (List.mem_cons_of_mem _ m), by simp only [List.length_append, List.length_map, List.length_cons, List.length_nil]; omega, .inl (by simp), rfl⟩⟩
      intro y m
      rcases List.mem_append.mp m with m | m
      · exact ha y m
      · rw [List.mem_singleton.mp m]; exact ⟨j1, j4⟩
    · refine ih _ _ ⟨as, rfl, ha, fun y m => hx y (List.mem_cons_of_mem _ m), by simp only [List.length_map]; omega, ?_, rfl⟩
      rcases hex with w | w
      · exact .inl w
      · rcases List.mem_cons.mp w with w | w
        · cases w
          exact absurd (Int.emod_one md) (by simpa using z)
        · exact .inr w
  · intro x m
    simp only [List.mem_cons, List.not_mem_nil, or_false] at m
    rcases m with rfl | rfl | rfl | rfl <;> exact ⟨_, rfl, by decide, by decide⟩
/-- _law_condition(tape, kind, theory, room), _law_leaf -/
def spCond (n : Nat) : Sp' := fun ds h Q _ => ∃ (a : Addr) (k : Kd) (top md room : Int), ds = [.ref a, kD k, thy top md, .int room] ∧ k.ok ∧ k.cnt ≤ 100 ∧ 0 ≤ top ∧ top ≤ 1000000 ∧ 1 ≤ room ∧ room ≤ n ∧ Tp h a ∧ ∀ c t, Dr k c → (c.cnt : Int) ≤ room → TOk t → Q (cD c) (put h a t)
theorem rd__law_leaf (n : Nat) (ds : List D) (h : DH) (Q : VK') (E' : XK') (q : spCond (n + 1) ds h Q E') : t__law_leaf spDraw spModulus spComparison (spCond n) (ends Q) (slots n__law_leaf ds) h := by
  obtain ⟨a, k, top, md, room, rfl, hk, hc, h0, h1, hr, hn, tp, q⟩ := q
  show t__law_leaf _ _ _ _ (ends Q) [some (.ref a), some (kD k), some (.tup [.int top, .int md]), some (.int room), none, none, none] h
  unfold t__law_leaf
  walk_at "dl7"
  refine drw tp (fun c t c0 c1 ot => ?_)
  walk_at "dl7"
  refine sif_i (fun b => ?_) (fun b => ?_)
  · walk_at "dl7"
    refine drw (tp_put ot) (fun r t r0 r1 ot => ?_)
    walk_at "dl7"
    rw [q_ixl]
    obtain ⟨d, e, m⟩ := pick (xs := [D.tup [.str "true"], .tup [.str "false"]]) r0 (by simp only [List.length_cons, List.length_nil]; omega)
    refine ⟨d, e, ?_⟩
    simp only [List.mem_cons, List.not_mem_nil, or_false] at m
    rcases m with rfl | rfl
    · exact fin (q .tt t ⟨trivial, by cases k <;> rfl⟩ (by simp only [Cn.cnt]; omega) ot)
    · exact fin (q .ff t ⟨trivial, by cases k <;> rfl⟩ (by simp only [Cn.cnt]; omega) ot)
  · cases k with
    | nm ns =>
      simp only [kD]
      obtain ⟨n1, n4, no⟩ := hk
      walk_at "dl7"
      refine drw (tp_put ot) (fun r t r0 r1 ot => ?_) (by rw [List.length_map]; omega)
      walk_at "dl7"
      rw [q_ixt]
      obtain ⟨d, e, m⟩ := pick (xs := ns.map D.str) r0 (by rw [List.length_map] at r1 ⊢; omega)
      obtain ⟨s, ms, rfl⟩ := List.mem_map.mp m
      refine ⟨_, e, ?_⟩
      walk_at "dl7"
      exact fin (q (.is s) t ⟨trivial, by simpa [fits0, fitsC] using ms⟩ (by simp only [Cn.cnt]; omega) ot)
    | it =>
      simp only [kD]
      walk_at "dl7"
      refine sif_i (fun b2 => ?_) (fun b2 => ?_)
      · walk_at "dl7"
        refine sif_i (fun b3 => ?_) (fun b3 => ?_)
        · walk_at "dl7"
          refine ⟨a, top, md, rfl, tp_put ot, fun c t dc cc ot => ?_⟩
          walk_at "dl7"
          exact fin (q c t dc (by omega) ot)
        · walk_at "dl7"
          refine ⟨a, top, md, rfl, h0, h1, tp_put ot, fun c t dc cc ot => ?_⟩
          walk_at "dl7"
          exact fin (q c t dc (by omega) ot)
      · walk_at "dl7"
        refine ⟨a, top, md, rfl, h0, h1, tp_put ot, fun c t dc cc ot => ?_⟩
        walk_at "dl7"
        exact fin (q c t dc (by omega) ot)
    | pr k1 k2 =>
      simp only [Kd.cnt] at hc
      simp only [kD]
      walk_at "dl7"
      refine sif_i (fun b2 => ?_) (fun b2 => ?_)
      · walk_at "dl7"
        exact fin (q .tt t ⟨trivial, rfl⟩ (by simp only [Cn.cnt]; omega) ot)
      · have b2 : ¬ room = 1 := by simpa using b2
        walk_at "dl7"
        refine drw (tp_put ot) (fun r t r0 r1 ot => ?_)
        have rr : r = 0 ∨ r = 1 := by omega
        rcases rr with rfl | rfl
        · walk_at "dl7"
          refine ⟨a, k1, top, md, room - 1, rfl, hk.1, by omega, h0, h1, by omega, by omega, tp_put ot, fun c t dc cc ot => ?_⟩
          walk_at "dl7"
          exact fin (q (.fs c) t ⟨dc.1, dc.2⟩ (by simp only [Cn.cnt]; omega) ot)
        · walk_at "dl7"
          refine ⟨a, k2, top, md, room - 1, rfl, hk.2, by omega, h0, h1, by omega, by omega, tp_put ot, fun c t dc cc ot => ?_⟩
          walk_at "dl7"
          exact fin (q (.sn c) t ⟨dc.1, dc.2⟩ (by simp only [Cn.cnt]; omega) ot)
    | ei ks =>
      simp only [Kd.cnt] at hc
      have ln := Kd.len_cnts ks
      have l1 : 1 ≤ ks.length := hk.1
      simp only [kD]
      walk_at "dl7"
      refine sif_i (fun b2 => ?_) (fun b2 => ?_)
      · walk_at "dl7"
        exact fin (q .tt t ⟨trivial, rfl⟩ (by simp only [Cn.cnt]; omega) ot)
      · have b2 : ¬ room = 1 := by simpa using b2
        walk_at "dl7"
        refine drw (tp_put ot) (fun r t r0 r1 ot => ?_) (by rw [len_kDs]; omega)
        rw [len_kDs] at r1
        have hr : r.toNat < ks.length := by omega
        have eg := List.getElem?_eq_getElem hr
        have mk := List.getElem_mem hr
        have m2 := Kd.cnt_mem mk
        walk_at "dl7"
        rw [q_ixt]
        refine ⟨_, atI_kDs r0 eg, ?_⟩
        walk_at "dl7"
        refine ⟨a, ks[r.toNat], top, md, room - 1, rfl, Kd.oks_mem.mp hk.2 _ mk, by omega, h0, h1, by omega, by omega, tp_put ot, fun c t dc cc ot => ?_⟩
        walk_at "dl7"
        exact fin (q (.cs r c) t ⟨⟨r0, dc.1⟩, by simp only [fits0, fitsC, eg]; exact dc.2⟩ (by simp only [Cn.cnt]; omega) ot)
    | mb k1 =>
      simp only [Kd.cnt] at hc
      simp only [kD]
      walk_at "dl7"
      refine sif_i (fun b2 => ?_) (fun b2 => ?_)
      · walk_at "dl7"
        exact fin (q .no t ⟨trivial, rfl⟩ (by simp only [Cn.cnt]; omega) ot)
      · have b2 : ¬ room = 1 ∧ ¬ c = 1 := by simpa using b2
        walk_at "dl7"
        refine sif_i (fun b3 => absurd (of_decide_eq_true b3) b2.1) (fun b3 => ?_)
        walk_at "dl7"
        refine ⟨a, k1, top, md, room - 1, rfl, hk, by omega, h0, h1, by omega, by omega, tp_put ot, fun c t dc cc ot => ?_⟩
        walk_at "dl7"
        exact fin (q (.so c) t ⟨dc.1, dc.2⟩ (by simp only [Cn.cnt]; omega) ot)
theorem rd__law_condition (n : Nat) (hn : n ≤ 50) (ds : List D) (h : DH) (Q : VK') (E' : XK') (q : spCond (n + 1) ds h Q E') : t__law_condition spDraw (spCond n) (spConds 50) (spCond (n + 1)) (ends Q) (slots n__law_condition ds) h := by
  obtain ⟨a, k, top, md, room, rfl, hk, hc, h0, h1, hr, hn, tp, q⟩ := q
  show t__law_condition _ _ _ _ (ends Q) [some (.ref a), some (kD k), some (.tup [.int top, .int md]), some (.int room), none, none, none] h
  unfold t__law_condition
  walk_at "dl7"
  refine drw tp (fun r t r0 r1 ot => ?_)
  have leaf : ∀ {τ5 τ6 : Option D}, tret (tcall (spCond (n + 1)) (fun _ _ => False) (tac (tv 0) (tac (tv 1) (tac (tv 2) (tac (tv 3) tan))))) (ends Q) [some (.ref a), some (kD k), some (.tup [.int top, .int md]), some (.int room), some (.int r), τ5, τ6] (put h a t) := fun {τ5 τ6} => by
    walk_at "dl7"
    refine ⟨a, k, top, md, room, rfl, hk, hc, h0, h1, hr, hn, tp_put ot, fun c t dc cc ot => ?_⟩
    walk_at "dl7"
    exact fin (q c t dc cc ot)
  walk_at "dl7"
  refine sif_i (fun b1 => ?_) (fun b1 => ?_)
  · have b1 := of_decide_eq_true b1
    walk_at "dl7"
    refine sif_i (fun b2 => ?_) (fun b2 => ?_)
    · walk_at "dl7"
      refine ⟨a, k, top, md, room - 1, rfl, hk, hc, h0, h1, by omega, by omega, tp_put ot, fun c t dc cc ot => ?_⟩
      walk_at "dl7"
      exact fin (q (.ng c) t ⟨dc.1, by simpa [fits0, fitsC] using dc.2⟩ (by simp only [Cn.cnt]; omega) ot)
    · walk_at "dl7"
      refine sif_i (fun b3 => ?_) (fun b3 => ?_)
      · have b3 := of_decide_eq_true b3
        walk_at "dl7"
        refine sif_i (fun b4 => ?_) (fun b4 => ?_)
        · walk_at "dl7"
          refine ⟨a, k, top, md, room - 2, rfl, hk, hc, h0, h1, by omega, by omega, tp_put ot, fun c t dc cc ot => ?_⟩
          walk_at "dl7"
          have dd := c.depth_cnt
          have cp := Cn.cnt_pos c
          refine ⟨c, rfl, by omega, ?_⟩
          walk_at "dl7"
          refine ⟨a, k, top, md, room - 1 - c.cnt, rfl, hk, hc, h0, h1, by omega, by omega, tp_put ot, fun c2 t dc2 cc2 ot => ?_⟩
          walk_at "dl7"
          refine drw (tp_put ot) (fun r t r0 r1 ot => ?_)
          walk_at "dl7"
          rw [q_ixl]
          obtain ⟨d, e, m⟩ := pick (xs := [D.str "and", .str "or"]) r0 (by simp only [List.length_cons, List.length_nil]; omega)
          refine ⟨d, e, ?_⟩
          simp only [List.mem_cons, List.not_mem_nil, or_false] at m
          rcases m with rfl | rfl
          · walk_at "dl7"
            exact fin (q (.an c c2) t ⟨⟨dc.1, dc2.1⟩, by simpa [fits0, fitsC] using ⟨dc.2, dc2.2⟩⟩ (by simp only [Cn.cnt]; omega) ot)
          · walk_at "dl7"
            exact fin (q (.orr c c2) t ⟨⟨dc.1, dc2.1⟩, by simpa [fits0, fitsC] using ⟨dc.2, dc2.2⟩⟩ (by simp only [Cn.cnt]; omega) ot)
        · exact leaf
      · exact leaf
  · walk_at "dl7"
    refine sif_i (fun b3 => ?_) (fun b3 => ?_)
    · have b3 := of_decide_eq_true b3
      exact absurd b1 (by simp; omega)
    · exact leaf
end K04

set_option Elab.async false
set_option linter.all false
set_option maxRecDepth 100000
set_option maxHeartbeats 1000000
namespace K04
open PySem PySem.Spec PyProof.Rows L2 DL K00 K01
/-- sets that are not of the kind -/
def dm0 (k : Kd) (s : Ls) : Prop := (s = .nm [] ∧ ∀ ns, k ≠ .nm ns) ∨ (s = .pr .nil ∧ ∀ a b, k ≠ .pr a b)
def S0 : Kd → Ls → Bool := fun _ _ => false
theorem rd_is_set {s1 s2 : Sp'} (ds : List D) (h : DH) (Q : VK') (E' : XK') (q : spIsSet dm0 S0 ds h Q E') : t_is_set s1 s2 (ends Q) (slots n_is_set ds) h := by
  obtain ⟨k, s, rfl, hm, q⟩ := q
  show t_is_set _ _ (ends Q) [some (kD k), some (sD s), none, none, none, none] h
  unfold t_is_set
  unfold S0 at q
  rcases hm with ⟨rfl, hk⟩ | ⟨rfl, hk⟩ <;> cases k <;> simp only [kD, sD, rwD, List.map_nil] <;> first | exact absurd rfl (hk _) | exact absurd rfl (hk _ _) | (((walk_at "dl7"); repeat (simp only [Bool.or_false, Bool.or_true, Bool.true_or, Bool.false_or]; (walk_at "dl7"))); exact fin q)
/-- conditions that do not fit -/
def Mis (k : Kd) (c : Cn) : Prop := okC c ∧ fitsC S0 k c = false ∧ domC dm0 k c
def shp : Kd → Str
  | .nm _ => "names"
  | .it => "integers"
  | .pr _ _ => "pair"
  | .ei _ => "either"
  | .mb _ => "maybe"
def frm : D → Bool × D → Prop := fun _ _ => True
def b13 (k : Kd) : D → Bool
  | .lis [.str s, _] => !decide (s = shp k)
  | _ => false
def f13 : D → D
  | .lis [_, c] => c
  | d => d
theorem kD_head (k : Kd) : ∃ xs, kD k = .tup (.str (shp k) :: xs) := by cases k <;> exact ⟨_, rfl⟩
def spMisfit : Sp' := fun ds h Q _ => ∃ a k, ds = [.ref a, kD k] ∧ k.ok ∧ k.cnt ≤ 100 ∧ Tp h a ∧ ∀ c t, Mis k c → c.depth ≤ 2 → TOk t → Q (cD c) (put h a t)
def lis13 : List D := [.lis [.str "names", cD (.is "q")], .lis [.str "integers", cD (.lt 3)], .lis [.str "integers", cD (.eq 0)], .lis [.str "integers", cD (.gt (-1))], .lis [.str "integers", cD (.md 2 1)], .lis [.str "pair", cD (.fs .tt)], .lis [.str "pair", cD (.sn .tt)],
  .lis [.str "either", cD (.cs 0 .tt)], .lis [.str "either", cD (.cs 2 .tt)], .lis [.str "maybe", cD .no], .lis [.str "maybe", cD (.so .tt)], .lis [.str "names", cD (.inn (.nm []))], .lis [.str "pair", cD (.inn (.pr .nil))]]
theorem mis13 (k : Kd) {d : D} (m : d ∈ (lis13.filter (b13 k)).map f13) : ∃ c, d = cD c ∧ Mis k c ∧ c.depth ≤ 2 := by
  obtain ⟨x, mx, rfl⟩ := List.mem_map.mp m
  obtain ⟨mx, bx⟩ := List.mem_filter.mp mx
  simp only [lis13, List.mem_cons, List.not_mem_nil, or_false] at mx
  have im : (Mis k (.is "q") ∨ shp k = "names") ∧ (Mis k (.lt 3) ∨ shp k = "integers") ∧ (Mis k (.eq 0) ∨ shp k = "integers") ∧ (Mis k (.gt (-1)) ∨ shp k = "integers") ∧ (Mis k (.md 2 1) ∨ shp k = "integers") ∧ (Mis k (.fs .tt) ∨ shp k = "pair") ∧ (Mis k (.sn .tt) ∨ shp k = "pair") ∧
      (Mis k (.cs 0 .tt) ∨ shp k = "either") ∧ (Mis k (.cs 2 .tt) ∨ shp k = "either") ∧ (Mis k .no ∨ shp k = "maybe") ∧ (Mis k (.so .tt) ∨ shp k = "maybe") ∧ (Mis k (.inn (.nm [])) ∨ shp k = "names") ∧ (Mis k (.inn (.pr .nil)) ∨ shp k = "pair") := by
    cases k <;> simp [Mis, shp, okC, fitsC, domC, dm0, S0]
  obtain ⟨i1, i2, i3, i4, i5, i6, i7, i8, i9, i10, i11, i12, i13⟩ := im
  rcases mx with rfl | rfl | rfl | rfl | rfl | rfl | rfl | rfl | rfl | rfl | rfl | rfl | rfl <;> simp only [b13, Bool.not_eq_true', decide_eq_false_iff_not] at bx
  · exact ⟨_, rfl, i1.resolve_right fun e => bx e.symm, by decide⟩
  · exact ⟨_, rfl, i2.resolve_right fun e => bx e.symm, by decide⟩
  · exact ⟨_, rfl, i3.resolve_right fun e => bx e.symm, by decide⟩
  · exact ⟨_, rfl, i4.resolve_right fun e => bx e.symm, by decide⟩
  · exact ⟨_, rfl, i5.resolve_right fun e => bx e.symm, by decide⟩
  · exact ⟨_, rfl, i6.resolve_right fun e => bx e.symm, by decide⟩
  · exact ⟨_, rfl, i7.resolve_right fun e => bx e.symm, by decide⟩
  · exact ⟨_, rfl, i8.resolve_right fun e => bx e.symm, by decide⟩
  · exact ⟨_, rfl, i9.resolve_right fun e => bx e.symm, by decide⟩
  · exact ⟨_, rfl, i10.resolve_right fun e => bx e.symm, by decide⟩
  · exact ⟨_, rfl, i11.resolve_right fun e => bx e.symm, by decide⟩
  · exact ⟨_, rfl, i12.resolve_right fun e => bx e.symm, by decide⟩
  · exact ⟨_, rfl, i13.resolve_right fun e => bx e.symm, by decide⟩
theorem len13 (k : Kd) : 1 ≤ ((lis13.filter (b13 k)).map f13).length ∧ ((lis13.filter (b13 k)).map f13).length ≤ 13 := by
  refine ⟨?_, by rw [List.length_map]; exact Nat.le_trans (List.length_filter_le _ _) (by decide)⟩
  rw [List.length_map]
  apply List.length_pos_of_mem (a := if shp k = "maybe" then .lis [.str "integers", cD (.lt 3)] else .lis [.str "maybe", cD .no])
  split
  · rename_i e
    refine List.mem_filter.mpr ⟨by simp [lis13], ?_⟩
    simp only [b13, e]
    decide
  · rename_i e
    refine List.mem_filter.mpr ⟨by simp [lis13], ?_⟩
    simp only [b13]
    simpa using fun z => e z.symm
theorem rd__law_misfit (ds : List D) (h : DH) (Q : VK') (E' : XK') (q : spMisfit ds h Q E') : t__law_misfit spDraw spStrange (ends Q) (slots n__law_misfit ds) h := by
  obtain ⟨a, k, rfl, hk, hc, tp, q⟩ := q
  show t__law_misfit _ _ (ends Q) [some (.ref a), some (kD k), none, none, none, none, none] h
  obtain ⟨xs, ek⟩ := kD_head k
  unfold t__law_misfit
  ((walk_at "dl7"); repeat (simp only [List.cons_append, List.nil_append]; (walk_at "dl7")))
  rw [q_lc]
  ((walk_at "dl7"); repeat (simp only [List.cons_append, List.nil_append]; (walk_at "dl7")))
  refine ⟨by decide, by decide, ?_⟩
  intro p np
  refine lc_pure (b13 k) f13 trivial lis13 [] (by decide) ?_ ?_ ?_
  · intro x mx R r
    simp only [lis13, List.mem_cons, List.not_mem_nil, or_false] at mx
    rcases mx with rfl | rfl | rfl | rfl | rfl | rfl | rfl | rfl | rfl | rfl | rfl | rfl | rfl <;> (rw [ek]; walk_at "dl7"; exact r)
  · intro x mx _ R r
    simp only [lis13, List.mem_cons, List.not_mem_nil, or_false] at mx
    rcases mx with rfl | rfl | rfl | rfl | rfl | rfl | rfl | rfl | rfl | rfl | rfl | rfl | rfl <;> (walk_at "dl7"; exact r)
  · rw [List.nil_append]
    have l13 := len13 k
    have m13 := fun d => mis13 k (d := d)
    generalize (lis13.filter (b13 k)).map f13 = ls at l13 m13
    walk_at "dl7"
    rw [del_put np]
    refine drw tp (fun r t r0 r1 ot => ?_)
    have any : pcall spDraw [.ref a, .int (ls.length : Int)] (put h a t) (fun y h2 => opIx (.lis ls) y h2 (ends Q).rt) (fun _ _ => False) ⟨⟩ := by
      refine drw (tp_put ot) (fun r t r0 r1 ot => ?_) (by omega)
      rw [put_put, q_ixl]
      obtain ⟨d, e, m⟩ := pick (xs := ls) r0 (by omega)
      obtain ⟨c, rfl, mc, dc⟩ := m13 d m
      exact ⟨_, e, fin (q c t mc dc ot)⟩
    cases hb : decide (r = 0) with
    | true =>
      cases k with
      | nm ns =>
        simp only [kD]
        ((walk_at "dl7"); repeat (simp only [hb]; (walk_at "dl7")))
        refine ⟨ns, rfl, hk, fun s sn so => ?_⟩
        walk_at "dl7"
        exact fin (q (.is s) t ⟨trivial, by simpa [fitsC] using sn, by simp [domC]⟩ (by simp [Cn.depth]) ot)
      | ei ks =>
        simp only [kD]
        ((walk_at "dl7"); repeat (simp only [hb, len_kDs]; (walk_at "dl7")))
        refine sif_i (fun b2 => ?_) (fun b2 => ?_)
        · ((walk_at "dl7"); repeat (simp only [len_kDs]; (walk_at "dl7")))
          exact fin (q (.cs ks.length .tt) t ⟨⟨by omega, trivial⟩, by simp [fitsC], by simp [domC]⟩ (by simp [Cn.depth]) ot)
        · walk_at "dl7"
          exact any
      | _ => simp only [kD]; ((walk_at "dl7"); repeat (simp only [hb]; (walk_at "dl7"))); exact any
    | false => cases k <;> (simp only [kD]; ((walk_at "dl7"); repeat (simp only [hb]; (walk_at "dl7"))); exact any)
end K04

set_option Elab.async false
set_option linter.all false
set_option maxRecDepth 100000
set_option maxHeartbeats 1000000
namespace K04
open PySem PySem.Spec PyProof.Rows L2 DL K00 K01
/-- _law_wrong(tape, kind, condition) -/
def spWrong (n : Nat) : Sp' := fun ds h Q _ => ∃ a k c, ds = [.ref a, kD k, cD c] ∧ k.ok ∧ k.cnt ≤ 100 ∧ c.depth ≤ n ∧ Dr k c ∧ Tp h a ∧ ∀ c' t, Mis k c' → c'.depth ≤ c.depth + 1 → TOk t → Q (cD c') (put h a t)
theorem dr_dom {k : Kd} {c : Cn} (h : Dr k c) : domC dm0 k c := fits0_dom c k h.2
theorem rd__law_wrong (n : Nat) (ds : List D) (h : DH) (Q : VK') (E' : XK') (q : spWrong (n + 1) ds h Q E') : t__law_wrong spDraw (spWrong n) spMisfit (ends Q) (slots n__law_wrong ds) h := by
  obtain ⟨a, k, c, rfl, hk, hc, hd, dr, tp, q⟩ := q
  show t__law_wrong _ _ _ (ends Q) [some (.ref a), some (kD k), some (cD c), none, none, none] h
  unfold t__law_wrong
  walk_at "dl7"
  refine drw tp (fun r t r0 r1 ot => ?_)
  have any : pcall spMisfit [.ref a, kD k] (put h a t) (ends Q).rt (fun _ _ => False) ⟨⟩ := by
    refine ⟨a, k, rfl, hk, hc, tp_put ot, fun c' t mc dc ot => ?_⟩
    have := c.depth_pos
    rw [put_put]
    exact fin (q c' t mc (by omega) ot)
  cases hb : decide (0 < r) with
  | false => cases c <;> (simp only [cD]; ((walk_at "dl7"); repeat (simp only [hb]; (walk_at "dl7"))); exact any)
  | true =>
    cases c with
    | tt | ff | is s | lt i | eq i | gt i | md m r | no | inn s => simp only [cD]; ((walk_at "dl7"); repeat (simp only [hb, DL.flatD, List.all_cons, List.all_nil, DL.inD_sc, DL.inD_ic, DL.inD_ii, DL.inD_nil, Bool.and_true, Bool.or_false, Bool.or_true, Bool.true_or, Bool.false_or]; (walk_at "dl7"))); exact any
    | ng c =>
      simp only [Cn.depth] at hd q
      simp only [cD]
      ((walk_at "dl7"); repeat (simp only [hb, DL.flatD, List.all_cons, List.all_nil, DL.inD_sc, DL.inD_ic, DL.inD_ii, DL.inD_nil, Bool.and_true, Bool.or_false, Bool.or_true, Bool.true_or, Bool.false_or]; (walk_at "dl7")))
      refine ⟨a, k, c, rfl, hk, hc, by omega, ⟨dr.1, by simpa [fits0, fitsC] using dr.2⟩, tp_put ot, fun c' t mc dc ot => ?_⟩
      walk_at "dl7"
      exact fin (q (.ng c') t ⟨mc.1, by simpa [fitsC] using mc.2.1, by simpa [domC] using mc.2.2⟩ (by simp only [Cn.depth]; omega) ot)
    | an x y =>
      simp only [Cn.depth] at hd q
      have fx : fits0 k x ∧ fits0 k y := by simpa [fits0, fitsC] using dr.2
      have dx : Dr k x := ⟨dr.1.1, fx.1⟩
      have dy : Dr k y := ⟨dr.1.2, fx.2⟩
      simp only [cD]
      ((walk_at "dl7"); repeat (simp only [hb, DL.flatD, List.all_cons, List.all_nil, DL.inD_sc, DL.inD_ic, DL.inD_ii, DL.inD_nil, Bool.and_true, Bool.or_false, Bool.or_true, Bool.true_or, Bool.false_or]; (walk_at "dl7")))
      refine drw (tp_put ot) (fun r t r0 r1 ot => ?_)
      have rr : r = 0 ∨ r = 1 := by omega
      rcases rr with rfl | rfl
      · walk_at "dl7"
        refine ⟨a, k, x, rfl, hk, hc, by omega, dx, tp_put ot, fun c' t mc dc ot => ?_⟩
        walk_at "dl7"
        exact ⟨show 2 ≤ sizeLine by decide, show 3 ≤ sizeLine by decide, fin (q (.an c' y) t ⟨⟨mc.1, dy.1⟩, by simp [fitsC, mc.2.1], by simp only [domC]; exact ⟨mc.2.2, dr_dom dy⟩⟩ (by simp only [Cn.depth]; omega) ot)⟩
      · walk_at "dl7"
        refine ⟨a, k, y, rfl, hk, hc, by omega, dy, tp_put ot, fun c' t mc dc ot => ?_⟩
        walk_at "dl7"
        exact ⟨show 3 ≤ sizeLine by decide, show 3 ≤ sizeLine by decide, fin (q (.an x c') t ⟨⟨dx.1, mc.1⟩, by simp [fitsC, mc.2.1], by simp only [domC]; exact ⟨dr_dom dx, mc.2.2⟩⟩ (by simp only [Cn.depth]; omega) ot)⟩
    | orr x y =>
      simp only [Cn.depth] at hd q
      have fx : fits0 k x ∧ fits0 k y := by simpa [fits0, fitsC] using dr.2
      have dx : Dr k x := ⟨dr.1.1, fx.1⟩
      have dy : Dr k y := ⟨dr.1.2, fx.2⟩
      simp only [cD]
      ((walk_at "dl7"); repeat (simp only [hb, DL.flatD, List.all_cons, List.all_nil, DL.inD_sc, DL.inD_ic, DL.inD_ii, DL.inD_nil, Bool.and_true, Bool.or_false, Bool.or_true, Bool.true_or, Bool.false_or]; (walk_at "dl7")))
      refine drw (tp_put ot) (fun r t r0 r1 ot => ?_)
      have rr : r = 0 ∨ r = 1 := by omega
      rcases rr with rfl | rfl
      · walk_at "dl7"
        refine ⟨a, k, x, rfl, hk, hc, by omega, dx, tp_put ot, fun c' t mc dc ot => ?_⟩
        walk_at "dl7"
        exact ⟨show 2 ≤ sizeLine by decide, show 3 ≤ sizeLine by decide, fin (q (.orr c' y) t ⟨⟨mc.1, dy.1⟩, by simp [fitsC, mc.2.1], by simp only [domC]; exact ⟨mc.2.2, dr_dom dy⟩⟩ (by simp only [Cn.depth]; omega) ot)⟩
      · walk_at "dl7"
        refine ⟨a, k, y, rfl, hk, hc, by omega, dy, tp_put ot, fun c' t mc dc ot => ?_⟩
        walk_at "dl7"
        exact ⟨show 3 ≤ sizeLine by decide, show 3 ≤ sizeLine by decide, fin (q (.orr x c') t ⟨⟨dx.1, mc.1⟩, by simp [fitsC, mc.2.1], by simp only [domC]; exact ⟨dr_dom dx, mc.2.2⟩⟩ (by simp only [Cn.depth]; omega) ot)⟩
    | fs c =>
      simp only [Cn.depth] at hd q
      have h2 := dr.2
      cases k <;> simp [fits0, fitsC] at h2
      rename_i k1 k2
      simp only [Kd.cnt] at hc
      simp only [cD, kD]
      ((walk_at "dl7"); repeat (simp only [hb, DL.flatD, List.all_cons, List.all_nil, DL.inD_sc, DL.inD_ic, DL.inD_ii, DL.inD_nil, Bool.and_true, Bool.or_false, Bool.or_true, Bool.true_or, Bool.false_or]; (walk_at "dl7")))
      refine ⟨a, k1, c, rfl, hk.1, by omega, by omega, ⟨dr.1, h2⟩, tp_put ot, fun c' t mc dc ot => ?_⟩
      walk_at "dl7"
      exact fin (q (.fs c') t ⟨mc.1, by simpa [fitsC] using mc.2.1, by simpa [domC] using mc.2.2⟩ (by simp only [Cn.depth]; omega) ot)
    | sn c =>
      simp only [Cn.depth] at hd q
      have h2 := dr.2
      cases k <;> simp [fits0, fitsC] at h2
      rename_i k1 k2
      simp only [Kd.cnt] at hc
      simp only [cD, kD]
      ((walk_at "dl7"); repeat (simp only [hb, DL.flatD, List.all_cons, List.all_nil, DL.inD_sc, DL.inD_ic, DL.inD_ii, DL.inD_nil, Bool.and_true, Bool.or_false, Bool.or_true, Bool.true_or, Bool.false_or]; (walk_at "dl7")))
      refine ⟨a, k2, c, rfl, hk.2, by omega, by omega, ⟨dr.1, h2⟩, tp_put ot, fun c' t mc dc ot => ?_⟩
      walk_at "dl7"
      exact fin (q (.sn c') t ⟨mc.1, by simpa [fitsC] using mc.2.1, by simpa [domC] using mc.2.2⟩ (by simp only [Cn.depth]; omega) ot)
    | so c =>
      simp only [Cn.depth] at hd q
      have h2 := dr.2
      cases k <;> simp [fits0, fitsC] at h2
      rename_i k1
      simp only [Kd.cnt] at hc
      simp only [cD, kD]
      ((walk_at "dl7"); repeat (simp only [hb, DL.flatD, List.all_cons, List.all_nil, DL.inD_sc, DL.inD_ic, DL.inD_ii, DL.inD_nil, Bool.and_true, Bool.or_false, Bool.or_true, Bool.true_or, Bool.false_or]; (walk_at "dl7")))
      refine ⟨a, k1, c, rfl, hk, by omega, by omega, ⟨dr.1, h2⟩, tp_put ot, fun c' t mc dc ot => ?_⟩
      walk_at "dl7"
      exact fin (q (.so c') t ⟨mc.1, by simpa [fitsC] using mc.2.1, by simpa [domC] using mc.2.2⟩ (by simp only [Cn.depth]; omega) ot)
    | cs i c =>
      simp only [Cn.depth] at hd q
      have h2 := dr.2
      cases k <;> simp [fits0, fitsC] at h2
      rename_i ks
      cases e : ks[i.toNat]? with
      | none => simp [e] at h2
      | some k1 =>
        simp only [e] at h2
        have mk := List.mem_of_getElem? e
        have m2 := Kd.cnt_mem mk
        simp only [Kd.cnt] at hc
        simp only [cD, kD]
        ((walk_at "dl7"); repeat (simp only [hb, DL.flatD, List.all_cons, List.all_nil, DL.inD_sc, DL.inD_ic, DL.inD_ii, DL.inD_nil, Bool.and_true, Bool.or_false, Bool.or_true, Bool.true_or, Bool.false_or]; (walk_at "dl7")))
        rw [q_ixt]
        refine ⟨_, atI_kDs dr.1.1 e, ?_⟩
        walk_at "dl7"
        refine ⟨a, k1, c, rfl, Kd.oks_mem.mp hk.2 _ mk, by omega, by omega, ⟨dr.1.2, h2⟩, tp_put ot, fun c' t mc dc ot => ?_⟩
        walk_at "dl7"
        exact fin (q (.cs i c') t ⟨⟨dr.1.1, mc.1⟩, by simpa [fitsC, e] using mc.2.1, by simp only [domC]; intro k e2; rw [e] at e2; cases e2; exact mc.2.2⟩ (by simp only [Cn.depth]; omega) ot)
/-- _law_varied(tape, kind, condition, theory) -/
def spVaried (n : Nat) : Sp' := fun ds h Q _ => ∃ (a : Addr) (k : Kd) (c : Cn) (top md : Int), ds = [.ref a, kD k, cD c, thy top md] ∧ k.ok ∧ k.cnt ≤ 100 ∧ c.cnt ≤ n ∧ Dr k c ∧ 0 ≤ top ∧ top ≤ 1000000 ∧ Tp h a ∧ ∀ c' t, Dr k c' → c'.cnt ≤ c.cnt → TOk t → Q (cD c') (put h a t)
theorem rd__law_varied (n m : Nat) (ds : List D) (h : DH) (Q : VK') (E' : XK') (q : spVaried (n + 1) ds h Q E') : t__law_varied spDraw (spVaried n) (spCond (m + 1)) (ends Q) (slots n__law_varied ds) h := by
  obtain ⟨a, k, c, top, md, rfl, hk, hc, hd, dr, h0, h1, tp, q⟩ := q
  show t__law_varied _ _ _ (ends Q) [some (.ref a), some (kD k), some (cD c), some (.tup [.int top, .int md]), none, none, none, none] h
  unfold t__law_varied
  walk_at "dl7"
  refine drw tp (fun r t r0 r1 ot => ?_)
  have cp := c.cnt_pos
  have any : ∀ {t : DO}, TOk t → pcall (spCond (m + 1)) [.ref a, kD k, .tup [.int top, .int md], .int 1] (put h a t) (ends Q).rt (fun _ _ => False) ⟨⟩ := fun {t} ot => by
    refine ⟨a, k, top, md, 1, rfl, hk, hc, h0, h1, by omega, by omega, tp_put ot, fun c' t dc cc ot => ?_⟩
    rw [put_put]
    exact fin (q c' t dc (by omega) ot)
  cases hb : decide (0 < r) with
  | false =>
    cases c <;> (simp only [cD]; ((walk_at "dl7"); repeat (simp only [hb]; (walk_at "dl7"))); refine ⟨fun τ g => ∃ x2 x4 x5 x6 x7 t, τ = [some (.ref a), some (kD k), x2, some (.tup [.int top, .int md]), x4, x5, x6, x7] ∧ g = put h a t ∧ TOk t, ?_, ?_⟩; (· ((walk_at "dl7"); repeat (simp only [hb]; (walk_at "dl7"))); exact ⟨_, _, _, _, _, t, rfl, rfl, ot⟩); (· rintro τ g ⟨x2, x4, x5, x6, x7, t, rfl, rfl, ot⟩; walk_at "dl7"; exact any ot))
  | true =>
    cases c with
    | tt | ff | is s | md m r | no | inn s =>
      simp only [cD]
      ((walk_at "dl7"); repeat (simp only [hb, DL.flatD, List.all_cons, List.all_nil, DL.inD_sc, DL.inD_ic, DL.inD_ii, DL.inD_nil, Bool.and_true, Bool.or_false, Bool.or_true, Bool.true_or, Bool.false_or]; (walk_at "dl7")))
      refine ⟨fun τ g => ∃ x2 x4 x5 x6 x7 t, τ = [some (.ref a), some (kD k), x2, some (.tup [.int top, .int md]), x4, x5, x6, x7] ∧ g = put h a t ∧ TOk t, ?_, ?_⟩
      · ((walk_at "dl7"); repeat (simp only [hb, DL.flatD, List.all_cons, List.all_nil, DL.inD_sc, DL.inD_ic, DL.inD_ii, DL.inD_nil, Bool.and_true, Bool.or_false, Bool.or_true, Bool.true_or, Bool.false_or]; (walk_at "dl7"))); exact ⟨_, _, _, _, _, t, rfl, rfl, ot⟩
      · rintro τ g ⟨x2, x4, x5, x6, x7, t, rfl, rfl, ot⟩; walk_at "dl7"; exact any ot
    | lt i | eq i | gt i =>
      have h2 := dr.2
      cases k <;> simp [fits0, fitsC] at h2
      simp only [cD]
      ((walk_at "dl7"); repeat (simp only [hb, DL.flatD, List.all_cons, List.all_nil, DL.inD_sc, DL.inD_ic, DL.inD_ii, DL.inD_nil, Bool.and_true, Bool.or_false, Bool.or_true, Bool.true_or, Bool.false_or]; (walk_at "dl7")))
      refine ⟨fun τ g => ∃ x2 x4 x5 x6 x7 t, τ = [some (.ref a), some (kD .it), x2, some (.tup [.int top, .int md]), x4, x5, x6, x7] ∧ g = put h a t ∧ TOk t, ?_, ?_⟩
      · ((walk_at "dl7"); repeat (simp only [hb, DL.flatD, List.all_cons, List.all_nil, DL.inD_sc, DL.inD_ic, DL.inD_ii, DL.inD_nil, Bool.and_true, Bool.or_false, Bool.or_true, Bool.true_or, Bool.false_or]; (walk_at "dl7")))
        refine drw (tp_put ot) (fun r t r0 r1 ot => ?_)
        walk_at "dl7"
        refine sif_i (fun _ => ?_) (fun _ => ?_)
        · walk_at "dl7"
          first
            | exact fin (q (.lt (i + 1 - 2 * r)) t ⟨trivial, rfl⟩ (Nat.le_refl _) ot)
            | exact fin (q (.eq (i + 1 - 2 * r)) t ⟨trivial, rfl⟩ (Nat.le_refl _) ot)
            | exact fin (q (.gt (i + 1 - 2 * r)) t ⟨trivial, rfl⟩ (Nat.le_refl _) ot)
        · walk_at "dl7"
          exact ⟨_, _, _, _, _, t, rfl, rfl, ot⟩
      · rintro τ g ⟨x2, x4, x5, x6, x7, t, rfl, rfl, ot⟩; walk_at "dl7"; exact any ot
    | ng c =>
      simp only [Cn.cnt] at hd q
      simp only [cD]
      ((walk_at "dl7"); repeat (simp only [hb, DL.flatD, List.all_cons, List.all_nil, DL.inD_sc, DL.inD_ic, DL.inD_ii, DL.inD_nil, Bool.and_true, Bool.or_false, Bool.or_true, Bool.true_or, Bool.false_or]; (walk_at "dl7")))
      refine ⟨a, k, c, top, md, rfl, hk, hc, by omega, ⟨dr.1, by simpa [fits0, fitsC] using dr.2⟩, h0, h1, tp_put ot, fun c' t mc dc ot => ?_⟩
      walk_at "dl7"
      exact fin (q (.ng c') t ⟨mc.1, by simpa [fits0, fitsC] using mc.2⟩ (by simp only [Cn.cnt]; omega) ot)
    | an x y =>
      simp only [Cn.cnt] at hd q
      have fx : fits0 k x ∧ fits0 k y := by simpa [fits0, fitsC] using dr.2
      have dx : Dr k x := ⟨dr.1.1, fx.1⟩
      have dy : Dr k y := ⟨dr.1.2, fx.2⟩
      simp only [cD]
      ((walk_at "dl7"); repeat (simp only [hb, DL.flatD, List.all_cons, List.all_nil, DL.inD_sc, DL.inD_ic, DL.inD_ii, DL.inD_nil, Bool.and_true, Bool.or_false, Bool.or_true, Bool.true_or, Bool.false_or]; (walk_at "dl7")))
      refine drw (tp_put ot) (fun r t r0 r1 ot => ?_)
      have rr : r = 0 ∨ r = 1 := by omega
      rcases rr with rfl | rfl
      · walk_at "dl7"
        refine ⟨a, k, x, top, md, rfl, hk, hc, by omega, dx, h0, h1, tp_put ot, fun c' t mc dc ot => ?_⟩
        walk_at "dl7"
        exact ⟨show 2 ≤ sizeLine by decide, show 3 ≤ sizeLine by decide, fin (q (.an c' y) t ⟨⟨mc.1, dy.1⟩, by simpa [fits0, fitsC] using ⟨mc.2, dy.2⟩⟩ (by simp only [Cn.cnt]; omega) ot)⟩
      · walk_at "dl7"
        refine ⟨a, k, y, top, md, rfl, hk, hc, by omega, dy, h0, h1, tp_put ot, fun c' t mc dc ot => ?_⟩
        walk_at "dl7"
        exact ⟨show 3 ≤ sizeLine by decide, show 3 ≤ sizeLine by decide, fin (q (.an x c') t ⟨⟨dx.1, mc.1⟩, by simpa [fits0, fitsC] using ⟨dx.2, mc.2⟩⟩ (by simp only [Cn.cnt]; omega) ot)⟩
    | orr x y =>
      simp only [Cn.cnt] at hd q
      have fx : fits0 k x ∧ fits0 k y := by simpa [fits0, fitsC] using dr.2
      have dx : Dr k x := ⟨dr.1.1, fx.1⟩
      have dy : Dr k y := ⟨dr.1.2, fx.2⟩
      simp only [cD]
      ((walk_at "dl7"); repeat (simp only [hb, DL.flatD, List.all_cons, List.all_nil, DL.inD_sc, DL.inD_ic, DL.inD_ii, DL.inD_nil, Bool.and_true, Bool.or_false, Bool.or_true, Bool.true_or, Bool.false_or]; (walk_at "dl7")))
      refine drw (tp_put ot) (fun r t r0 r1 ot => ?_)
      have rr : r = 0 ∨ r = 1 := by omega
      rcases rr with rfl | rfl
      · walk_at "dl7"
        refine ⟨a, k, x, top, md, rfl, hk, hc, by omega, dx, h0, h1, tp_put ot, fun c' t mc dc ot => ?_⟩
        walk_at "dl7"
        exact ⟨show 2 ≤ sizeLine by decide, show 3 ≤ sizeLine by decide, fin (q (.orr c' y) t ⟨⟨mc.1, dy.1⟩, by simpa [fits0, fitsC] using ⟨mc.2, dy.2⟩⟩ (by simp only [Cn.cnt]; omega) ot)⟩
      · walk_at "dl7"
        refine ⟨a, k, y, top, md, rfl, hk, hc, by omega, dy, h0, h1, tp_put ot, fun c' t mc dc ot => ?_⟩
        walk_at "dl7"
        exact ⟨show 3 ≤ sizeLine by decide, show 3 ≤ sizeLine by decide, fin (q (.orr x c') t ⟨⟨dx.1, mc.1⟩, by simpa [fits0, fitsC] using ⟨dx.2, mc.2⟩⟩ (by simp only [Cn.cnt]; omega) ot)⟩
    | fs c =>
      simp only [Cn.cnt] at hd q
      have h2 := dr.2
      cases k <;> simp [fits0, fitsC] at h2
      rename_i k1 k2
      simp only [Kd.cnt] at hc
      simp only [cD, kD]
      ((walk_at "dl7"); repeat (simp only [hb, DL.flatD, List.all_cons, List.all_nil, DL.inD_sc, DL.inD_ic, DL.inD_ii, DL.inD_nil, Bool.and_true, Bool.or_false, Bool.or_true, Bool.true_or, Bool.false_or]; (walk_at "dl7")))
      refine ⟨a, k1, c, top, md, rfl, hk.1, by omega, by omega, ⟨dr.1, h2⟩, h0, h1, tp_put ot, fun c' t mc dc ot => ?_⟩
      walk_at "dl7"
      exact fin (q (.fs c') t ⟨mc.1, mc.2⟩ (by simp only [Cn.cnt]; omega) ot)
    | sn c =>
      simp only [Cn.cnt] at hd q
      have h2 := dr.2
      cases k <;> simp [fits0, fitsC] at h2
      rename_i k1 k2
      simp only [Kd.cnt] at hc
      simp only [cD, kD]
      ((walk_at "dl7"); repeat (simp only [hb, DL.flatD, List.all_cons, List.all_nil, DL.inD_sc, DL.inD_ic, DL.inD_ii, DL.inD_nil, Bool.and_true, Bool.or_false, Bool.or_true, Bool.true_or, Bool.false_or]; (walk_at "dl7")))
      refine ⟨a, k2, c, top, md, rfl, hk.2, by omega, by omega, ⟨dr.1, h2⟩, h0, h1, tp_put ot, fun c' t mc dc ot => ?_⟩
      walk_at "dl7"
      exact fin (q (.sn c') t ⟨mc.1, mc.2⟩ (by simp only [Cn.cnt]; omega) ot)
    | so c =>
      simp only [Cn.cnt] at hd q
      have h2 := dr.2
      cases k <;> simp [fits0, fitsC] at h2
      rename_i k1
      simp only [Kd.cnt] at hc
      simp only [cD, kD]
      ((walk_at "dl7"); repeat (simp only [hb, DL.flatD, List.all_cons, List.all_nil, DL.inD_sc, DL.inD_ic, DL.inD_ii, DL.inD_nil, Bool.and_true, Bool.or_false, Bool.or_true, Bool.true_or, Bool.false_or]; (walk_at "dl7")))
      refine ⟨a, k1, c, top, md, rfl, hk, by omega, by omega, ⟨dr.1, h2⟩, h0, h1, tp_put ot, fun c' t mc dc ot => ?_⟩
      walk_at "dl7"
      exact fin (q (.so c') t ⟨mc.1, mc.2⟩ (by simp only [Cn.cnt]; omega) ot)
    | cs i c =>
      simp only [Cn.cnt] at hd q
      have h2 := dr.2
      cases k <;> simp [fits0, fitsC] at h2
      rename_i ks
      cases e : ks[i.toNat]? with
      | none => simp [e] at h2
      | some k1 =>
        simp only [e] at h2
        have mk := List.mem_of_getElem? e
        have m2 := Kd.cnt_mem mk
        simp only [Kd.cnt] at hc
        simp only [cD, kD]
        ((walk_at "dl7"); repeat (simp only [hb, DL.flatD, List.all_cons, List.all_nil, DL.inD_sc, DL.inD_ic, DL.inD_ii, DL.inD_nil, Bool.and_true, Bool.or_false, Bool.or_true, Bool.true_or, Bool.false_or]; (walk_at "dl7")))
        rw [q_ixt]
        refine ⟨_, atI_kDs dr.1.1 e, ?_⟩
        walk_at "dl7"
        refine ⟨a, k1, c, top, md, rfl, Kd.oks_mem.mp hk.2 _ mk, by omega, by omega, ⟨dr.1.2, h2⟩, h0, h1, tp_put ot, fun c' t mc dc ot => ?_⟩
        walk_at "dl7"
        exact fin (q (.cs i c') t ⟨⟨dr.1.1, mc.1⟩, by simpa [fits0, fitsC, e] using mc.2⟩ (by simp only [Cn.cnt]; omega) ot)
end K04

-- set2
set_option Elab.async false
set_option linter.all false
set_option maxRecDepth 100000
set_option maxHeartbeats 1000000
local macro_rules | `(tactic| walk_at "dl7") => `(tactic| (try simp only [↓DL.q_nx, ↓DL.q_seq, ↓DL.q_br, ↓DL.q_ct, ↓DL.q_drop, ↓DL.q_ret, ↓DL.q_retn, ↓DL.q_ifs, ↓DL.q_asg, ↓DL.q_gn, ↓DL.q_gsub, ↓DL.q_gtup, ↓DL.q_gco, ↓DL.q_gni, ↓DL.q_for, ↓DL.q_yes, ↓DL.q_c, ↓DL.q_to, ↓DL.q_tu, ↓DL.q_tb, ↓DL.q_isB, ↓DL.q_isI, ↓DL.q_ch, ↓DL.q_and, ↓DL.q_or, ↓DL.q_orp, ↓DL.q_not, ↓DL.q_andv, ↓DL.q_orv, ↓DL.q_notv, ↓DL.q_if, ↓DL.q_an, ↓DL.q_ac, ↓DL.q_tup, ↓DL.q_lis, ↓DL.q_own, ↓DL.q_call, ↓DL.q_cb, ↓DL.q_bm, ↓DL.q_sl, ↓DL.q_slt, ↓DL.q_sll, ↓DL.q_pn, ↓DL.q_pe, ↓DL.q_addi, ↓DL.q_adds, ↓DL.q_addt, ↓DL.q_addl, ↓DL.q_I2, ↓DL.q_neg, ↓DL.q_eqi, ↓DL.q_eqs, ↓DL.q_eqb, ↓DL.q_neb, ↓DL.q_nei, ↓DL.q_nes, ↓DL.q_eq_non_int, ↓DL.q_ne_non_int, ↓DL.q_eq_non_bl, ↓DL.q_ne_non_bl, ↓DL.q_eq_non_str, ↓DL.q_ne_non_str, ↓DL.q_eq_int_non, ↓DL.q_ne_int_non, ↓DL.q_eq_bl_non, ↓DL.q_ne_bl_non, ↓DL.q_eq_str_non, ↓DL.q_ne_str_non, ↓DL.q_eq_int_str, ↓DL.q_ne_int_str, ↓DL.q_eq_str_int, ↓DL.q_ne_str_int, ↓DL.q_eq_bl_str, ↓DL.q_ne_bl_str, ↓DL.q_eq_str_bl, ↓DL.q_ne_str_bl, ↓DL.q_eq_non_non, ↓DL.q_ne_non_non, ↓DL.q_isnon_bl, ↓DL.q_isnon_int, ↓DL.q_isnon_str, ↓DL.q_isnon_tup, ↓DL.q_isnon_lis, ↓DL.q_isnon_non, ↓DL.q_int, ↓DL.q_inl, ↓DL.q_isn, ↓DL.q_ixc, ↓DL.q_lent, ↓DL.q_lenl, ↓DL.q_lenc, ↓DL.q_lens, ↓DL.q_is, ↓DL.q_toi, ↓DL.q_tob, ↓DL.q_abs, ↓DL.q_max, ↓DL.q_min, ↓DL.q_list, ↓DL.q_listo, ↓DL.q_tuple, ↓DL.q_sum, ↓DL.q_kt, ↓DL.q_kl, ↓DL.q_kc, ↓DL.q_tv0, ↓DL.q_st0, ↓DL.q_tv1, ↓DL.q_st1, ↓DL.q_tv2, ↓DL.q_st2, ↓DL.q_tv3, ↓DL.q_st3, ↓DL.q_tv4, ↓DL.q_st4, ↓DL.q_tv5, ↓DL.q_st5, ↓DL.q_tv6, ↓DL.q_st6, ↓DL.q_tv7, ↓DL.q_st7, ↓DL.q_tv8, ↓DL.q_st8, ↓DL.q_tv9, ↓DL.q_st9, ↓DL.q_tv10, ↓DL.q_st10, ↓DL.q_tv11, ↓DL.q_st11, ↓DL.q_tv12, ↓DL.q_st12, ↓DL.q_tv13, ↓DL.q_st13, ↓DL.q_tv14, ↓DL.q_st14, ↓DL.q_tv15, ↓DL.q_st15, ↓DL.q_ixt0, ↓DL.q_ixl0, ↓DL.q_ixt1, ↓DL.q_ixl1, ↓DL.q_ixt2, ↓DL.q_ixl2, ↓DL.q_ixt3, ↓DL.q_ixl3, ↓DL.q_ixt4, ↓DL.q_ixl4, ↓DL.q_oixr, ↓DL.q_oinr, ↓DL.q_olen, ↓DL.q_okr, ↓DL.q_oapp, ↓DL.q_olsr, ↓DL.q_osetD, ↓DL.q_ln0, ↓DL.q_sz0, ↓DL.q_ln1, ↓DL.q_sz1, ↓DL.q_ln2, ↓DL.q_sz2, ↓DL.q_ln3, ↓DL.q_sz3, ↓DL.q_ln4, ↓DL.q_sz4, ↓DL.q_ln5, ↓DL.q_sz5, ↓DL.q_ln6, ↓DL.q_sz6, ↓DL.q_ln7, ↓DL.q_sz7, ↓DL.q_ln8, ↓DL.q_sz8, ↓DL.q_wseq, ↓DL.q_wt, ↓DL.q_wl, ↓DL.q_wc, ↓DL.q_wr, ↓DL.q_wr1, ↓DL.q_wr1', ↓DL.q_setL0, ↓DL.q_setL1, ↓DL.q_setL2, ↓DL.q_setL3, ↓DL.q_setL4, ↓DL.q_pl_non, ↓DL.q_in_non_int, ↓DL.q_in_non_bool, ↓DL.q_in_non_str, ↓DL.q_in_non_tuple, ↓DL.q_in_non_list, ↓DL.q_pl_bl, ↓DL.q_in_bl_int, ↓DL.q_in_bl_bool, ↓DL.q_in_bl_str, ↓DL.q_in_bl_tuple, ↓DL.q_in_bl_list, ↓DL.q_pl_int, ↓DL.q_in_int_int, ↓DL.q_in_int_bool, ↓DL.q_in_int_str, ↓DL.q_in_int_tuple, ↓DL.q_in_int_list, ↓DL.q_pl_str, ↓DL.q_in_str_int, ↓DL.q_in_str_bool, ↓DL.q_in_str_str, ↓DL.q_in_str_tuple, ↓DL.q_in_str_list, ↓DL.q_pl_tup, ↓DL.q_in_tup_int, ↓DL.q_in_tup_bool, ↓DL.q_in_tup_str, ↓DL.q_in_tup_tuple, ↓DL.q_in_tup_list, ↓DL.q_pl_lis, ↓DL.q_in_lis_int, ↓DL.q_in_lis_bool, ↓DL.q_in_lis_str, ↓DL.q_in_lis_tuple, ↓DL.q_in_lis_list, ↓DL.q_ty_int, ↓DL.q_ty_bool, ↓DL.q_ty_str, ↓DL.q_ty_tuple, ↓DL.q_ty_list, DL.sif_t, DL.sif_f, DL.ofStr_inj, String.reduceEq, decide_true, decide_false, Bool.not_true, Bool.not_false, true_and, and_true, List.length_cons, List.length_nil, Int.reduceAdd, Int.reduceMul, Int.reduceNeg, Int.reduceSub, Nat.reduceAdd, if_true, if_false, Bool.false_eq_true, Int.reduceEq, Int.reduceLT, Int.reduceLE, eq_self, not_false_eq_true, DL.mulOk, or_true, true_or, and_self, Int.reduceToNat, Nat.reduceLT, Int.reducePow, DL.put_same, DL.put_put, ↓DL.q_tru, ↓DL.q_truB, ↓DL.q_truI, ↓DL.q_truT, ↓DL.q_truL, ↓DL.q_any, ↓DL.q_all, ↓DL.q_dnew, ↓DL.q_dget, ↓DL.q_dix, ↓DL.q_dput, ↓DL.q_ext1, ↓DL.q_rg2, ↓DL.q_rg2K, ↓DL.q_tv16, ↓DL.q_st16, ↓DL.q_tv17, ↓DL.q_st17, ↓DL.q_tv18, ↓DL.q_st18, ↓DL.q_tv19, ↓DL.q_st19, ↓DL.q_tv20, ↓DL.q_st20, ↓DL.q_tv21, ↓DL.q_st21, ↓DL.q_tv22, ↓DL.q_st22, ↓DL.q_tv23, ↓DL.q_st23, ↓DL.q_tv24, ↓DL.q_st24, ↓DL.q_tv25, ↓DL.q_st25, ↓DL.q_tv26, ↓DL.q_st26, ↓DL.q_tv27, ↓DL.q_st27, ↓DL.q_tv28, ↓DL.q_st28, ↓DL.q_tv29, ↓DL.q_st29, ↓DL.q_tv30, ↓DL.q_st30, ↓DL.q_tv31, ↓DL.q_st31, ↓DL.q_tv32, ↓DL.q_st32, ↓DL.q_tv33, ↓DL.q_st33, ↓DL.q_tv34, ↓DL.q_st34, ↓DL.q_tv35, ↓DL.q_st35]))
namespace K22
open PySem PySem.Spec PyProof.Rows L2 DL K00 K01 K04
abbrev tru : Kd → Ls → Bool := fun _ _ => true
theorem sz1000 {n : Nat} (h : n ≤ 1000) : n ≤ sizeLine := Nat.le_trans h (by decide)
def spBehind : Sp' := fun ds h Q _ => ∃ M S v, ds = [mD M, tI S, v] ∧ M.ok ∧ isL M.k v = true ∧ Q (tI (bhd M S v)) h
theorem rd_behind_letter (ds : List D) (h : DH) (Q : VK') (E' : XK') (q : spBehind ds h Q E') : t_behind_letter (spMet wf3 tru inS 40) (ends Q) (slots n_behind_letter ds) h := by
  obtain ⟨M, S, v, rfl, o, hv, q⟩ := q
  show t_behind_letter _ (ends Q) [some (mD M), some (tI S), some v, none] h
  unfold t_behind_letter
  unfold mD tI at *
  walk_at "dl7"
  rw [q_srt]
  walk_at "dl7"
  intro p np
  refine sc_map stD (hit S v) (·.2.2) trivial M.sp [] (by have := o.sl; simp only [List.length_nil]; omega) ?_ ?_ ?_
  · intro s ms R r
    have os := o.sp s ms
    have cc := s.2.1.depth_cnt
    obtain ⟨o1, o2, o3, o4⟩ := os.2.2.2.2
    simp only [stD]
    ((walk_at "dl7"); repeat (simp only [flat_int, inD_intl]; (walk_at "dl7")))
    refine ⟨rfl, ?_⟩
    unfold hit at r
    cases e : S.contains s.1 with
    | true =>
      rw [e, Bool.true_and] at r
      walk_at "dl7"
      refine ⟨M.k, s.2.1, v, rfl, by omega, o1, o2, o3, hv, ?_⟩
      walk_at "dl7"
      exact r
    | false =>
      rw [e, Bool.false_and] at r
      walk_at "dl7"
      exact r
  · intro s ms _ R r
    simp only [stD]
    walk_at "dl7"
    exact r
  · intro ns hs
    rw [List.nil_append] at hs
    walk_at "dl7"
    rw [del_put np]
    have e := bhd_of o hs
    subst e
    exact fin q
def spStsBehind (bl : Addr) : Sp' := fun ds h Q E => ∃ M w, ds = [mD M, .tup w] ∧ M.ok ∧ (∀ v ∈ w, val v 40 = true) ∧ (allL M.k w = true → Q (tI (bhw M M.st w)) h) ∧ (allL M.k w = false → E (.ref bl) h)
theorem rd_states_behind (bl : Addr) (ds : List D) (h : DH) (Q : VK') (E' : XK') (q : spStsBehind bl ds h Q E') : t_states_behind (sp_check_word bl) spBehind E' (ends Q) (slots n_states_behind ds) h := by
  obtain ⟨M, w, rfl, o, vw, q1, q2⟩ := q
  show t_states_behind _ _ _ (ends Q) [some (mD M), some (.tup w), none, none] h
  unfold t_states_behind
  have em : mD M = .tup [kD M.k, .int M.n, tI M.st, tI M.en, .tup (M.sp.map stD)] := rfl
  rw [em]
  walk_at "dl7"
  refine ⟨M.k, w, rfl, o.kd, vw, fun al => ?_, q2⟩
  have q1 := q1 al
  have aw : ∀ v ∈ w, isL M.k v = true := by simpa [allL] using al
  walk_at "dl7"
  rw [← em]
  refine for_ind (fun xs τ g => ∃ S x3, τ = [some (mD M), some (.tup w), some (tI S), x3] ∧ (∀ v ∈ xs, isL M.k v = true) ∧ bhw M M.st w = bhw M S xs ∧ g = h) ?_ ?_ _ _ _ ⟨M.st, none, rfl, aw, rfl, rfl⟩
  · rintro τ g ⟨S, x3, rfl, _, e, rfl⟩
    rw [q_fnil]
    walk_at "dl7"
    rw [e] at q1
    exact fin q1
  · rintro v vs ih τ g ⟨S, x3, rfl, hx, e, rfl⟩
    rw [q_fcons]
    walk_at "dl7"
    refine ⟨M, S, v, rfl, o, hx v List.mem_cons_self, ?_⟩
    walk_at "dl7"
    exact ih _ _ ⟨_, _, rfl, fun u m => hx u (List.mem_cons_of_mem _ m), e, rfl⟩
def spHasEnd : Sp' := fun ds h Q _ => ∃ M S, ds = [mD M, tI S] ∧ M.ok ∧ stsOk M.n S ∧ Q (.bl (anyEnd M S)) h
theorem rd_has_end (ds : List D) (h : DH) (Q : VK') (E' : XK') (q : spHasEnd ds h Q E') : t_has_end (ends Q) (slots n_has_end ds) h := by
  obtain ⟨M, S, rfl, o, os, q⟩ := q
  show t_has_end (ends Q) [some (mD M), some (tI S), none] h
  unfold t_has_end
  unfold mD tI at *
  have sl := sts_len os (by have := o.n9; omega)
  walk_at "dl7"
  rw [q_lc]
  walk_at "dl7"
  intro p np
  refine lc_all D.int (fun x => D.bl (M.en.contains x)) trivial S [] (sz1000 (by simpa using sl)) ?_ ?_
  · intro x mx R r
    ((walk_at "dl7"); repeat (simp only [flat_int, inD_intl]; (walk_at "dl7")))
    exact ⟨rfl, r⟩
  · rw [List.nil_append]
    walk_at "dl7"
    refine ⟨S.map fun x => M.en.contains x, by rw [List.map_map]; rfl, ?_⟩
    rw [del_put np]
    refine fin ?_
    rw [List.any_map]
    exact q
def spTakes (bl : Addr) : Sp' := fun ds h Q E => ∃ M w, ds = [mD M, .tup w] ∧ M.ok ∧ (∀ v ∈ w, val v 40 = true) ∧ (allL M.k w = true → Q (.bl (anyEnd M (bhw M M.st w))) h) ∧ (allL M.k w = false → E (.ref bl) h)
theorem rd_takes (bl : Addr) (ds : List D) (h : DH) (Q : VK') (E' : XK') (q : spTakes bl ds h Q E') : t_takes (spStsBehind bl) spHasEnd E' (ends Q) (slots n_takes ds) h := by
  obtain ⟨M, w, rfl, o, vw, q1, q2⟩ := q
  show t_takes _ _ _ (ends Q) [some (mD M), some (.tup w)] h
  unfold t_takes
  walk_at "dl7"
  refine ⟨M, w, rfl, o, vw, fun al => ?_, q2⟩
  walk_at "dl7"
  exact ⟨M, _, rfl, o, bhw_ok M w _ o.st, fin (q1 al)⟩
theorem rd__law_has_end (ds : List D) (h : DH) (Q : VK') (E' : XK') (q : spHasEnd ds h Q E') : t__law_has_end (ends Q) (slots n__law_has_end ds) h := by
  obtain ⟨M, S, rfl, o, os, q⟩ := q
  show t__law_has_end (ends Q) [some (mD M), some (tI S), none] h
  unfold t__law_has_end
  unfold mD tI at *
  have sl := sts_len os (by have := o.n9; omega)
  walk_at "dl7"
  rw [q_lc]
  walk_at "dl7"
  intro p np
  refine lc_map D.int (fun x => M.en.contains x) D.int trivial S [] (sz1000 (by simpa using sl)) ?_ ?_ ?_
  · intro x mx R r
    ((walk_at "dl7"); repeat (simp only [flat_int, inD_intl]; (walk_at "dl7")))
    exact ⟨rfl, r⟩
  · intro x mx _ R r
    walk_at "dl7"
    exact r
  · rw [List.nil_append]
    walk_at "dl7"
    rw [del_put np]
    refine fin ?_
    have e : decide (0 < (((S.filter fun x => M.en.contains x).map D.int).length : Int)) = anyEnd M S := by
      rw [List.length_map]
      unfold anyEnd
      cases ea : S.any (fun q => M.en.contains q) with
      | true =>
        obtain ⟨x, mx, hx⟩ := List.any_eq_true.mp ea
        have : 0 < (S.filter fun x => M.en.contains x).length := List.length_pos_of_mem (List.mem_filter.mpr ⟨mx, hx⟩)
        exact decide_eq_true (by omega)
      | false =>
        have : S.filter (fun x => M.en.contains x) = [] := List.filter_eq_nil_iff.mpr fun x mx hx => by
          have := List.any_eq_true.mpr ⟨x, mx, hx⟩
          rw [ea] at this; cases this
        rw [this]; rfl
    rw [e]; exact q
theorem rd__law_behind (ds : List D) (h : DH) (Q : VK') (E' : XK') (q : spBehind ds h Q E') : t__law_behind (spLawMeets wf3 tru inS 40) (ends Q) (slots n__law_behind ds) h := by
  obtain ⟨M, S, v, rfl, o, hv, q⟩ := q
  show t__law_behind _ (ends Q) [some (mD M), some (tI S), some v, none, none, none] h
  unfold t__law_behind
  unfold mD tI at *
  walk_at "dl7"
  rw [q_lc]
  walk_at "dl7"
  intro p np
  refine lc_map stD (hit S v) (fun s => D.int s.2.2) trivial M.sp [] (sz1000 (by have := o.sl; simp only [List.length_nil]; omega)) ?_ ?_ ?_
  · intro s ms R r
    have os := o.sp s ms
    have cc := s.2.1.depth_cnt
    obtain ⟨o1, o2, o3, o4⟩ := os.2.2.2.2
    simp only [stD]
    ((walk_at "dl7"); repeat (simp only [flat_int, inD_intl]; (walk_at "dl7")))
    refine ⟨rfl, ?_⟩
    unfold hit at r
    cases e : S.contains s.1 with
    | true =>
      rw [e, Bool.true_and] at r
      walk_at "dl7"
      refine ⟨M.k, s.2.1, v, rfl, by omega, o1, o2, o3, hv, ?_⟩
      walk_at "dl7"
      exact r
    | false =>
      rw [e, Bool.false_and] at r
      walk_at "dl7"
      exact r
  · intro s ms _ R r
    simp only [stD]
    walk_at "dl7"
    exact r
  · rw [List.nil_append]
    walk_at "dl7"
    rw [del_put np]
    have e1 : (M.sp.filter (hit S v)).map (fun s => D.int s.2.2) = (tgts M S v).map D.int := by
      unfold tgts; rw [List.map_map]; rfl
    rw [e1, q_lc]
    have n1 := o.n1
    have n9 := o.n9
    walk_at "dl7"
    refine ⟨by omega, by omega, ?_⟩
    rw [rngD_I]
    intro p np
    refine lc_map D.int (fun x => (tgts M S v).contains x) D.int trivial (rngI M.n) [] (sz1000 (by rw [rngI_len]; simp only [List.length_nil]; omega)) ?_ ?_ ?_
    · intro x mx R r
      ((walk_at "dl7"); repeat (simp only [flat_int, inD_intl]; (walk_at "dl7")))
      exact ⟨rfl, r⟩
    · intro x mx _ R r
      walk_at "dl7"
      exact r
    · rw [List.nil_append]
      walk_at "dl7"
      rw [del_put np]
      exact fin q
def spLed : Sp' := fun ds h Q _ => ∃ M S w, ds = [mD M, tI S, .tup w] ∧ M.ok ∧ (∀ v ∈ w, isL M.k v = true) ∧ Q (tI (bhw M S w)) h
theorem rd__law_led (ds : List D) (h : DH) (Q : VK') (E' : XK') (q : spLed ds h Q E') : t__law_led spBehind (ends Q) (slots n__law_led ds) h := by
  obtain ⟨M, S, w, rfl, o, aw, q⟩ := q
  show t__law_led _ (ends Q) [some (mD M), some (tI S), some (.tup w), none] h
  unfold t__law_led
  walk_at "dl7"
  refine for_ind (fun xs τ g => ∃ S2 x3, τ = [some (mD M), some (tI S2), some (.tup w), x3] ∧ (∀ v ∈ xs, isL M.k v = true) ∧ bhw M S w = bhw M S2 xs ∧ g = h) ?_ ?_ _ _ _ ⟨S, none, rfl, aw, rfl, rfl⟩
  · rintro τ g ⟨S2, x3, rfl, _, e, rfl⟩
    rw [q_fnil]
    walk_at "dl7"
    rw [e] at q
    exact fin q
  · rintro v vs ih τ g ⟨S2, x3, rfl, hx, e, rfl⟩
    rw [q_fcons]
    walk_at "dl7"
    refine ⟨M, S2, v, rfl, o, hx v List.mem_cons_self, ?_⟩
    walk_at "dl7"
    exact ih _ _ ⟨_, _, rfl, fun u m => hx u (List.mem_cons_of_mem _ m), e, rfl⟩
end K22

set_option Elab.async false
set_option linter.all false
set_option maxRecDepth 100000
set_option maxHeartbeats 1000000
local macro_rules | `(tactic| walk_at "dl7") => `(tactic| (try simp only [↓DL.q_nx, ↓DL.q_seq, ↓DL.q_br, ↓DL.q_ct, ↓DL.q_drop, ↓DL.q_ret, ↓DL.q_retn, ↓DL.q_ifs, ↓DL.q_asg, ↓DL.q_gn, ↓DL.q_gsub, ↓DL.q_gtup, ↓DL.q_gco, ↓DL.q_gni, ↓DL.q_for, ↓DL.q_yes, ↓DL.q_c, ↓DL.q_to, ↓DL.q_tu, ↓DL.q_tb, ↓DL.q_isB, ↓DL.q_isI, ↓DL.q_ch, ↓DL.q_and, ↓DL.q_or, ↓DL.q_orp, ↓DL.q_not, ↓DL.q_andv, ↓DL.q_orv, ↓DL.q_notv, ↓DL.q_if, ↓DL.q_an, ↓DL.q_ac, ↓DL.q_tup, ↓DL.q_lis, ↓DL.q_own, ↓DL.q_call, ↓DL.q_cb, ↓DL.q_bm, ↓DL.q_sl, ↓DL.q_slt, ↓DL.q_sll, ↓DL.q_pn, ↓DL.q_pe, ↓DL.q_addi, ↓DL.q_adds, ↓DL.q_addt, ↓DL.q_addl, ↓DL.q_I2, ↓DL.q_neg, ↓DL.q_eqi, ↓DL.q_eqs, ↓DL.q_eqb, ↓DL.q_neb, ↓DL.q_nei, ↓DL.q_nes, ↓DL.q_eq_non_int, ↓DL.q_ne_non_int, ↓DL.q_eq_non_bl, ↓DL.q_ne_non_bl, ↓DL.q_eq_non_str, ↓DL.q_ne_non_str, ↓DL.q_eq_int_non, ↓DL.q_ne_int_non, ↓DL.q_eq_bl_non, ↓DL.q_ne_bl_non, ↓DL.q_eq_str_non, ↓DL.q_ne_str_non, ↓DL.q_eq_int_str, ↓DL.q_ne_int_str, ↓DL.q_eq_str_int, ↓DL.q_ne_str_int, ↓DL.q_eq_bl_str, ↓DL.q_ne_bl_str, ↓DL.q_eq_str_bl, ↓DL.q_ne_str_bl, ↓DL.q_eq_non_non, ↓DL.q_ne_non_non, ↓DL.q_isnon_bl, ↓DL.q_isnon_int, ↓DL.q_isnon_str, ↓DL.q_isnon_tup, ↓DL.q_isnon_lis, ↓DL.q_isnon_non, ↓DL.q_int, ↓DL.q_inl, ↓DL.q_isn, ↓DL.q_ixc, ↓DL.q_lent, ↓DL.q_lenl, ↓DL.q_lenc, ↓DL.q_lens, ↓DL.q_is, ↓DL.q_toi, ↓DL.q_tob, ↓DL.q_abs, ↓DL.q_max, ↓DL.q_min, ↓DL.q_list, ↓DL.q_listo, ↓DL.q_tuple, ↓DL.q_sum, ↓DL.q_kt, ↓DL.q_kl, ↓DL.q_kc, ↓DL.q_tv0, ↓DL.q_st0, ↓DL.q_tv1, ↓DL.q_st1, ↓DL.q_tv2, ↓DL.q_st2, ↓DL.q_tv3, ↓DL.q_st3, ↓DL.q_tv4, ↓DL.q_st4, ↓DL.q_tv5, ↓DL.q_st5, ↓DL.q_tv6, ↓DL.q_st6, ↓DL.q_tv7, ↓DL.q_st7, ↓DL.q_tv8, ↓DL.q_st8, ↓DL.q_tv9, ↓DL.q_st9, ↓DL.q_tv10, ↓DL.q_st10, ↓DL.q_tv11, ↓DL.q_st11, ↓DL.q_tv12, ↓DL.q_st12, ↓DL.q_tv13, ↓DL.q_st13, ↓DL.q_tv14, ↓DL.q_st14, ↓DL.q_tv15, ↓DL.q_st15, ↓DL.q_ixt0, ↓DL.q_ixl0, ↓DL.q_ixt1, ↓DL.q_ixl1, ↓DL.q_ixt2, ↓DL.q_ixl2, ↓DL.q_ixt3, ↓DL.q_ixl3, ↓DL.q_ixt4, ↓DL.q_ixl4, ↓DL.q_oixr, ↓DL.q_oinr, ↓DL.q_olen, ↓DL.q_okr, ↓DL.q_oapp, ↓DL.q_olsr, ↓DL.q_osetD, ↓DL.q_ln0, ↓DL.q_sz0, ↓DL.q_ln1, ↓DL.q_sz1, ↓DL.q_ln2, ↓DL.q_sz2, ↓DL.q_ln3, ↓DL.q_sz3, ↓DL.q_ln4, ↓DL.q_sz4, ↓DL.q_ln5, ↓DL.q_sz5, ↓DL.q_ln6, ↓DL.q_sz6, ↓DL.q_ln7, ↓DL.q_sz7, ↓DL.q_ln8, ↓DL.q_sz8, ↓DL.q_wseq, ↓DL.q_wt, ↓DL.q_wl, ↓DL.q_wc, ↓DL.q_wr, ↓DL.q_wr1, ↓DL.q_wr1', ↓DL.q_setL0, ↓DL.q_setL1, ↓DL.q_setL2, ↓DL.q_setL3, ↓DL.q_setL4, ↓DL.q_pl_non, ↓DL.q_in_non_int, ↓DL.q_in_non_bool, ↓DL.q_in_non_str, ↓DL.q_in_non_tuple, ↓DL.q_in_non_list, ↓DL.q_pl_bl, ↓DL.q_in_bl_int, ↓DL.q_in_bl_bool, ↓DL.q_in_bl_str, ↓DL.q_in_bl_tuple, ↓DL.q_in_bl_list, ↓DL.q_pl_int, ↓DL.q_in_int_int, ↓DL.q_in_int_bool, ↓DL.q_in_int_str, ↓DL.q_in_int_tuple, ↓DL.q_in_int_list, ↓DL.q_pl_str, ↓DL.q_in_str_int, ↓DL.q_in_str_bool, ↓DL.q_in_str_str, ↓DL.q_in_str_tuple, ↓DL.q_in_str_list, ↓DL.q_pl_tup, ↓DL.q_in_tup_int, ↓DL.q_in_tup_bool, ↓DL.q_in_tup_str, ↓DL.q_in_tup_tuple, ↓DL.q_in_tup_list, ↓DL.q_pl_lis, ↓DL.q_in_lis_int, ↓DL.q_in_lis_bool, ↓DL.q_in_lis_str, ↓DL.q_in_lis_tuple, ↓DL.q_in_lis_list, ↓DL.q_ty_int, ↓DL.q_ty_bool, ↓DL.q_ty_str, ↓DL.q_ty_tuple, ↓DL.q_ty_list, DL.sif_t, DL.sif_f, DL.ofStr_inj, String.reduceEq, decide_true, decide_false, Bool.not_true, Bool.not_false, true_and, and_true, List.length_cons, List.length_nil, Int.reduceAdd, Int.reduceMul, Int.reduceNeg, Int.reduceSub, Nat.reduceAdd, if_true, if_false, Bool.false_eq_true, Int.reduceEq, Int.reduceLT, Int.reduceLE, eq_self, not_false_eq_true, DL.mulOk, or_true, true_or, and_self, Int.reduceToNat, Nat.reduceLT, Int.reducePow, DL.put_same, DL.put_put]))
namespace K04
open PySem PySem.Spec PyProof.Rows L2 DL K00 K01
/-- conditions that fit -/
def Gd (dm : Kd → Ls → Prop) (S : Kd → Ls → Bool) (k : Kd) (c : Cn) : Prop := okC c ∧ domC dm k c ∧ fitsC S k c = true
theorem gd_dr {dm : Kd → Ls → Prop} {S : Kd → Ls → Bool} {k : Kd} {c : Cn} (h : Dr k c) : Gd dm S k c := ⟨h.1, fits0_dom c k h.2, fits0_fits h.2⟩
variable {dm : Kd → Ls → Prop} {S : Kd → Ls → Bool}
/-- _law_varied(tape, kind, condition, theory) -/
def spVariedG (dm : Kd → Ls → Prop) (S : Kd → Ls → Bool) (n : Nat) : Sp' := fun ds h Q _ => ∃ (a : Addr) (k : Kd) (c : Cn) (top md : Int), ds = [.ref a, kD k, cD c, thy top md] ∧ k.ok ∧ k.cnt ≤ 100 ∧ c.cnt ≤ n ∧ Gd dm S k c ∧ 0 ≤ top ∧ top ≤ 1000000 ∧ Tp h a ∧ ∀ c' t, Gd dm S k c' → c'.cnt ≤ c.cnt → TOk t → Q (cD c') (put h a t)
theorem rd__law_variedG (n m : Nat) (ds : List D) (h : DH) (Q : VK') (E' : XK') (q : spVariedG dm S (n + 1) ds h Q E') : t__law_varied spDraw (spVariedG dm S n) (spCond (m + 1)) (ends Q) (slots n__law_varied ds) h := by
  obtain ⟨a, k, c, top, md, rfl, hk, hc, hd, dr, h0, h1, tp, q⟩ := q
  show t__law_varied _ _ _ (ends Q) [some (.ref a), some (kD k), some (cD c), some (.tup [.int top, .int md]), none, none, none, none] h
  unfold t__law_varied
  walk_at "dl7"
  refine drw tp (fun r t r0 r1 ot => ?_)
  have cp := c.cnt_pos
  have any : ∀ {t : DO}, TOk t → pcall (spCond (m + 1)) [.ref a, kD k, .tup [.int top, .int md], .int 1] (put h a t) (ends Q).rt (fun _ _ => False) ⟨⟩ := fun {t} ot => by
    refine ⟨a, k, top, md, 1, rfl, hk, hc, h0, h1, by omega, by omega, tp_put ot, fun c' t dc cc ot => ?_⟩
    rw [put_put]
    exact fin (q c' t (gd_dr dc) (by omega) ot)
  cases hb : decide (0 < r) with
  | false =>
    cases c <;> (simp only [cD]; ((walk_at "dl7"); repeat (simp only [hb]; (walk_at "dl7"))); refine ⟨fun τ g => ∃ x2 x4 x5 x6 x7 t, τ = [some (.ref a), some (kD k), x2, some (.tup [.int top, .int md]), x4, x5, x6, x7] ∧ g = put h a t ∧ TOk t, ?_, ?_⟩; (· ((walk_at "dl7"); repeat (simp only [hb]; (walk_at "dl7"))); exact ⟨_, _, _, _, _, t, rfl, rfl, ot⟩); (· rintro τ g ⟨x2, x4, x5, x6, x7, t, rfl, rfl, ot⟩; walk_at "dl7"; exact any ot))
  | true =>
    cases c with
    | tt | ff | is s | md m r | no | inn s =>
      simp only [cD]
      ((walk_at "dl7"); repeat (simp only [hb, DL.flatD, List.all_cons, List.all_nil, DL.inD_sc, DL.inD_ic, DL.inD_ii, DL.inD_nil, Bool.and_true, Bool.or_false, Bool.or_true, Bool.true_or, Bool.false_or]; (walk_at "dl7")))
      refine ⟨fun τ g => ∃ x2 x4 x5 x6 x7 t, τ = [some (.ref a), some (kD k), x2, some (.tup [.int top, .int md]), x4, x5, x6, x7] ∧ g = put h a t ∧ TOk t, ?_, ?_⟩
      · ((walk_at "dl7"); repeat (simp only [hb, DL.flatD, List.all_cons, List.all_nil, DL.inD_sc, DL.inD_ic, DL.inD_ii, DL.inD_nil, Bool.and_true, Bool.or_false, Bool.or_true, Bool.true_or, Bool.false_or]; (walk_at "dl7"))); exact ⟨_, _, _, _, _, t, rfl, rfl, ot⟩
      · rintro τ g ⟨x2, x4, x5, x6, x7, t, rfl, rfl, ot⟩; walk_at "dl7"; exact any ot
    | lt i | eq i | gt i =>
      have h2 := dr.2.2
      cases k <;> simp [fitsC] at h2
      simp only [cD]
      ((walk_at "dl7"); repeat (simp only [hb, DL.flatD, List.all_cons, List.all_nil, DL.inD_sc, DL.inD_ic, DL.inD_ii, DL.inD_nil, Bool.and_true, Bool.or_false, Bool.or_true, Bool.true_or, Bool.false_or]; (walk_at "dl7")))
      refine ⟨fun τ g => ∃ x2 x4 x5 x6 x7 t, τ = [some (.ref a), some (kD .it), x2, some (.tup [.int top, .int md]), x4, x5, x6, x7] ∧ g = put h a t ∧ TOk t, ?_, ?_⟩
      · ((walk_at "dl7"); repeat (simp only [hb, DL.flatD, List.all_cons, List.all_nil, DL.inD_sc, DL.inD_ic, DL.inD_ii, DL.inD_nil, Bool.and_true, Bool.or_false, Bool.or_true, Bool.true_or, Bool.false_or]; (walk_at "dl7")))
        refine drw (tp_put ot) (fun r t r0 r1 ot => ?_)
        walk_at "dl7"
        refine sif_i (fun _ => ?_) (fun _ => ?_)
        · walk_at "dl7"
          first
            | exact fin (q (.lt (i + 1 - 2 * r)) t ⟨trivial, by simp [domC], rfl⟩ (Nat.le_refl _) ot)
            | exact fin (q (.eq (i + 1 - 2 * r)) t ⟨trivial, by simp [domC], rfl⟩ (Nat.le_refl _) ot)
            | exact fin (q (.gt (i + 1 - 2 * r)) t ⟨trivial, by simp [domC], rfl⟩ (Nat.le_refl _) ot)
        · walk_at "dl7"
          exact ⟨_, _, _, _, _, t, rfl, rfl, ot⟩
      · rintro τ g ⟨x2, x4, x5, x6, x7, t, rfl, rfl, ot⟩; walk_at "dl7"; exact any ot
    | ng c =>
      simp only [Cn.cnt] at hd q
      simp only [cD]
      ((walk_at "dl7"); repeat (simp only [hb, DL.flatD, List.all_cons, List.all_nil, DL.inD_sc, DL.inD_ic, DL.inD_ii, DL.inD_nil, Bool.and_true, Bool.or_false, Bool.or_true, Bool.true_or, Bool.false_or]; (walk_at "dl7")))
      refine ⟨a, k, c, top, md, rfl, hk, hc, by omega, ⟨dr.1, by simpa [domC] using dr.2.1, by simpa [fitsC] using dr.2.2⟩, h0, h1, tp_put ot, fun c' t mc dc ot => ?_⟩
      walk_at "dl7"
      exact fin (q (.ng c') t ⟨mc.1, by simpa [domC] using mc.2.1, by simpa [fitsC] using mc.2.2⟩ (by simp only [Cn.cnt]; omega) ot)
    | an x y =>
      simp only [Cn.cnt] at hd q
      have fx : fitsC S k x = true ∧ fitsC S k y = true := by simpa [fitsC] using dr.2.2
      have ddx : domC dm k x ∧ domC dm k y := by simpa [domC] using dr.2.1
      have dx : Gd dm S k x := ⟨dr.1.1, ddx.1, fx.1⟩
      have dy : Gd dm S k y := ⟨dr.1.2, ddx.2, fx.2⟩
      simp only [cD]
      ((walk_at "dl7"); repeat (simp only [hb, DL.flatD, List.all_cons, List.all_nil, DL.inD_sc, DL.inD_ic, DL.inD_ii, DL.inD_nil, Bool.and_true, Bool.or_false, Bool.or_true, Bool.true_or, Bool.false_or]; (walk_at "dl7")))
      refine drw (tp_put ot) (fun r t r0 r1 ot => ?_)
      have rr : r = 0 ∨ r = 1 := by omega
      rcases rr with rfl | rfl
      · walk_at "dl7"
        refine ⟨a, k, x, top, md, rfl, hk, hc, by omega, dx, h0, h1, tp_put ot, fun c' t mc dc ot => ?_⟩
        walk_at "dl7"
        exact ⟨show 2 ≤ sizeLine by decide, show 3 ≤ sizeLine by decide, fin (q (.an c' y) t ⟨⟨mc.1, dy.1⟩, by simpa [domC] using ⟨mc.2.1, dy.2.1⟩, by simpa [fitsC] using ⟨mc.2.2, dy.2.2⟩⟩ (by simp only [Cn.cnt]; omega) ot)⟩
      · walk_at "dl7"
        refine ⟨a, k, y, top, md, rfl, hk, hc, by omega, dy, h0, h1, tp_put ot, fun c' t mc dc ot => ?_⟩
        walk_at "dl7"
        exact ⟨show 3 ≤ sizeLine by decide, show 3 ≤ sizeLine by decide, fin (q (.an x c') t ⟨⟨dx.1, mc.1⟩, by simpa [domC] using ⟨dx.2.1, mc.2.1⟩, by simpa [fitsC] using ⟨dx.2.2, mc.2.2⟩⟩ (by simp only [Cn.cnt]; omega) ot)⟩
    | orr x y =>
      simp only [Cn.cnt] at hd q
      have fx : fitsC S k x = true ∧ fitsC S k y = true := by simpa [fitsC] using dr.2.2
      have ddx : domC dm k x ∧ domC dm k y := by simpa [domC] using dr.2.1
      have dx : Gd dm S k x := ⟨dr.1.1, ddx.1, fx.1⟩
      have dy : Gd dm S k y := ⟨dr.1.2, ddx.2, fx.2⟩
      simp only [cD]
      ((walk_at "dl7"); repeat (simp only [hb, DL.flatD, List.all_cons, List.all_nil, DL.inD_sc, DL.inD_ic, DL.inD_ii, DL.inD_nil, Bool.and_true, Bool.or_false, Bool.or_true, Bool.true_or, Bool.false_or]; (walk_at "dl7")))
      refine drw (tp_put ot) (fun r t r0 r1 ot => ?_)
      have rr : r = 0 ∨ r = 1 := by omega
      rcases rr with rfl | rfl
      · walk_at "dl7"
        refine ⟨a, k, x, top, md, rfl, hk, hc, by omega, dx, h0, h1, tp_put ot, fun c' t mc dc ot => ?_⟩
        walk_at "dl7"
        exact ⟨show 2 ≤ sizeLine by decide, show 3 ≤ sizeLine by decide, fin (q (.orr c' y) t ⟨⟨mc.1, dy.1⟩, by simpa [domC] using ⟨mc.2.1, dy.2.1⟩, by simpa [fitsC] using ⟨mc.2.2, dy.2.2⟩⟩ (by simp only [Cn.cnt]; omega) ot)⟩
      · walk_at "dl7"
        refine ⟨a, k, y, top, md, rfl, hk, hc, by omega, dy, h0, h1, tp_put ot, fun c' t mc dc ot => ?_⟩
        walk_at "dl7"
        exact ⟨show 3 ≤ sizeLine by decide, show 3 ≤ sizeLine by decide, fin (q (.orr x c') t ⟨⟨dx.1, mc.1⟩, by simpa [domC] using ⟨dx.2.1, mc.2.1⟩, by simpa [fitsC] using ⟨dx.2.2, mc.2.2⟩⟩ (by simp only [Cn.cnt]; omega) ot)⟩
    | fs c =>
      simp only [Cn.cnt] at hd q
      have h2 := dr.2.2
      cases k <;> simp [fitsC] at h2
      rename_i k1 k2
      simp only [Kd.cnt] at hc
      simp only [cD, kD]
      ((walk_at "dl7"); repeat (simp only [hb, DL.flatD, List.all_cons, List.all_nil, DL.inD_sc, DL.inD_ic, DL.inD_ii, DL.inD_nil, Bool.and_true, Bool.or_false, Bool.or_true, Bool.true_or, Bool.false_or]; (walk_at "dl7")))
      refine ⟨a, k1, c, top, md, rfl, hk.1, by omega, by omega, ⟨dr.1, by simpa [domC] using dr.2.1, h2⟩, h0, h1, tp_put ot, fun c' t mc dc ot => ?_⟩
      walk_at "dl7"
      exact fin (q (.fs c') t ⟨mc.1, by simpa [domC] using mc.2.1, by simpa [fitsC] using mc.2.2⟩ (by simp only [Cn.cnt]; omega) ot)
    | sn c =>
      simp only [Cn.cnt] at hd q
      have h2 := dr.2.2
      cases k <;> simp [fitsC] at h2
      rename_i k1 k2
      simp only [Kd.cnt] at hc
      simp only [cD, kD]
      ((walk_at "dl7"); repeat (simp only [hb, DL.flatD, List.all_cons, List.all_nil, DL.inD_sc, DL.inD_ic, DL.inD_ii, DL.inD_nil, Bool.and_true, Bool.or_false, Bool.or_true, Bool.true_or, Bool.false_or]; (walk_at "dl7")))
      refine ⟨a, k2, c, top, md, rfl, hk.2, by omega, by omega, ⟨dr.1, by simpa [domC] using dr.2.1, h2⟩, h0, h1, tp_put ot, fun c' t mc dc ot => ?_⟩
      walk_at "dl7"
      exact fin (q (.sn c') t ⟨mc.1, by simpa [domC] using mc.2.1, by simpa [fitsC] using mc.2.2⟩ (by simp only [Cn.cnt]; omega) ot)
    | so c =>
      simp only [Cn.cnt] at hd q
      have h2 := dr.2.2
      cases k <;> simp [fitsC] at h2
      rename_i k1
      simp only [Kd.cnt] at hc
      simp only [cD, kD]
      ((walk_at "dl7"); repeat (simp only [hb, DL.flatD, List.all_cons, List.all_nil, DL.inD_sc, DL.inD_ic, DL.inD_ii, DL.inD_nil, Bool.and_true, Bool.or_false, Bool.or_true, Bool.true_or, Bool.false_or]; (walk_at "dl7")))
      refine ⟨a, k1, c, top, md, rfl, hk, by omega, by omega, ⟨dr.1, by simpa [domC] using dr.2.1, h2⟩, h0, h1, tp_put ot, fun c' t mc dc ot => ?_⟩
      walk_at "dl7"
      exact fin (q (.so c') t ⟨mc.1, by simpa [domC] using mc.2.1, by simpa [fitsC] using mc.2.2⟩ (by simp only [Cn.cnt]; omega) ot)
    | cs i c =>
      simp only [Cn.cnt] at hd q
      have h2 := dr.2.2
      cases k <;> simp [fitsC] at h2
      rename_i ks
      cases e : ks[i.toNat]? with
      | none => simp [e] at h2
      | some k1 =>
        simp only [e] at h2
        have mk := List.mem_of_getElem? e
        have m2 := Kd.cnt_mem mk
        simp only [Kd.cnt] at hc
        simp only [cD, kD]
        ((walk_at "dl7"); repeat (simp only [hb, DL.flatD, List.all_cons, List.all_nil, DL.inD_sc, DL.inD_ic, DL.inD_ii, DL.inD_nil, Bool.and_true, Bool.or_false, Bool.or_true, Bool.true_or, Bool.false_or]; (walk_at "dl7")))
        rw [q_ixt]
        refine ⟨_, atI_kDs dr.1.1 e, ?_⟩
        walk_at "dl7"
        refine ⟨a, k1, c, top, md, rfl, Kd.oks_mem.mp hk.2 _ mk, by omega, by omega, ⟨dr.1.2, by have := dr.2.1; simp only [domC] at this; exact this _ e, h2⟩, h0, h1, tp_put ot, fun c' t mc dc ot => ?_⟩
        walk_at "dl7"
        exact fin (q (.cs i c') t ⟨⟨dr.1.1, mc.1⟩, by simp only [domC]; intro k e2; rw [e] at e2; cases e2; exact mc.2.1, by simpa [fitsC, e] using mc.2.2⟩ (by simp only [Cn.cnt]; omega) ot)
end K04

set_option Elab.async false
set_option linter.all false
set_option maxRecDepth 100000
set_option maxHeartbeats 1000000
namespace K03
open PySem PySem.Spec PyProof.Rows L2 DL K00
/-- a step of a path -/
def Stp (d : D) : Prop := d = .str "first" ∨ d = .str "second" ∨ d = .str "some" ∨ ∃ i : Int, d = .int i ∧ 0 ≤ i
def kindBelow : Kd → D → Option Kd
  | .pr a b, .str s => if s = "first" then some a else if s = "second" then some b else none
  | .mb k, .str s => if s = "some" then some k else none
  | .ei ks, .int i => ks[i.toNat]?
  | _, _ => none
def kindAt : Kd → List D → Option Kd
  | k, [] => some k
  | k, s :: p => match kindBelow k s with | some k' => kindAt k' p | none => none
def oK : Option Kd → D | some k => kD k | none => .non
theorem isNon_kD (k : Kd) : isNon (kD k) = false := by cases k <;> rfl
theorem inD_two {a b c : Str} : inD (.str a) [.str b, .str c] = (decide (b = a) || decide (c = a)) := by
  show ((b == a) || ((c == a) || false)) = _
  rw [Bool.or_false, Bool.beq_eq_decide_eq, Bool.beq_eq_decide_eq]
theorem inD_int {i : Int} {b c : Str} : inD (.int i) [.str b, .str c] = false := rfl
theorem stp_plain {s : D} (h : Stp s) : plainD s = true := by rcases h with rfl | rfl | rfl | ⟨i, rfl, _⟩ <;> rfl
def sp_kind_below : Sp' := fun ds h Q _ => ∃ k s, ds = [kD k, s] ∧ Stp s ∧ Q (oK (kindBelow k s)) h
theorem rd_kind_below (ds : List D) (h : DH) (Q : VK') (E' : XK') (q : sp_kind_below ds h Q E') : t_kind_below sp_is_integer (ends Q) (slots n_kind_below ds) h := by
  obtain ⟨k, s, rfl, hs, q⟩ := q
  show t_kind_below _ (ends Q) [some (kD k), some s, none] h
  unfold t_kind_below
  cases k with
  | nm ns => rcases hs with rfl | rfl | rfl | ⟨i, rfl, _⟩ <;> (simp only [kD]; walk_at "dl7"; exact fin q)
  | it => rcases hs with rfl | rfl | rfl | ⟨i, rfl, _⟩ <;> (simp only [kD]; walk_at "dl7"; exact fin q)
  | pr a b =>
    rcases hs with rfl | rfl | rfl | ⟨i, rfl, _⟩ <;> (simp only [kD]; walk_at "dl7"; simp only [kindBelow, ofStr_inj, String.reduceEq, if_false, if_true, oK] at q; exact fin q)
  | ei ks =>
    rcases hs with rfl | rfl | rfl | ⟨i, rfl, hi⟩
    · simp only [kD]; walk_at "dl7"; refine ⟨_, rfl, rfl, ?_⟩; ((walk_at "dl7"); repeat (simp only [K00.isInt]; (walk_at "dl7"))); exact fin q
    · simp only [kD]; walk_at "dl7"; refine ⟨_, rfl, rfl, ?_⟩; ((walk_at "dl7"); repeat (simp only [K00.isInt]; (walk_at "dl7"))); exact fin q
    · simp only [kD]; walk_at "dl7"; refine ⟨_, rfl, rfl, ?_⟩; ((walk_at "dl7"); repeat (simp only [K00.isInt]; (walk_at "dl7"))); exact fin q
    · simp only [kD]
      walk_at "dl7"
      refine ⟨_, rfl, rfl, ?_⟩
      ((walk_at "dl7"); repeat (simp only [K00.isInt, hi, len_kDs]; (walk_at "dl7")))
      refine sif_i (fun c => ?_) (fun c => ?_)
      · have c := of_decide_eq_true c
        have hl : i.toNat < ks.length := by omega
        have eg := List.getElem?_eq_getElem hl
        walk_at "dl7"
        rw [q_ixt]
        refine ⟨_, atI_kDs hi eg, ?_⟩
        simp only [kindBelow, eg, oK] at q
        exact fin q
      · have c := of_decide_eq_false c
        walk_at "dl7"
        simp only [kindBelow, List.getElem?_eq_none (show ks.length ≤ i.toNat by omega), oK] at q
        exact fin q
  | mb k =>
    rcases hs with rfl | rfl | rfl | ⟨i, rfl, _⟩ <;> (simp only [kD]; walk_at "dl7"; simp only [kindBelow, ofStr_inj, String.reduceEq, if_false, if_true, oK] at q; exact fin q)
def sp_kind_at : Sp' := fun ds h Q _ => ∃ k p, ds = [kD k, .tup p] ∧ (∀ s ∈ p, Stp s) ∧ Q (oK (kindAt k p)) h
theorem rd_kind_at (ds : List D) (h : DH) (Q : VK') (E' : XK') (q : sp_kind_at ds h Q E') : t_kind_at sp_kind_below (ends Q) (slots n_kind_at ds) h := by
  obtain ⟨k, p, rfl, hp, q⟩ := q
  show t_kind_at _ (ends Q) [some (kD k), some (.tup p), none] h
  unfold t_kind_at
  walk_at "dl7"
  refine for_ind (fun xs τ g => g = h ∧ (∀ s ∈ xs, Stp s) ∧ ∃ k c, τ = [some (kD k), some (.tup p), c] ∧ Q (oK (kindAt k xs)) h) ?_ ?_ _ _ _ ⟨rfl, hp, k, none, rfl, q⟩
  · rintro τ g ⟨rfl, _, k, c, rfl, q⟩
    rw [q_fnil]
    walk_at "dl7"
    exact fin q
  · rintro x xs ih τ g ⟨rfl, hx, k, c, rfl, q⟩
    rw [q_fcons]
    walk_at "dl7"
    refine ⟨k, x, rfl, hx x List.mem_cons_self, ?_⟩
    simp only [kindAt] at q
    cases e : kindBelow k x with
    | none =>
      rw [e] at q
      simp only [oK]
      walk_at "dl7"
      exact fin q
    | some k' =>
      rw [e] at q
      simp only [oK]
      ((walk_at "dl7"); repeat (simp only [isNon_kD]; (walk_at "dl7")))
      exact ih _ _ ⟨rfl, fun s hs => hx s (List.mem_cons_of_mem _ hs), k', _, rfl, q⟩
theorem rd__law_kind_at (ds : List D) (h : DH) (Q : VK') (E' : XK') (q : sp_kind_at ds h Q E') : t__law_kind_at sp_is_integer (ends Q) (slots n__law_kind_at ds) h := by
  obtain ⟨k, p, rfl, hp, q⟩ := q
  show t__law_kind_at _ (ends Q) [some (kD k), some (.tup p), none] h
  unfold t__law_kind_at
  walk_at "dl7"
  refine for_ind (fun xs τ g => g = h ∧ (∀ s ∈ xs, Stp s) ∧ ∃ k c, τ = [some (kD k), some (.tup p), c] ∧ Q (oK (kindAt k xs)) h) ?_ ?_ _ _ _ ⟨rfl, hp, k, none, rfl, q⟩
  · rintro τ g ⟨rfl, _, k, c, rfl, q⟩
    rw [q_fnil]
    walk_at "dl7"
    exact fin q
  · rintro x xs ih τ g ⟨rfl, hx, k, c, rfl, q⟩
    rw [q_fcons]
    walk_at "dl7"
    refine ⟨_, ?_, fun _ _ z => z⟩
    have next : ∀ {k' : Kd} {c : Option D}, kindBelow k x = some k' → ∃ k c', [some (kD k'), some (.tup p), c] = [some (kD k), some (.tup p), c'] ∧ Q (oK (kindAt k xs)) g := fun {k' c} e => by
      simp only [kindAt, e] at q
      exact ⟨k', c, rfl, q⟩
    have stop : kindBelow k x = none → Q .non g := fun e => by
      simp only [kindAt, e, oK] at q
      exact q
    have hx1 := hx x List.mem_cons_self
    have hx2 : ∀ s ∈ xs, Stp s := fun s hs => hx s (List.mem_cons_of_mem _ hs)
    have fl : ∀ {y : D}, Stp y → flatD y = true := fun {y} h => by rcases h with rfl | rfl | rfl | ⟨i, rfl, _⟩ <;> rfl
    cases k with
    | nm ns =>
      simp only [kD]
      walk_at "dl7"
      refine ⟨_, ?_, fun _ _ z => z⟩
      walk_at "dl7"
      exact fin (stop (by cases x <;> rfl))
    | it =>
      simp only [kD]
      walk_at "dl7"
      refine ⟨_, ?_, fun _ _ z => z⟩
      walk_at "dl7"
      exact fin (stop (by cases x <;> rfl))
    | pr a b =>
      rcases hx1 with rfl | rfl | rfl | ⟨i, rfl, _⟩
      · simp only [kD]
        ((walk_at "dl7"); repeat (simp only [flatD, List.all_cons, List.all_nil, inD_two, Bool.and_true, Bool.or_true, Bool.true_or, Bool.or_false]; (walk_at "dl7")))
        exact ih _ _ ⟨rfl, hx2, next (by simp [kindBelow])⟩
      · simp only [kD]
        ((walk_at "dl7"); repeat (simp only [flatD, List.all_cons, List.all_nil, inD_two, Bool.and_true, Bool.or_true, Bool.true_or, Bool.or_false]; (walk_at "dl7")))
        exact ih _ _ ⟨rfl, hx2, next (by simp [kindBelow, ofStr_inj])⟩
      · simp only [kD]
        ((walk_at "dl7"); repeat (simp only [flatD, List.all_cons, List.all_nil, inD_two, Bool.and_true, Bool.or_true, Bool.true_or, Bool.or_false]; (walk_at "dl7")))
        refine ⟨_, ?_, fun _ _ z => z⟩
        walk_at "dl7"
        exact fin (stop (by simp [kindBelow, ofStr_inj]))
      · simp only [kD]
        ((walk_at "dl7"); repeat (simp only [flatD, List.all_cons, List.all_nil, inD_int, Bool.and_true]; (walk_at "dl7")))
        refine ⟨_, ?_, fun _ _ z => z⟩
        walk_at "dl7"
        exact fin (stop rfl)
    | ei ks =>
      simp only [kD]
      walk_at "dl7"
      refine ⟨_, ?_, fun _ _ z => z⟩
      walk_at "dl7"
      refine ⟨x, rfl, stp_plain hx1, ?_⟩
      rcases hx1 with rfl | rfl | rfl | ⟨i, rfl, hi⟩
      · ((walk_at "dl7"); repeat (simp only [K00.isInt]; (walk_at "dl7"))); exact fin (stop rfl)
      · ((walk_at "dl7"); repeat (simp only [K00.isInt]; (walk_at "dl7"))); exact fin (stop rfl)
      · ((walk_at "dl7"); repeat (simp only [K00.isInt]; (walk_at "dl7"))); exact fin (stop rfl)
      · ((walk_at "dl7"); repeat (simp only [K00.isInt, len_kDs]; (walk_at "dl7")))
        refine sif_i (fun c => ?_) (fun c => ?_)
        · have c := of_decide_eq_true c
          have hl : i.toNat < ks.length := by omega
          have eg := List.getElem?_eq_getElem hl
          walk_at "dl7"
          rw [q_ixt]
          refine ⟨_, atI_kDs hi eg, ?_⟩
          walk_at "dl7"
          exact ih _ _ ⟨rfl, hx2, next eg⟩
        · have c := of_decide_eq_false c
          walk_at "dl7"
          exact fin (stop (List.getElem?_eq_none (show ks.length ≤ i.toNat by omega)))
    | mb k =>
      simp only [kD]
      walk_at "dl7"
      refine ⟨_, ?_, fun _ _ z => z⟩
      rcases hx1 with rfl | rfl | rfl | ⟨i, rfl, _⟩
      · walk_at "dl7"; exact fin (stop (by simp [kindBelow, ofStr_inj]))
      · walk_at "dl7"; exact fin (stop (by simp [kindBelow, ofStr_inj]))
      · walk_at "dl7"; exact ih _ _ ⟨rfl, hx2, next (by simp [kindBelow])⟩
      · walk_at "dl7"; exact fin (stop rfl)
/-! ### parts of letters -/
/-- what a path leads to in a letter -/
def partBelow (v s : D) : Option D := match v, s with
  | .tup [t, x, y], .str s => if isStr t "pair" then (if s = "first" then some x else if s = "second" then some y else none) else none
  | .tup [t, .int i, x], .int j => if isStr t "case" ∧ i = j then some x else none
  | .tup [t, x], .str s => if isStr t "some" ∧ s = "some" then some x else none
  | _, _ => none
def partAt : D → List D → Option D
  | v, [] => some v
  | v, s :: p => match partBelow v s with | some v' => partAt v' p | none => none
def oD : Option D → D | some v => v | none => .non
/-- a letter of some kind -/
def Lt (v : D) : Prop := ∃ k : Kd, isL k v = true
theorem isStr_eq {t : D} {s : Str} (h : isStr t s = true) : t = .str s := by
  cases t with
  | str a => simp only [isStr, decide_eq_true_eq] at h; rw [h]
  | _ => cases h
/-- the forms of a letter -/
theorem Lt.forms {v : D} (h : Lt v) : (∃ s, v = .str s) ∨ (∃ i, v = .int i) ∨ (∃ x y, v = .tup [.str "pair", x, y] ∧ Lt x ∧ Lt y) ∨ (∃ i x, v = .tup [.str "case", .int i, x] ∧ 0 ≤ i ∧ Lt x) ∨ v = .tup [.str "none"] ∨ ∃ x, v = .tup [.str "some", x] ∧ Lt x := by
  obtain ⟨k, h⟩ := h
  unfold isL at h
  split at h
  · exact .inl ⟨_, rfl⟩
  · cases h
  · exact .inr (.inl ⟨_, rfl⟩)
  · cases h
  · rename_i a b t x y
    simp only [Bool.and_eq_true] at h
    rw [isStr_eq h.1.1]
    exact .inr (.inr (.inl ⟨x, y, rfl, ⟨a, h.1.2⟩, ⟨b, h.2⟩⟩))
  · cases h
  · rename_i ks t i x
    simp only [Bool.and_eq_true, decide_eq_true_eq] at h
    rw [isStr_eq h.1]
    refine .inr (.inr (.inr (.inl ⟨i, x, rfl, h.2.1, ?_⟩)))
    rw [isLn_get] at h
    cases e : ks[i.toNat]? with
    | none => rw [e] at h; cases h.2.2
    | some k => rw [e] at h; exact ⟨k, h.2.2⟩
  · cases h
  · rw [isStr_eq h]
    exact .inr (.inr (.inr (.inr (.inl rfl))))
  · rename_i k t x
    simp only [Bool.and_eq_true] at h
    rw [isStr_eq h.1]
    exact .inr (.inr (.inr (.inr (.inr ⟨x, rfl, ⟨k, h.2⟩⟩))))
  · cases h
end K03

set_option Elab.async false
set_option linter.all false
set_option maxRecDepth 100000
set_option maxHeartbeats 1000000
namespace K03
open PySem PySem.Spec PyProof.Rows L2 DL K00
def sp_part_below : Sp' := fun ds h Q _ => ∃ v s, ds = [v, s] ∧ Lt v ∧ Stp s ∧ Q (oD (partBelow v s)) h
theorem pb_pair {x y : D} {s : Str} : partBelow (.tup [.str "pair", x, y]) (.str s) = if s = "first" then some x else if s = "second" then some y else none := by
  cases x <;> simp [partBelow, isStr]
theorem pb_pairI {x y : D} {i : Int} : partBelow (.tup [.str "pair", x, y]) (.int i) = none := by
  cases x <;> simp [partBelow, isStr, ofStr_inj]
theorem pb_case {x : D} {i : Int} {s : Str} : partBelow (.tup [.str "case", .int i, x]) (.str s) = none := by
  cases x <;> simp [partBelow, isStr, ofStr_inj]
theorem pb_caseI {x : D} {i j : Int} : partBelow (.tup [.str "case", .int i, x]) (.int j) = if i = j then some x else none := by
  cases x <;> simp [partBelow, isStr]
theorem pb_some {x : D} {s : Str} : partBelow (.tup [.str "some", x]) (.str s) = if s = "some" then some x else none := by
  cases x <;> simp [partBelow, isStr]
theorem pb_someI {x : D} {i : Int} : partBelow (.tup [.str "some", x]) (.int i) = none := by
  cases x <;> simp [partBelow, isStr]
theorem pb_none {s : D} : partBelow (.tup [.str "none"]) s = none := by cases s <;> rfl
theorem pb_str {x : Str} {s : D} : partBelow (.str x) s = none := by cases s <;> rfl
theorem pb_int {x : Int} {s : D} : partBelow (.int x) s = none := by cases s <;> rfl
theorem below_keeps {v s w : D} {n : Nat} (h : Lt v) (hs : Stp s) (hv : val v n = true) (e : partBelow v s = some w) : Lt w ∧ val w n = true := by
  have dn : ∀ {xs : List D} {x : D}, val (.tup xs) n = true → x ∈ xs → val x n = true := fun {xs x} h m => by
    cases n with
    | zero => simp [val] at h
    | succ n => exact val_mono _ n _ (by omega) (vals_mem.mp (by simpa [val] using h) x m)
  rcases h.forms with ⟨x, rfl⟩ | ⟨i, rfl⟩ | ⟨x, y, rfl, hx, hy⟩ | ⟨i, x, rfl, i0, hx⟩ | rfl | ⟨x, rfl, hx⟩
  · rw [pb_str] at e; cases e
  · rw [pb_int] at e; cases e
  · have vx := dn (x := x) hv (by simp)
    have vy := dn (x := y) hv (by simp)
    rcases hs with rfl | rfl | rfl | ⟨j, rfl, _⟩
    · rw [pb_pair, if_pos rfl] at e; cases e; exact ⟨hx, vx⟩
    · rw [pb_pair, if_neg (by simp [ofStr_inj]), if_pos rfl] at e; cases e; exact ⟨hy, vy⟩
    · rw [pb_pair, if_neg (by simp [ofStr_inj]), if_neg (by simp [ofStr_inj])] at e; cases e
    · rw [pb_pairI] at e; cases e
  · have vx := dn (x := x) hv (by simp)
    rcases hs with rfl | rfl | rfl | ⟨j, rfl, _⟩
    · rw [pb_case] at e; cases e
    · rw [pb_case] at e; cases e
    · rw [pb_case] at e; cases e
    · rw [pb_caseI] at e; split at e <;> cases e; exact ⟨hx, vx⟩
  · rw [pb_none] at e; cases e
  · have vx := dn (x := x) hv (by simp)
    rcases hs with rfl | rfl | rfl | ⟨j, rfl, _⟩
    · rw [pb_some, if_neg (by simp [ofStr_inj])] at e; cases e
    · rw [pb_some, if_neg (by simp [ofStr_inj])] at e; cases e
    · rw [pb_some, if_pos rfl] at e; cases e; exact ⟨hx, vx⟩
    · rw [pb_someI] at e; cases e
theorem isNon_Lt {v : D} (h : Lt v) : isNon v = false := by
  rcases h.forms with ⟨x, rfl⟩ | ⟨i, rfl⟩ | ⟨x, y, rfl, hx, hy⟩ | ⟨i, x, rfl, i0, hx⟩ | rfl | ⟨x, rfl, hx⟩ <;> rfl
theorem rd_part_below (ds : List D) (h : DH) (Q : VK') (E' : XK') (q : sp_part_below ds h Q E') : t_part_below (ends Q) (slots n_part_below ds) h := by
  obtain ⟨v, s, rfl, hv, hs, q⟩ := q
  show t_part_below (ends Q) [some v, some s] h
  unfold t_part_below
  rcases hv.forms with ⟨x, rfl⟩ | ⟨i, rfl⟩ | ⟨x, y, rfl, hx, hy⟩ | ⟨i, x, rfl, i0, hx⟩ | rfl | ⟨x, rfl, hx⟩
  · rw [pb_str] at q; walk_at "dl7"; exact fin q
  · rw [pb_int] at q; walk_at "dl7"; exact fin q
  · rcases hs with rfl | rfl | rfl | ⟨j, rfl, _⟩
    · rw [pb_pair, if_pos rfl] at q; walk_at "dl7"; exact fin q
    · rw [pb_pair, if_neg (by simp [ofStr_inj]), if_pos rfl] at q; walk_at "dl7"; exact fin q
    · rw [pb_pair, if_neg (by simp [ofStr_inj]), if_neg (by simp [ofStr_inj])] at q; walk_at "dl7"; exact fin q
    · rw [pb_pairI] at q; walk_at "dl7"; exact fin q
  · rcases hs with rfl | rfl | rfl | ⟨j, rfl, _⟩
    · rw [pb_case] at q; walk_at "dl7"; exact fin q
    · rw [pb_case] at q; walk_at "dl7"; exact fin q
    · rw [pb_case] at q; walk_at "dl7"; exact fin q
    · rw [pb_caseI] at q
      walk_at "dl7"
      refine sif_i (fun c => ?_) (fun c => ?_)
      · rw [if_pos (of_decide_eq_true c)] at q; walk_at "dl7"; exact fin q
      · rw [if_neg (of_decide_eq_false c)] at q; walk_at "dl7"; exact fin q
  · rw [pb_none] at q; rcases hs with rfl | rfl | rfl | ⟨j, rfl, _⟩ <;> (walk_at "dl7"; exact fin q)
  · rcases hs with rfl | rfl | rfl | ⟨j, rfl, _⟩
    · rw [pb_some, if_neg (by simp [ofStr_inj])] at q; walk_at "dl7"; exact fin q
    · rw [pb_some, if_neg (by simp [ofStr_inj])] at q; walk_at "dl7"; exact fin q
    · rw [pb_some, if_pos rfl] at q; walk_at "dl7"; exact fin q
    · rw [pb_someI] at q; walk_at "dl7"; exact fin q
def sp_part_at : Sp' := fun ds h Q _ => ∃ v p, ds = [v, .tup p] ∧ Lt v ∧ val v 40 = true ∧ (∀ s ∈ p, Stp s) ∧ Q (oD (partAt v p)) h
theorem rd_part_at (ds : List D) (h : DH) (Q : VK') (E' : XK') (q : sp_part_at ds h Q E') : t_part_at sp_part_below (ends Q) (slots n_part_at ds) h := by
  obtain ⟨k, p, rfl, hv, vv, hp, q⟩ := q
  show t_part_at _ (ends Q) [some k, some (.tup p), none] h
  unfold t_part_at
  walk_at "dl7"
  refine for_ind (fun xs τ g => g = h ∧ (∀ s ∈ xs, Stp s) ∧ ∃ k c, τ = [some k, some (.tup p), c] ∧ Lt k ∧ val k 40 = true ∧ Q (oD (partAt k xs)) h) ?_ ?_ _ _ _ ⟨rfl, hp, k, none, rfl, hv, vv, q⟩
  · rintro τ g ⟨rfl, _, k, c, rfl, _, _, q⟩
    rw [q_fnil]
    walk_at "dl7"
    exact fin q
  · rintro x xs ih τ g ⟨rfl, hx, k, c, rfl, hv, vv, q⟩
    rw [q_fcons]
    walk_at "dl7"
    refine ⟨k, x, rfl, hv, hx x List.mem_cons_self, ?_⟩
    simp only [partAt] at q
    cases e : partBelow k x with
    | none =>
      rw [e] at q
      simp only [oD]
      walk_at "dl7"
      exact fin q
    | some k' =>
      rw [e] at q
      simp only [oD]
      have z := below_keeps hv (hx x List.mem_cons_self) vv e
      ((walk_at "dl7"); repeat (simp only [isNon_Lt z.1]; (walk_at "dl7")))
      exact ih _ _ ⟨rfl, fun s hs => hx s (List.mem_cons_of_mem _ hs), k', _, rfl, z.1, z.2, q⟩
end K03

set_option Elab.async false
set_option linter.all false
set_option maxRecDepth 100000
set_option maxHeartbeats 1000000
namespace K03
open PySem PySem.Spec PyProof.Rows L2 DL K00
theorem stp_flat {y : D} (h : Stp y) : flatD y = true := by rcases h with rfl | rfl | rfl | ⟨i, rfl, _⟩ <;> rfl
theorem rd__law_part_at (ds : List D) (h : DH) (Q : VK') (E' : XK') (q : sp_part_at ds h Q E') : t__law_part_at sp_is_integer (ends Q) (slots n__law_part_at ds) h := by
  obtain ⟨k, p, rfl, hv, vv, hp, q⟩ := q
  show t__law_part_at _ (ends Q) [some k, some (.tup p), none] h
  unfold t__law_part_at
  walk_at "dl7"
  refine for_ind (fun xs τ g => g = h ∧ (∀ s ∈ xs, Stp s) ∧ ∃ k c, τ = [some k, some (.tup p), c] ∧ Lt k ∧ val k 40 = true ∧ Q (oD (partAt k xs)) h) ?_ ?_ _ _ _ ⟨rfl, hp, k, none, rfl, hv, vv, q⟩
  · rintro τ g ⟨rfl, _, k, c, rfl, _, _, q⟩
    rw [q_fnil]
    walk_at "dl7"
    exact fin q
  · rintro x xs ih τ g ⟨rfl, hx, v, c, rfl, hv, vv, q⟩
    rw [q_fcons]
    have hx1 := hx x List.mem_cons_self
    have hx2 : ∀ s ∈ xs, Stp s := fun s hs => hx s (List.mem_cons_of_mem _ hs)
    have next : ∀ {v' : D} {c : Option D}, partBelow v x = some v' → ∃ k c', [some v', some (.tup p), c] = [some k, some (.tup p), c'] ∧ Lt k ∧ val k 40 = true ∧ Q (oD (partAt k xs)) g := fun {v' c} e => by
      have z := below_keeps hv hx1 vv e
      simp only [partAt, e] at q
      exact ⟨v', c, rfl, z.1, z.2, q⟩
    have stop : partBelow v x = none → Q .non g := fun e => by
      simp only [partAt, e, oD] at q
      exact q
    rcases hv.forms with ⟨s, rfl⟩ | ⟨i, rfl⟩ | ⟨y, z, rfl, hy, hz⟩ | ⟨i, y, rfl, i0, hy⟩ | rfl | ⟨y, rfl, hy⟩
    · walk_at "dl7"; exact fin (stop pb_str)
    · walk_at "dl7"; exact fin (stop pb_int)
    · walk_at "dl7"
      refine ⟨_, ?_, fun _ _ z => z⟩
      rcases hx1 with rfl | rfl | rfl | ⟨j, rfl, _⟩
      · ((walk_at "dl7"); repeat (simp only [flatD, List.all_cons, List.all_nil, inD_two, Bool.and_true, Bool.or_true, Bool.true_or, Bool.or_false]; (walk_at "dl7")))
        exact ih _ _ ⟨rfl, hx2, next (by rw [pb_pair, if_pos rfl])⟩
      · ((walk_at "dl7"); repeat (simp only [flatD, List.all_cons, List.all_nil, inD_two, Bool.and_true, Bool.or_true, Bool.true_or, Bool.or_false]; (walk_at "dl7")))
        exact ih _ _ ⟨rfl, hx2, next (by rw [pb_pair, if_neg (by simp [ofStr_inj]), if_pos rfl])⟩
      · ((walk_at "dl7"); repeat (simp only [flatD, List.all_cons, List.all_nil, inD_two, Bool.and_true, Bool.or_true, Bool.true_or, Bool.or_false]; (walk_at "dl7")))
        refine ⟨_, ?_, fun _ _ z => z⟩
        walk_at "dl7"
        exact fin (stop (by rw [pb_pair, if_neg (by simp [ofStr_inj]), if_neg (by simp [ofStr_inj])]))
      · ((walk_at "dl7"); repeat (simp only [flatD, List.all_cons, List.all_nil, inD_int, Bool.and_true]; (walk_at "dl7")))
        refine ⟨_, ?_, fun _ _ z => z⟩
        walk_at "dl7"
        exact fin (stop pb_pairI)
    · walk_at "dl7"
      refine ⟨_, ?_, fun _ _ z => z⟩
      walk_at "dl7"
      refine ⟨_, ?_, fun _ _ z => z⟩
      walk_at "dl7"
      refine ⟨x, rfl, stp_plain hx1, ?_⟩
      rcases hx1 with rfl | rfl | rfl | ⟨j, rfl, _⟩
      · ((walk_at "dl7"); repeat (simp only [K00.isInt]; (walk_at "dl7"))); exact fin (stop pb_case)
      · ((walk_at "dl7"); repeat (simp only [K00.isInt]; (walk_at "dl7"))); exact fin (stop pb_case)
      · ((walk_at "dl7"); repeat (simp only [K00.isInt]; (walk_at "dl7"))); exact fin (stop pb_case)
      · ((walk_at "dl7"); repeat (simp only [K00.isInt]; (walk_at "dl7")))
        refine sif_i (fun c => ?_) (fun c => ?_)
        · have c : j = i := of_decide_eq_true c
          walk_at "dl7"
          exact ih _ _ ⟨rfl, hx2, next (by rw [pb_caseI, if_pos c.symm])⟩
        · have c : ¬ j = i := of_decide_eq_false c
          walk_at "dl7"
          exact fin (stop (by rw [pb_caseI, if_neg (fun e => c e.symm)]))
    · walk_at "dl7"
      refine ⟨_, ?_, fun _ _ z => z⟩
      walk_at "dl7"
      refine ⟨_, ?_, fun _ _ z => z⟩
      walk_at "dl7"
      exact fin (stop pb_none)
    · walk_at "dl7"
      refine ⟨_, ?_, fun _ _ z => z⟩
      walk_at "dl7"
      refine ⟨_, ?_, fun _ _ z => z⟩
      rcases hx1 with rfl | rfl | rfl | ⟨j, rfl, _⟩
      · walk_at "dl7"; exact fin (stop (by rw [pb_some, if_neg (by simp [ofStr_inj])]))
      · walk_at "dl7"; exact fin (stop (by rw [pb_some, if_neg (by simp [ofStr_inj])]))
      · walk_at "dl7"; exact ih _ _ ⟨rfl, hx2, next (by rw [pb_some, if_pos rfl])⟩
      · walk_at "dl7"; exact fin (stop pb_someI)
/-! ### _law_same: of one value with itself -/
def spSame : Nat → Sp' := fun n ds h Q _ => ∃ x m, n = m + 1 ∧ ds = [x, x] ∧ val x m = true ∧ wid x 100 = true ∧ Q (.bl true) h
theorem rngD_mem {n : Nat} {z : D} (m : z ∈ rngD 0 n) : ∃ i : Nat, z = .int i ∧ i < n := by
  unfold rngD at m
  obtain ⟨i, hi, rfl⟩ := List.mem_map.mp m
  exact ⟨i, by simp, List.mem_range.mp hi⟩
theorem rd__law_same (n : Nat) (ds : List D) (h : DH) (Q : VK') (E' : XK') (q : spSame (n + 1) ds h Q E') : t__law_same (spSame n) sp_is_integer (ends Q) (slots n__law_same ds) h := by
  obtain ⟨x, m, e, rfl, hv, hw, q⟩ := q
  cases e
  show t__law_same _ _ (ends Q) [some x, some x, none] h
  unfold t__law_same
  cases x with
  | non => walk_at "dl7"; exact fin q
  | bl b => walk_at "dl7"; exact fin (by simpa using q)
  | int i => walk_at "dl7"; refine ⟨_, rfl, rfl, ?_⟩; ((walk_at "dl7"); repeat (simp only [K00.isInt]; (walk_at "dl7"))); exact fin (by simpa using q)
  | str s => walk_at "dl7"; exact fin (by simpa using q)
  | lis _ => simp [val] at hv
  | scr _ => simp [val] at hv
  | ref _ => simp [val] at hv
  | ty _ => simp [val] at hv
  | tup xs =>
    cases n with
    | zero => simp [val] at hv
    | succ n =>
    have vm : ∀ x ∈ xs, val x n = true := vals_mem.mp (by simpa [val] using hv)
    simp only [wid, Bool.and_eq_true, decide_eq_true_eq] at hw
    have wm := wids_mem.mp hw.2
    walk_at "dl7"
    refine ⟨by omega, by omega, ?_⟩
    refine for_ind (fun zs τ g => g = h ∧ (∀ z ∈ zs, ∃ i : Nat, z = .int i ∧ i < xs.length) ∧ ∃ c, τ = [some (.tup xs), some (.tup xs), c]) ?_ ?_ _ _ _ ⟨rfl, fun z m => by obtain ⟨i, e, l⟩ := rngD_mem m; exact ⟨i, e, by omega⟩, none, rfl⟩
    · rintro τ g ⟨rfl, _, c, rfl⟩
      rw [q_fnil]
      walk_at "dl7"
      exact fin q
    · rintro z zs ih τ g ⟨rfl, hz, c, rfl⟩
      obtain ⟨i, rfl, hi⟩ := hz z List.mem_cons_self
      rw [q_fcons]
      have eg := atI_nat (List.getElem?_eq_getElem hi)
      walk_at "dl7"
      rw [q_ixt]
      refine ⟨_, eg, ?_⟩
      walk_at "dl7"
      rw [q_ixt]
      refine ⟨_, eg, ?_⟩
      walk_at "dl7"
      refine ⟨xs[i], n, rfl, rfl, vm _ (List.getElem_mem hi), wm _ (List.getElem_mem hi), ?_⟩
      walk_at "dl7"
      exact ih _ _ ⟨rfl, fun z m => hz z (List.mem_cons_of_mem _ m), _, rfl⟩
/-! ### kinds as values -/
theorem kd_val : ∀ (n : Nat) (k : Kd), k.depth ≤ n → k.ok → val (kD k) (2 * n) = true
  | 0, k, h, _ => by have := k.depth_pos; omega
  | n + 1, k, h, o => by
    rw [show 2 * (n + 1) = (2 * n + 1) + 1 by omega]
    cases k with
    | nm ns =>
      simp only [kD, val, vals, sok_of, Bool.true_and, Bool.and_true]
      exact vals_mem.mpr fun x m => by
        obtain ⟨y, hy, rfl⟩ := List.mem_map.mp m
        simpa [val] using (o.2.2 y hy).1
    | it => simp only [kD, val, vals, sok_of, Bool.true_and]
    | pr a b =>
      simp only [Kd.depth] at h
      simp only [kD, val, vals, sok_of, Bool.true_and, Bool.and_true, Bool.and_eq_true]
      exact ⟨val_mono _ _ _ (by omega) (kd_val n a (by omega) o.1), val_mono _ _ _ (by omega) (kd_val n b (by omega) o.2)⟩
    | ei ks =>
      simp only [Kd.depth] at h
      simp only [kD, val, vals, sok_of, Bool.true_and, Bool.and_true]
      exact vals_mem.mpr fun x m => by
        rw [kDs_map] at m
        obtain ⟨y, hy, rfl⟩ := List.mem_map.mp m
        have := Kd.depth_mem hy
        exact kd_val n y (by omega) (Kd.oks_mem.mp o.2 y hy)
    | mb k =>
      simp only [Kd.depth] at h
      simp only [kD, val, vals, sok_of, Bool.true_and, Bool.and_true]
      exact val_mono _ _ _ (by omega) (kd_val n k (by omega) o)
theorem kd_wid : ∀ (n : Nat) (k : Kd), k.depth ≤ n → k.ok → k.cnt ≤ 100 → wid (kD k) 100 = true
  | 0, k, h, _, _ => by have := k.depth_pos; omega
  | n + 1, k, h, o, c => by
    cases k with
    | nm ns =>
      simp only [kD, wid, wids, Bool.true_and, Bool.and_true, Bool.and_eq_true, decide_eq_true_eq, List.length_cons, List.length_nil, List.length_map]
      refine ⟨by omega, by have := o.2.1; omega, wids_mem.mpr fun x m => ?_⟩
      obtain ⟨y, hy, rfl⟩ := List.mem_map.mp m
      rfl
    | it => rfl
    | pr a b =>
      simp only [Kd.depth] at h
      simp only [Kd.cnt] at c
      simp only [kD, wid, wids, Bool.true_and, Bool.and_true, Bool.and_eq_true, decide_eq_true_eq, List.length_cons, List.length_nil]
      exact ⟨by omega, kd_wid n a (by omega) o.1 (by omega), kd_wid n b (by omega) o.2 (by omega)⟩
    | ei ks =>
      simp only [Kd.depth] at h
      simp only [Kd.cnt] at c
      simp only [kD, wid, wids, Bool.true_and, Bool.and_true, Bool.and_eq_true, decide_eq_true_eq, List.length_cons, List.length_nil, len_kDs]
      refine ⟨by omega, by have := Kd.len_cnts ks; omega, wids_mem.mpr fun x m => ?_⟩
      rw [kDs_map] at m
      obtain ⟨y, hy, rfl⟩ := List.mem_map.mp m
      have := Kd.depth_mem hy
      have := Kd.cnt_mem hy
      exact kd_wid n y (by omega) (Kd.oks_mem.mp o.2 y hy) (by omega)
    | mb k =>
      simp only [Kd.depth] at h
      simp only [Kd.cnt] at c
      simp only [kD, wid, wids, Bool.true_and, Bool.and_true, Bool.and_eq_true, decide_eq_true_eq, List.length_cons, List.length_nil]
      exact ⟨by omega, kd_wid n k (by omega) o (by omega)⟩
/-- a kind with its bounds -/
def Kb (k : Kd) : Prop := k.ok ∧ k.depth ≤ 3 ∧ k.cnt ≤ 100
theorem kindBelow_keeps {k k' : Kd} {s : D} (o : Kb k) (e : kindBelow k s = some k') : Kb k' := by
  obtain ⟨o, d, c⟩ := o
  cases k with
  | nm ns => cases s <;> cases e
  | it => cases s <;> cases e
  | pr a b =>
    simp only [Kd.depth] at d
    simp only [Kd.cnt] at c
    cases s with
    | str s =>
      simp only [kindBelow] at e
      split at e
      · cases e; exact ⟨o.1, by omega, by omega⟩
      · split at e
        · cases e; exact ⟨o.2, by omega, by omega⟩
        · cases e
    | _ => cases e
  | ei ks =>
    simp only [Kd.depth] at d
    simp only [Kd.cnt] at c
    cases s with
    | int i =>
      have m := List.mem_of_getElem? (show ks[i.toNat]? = some k' from e)
      have := Kd.depth_mem m
      have := Kd.cnt_mem m
      exact ⟨Kd.oks_mem.mp o.2 _ m, by omega, by omega⟩
    | _ => cases e
  | mb a =>
    simp only [Kd.depth] at d
    simp only [Kd.cnt] at c
    cases s with
    | str s =>
      simp only [kindBelow] at e
      split at e
      · cases e; exact ⟨o, by omega, by omega⟩
      · cases e
    | _ => cases e
theorem kindAt_keeps {k' : Kd} : ∀ (p : List D) (k : Kd), Kb k → kindAt k p = some k' → Kb k'
  | [], k, o, e => by cases e; exact o
  | s :: p, k, o, e => by
    simp only [kindAt] at e
    split at e
    · rename_i k1 e1
      exact kindAt_keeps p k1 (kindBelow_keeps o e1) e
    · cases e
/-! ### _law_path -/
def spPath : Sp' := fun ds h Q _ => ∃ (a : Addr) (k : Kd), ds = [.ref a, kD k] ∧ Kb k ∧ Tp h a ∧ ∀ p t, (∀ s ∈ p, Stp s) → TOk t → Q (.tup p) (put h a t)
theorem rd__law_path (ds : List D) (h : DH) (Q : VK') (E' : XK') (q : spPath ds h Q E') : t__law_path spDraw sp_kind_at (ends Q) (slots n__law_path ds) h := by
  obtain ⟨a, k, rfl, hk, tp, q⟩ := q
  show t__law_path _ _ (ends Q) [some (.ref a), some (kD k), none, none, none, none] h
  unfold t__law_path
  walk_at "dl7"
  refine drw tp fun c t c0 c1 ot => ?_
  walk_at "dl7"
  refine ⟨by omega, by omega, ?_⟩
  refine for_ind (fun zs τ g => ∃ p t x3 x4 x5, τ = [some (.ref a), some (kD k), some (.tup p), x3, x4, x5] ∧ (∀ s ∈ p, Stp s) ∧ p.length + zs.length ≤ 4 ∧ g = put h a t ∧ TOk t) ?_ ?_ _ _ _ ⟨[], t, none, none, none, rfl, by simp, ?_, rfl, ot⟩
  · rintro τ g ⟨p, t, x3, x4, x5, rfl, hp, _, rfl, ot⟩
    rw [q_fnil]
    walk_at "dl7"
    exact fin (q p t hp ot)
  · rintro z zs ih τ g ⟨p, t, x3, x4, x5, rfl, hp, pl, rfl, ot⟩
    simp only [List.length_cons] at pl
    rw [q_fcons]
    walk_at "dl7"
    refine drw (tp_put ot) fun r t r0 r1 ot => ?_
    walk_at "dl7"
    obtain ⟨s, e, m⟩ := pick (xs := [D.str "first", .str "second", .str "some", .int 0, .int 1, .int 2]) r0 (by simp only [List.length_cons, List.length_nil]; omega)
    have hs : Stp s := by
      simp only [List.mem_cons, List.not_mem_nil, or_false] at m
      rcases m with rfl | rfl | rfl | rfl | rfl | rfl
      · exact .inl rfl
      · exact .inr (.inl rfl)
      · exact .inr (.inr (.inl rfl))
      · exact .inr (.inr (.inr ⟨_, rfl, by decide⟩))
      · exact .inr (.inr (.inr ⟨_, rfl, by decide⟩))
      · exact .inr (.inr (.inr ⟨_, rfl, by decide⟩))
    rw [q_ixl]
    refine ⟨s, e, ?_⟩
    walk_at "dl7"
    refine ⟨k, p, rfl, hp, ?_⟩
    walk_at "dl7"
    refine ⟨fun τ g => ∃ t s, τ = [some (.ref a), some (kD k), some (.tup p), some z, some s, some (oK (kindAt k p))] ∧ Stp s ∧ g = put h a t ∧ TOk t, ?_, ?_⟩
    · walk_at "dl7"
      refine drw (tp_put ot) fun r t r0 r1 ot => ?_
      walk_at "dl7"
      refine sif_i (fun b1 => ?_) (fun b1 => ?_)
      · cases e : kindAt k p with
        | none =>
          simp only [oK]
          walk_at "dl7"
          exact ⟨t, s, rfl, hs, rfl, ot⟩
        | some k' =>
          have hk' := kindAt_keeps p k hk e
          simp only [oK]
          cases k' with
          | nm ns =>
            simp only [kD]
            walk_at "dl7"
            refine ⟨_, ?_, fun _ _ z => z⟩
            walk_at "dl7"
            refine ⟨_, ?_, fun _ _ z => z⟩
            walk_at "dl7"
            refine ⟨_, ?_, fun _ _ z => z⟩
            walk_at "dl7"
            exact ⟨t, s, rfl, hs, rfl, ot⟩
          | it =>
            simp only [kD]
            walk_at "dl7"
            refine ⟨_, ?_, fun _ _ z => z⟩
            walk_at "dl7"
            refine ⟨_, ?_, fun _ _ z => z⟩
            walk_at "dl7"
            refine ⟨_, ?_, fun _ _ z => z⟩
            walk_at "dl7"
            exact ⟨t, s, rfl, hs, rfl, ot⟩
          | pr a b =>
            simp only [kD]
            walk_at "dl7"
            refine ⟨_, ?_, fun _ _ z => z⟩
            walk_at "dl7"
            refine drw (tp_put ot) fun r t r0 r1 ot => ?_
            walk_at "dl7"
            obtain ⟨s, e, m⟩ := pick (xs := [D.str "first", .str "second"]) r0 (by simp only [List.length_cons, List.length_nil]; omega)
            have hs : Stp s := by
              simp only [List.mem_cons, List.not_mem_nil, or_false] at m
              rcases m with rfl | rfl
              · exact .inl rfl
              · exact .inr (.inl rfl)
            rw [q_ixl]
            refine ⟨s, e, ?_⟩
            walk_at "dl7"
            refine ⟨_, ?_, fun _ _ z => z⟩
            walk_at "dl7"
            refine ⟨_, ?_, fun _ _ z => z⟩
            walk_at "dl7"
            exact ⟨t, s, rfl, hs, rfl, ot⟩
          | ei ks =>
            simp only [kD]
            walk_at "dl7"
            refine ⟨_, ?_, fun _ _ z => z⟩
            walk_at "dl7"
            refine ⟨_, ?_, fun _ _ z => z⟩
            walk_at "dl7"
            refine ⟨_, ?_, fun _ _ z => z⟩
            walk_at "dl7"
            refine drw (tp_put ot) (fun r t r0 r1 ot => ?_) (by have := Kd.len_cnts ks; have := hk'.2.2; simp only [Kd.cnt] at this; rw [len_kDs]; omega)
            walk_at "dl7"
            exact ⟨t, _, rfl, .inr (.inr (.inr ⟨_, rfl, r0⟩)), rfl, ot⟩
          | mb k =>
            simp only [kD]
            walk_at "dl7"
            refine ⟨_, ?_, fun _ _ z => z⟩
            walk_at "dl7"
            refine ⟨_, ?_, fun _ _ z => z⟩
            walk_at "dl7"
            refine ⟨_, ?_, fun _ _ z => z⟩
            walk_at "dl7"
            exact ⟨t, _, rfl, .inr (.inr (.inl rfl)), rfl, ot⟩
      · walk_at "dl7"
        exact ⟨t, s, rfl, hs, rfl, ot⟩
    · rintro τ g ⟨t, s, rfl, hs, rfl, ot⟩
      walk_at "dl7"
      refine ⟨Nat.le_trans (m := 5) (by omega) (by decide), ?_⟩
      refine ih _ _ ⟨p ++ [s], t, _, _, _, rfl, ?_, ?_, rfl, ot⟩
      · intro y m
        rcases List.mem_append.mp m with m | m
        · exact hp y m
        · rw [List.mem_singleton.mp m]; exact hs
      · simp only [List.length_append, List.length_cons, List.length_nil]; omega
  · unfold rngD
    simp only [List.length_nil, List.length_map, List.length_range]
    omega
end K03

set_option Elab.async false
set_option linter.all false
set_option maxRecDepth 100000
set_option maxHeartbeats 1000000
namespace K02
open PySem PySem.Spec PyProof.Rows L2 DL K00 K01
def wrk (w : Bool) (k : Kd) (vs : List D) : D := .tup [.int (vs.length : Int), .tup (vs.map (rk w k))]
theorem deq_n1 (y : D) (ys : List D) : deq (.tup []) (.tup (y :: ys)) = false := by
  unfold deq
  simp only [toPy, toPys]
  cases toPy y <;> cases toPys ys <;> simp [PyData.eqv, PyData.eqvAll]
theorem deq_n2 (y : D) (ys : List D) : deq (.tup (y :: ys)) (.tup []) = false := by
  unfold deq
  simp only [toPy, toPys]
  cases toPy y <;> cases toPys ys <;> simp [PyData.eqv, PyData.eqvAll]
theorem tri_words (k : Kd) (hd : k.depth ≤ 3) : ∀ xs ys : List D, allL k xs = true → allL k ys = true → ∃ o, ∀ w, Tri (.tup (xs.map (rk w k))) (.tup (ys.map (rk w k))) o
  | [], [], _, _ => ⟨.eq, fun w => tri_nil⟩
  | [], y :: ys, _, _ => ⟨.lt, fun w => ⟨by simp [cmpD, cmpDs], by simp [cmpD, cmpDs], deq_n1 _ _, deq_n2 _ _⟩⟩
  | x :: xs, [], _, _ => ⟨.gt, fun w => ⟨by simp [cmpD, cmpDs], by simp [cmpD, cmpDs], deq_n2 _ _, deq_n1 _ _⟩⟩
  | x :: xs, y :: ys, hx, hy => by
    simp only [allL, List.all_cons, Bool.and_eq_true] at hx hy
    obtain ⟨o1, t1⟩ := tri_rk 3 k x y hd hx.1 hy.1
    obtain ⟨o2, t2⟩ := tri_words k hd xs ys hx.2 hy.2
    exact ⟨_, fun w => tri_cons (t1 w) (t2 w)⟩
theorem tri_wrk {k : Kd} (hd : k.depth ≤ 3) {xs ys : List D} (hx : allL k xs = true) (hy : allL k ys = true) : ∃ o, ∀ w, Tri (wrk w k xs) (wrk w k ys) o := by
  obtain ⟨o, t⟩ := tri_words k hd xs ys hx hy
  exact ⟨_, fun w => tri_two (tri_int _ _) (t w)⟩
theorem wrk_val {w : Bool} {k : Kd} (hd : k.depth ≤ 3) {xs : List D} (hx : allL k xs = true) : val (wrk w k xs) 6 = true := by
  simp only [wrk, val, vals, Bool.true_and, Bool.and_true]
  refine vals_mem.mpr fun d m => ?_
  obtain ⟨x, mx, rfl⟩ := List.mem_map.mp m
  exact rk_val w 3 k x hd (List.all_eq_true.mp hx x mx)
theorem all_app {k : Kd} {xs ys : List D} : allL k (xs ++ ys) = (allL k xs && allL k ys) := by simp [allL]
def sp_word_rank : Sp' := fun ds h Q _ => ∃ k vs, ds = [kD k, .tup vs] ∧ k.depth ≤ 3 ∧ vs.length ≤ 20 ∧ allL k vs = true ∧ Q (wrk false k vs) h
def sp__law_word_key : Sp' := fun ds h Q _ => ∃ k vs, ds = [kD k, .tup vs] ∧ k.depth ≤ 3 ∧ vs.length ≤ 20 ∧ allL k vs = true ∧ Q (wrk true k vs) h
theorem small {n : Nat} (h : n ≤ 40) : n ≤ sizeLine := Nat.le_trans h (by decide)
theorem rd_word_rank (ds : List D) (h : DH) (Q : VK') (E' : XK') (q : sp_word_rank ds h Q E') : t_word_rank (sp_letter_rank 3) (ends Q) (slots n_word_rank ds) h := by
  obtain ⟨k, vs, rfl, hd, hl, hv, q⟩ := q
  show t_word_rank _ (ends Q) [some (kD k), some (.tup vs), none] h
  unfold t_word_rank
  walk_at "dl7"
  rw [q_lc]
  walk_at "dl7"
  intro p np
  refine lc_ind (fun xs acc g => ∃ v1, vs = v1 ++ xs ∧ allL k xs = true ∧ acc = v1.map (rk false k) ∧ g = put h p .hid) ?_ ?_ _ _ _ ⟨[], rfl, hv, rfl, rfl⟩
  · rintro acc g ⟨v1, e, _, rfl, rfl⟩
    rw [List.append_nil] at e
    subst e
    rw [q_lnil]
    walk_at "dl7"
    rw [del_put np]
    exact fin q
  · rintro x xs ih acc g ⟨v1, e, ha, rfl, rfl⟩
    simp only [allL, List.all_cons, Bool.and_eq_true] at ha
    rw [q_lcons]
    walk_at "dl7"
    refine ⟨k, x, rfl, hd, ha.1, ?_⟩
    have ll : vs.length = v1.length + (xs.length + 1) := by rw [e]; simp
    exact ⟨Nat.lt_of_le_of_lt (show _ ≤ 20 by rw [List.length_map]; omega) (by decide), ih _ _ ⟨v1 ++ [x], by rw [e]; simp, ha.2, by simp, rfl⟩⟩
theorem rd__law_word_key (ds : List D) (h : DH) (Q : VK') (E' : XK') (q : sp__law_word_key ds h Q E') : t__law_word_key (sp__law_key 3) (ends Q) (slots n__law_word_key ds) h := by
  obtain ⟨k, vs, rfl, hd, hl, hv, q⟩ := q
  show t__law_word_key _ (ends Q) [some (kD k), some (.tup vs), none] h
  unfold t__law_word_key
  walk_at "dl7"
  rw [q_lc]
  walk_at "dl7"
  intro p np
  refine lc_ind (fun xs acc g => ∃ v1, vs = v1 ++ xs ∧ allL k xs = true ∧ acc = v1.map (rk true k) ∧ g = put h p .hid) ?_ ?_ _ _ _ ⟨[], rfl, hv, rfl, rfl⟩
  · rintro acc g ⟨v1, e, _, rfl, rfl⟩
    rw [List.append_nil] at e
    subst e
    rw [q_lnil]
    walk_at "dl7"
    rw [del_put np]
    exact fin q
  · rintro x xs ih acc g ⟨v1, e, ha, rfl, rfl⟩
    simp only [allL, List.all_cons, Bool.and_eq_true] at ha
    rw [q_lcons]
    walk_at "dl7"
    refine ⟨k, x, rfl, hd, ha.1, ?_⟩
    have ll : vs.length = v1.length + (xs.length + 1) := by rw [e]; simp
    exact ⟨Nat.lt_of_le_of_lt (show _ ≤ 20 by rw [List.length_map]; omega) (by decide), ih _ _ ⟨v1 ++ [x], by rw [e]; simp, ha.2, by simp, rfl⟩⟩
def sp_words_compared (bl : Addr) : Sp' := fun ds h Q E => ∃ k xs ys, ds = [kD k, .tup xs, .tup ys] ∧ k.depth ≤ 3 ∧ xs.length ≤ 20 ∧ ys.length ≤ 20 ∧ (∀ v ∈ xs ++ ys, val v 40 = true) ∧ (allL k xs = true → allL k ys = true → ∃ o, (∀ w, Tri (wrk w k xs) (wrk w k ys) o) ∧ Q (.int (ov o)) h) ∧ (allL k (xs ++ ys) = false → E (.ref bl) h)
theorem rd_words_compared (bl : Addr) (ds : List D) (h : DH) (Q : VK') (E' : XK') (q : sp_words_compared bl ds h Q E') : t_words_compared (sp_check_word bl) sp_word_rank sp_compared_ranks E' (ends Q) (slots n_words_compared ds) h := by
  obtain ⟨k, xs, ys, rfl, hd, lx, ly, hv, q1, q2⟩ := q
  show t_words_compared _ _ _ _ (ends Q) [some (kD k), some (.tup xs), some (.tup ys)] h
  unfold t_words_compared
  walk_at "dl7"
  refine ⟨small (by omega), ?_⟩
  refine ⟨k, xs ++ ys, rfl, hd, hv, fun e => ?_, fun e => q2 e⟩
  rw [all_app, Bool.and_eq_true] at e
  obtain ⟨o, t, q⟩ := q1 e.1 e.2
  walk_at "dl7"
  refine ⟨k, xs, rfl, hd, lx, e.1, ?_⟩
  walk_at "dl7"
  refine ⟨k, ys, rfl, hd, ly, e.2, ?_⟩
  walk_at "dl7"
  exact ⟨_, _, o, rfl, t false, val_mono _ _ _ (by omega) (wrk_val hd e.1), val_mono _ _ _ (by omega) (wrk_val hd e.2), fin q⟩
def sp__law_answers : Sp' := fun ds h Q _ => ∃ k xs ys, ds = [kD k, .tup xs, .tup ys] ∧ k.depth ≤ 3 ∧ xs.length ≤ 20 ∧ ys.length ≤ 20 ∧ (∀ v ∈ xs ++ ys, val v 40 = true) ∧ allL k xs = true ∧ allL k ys = true ∧ Q (.bl true) h
theorem rd__law_answers (bl : Addr) (ds : List D) (h : DH) (Q : VK') (E' : XK') (q : sp__law_answers ds h Q E') : t__law_answers (sp_words_compared bl) sp__law_word_key sp_is_integer (ends Q) (slots n__law_answers ds) h := by
  obtain ⟨k, xs, ys, rfl, hd, lx, ly, hv, hx, hy, q⟩ := q
  show t__law_answers _ _ _ (ends Q) [some (kD k), some (.tup xs), some (.tup ys), none, none, none] h
  unfold t__law_answers
  obtain ⟨o, t⟩ := tri_wrk hd hx hy
  have oa := val_ok (wrk_val (w := true) hd hx)
  have ob := val_ok (wrk_val (w := true) hd hy)
  walk_at "dl7"
  refine ⟨k, xs, ys, rfl, hd, lx, ly, hv, fun _ _ => ⟨o, t, ?_⟩, fun e => by rw [all_app, hx, hy] at e; cases e⟩
  walk_at "dl7"
  refine ⟨k, xs, rfl, hd, lx, hx, ?_⟩
  walk_at "dl7"
  refine ⟨k, ys, rfl, hd, ly, hy, ?_⟩
  walk_at "dl7"
  refine ⟨_, rfl, rfl, ?_⟩
  ((walk_at "dl7"); repeat (simp only [K00.isInt, q_gtN]; (walk_at "dl7")))
  refine ⟨oa, ob, _, (t true).2.1, ?_⟩
  ((walk_at "dl7"); repeat (simp only [q_ltN]; (walk_at "dl7")))
  refine ⟨oa, ob, _, (t true).1, ?_⟩
  walk_at "dl7"
  refine fin ?_
  cases o <;> exact q
def sp__law_refused : Sp' := fun ds h Q _ => ∃ k xs ys, ds = [kD k, .tup xs, .tup ys] ∧ k.depth ≤ 3 ∧ xs.length ≤ 20 ∧ ys.length ≤ 20 ∧ (∀ v ∈ xs ++ ys, val v 40 = true) ∧ allL k (xs ++ ys) = false ∧ Q (.bl true) h
theorem rd__law_refused (bl : Addr) {ct : Value → Option Bool} (hc : ct (.ref bl) = some true) (ds : List D) (h : DH) (Q : VK') (E' : XK') (q : sp__law_refused ds h Q E') : t__law_refused (sp_words_compared bl) (sp__law_error bl) ct (ends Q) (slots n__law_refused ds) h := by
  obtain ⟨k, x, y, rfl, hd, lx, ly, hv, e, q⟩ := q
  show t__law_refused _ _ _ (ends Q) [some (kD k), some (.tup x), some (.tup y), none] h
  unfold t__law_refused
  ((walk_at "dl7"); repeat (simp only [q_try]; (walk_at "dl7")))
  refine ⟨k, x, y, rfl, hd, lx, ly, hv, fun a b => ?_, fun _ => ⟨hc, fun a na => ?_⟩⟩
  · rw [all_app, a, b] at e; cases e
  · walk_at "dl7"
    refine ⟨rfl, rfl, ?_⟩
    walk_at "dl7"
    exact fin q
end K02

set_option Elab.async false
set_option linter.all false
set_option maxRecDepth 100000
set_option maxHeartbeats 1000000
namespace K02
open PySem PySem.Spec PyProof.Rows L2 DL K00 K01
def spWord : Sp' := fun ds h Q _ => ∃ (a : Addr) (k : Kd) (m : Int), ds = [.ref a, kD k, .tup [.int 20, .int 12], .int m] ∧ k.ok ∧ k.depth ≤ 3 ∧ k.cnt ≤ 100 ∧ 0 ≤ m ∧ m ≤ 8 ∧ Tp h a ∧ ∀ vs t, allL k vs = true → (vs.length : Int) ≤ m → TOk t → Q (.tup vs) (put h a t)
theorem rd__law_word (ds : List D) (h : DH) (Q : VK') (E' : XK') (q : spWord ds h Q E') : t__law_word spDraw (spLetter 3) (ends Q) (slots n__law_word ds) h := by
  obtain ⟨a, k, m, rfl, hk, hd, hc, m0, m8, tp, q⟩ := q
  show t__law_word _ _ (ends Q) [some (.ref a), some (kD k), some (.tup [.int 20, .int 12]), some (.int m), none] h
  unfold t__law_word
  walk_at "dl7"
  rw [q_lc]
  walk_at "dl7"
  refine drw tp (fun r t r0 r1 ot => ?_) (by omega)
  walk_at "dl7"
  refine ⟨by omega, by omega, ?_⟩
  intro p np
  have pa := ne_put np
  have nh := free_put np
  refine lc_ind (fun xs acc g => ∃ t, allL k acc = true ∧ ((acc.length + xs.length : Nat) : Int) ≤ m ∧ g = put (put h a t) p .hid ∧ TOk t) ?_ ?_ _ _ _ ⟨t, rfl, ?_, rfl, ot⟩
  · rintro acc g ⟨t, ha, hl, rfl, ot⟩
    rw [q_lnil]
    walk_at "dl7"
    rw [del_put (show put h a t p = none by rw [put_ne pa]; exact nh)]
    exact fin (q acc t ha (by simpa using hl) ot)
  · rintro x xs ih acc g ⟨t, ha, hl, rfl, ot⟩
    simp only [List.length_cons] at hl
    rw [q_lcons]
    walk_at "dl7"
    refine ⟨a, k, 20, .int 12, rfl, hk, hd, hc, by decide, by decide, tp_under pa ot, fun v t lv ot => ?_⟩
    rw [put3 pa]
    refine ⟨Nat.lt_of_le_of_lt (show acc.length ≤ 8 by omega) (by decide), ih _ _ ⟨t, ?_, ?_, rfl, ot⟩⟩
    · rw [all_app, ha]; simp [allL, lv.1]
    · rw [List.length_append]; simp only [List.length_cons, List.length_nil]; omega
  · unfold rngD
    simp only [List.length_nil, List.length_map, List.length_range]
    omega
theorem all_take {k : Kd} {xs : List D} (n : Nat) (h : allL k xs = true) : allL k (xs.take n) = true := List.all_eq_true.mpr fun x m => List.all_eq_true.mp h x (List.mem_of_mem_take m)
theorem all_drop {k : Kd} {xs : List D} (n : Nat) (h : allL k xs = true) : allL k (xs.drop n) = true := List.all_eq_true.mpr fun x m => List.all_eq_true.mp h x (List.mem_of_mem_drop m)
/-- a slice's front, its rest, wherever the place stands -/
theorem cut_front {xs : List D} {r : Int} (h0 : 0 ≤ r) : cutD xs none (some r) = xs.take r.toNat := by
  by_cases h : r ≤ (xs.length : Int)
  · exact cut_take h0 h
  · unfold DL.cutD
    have e : HT.sIx xs.length xs.length (some r) = xs.length := by
      unfold HT.sIx
      simp only [show ¬ r < 0 by omega, if_false]
      omega
    rw [e, HT.sIx_none, List.drop_zero, List.take_of_length_le (by omega), List.take_of_length_le (by omega)]
theorem cut_rest {xs : List D} {r : Int} (h0 : 0 ≤ r) : cutD xs (some r) none = xs.drop r.toNat := by
  by_cases h : r ≤ (xs.length : Int)
  · exact cut_drop h0 h
  · unfold DL.cutD
    have e : HT.sIx xs.length 0 (some r) = xs.length := by
      unfold HT.sIx
      simp only [show ¬ r < 0 by omega, if_false]
      omega
    rw [e, HT.sIx_none, List.drop_of_length_le (Nat.le_refl _), List.drop_of_length_le (by omega)]
    simp
def spChanged : Sp' := fun ds h Q _ => ∃ (a : Addr) (k : Kd) (vs : List D), ds = [.ref a, kD k, .tup vs] ∧ k.ok ∧ k.depth ≤ 3 ∧ k.cnt ≤ 100 ∧ vs.length ≤ 8 ∧ allL k vs = true ∧ Tp h a ∧ ∀ ws t, allL k ws = true → ws.length ≤ 8 → TOk t → Q (.tup ws) (put h a t)
theorem rd__law_changed (ds : List D) (h : DH) (Q : VK') (E' : XK') (q : spChanged ds h Q E') : t__law_changed spDraw spWord (spLetter 3) (spNear 3) (ends Q) (slots n__law_changed ds) h := by
  obtain ⟨a, k, vs, rfl, hk, hd, hc, hl, hv, tp, q⟩ := q
  show t__law_changed _ _ _ _ (ends Q) [some (.ref a), some (kD k), some (.tup vs), none, none] h
  unfold t__law_changed
  walk_at "dl7"
  refine drw tp (fun c t c0 c1 ot => ?_)
  walk_at "dl7"
  refine sif_i (fun b1 => ?_) (fun b1 => ?_)
  · walk_at "dl7"
    exact ⟨a, k, 8, rfl, hk, hd, hc, by decide, by decide, tp_put ot, fun ws t hw lw ot => by rw [put_put]; exact fin (q ws t hw (by omega) ot)⟩
  · walk_at "dl7"
    refine sif_i (fun b2 => ?_) (fun b2 => ?_)
    · walk_at "dl7"
      exact ⟨a, k, 8, rfl, hk, hd, hc, by decide, by decide, tp_put ot, fun ws t hw lw ot => by rw [put_put]; exact fin (q ws t hw (by omega) ot)⟩
    · have l1 : 1 ≤ vs.length := by have := of_decide_eq_false b2; omega
      walk_at "dl7"
      refine drw (tp_put ot) (fun r t r0 r1 ot => ?_) (by omega)
      have rl : r.toNat < vs.length := by omega
      have eg := List.getElem?_eq_getElem rl
      have ai : atI vs r = some vs[r.toNat] := by
        have z : atI vs ((r.toNat : Nat) : Int) = some vs[r.toNat] := atI_nat eg
        rwa [show ((r.toNat : Nat) : Int) = r by omega] at z
      have ltk : (vs.take r.toNat).length = r.toNat := by rw [List.length_take]; omega
      have ldr : (vs.drop r.toNat).length = vs.length - r.toNat := List.length_drop
      ((walk_at "dl7"); repeat (simp only [cut_front r0]; (walk_at "dl7")))
      refine sif_i (fun b3 => ?_) (fun b3 => ?_)
      · ((walk_at "dl7"); repeat (simp only [cut_front r0]; (walk_at "dl7")))
        exact fin (q _ t (all_take _ hv) (by omega) ot)
      · walk_at "dl7"
        refine sif_i (fun b4 => ?_) (fun b4 => ?_)
        · walk_at "dl7"
          refine sif_i (fun b5 => ?_) (fun b5 => ?_)
          · have b5 := of_decide_eq_true b5
            ((walk_at "dl7"); repeat (simp only [cut_front r0, cut_rest r0]; (walk_at "dl7")))
            refine ⟨a, k, 20, .int 12, rfl, hk, hd, hc, by decide, by decide, tp_put ot, fun u t lu ot => ?_⟩
            ((walk_at "dl7"); repeat (simp only [cut_front r0, cut_rest r0]; (walk_at "dl7")))
            exact ⟨small (by omega), small (by rw [List.length_append]; simp only [List.length_cons, List.length_nil]; omega), fin (q _ t (by rw [all_app, all_app, all_take _ hv, all_drop _ hv]; simp [allL, lu.1]) (by rw [List.length_append, List.length_append]; simp only [List.length_cons, List.length_nil]; omega) ot)⟩
          · walk_at "dl7"
            refine sif_i (fun b6 => ?_) (fun b6 => ?_)
            · ((walk_at "dl7"); repeat (simp only [cut_front r0, cut_rest r0]; (walk_at "dl7")))
              exact ⟨small (by omega), fin (q _ t (by rw [all_app, all_take _ hv, all_drop _ hv]; rfl) (by rw [List.length_append]; omega) ot)⟩
            · ((walk_at "dl7"); repeat (simp only [cut_front r0, cut_rest r0]; (walk_at "dl7")))
              rw [q_ixt]
              refine ⟨_, ai, ?_⟩
              walk_at "dl7"
              refine ⟨a, k, _, rfl, hk, hd, hd, hc, List.all_eq_true.mp hv _ (List.getElem_mem rl), tp_put ot, fun u t lu ot => ?_⟩
              ((walk_at "dl7"); repeat (simp only [cut_front r0, cut_rest (show 0 ≤ r + 1 by omega)]; (walk_at "dl7")))
              have ld2 : (vs.drop (r + 1).toNat).length = vs.length - (r + 1).toNat := List.length_drop
              exact ⟨small (by omega), small (by rw [List.length_append]; simp only [List.length_cons, List.length_nil]; omega), fin (q _ t (by rw [all_app, all_app, all_take _ hv, all_drop _ hv]; simp [allL, lu]) (by rw [List.length_append, List.length_append]; simp only [List.length_cons, List.length_nil]; omega) ot)⟩
        · walk_at "dl7"
          refine sif_i (fun b6 => ?_) (fun b6 => ?_)
          · ((walk_at "dl7"); repeat (simp only [cut_front r0, cut_rest r0]; (walk_at "dl7")))
            exact ⟨small (by omega), fin (q _ t (by rw [all_app, all_take _ hv, all_drop _ hv]; rfl) (by rw [List.length_append]; omega) ot)⟩
          · ((walk_at "dl7"); repeat (simp only [cut_front r0, cut_rest r0]; (walk_at "dl7")))
            rw [q_ixt]
            refine ⟨_, ai, ?_⟩
            walk_at "dl7"
            refine ⟨a, k, _, rfl, hk, hd, hd, hc, List.all_eq_true.mp hv _ (List.getElem_mem rl), tp_put ot, fun u t lu ot => ?_⟩
            ((walk_at "dl7"); repeat (simp only [cut_front r0, cut_rest (show 0 ≤ r + 1 by omega)]; (walk_at "dl7")))
            have ld2 : (vs.drop (r + 1).toNat).length = vs.length - (r + 1).toNat := List.length_drop
            exact ⟨small (by omega), small (by rw [List.length_append]; simp only [List.length_cons, List.length_nil]; omega), fin (q _ t (by rw [all_app, all_app, all_take _ hv, all_drop _ hv]; simp [allL, lu]) (by rw [List.length_append, List.length_append]; simp only [List.length_cons, List.length_nil]; omega) ot)⟩
end K02

-- set2
set_option Elab.async false
set_option linter.all false
set_option maxRecDepth 100000
set_option maxHeartbeats 1000000
local macro_rules | `(tactic| walk_at "dl7") => `(tactic| (try simp only [↓DL.q_nx, ↓DL.q_seq, ↓DL.q_br, ↓DL.q_ct, ↓DL.q_drop, ↓DL.q_ret, ↓DL.q_retn, ↓DL.q_ifs, ↓DL.q_asg, ↓DL.q_gn, ↓DL.q_gsub, ↓DL.q_gtup, ↓DL.q_gco, ↓DL.q_gni, ↓DL.q_for, ↓DL.q_yes, ↓DL.q_c, ↓DL.q_to, ↓DL.q_tu, ↓DL.q_tb, ↓DL.q_isB, ↓DL.q_isI, ↓DL.q_ch, ↓DL.q_and, ↓DL.q_or, ↓DL.q_orp, ↓DL.q_not, ↓DL.q_andv, ↓DL.q_orv, ↓DL.q_notv, ↓DL.q_if, ↓DL.q_an, ↓DL.q_ac, ↓DL.q_tup, ↓DL.q_lis, ↓DL.q_own, ↓DL.q_call, ↓DL.q_cb, ↓DL.q_bm, ↓DL.q_sl, ↓DL.q_slt, ↓DL.q_sll, ↓DL.q_pn, ↓DL.q_pe, ↓DL.q_addi, ↓DL.q_adds, ↓DL.q_addt, ↓DL.q_addl, ↓DL.q_I2, ↓DL.q_neg, ↓DL.q_eqi, ↓DL.q_eqs, ↓DL.q_eqb, ↓DL.q_neb, ↓DL.q_nei, ↓DL.q_nes, ↓DL.q_eq_non_int, ↓DL.q_ne_non_int, ↓DL.q_eq_non_bl, ↓DL.q_ne_non_bl, ↓DL.q_eq_non_str, ↓DL.q_ne_non_str, ↓DL.q_eq_int_non, ↓DL.q_ne_int_non, ↓DL.q_eq_bl_non, ↓DL.q_ne_bl_non, ↓DL.q_eq_str_non, ↓DL.q_ne_str_non, ↓DL.q_eq_int_str, ↓DL.q_ne_int_str, ↓DL.q_eq_str_int, ↓DL.q_ne_str_int, ↓DL.q_eq_bl_str, ↓DL.q_ne_bl_str, ↓DL.q_eq_str_bl, ↓DL.q_ne_str_bl, ↓DL.q_eq_non_non, ↓DL.q_ne_non_non, ↓DL.q_isnon_bl, ↓DL.q_isnon_int, ↓DL.q_isnon_str, ↓DL.q_isnon_tup, ↓DL.q_isnon_lis, ↓DL.q_isnon_non, ↓DL.q_int, ↓DL.q_inl, ↓DL.q_isn, ↓DL.q_ixc, ↓DL.q_lent, ↓DL.q_lenl, ↓DL.q_lenc, ↓DL.q_lens, ↓DL.q_is, ↓DL.q_toi, ↓DL.q_tob, ↓DL.q_abs, ↓DL.q_max, ↓DL.q_min, ↓DL.q_list, ↓DL.q_listo, ↓DL.q_tuple, ↓DL.q_sum, ↓DL.q_kt, ↓DL.q_kl, ↓DL.q_kc, ↓DL.q_tv0, ↓DL.q_st0, ↓DL.q_tv1, ↓DL.q_st1, ↓DL.q_tv2, ↓DL.q_st2, ↓DL.q_tv3, ↓DL.q_st3, ↓DL.q_tv4, ↓DL.q_st4, ↓DL.q_tv5, ↓DL.q_st5, ↓DL.q_tv6, ↓DL.q_st6, ↓DL.q_tv7, ↓DL.q_st7, ↓DL.q_tv8, ↓DL.q_st8, ↓DL.q_tv9, ↓DL.q_st9, ↓DL.q_tv10, ↓DL.q_st10, ↓DL.q_tv11, ↓DL.q_st11, ↓DL.q_tv12, ↓DL.q_st12, ↓DL.q_tv13, ↓DL.q_st13, ↓DL.q_tv14, ↓DL.q_st14, ↓DL.q_tv15, ↓DL.q_st15, ↓DL.q_ixt0, ↓DL.q_ixl0, ↓DL.q_ixt1, ↓DL.q_ixl1, ↓DL.q_ixt2, ↓DL.q_ixl2, ↓DL.q_ixt3, ↓DL.q_ixl3, ↓DL.q_ixt4, ↓DL.q_ixl4, ↓DL.q_oixr, ↓DL.q_oinr, ↓DL.q_olen, ↓DL.q_okr, ↓DL.q_oapp, ↓DL.q_olsr, ↓DL.q_osetD, ↓DL.q_ln0, ↓DL.q_sz0, ↓DL.q_ln1, ↓DL.q_sz1, ↓DL.q_ln2, ↓DL.q_sz2, ↓DL.q_ln3, ↓DL.q_sz3, ↓DL.q_ln4, ↓DL.q_sz4, ↓DL.q_ln5, ↓DL.q_sz5, ↓DL.q_ln6, ↓DL.q_sz6, ↓DL.q_ln7, ↓DL.q_sz7, ↓DL.q_ln8, ↓DL.q_sz8, ↓DL.q_wseq, ↓DL.q_wt, ↓DL.q_wl, ↓DL.q_wc, ↓DL.q_wr, ↓DL.q_wr1, ↓DL.q_wr1', ↓DL.q_setL0, ↓DL.q_setL1, ↓DL.q_setL2, ↓DL.q_setL3, ↓DL.q_setL4, ↓DL.q_pl_non, ↓DL.q_in_non_int, ↓DL.q_in_non_bool, ↓DL.q_in_non_str, ↓DL.q_in_non_tuple, ↓DL.q_in_non_list, ↓DL.q_pl_bl, ↓DL.q_in_bl_int, ↓DL.q_in_bl_bool, ↓DL.q_in_bl_str, ↓DL.q_in_bl_tuple, ↓DL.q_in_bl_list, ↓DL.q_pl_int, ↓DL.q_in_int_int, ↓DL.q_in_int_bool, ↓DL.q_in_int_str, ↓DL.q_in_int_tuple, ↓DL.q_in_int_list, ↓DL.q_pl_str, ↓DL.q_in_str_int, ↓DL.q_in_str_bool, ↓DL.q_in_str_str, ↓DL.q_in_str_tuple, ↓DL.q_in_str_list, ↓DL.q_pl_tup, ↓DL.q_in_tup_int, ↓DL.q_in_tup_bool, ↓DL.q_in_tup_str, ↓DL.q_in_tup_tuple, ↓DL.q_in_tup_list, ↓DL.q_pl_lis, ↓DL.q_in_lis_int, ↓DL.q_in_lis_bool, ↓DL.q_in_lis_str, ↓DL.q_in_lis_tuple, ↓DL.q_in_lis_list, ↓DL.q_ty_int, ↓DL.q_ty_bool, ↓DL.q_ty_str, ↓DL.q_ty_tuple, ↓DL.q_ty_list, DL.sif_t, DL.sif_f, DL.ofStr_inj, String.reduceEq, decide_true, decide_false, Bool.not_true, Bool.not_false, true_and, and_true, List.length_cons, List.length_nil, Int.reduceAdd, Int.reduceMul, Int.reduceNeg, Int.reduceSub, Nat.reduceAdd, if_true, if_false, Bool.false_eq_true, Int.reduceEq, Int.reduceLT, Int.reduceLE, eq_self, not_false_eq_true, DL.mulOk, or_true, true_or, and_self, Int.reduceToNat, Nat.reduceLT, Int.reducePow, DL.put_same, DL.put_put, ↓DL.q_tru, ↓DL.q_truB, ↓DL.q_truI, ↓DL.q_truT, ↓DL.q_truL, ↓DL.q_any, ↓DL.q_all, ↓DL.q_dnew, ↓DL.q_dget, ↓DL.q_dix, ↓DL.q_dput, ↓DL.q_ext1, ↓DL.q_rg2, ↓DL.q_rg2K, ↓DL.q_tv16, ↓DL.q_st16, ↓DL.q_tv17, ↓DL.q_st17, ↓DL.q_tv18, ↓DL.q_st18, ↓DL.q_tv19, ↓DL.q_st19, ↓DL.q_tv20, ↓DL.q_st20, ↓DL.q_tv21, ↓DL.q_st21, ↓DL.q_tv22, ↓DL.q_st22, ↓DL.q_tv23, ↓DL.q_st23, ↓DL.q_tv24, ↓DL.q_st24, ↓DL.q_tv25, ↓DL.q_st25, ↓DL.q_tv26, ↓DL.q_st26, ↓DL.q_tv27, ↓DL.q_st27, ↓DL.q_tv28, ↓DL.q_st28, ↓DL.q_tv29, ↓DL.q_st29, ↓DL.q_tv30, ↓DL.q_st30, ↓DL.q_tv31, ↓DL.q_st31, ↓DL.q_tv32, ↓DL.q_st32, ↓DL.q_tv33, ↓DL.q_st33, ↓DL.q_tv34, ↓DL.q_st34, ↓DL.q_tv35, ↓DL.q_st35]))
namespace K22
open PySem PySem.Spec PyProof.Rows L2 DL K00 K01 K04
def spPart : Sp' := fun ds h Q _ => ∃ a m, ds = [.ref a, .int m] ∧ 0 ≤ m ∧ m ≤ 40 ∧ Tp h a ∧ ∀ S t, stsOk m S → TOk t → Q (tI S) (put h a t)
theorem rd__law_part (ds : List D) (h : DH) (Q : VK') (E' : XK') (q : spPart ds h Q E') : t__law_part spDraw (ends Q) (slots n__law_part ds) h := by
  obtain ⟨a, m, rfl, m0, m9, tp, q⟩ := q
  show t__law_part _ (ends Q) [some (.ref a), some (.int m), none] h
  unfold t__law_part
  obtain ⟨t0, et, ot⟩ := tp
  have hh : h = put h a t0 := (put_get et).symm
  walk_at "dl7"
  rw [q_lc]
  walk_at "dl7"
  refine ⟨by omega, by omega, ?_⟩
  intro p np
  have pa : p ≠ a := fun e => by rw [e, et] at np; cases np
  refine lc_ind (fun xs acc g => ∃ (i : Int) (S : List Int) (t : DO), xs = rngD i (m - i).toNat ∧ acc = S.map D.int ∧ stsOk i S ∧ 0 ≤ i ∧ i ≤ m ∧ g = put (put h a t) p .hid ∧ TOk t) ?_ ?_ _ _ _ ⟨0, [], t0, by simp, rfl, ⟨List.Pairwise.nil, fun _ m => by cases m⟩, by omega, m0, by rw [← hh], ot⟩
  · rintro acc g ⟨i, S, t, e, rfl, os, i0, im, rfl, ot⟩
    rw [q_lnil]
    walk_at "dl7"
    rw [del_put (by rw [put_ne pa]; exact np)]
    exact fin (q S t (sts_up os im) ot)
  · rintro x xs ih acc g ⟨i, S, t, e, rfl, os, i0, im, rfl, ot⟩
    have sl := sts_len0 os
    have im2 : i < m := by
      apply Classical.byContradiction
      intro z
      rw [show (m - i).toNat = 0 by omega, rngD_zero] at e
      cases e
    rw [show (m - i).toNat = (m - (i + 1)).toNat + 1 by omega, rngD_succ] at e
    cases e
    rw [q_lcons]
    walk_at "dl7"
    refine drwU pa ot (fun r t r0 r1 ot => ?_)
    walk_at "dl7"
    refine sif_i (fun c => ?_) (fun c => ?_)
    · walk_at "dl7"
      refine ⟨Nat.lt_of_le_of_lt (show _ ≤ 1000 by rw [List.length_map]; omega) (by decide), ih _ _ ⟨i + 1, S ++ [i], t, rfl, by simp, sts_snoc os i0, by omega, by omega, rfl, ot⟩⟩
    · exact ih _ _ ⟨i + 1, S, t, rfl, rfl, sts_up os (by omega), by omega, by omega, rfl, ot⟩
/-- a drawn machine -/
def Drm (k : Kd) (room : Nat) (M : Mc) : Prop := M.ok ∧ M.k = k ∧ (∀ s ∈ M.sp, Dr k s.2.1 ∧ s.2.1.cnt ≤ room)
def spMachine : Sp' := fun ds h Q _ => ∃ (a : Addr) (k : Kd) (top md sts steps room : Int), ds = [.ref a, kD k, thy top md, .int sts, .int steps, .int room] ∧ k.ok ∧ k.depth ≤ 3 ∧ k.cnt ≤ 100 ∧ 0 ≤ top ∧ top ≤ 1000000 ∧ 1 ≤ sts ∧ sts ≤ 20 ∧ 0 ≤ steps ∧ steps ≤ 20 ∧ 1 ≤ room ∧ room ≤ 8 ∧ Tp h a ∧
  ∀ M t, Drm k room.toNat M → (M.sp.length : Int) ≤ steps → M.n ≤ sts → TOk t → Q (mD M) (put h a t)
theorem dr_cn {k : Kd} {c : Cn} (h : Dr k c) (hc : c.cnt ≤ 20) : cnOk k c := ⟨h.1, fits0_dom c k h.2, fits0_fits h.2, hc⟩
theorem rd__law_machine (ds : List D) (h : DH) (Q : VK') (E' : XK') (q : spMachine ds h Q E') : t__law_machine spDraw spPart (spCond 8) (spConds 50) (ends Q) (slots n__law_machine ds) h := by
  obtain ⟨a, k, top, md, sts, steps, room, rfl, hk, kd, kc, h0, h1, s1, s9, p0, p9, r1, r9, tp, q⟩ := q
  show t__law_machine _ _ _ _ (ends Q) [some (.ref a), some (kD k), some (.tup [.int top, .int md]), some (.int sts), some (.int steps), some (.int room), none, none, none, none, none, none, none, none] h
  unfold t__law_machine
  walk_at "dl7"
  refine drw tp (fun m t m0 m1 ot => ?_) (by omega)
  have n1 : 1 ≤ 1 + m := by omega
  have n9 : 1 + m ≤ sts := by omega
  walk_at "dl7"
  generalize 1 + m = n at n1 n9 ⊢
  refine drw (tp_put ot) (fun q0 t q00 q01 ot => ?_) (by omega)
  walk_at "dl7"
  refine ⟨fun τ g => ∃ S t, τ = [some (.ref a), some (kD k), some (.tup [.int top, .int md]), some (.int sts), some (.int steps), some (.int room), some (.int n), some (tI S), none, none, none, none, none, none] ∧ stsOk n S ∧ g = put h a t ∧ TOk t, ?_, ?_⟩
  · walk_at "dl7"
    refine drw (tp_put ot) (fun r t _ _ ot => ?_)
    walk_at "dl7"
    refine sif_i (fun _ => ?_) (fun _ => ?_)
    · walk_at "dl7"
      refine ⟨a, n, rfl, by omega, by omega, tp_put ot, fun S t os ot => ?_⟩
      walk_at "dl7"
      exact ⟨S, t, rfl, os, rfl, ot⟩
    · walk_at "dl7"
      exact ⟨[q0], t, rfl, sts_one q00 (by omega), rfl, ot⟩
  · rintro τ g ⟨S, t, rfl, oS, rfl, ot⟩
    walk_at "dl7"
    refine ⟨a, n, rfl, by omega, by omega, tp_put ot, fun E t oE ot => ?_⟩
    walk_at "dl7"
    refine ⟨fun τ g => ∃ E t, τ = [some (.ref a), some (kD k), some (.tup [.int top, .int md]), some (.int sts), some (.int steps), some (.int room), some (.int n), some (tI S), some (tI E), none, none, none, none, none] ∧ stsOk n E ∧ g = put h a t ∧ TOk t, ?_, ?_⟩
    · walk_at "dl7"
      refine drw (tp_put ot) (fun r t _ _ ot => ?_)
      walk_at "dl7"
      refine sif_i (fun _ => ?_) (fun _ => ?_)
      · walk_at "dl7"
        refine drw (tp_put ot) (fun q1 t q10 q11 ot => ?_) (by omega)
        walk_at "dl7"
        exact ⟨[q1], t, rfl, sts_one q10 (by omega), rfl, ot⟩
      · walk_at "dl7"
        exact ⟨E, t, rfl, oE, rfl, ot⟩
    · rintro τ g ⟨E, t, rfl, oE, rfl, ot⟩
      walk_at "dl7"
      intro p np
      have pa := ne_put np
      have nh := free_put np
      refine drwU pa ot (fun x t x0 x1 ot => ?_) (by omega)
      walk_at "dl7"
      refine drwU pa ot (fun y t y0 y1 ot => ?_) (by omega)
      walk_at "dl7"
      refine ⟨by omega, by omega, ?_⟩
      have em : (steps - min x y).toNat ≤ steps.toNat := by omega
      generalize hz : (steps - min x y).toNat = z at em
      refine for_ind (fun xs τ g => ∃ (i : Int) (rem : Nat) (sp : List (Int × Cn × Int)) (t : DO) (x10 x11 x12 x13 : Option D), xs = rngD i rem ∧ τ = [some (.ref a), some (kD k), some (.tup [.int top, .int md]), some (.int sts), some (.int steps), some (.int room), some (.int n), some (tI S), some (tI E), some (.ref p), x10, x11, x12, x13] ∧
        sp.length + rem ≤ steps.toNat ∧ (∀ s ∈ sp, (0 ≤ s.1 ∧ s.1 < n ∧ 0 ≤ s.2.2 ∧ s.2.2 < n) ∧ Dr k s.2.1 ∧ (s.2.1.cnt : Int) ≤ room) ∧ g = put (put h a t) p (.lst (sp.map stD)) ∧ TOk t) ?_ ?_ _ _ _ ⟨0, z, [], t, none, none, none, none, rfl, rfl, by simp; omega, by simp, rfl, ot⟩
      · rintro τ g ⟨i, rem, sp, t, x10, x11, x12, x13, e, rfl, hl, hs, rfl, ot⟩
        rw [q_fnil]
        ((walk_at "dl7"); repeat (simp only [ownK]; (walk_at "dl7")))
        refine ⟨put h a t, Sub.put Sub.refl (by rw [put_ne pa]; exact nh), q ⟨k, n, S, E, sp⟩ t ⟨⟨hk, kd, kc, n1, by show n ≤ 40; omega, oS, oE, by show sp.length ≤ 50; omega, fun s m => ?_⟩, rfl, fun s m => ?_⟩ (by show (sp.length : Int) ≤ steps; omega) n9 ot⟩
        · have := hs s m
          exact ⟨this.1.1, this.1.2.1, this.1.2.2.1, this.1.2.2.2, dr_cn this.2.1 (by have := this.2.2; omega)⟩
        · have := hs s m
          exact ⟨this.2.1, by have := this.2.2; omega⟩
      · rintro x xs ih τ g ⟨i, rem, sp, t, x10, x11, x12, x13, e, rfl, hl, hs, rfl, ot⟩
        cases rem with
        | zero => cases e
        | succ rem =>
          rw [rngD_succ] at e
          cases e
          rw [q_fcons]
          walk_at "dl7"
          refine drwU pa ot (fun r t r0 r1' ot => ?_) (by omega)
          walk_at "dl7"
          refine ⟨a, k, top, md, 1 + r, rfl, hk, kc, h0, h1, by omega, by omega, tp_under pa ot, fun c t dc cc ot => ?_⟩
          rw [put3 pa]
          walk_at "dl7"
          refine drwU pa ot (fun ch t ch0 ch1 ot => ?_)
          walk_at "dl7"
          refine ⟨fun τ g => ∃ c t, τ = [some (.ref a), some (kD k), some (.tup [.int top, .int md]), some (.int sts), some (.int steps), some (.int room), some (.int n), some (tI S), some (tI E), some (.ref p), some (.int i), some (cD c), some (.int ch), x13] ∧ Dr k c ∧ (c.cnt : Int) ≤ room ∧ g = put (put h a t) p (.lst (sp.map stD)) ∧ TOk t, ?_, ?_⟩
          · ((walk_at "dl7"); repeat (simp only [ownK]; (walk_at "dl7")))
            refine ⟨_, put_same, ?_⟩
            refine sif_i (fun b1 => ?_) (fun b1 => ?_)
            · walk_at "dl7"
              refine sif_i (fun b2 => ?_) (fun b2 => ?_)
              · ((walk_at "dl7"); repeat (simp only [ownK]; (walk_at "dl7")))
                have ne : sp ≠ [] := by
                  intro z
                  rw [z] at b1
                  cases b1
                have l1 := List.length_pos_iff.mpr ne
                refine drwU pa ot (fun j t j0 j1 ot => ?_) (by rw [List.length_map]; omega)
                rw [List.length_map] at j1
                ((walk_at "dl7"); repeat (simp only [ownK]; (walk_at "dl7")))
                obtain ⟨d, e, m⟩ := pick (xs := sp.map stD) j0 (by rw [List.length_map]; omega)
                obtain ⟨s, ms, rfl⟩ := List.mem_map.mp m
                refine ⟨_, e, ?_⟩
                simp only [stD]
                walk_at "dl7"
                have os := hs s ms
                have cc2 := s.2.1.depth_cnt
                refine ⟨fun τ g => ∃ c, τ = [some (.ref a), some (kD k), some (.tup [.int top, .int md]), some (.int sts), some (.int steps), some (.int room), some (.int n), some (tI S), some (tI E), some (.ref p), some (.int i), some (cD c), some (.int ch), x13] ∧ Dr k c ∧ (c.cnt : Int) ≤ room ∧ g = put (put h a t) p (.lst (sp.map stD)), ?_, ?_⟩
                · walk_at "dl7"
                  refine sif_i (fun b3 => ?_) (fun b3 => ?_)
                  · walk_at "dl7"
                    refine ⟨s.2.1, rfl, by omega, ?_⟩
                    walk_at "dl7"
                    refine sif_i (fun b4 => ?_) (fun b4 => ?_)
                    · have b4 := of_decide_eq_true b4
                      walk_at "dl7"
                      exact ⟨.ng s.2.1, rfl, ⟨os.2.1.1, by simpa [fits0, fitsC] using os.2.1.2⟩, by simp only [Cn.cnt]; omega⟩
                    · walk_at "dl7"
                      exact ⟨s.2.1, rfl, os.2.1, os.2.2⟩
                  · walk_at "dl7"
                    exact ⟨s.2.1, rfl, os.2.1, os.2.2⟩
                · rintro τ g ⟨c, rfl, dc, cc, rfl⟩
                  exact ⟨c, t, rfl, dc, cc, rfl, ot⟩
              · walk_at "dl7"
                exact ⟨c, t, rfl, dc, by omega, rfl, ot⟩
            · walk_at "dl7"
              exact ⟨c, t, rfl, dc, by omega, rfl, ot⟩
          · rintro τ g ⟨c, t, rfl, dc, cc, rfl, ot⟩
            walk_at "dl7"
            refine drwU pa ot (fun u t u0 u1 ot => ?_) (by omega)
            ((walk_at "dl7"); repeat (simp only [ownK]; (walk_at "dl7")))
            refine drwU pa ot (fun v t v0 v1 ot => ?_) (by omega)
            ((walk_at "dl7"); repeat (simp only [ownK]; (walk_at "dl7")))
            refine ⟨Nat.lt_of_le_of_lt (show _ ≤ 1000 by rw [List.length_map]; omega) (by decide), ?_⟩
            refine ih _ _ ⟨i + 1, rem, sp ++ [(u, c, v)], t, _, _, _, _, rfl, rfl, by rw [List.length_append]; simp only [List.length_cons, List.length_nil]; omega, fun s m => ?_, ?_, ot⟩
            · rcases List.mem_append.mp m with m | m
              · exact hs s m
              · rw [List.mem_singleton.mp m]
                exact ⟨⟨u0, by show u < n; omega, v0, by show v < n; omega⟩, dc, cc⟩
            · rw [List.map_append]; rfl
end K22

-- set2
set_option Elab.async false
set_option linter.all false
set_option maxRecDepth 100000
set_option maxHeartbeats 1000000
namespace K22
open PySem PySem.Spec PyProof.Rows L2 DL K00 K01 K04
def spGoing : Sp' := fun ds h Q _ => ∃ (a : Addr) (M : Mc) (x : D) (most : Int), ds = [.ref a, kD M.k, .tup [.int 20, x], mD M, .int most] ∧ M.ok ∧ 0 ≤ most ∧ most ≤ 20 ∧ Tp h a ∧ ∀ w t, allL M.k w = true → (w.length : Int) ≤ most → TOk t → Q (.tup w) (put h a t)
theorem rd__law_going (ds : List D) (h : DH) (Q : VK') (E' : XK') (q : spGoing ds h Q E') : t__law_going spDraw (spLetter 3) spBehind (ends Q) (slots n__law_going ds) h := by
  obtain ⟨a, M, x, most, rfl, o, m0, m9, tp, q⟩ := q
  show t__law_going _ _ _ (ends Q) [some (.ref a), some (kD M.k), some (.tup [.int 20, x]), some (mD M), some (.int most), none, none, none, none, none] h
  unfold t__law_going
  have em : mD M = .tup [kD M.k, .int M.n, tI M.st, tI M.en, .tup (M.sp.map stD)] := rfl
  obtain ⟨t0, et, ot⟩ := tp
  rw [em]
  walk_at "dl7"
  rw [← em]
  refine drw ⟨t0, et, ot⟩ (fun m t m0 m1 ot => ?_) (by omega)
  walk_at "dl7"
  refine ⟨by omega, by omega, ?_⟩
  refine for_ind (fun xs τ g => ∃ (i : Int) (rem : Nat) (w : List D) (S : List Int) (t : DO) (x7 x8 x9 : Option D), xs = rngD i rem ∧ τ = [some (.ref a), some (kD M.k), some (.tup [.int 20, x]), some (mD M), some (.int most), some (.tup w), some (tI S), x7, x8, x9] ∧
    (w.length : Int) + rem ≤ most ∧ allL M.k w = true ∧ g = put h a t ∧ TOk t) ?_ ?_ _ _ _ ⟨0, m.toNat, [], M.st, t, none, none, none, rfl, rfl, by simp; omega, rfl, rfl, ot⟩
  · rintro τ g ⟨i, rem, w, S, t, x7, x8, x9, e, rfl, hl, aw, rfl, ot⟩
    rw [q_fnil]
    walk_at "dl7"
    exact fin (q w t aw (by omega) ot)
  · rintro y ys ih τ g ⟨i, rem, w, S, t, x7, x8, x9, e, rfl, hl, aw, rfl, ot⟩
    cases rem with
    | zero => cases e
    | succ rem =>
      rw [rngD_succ] at e
      cases e
      rw [q_fcons]
      walk_at "dl7"
      refine ⟨a, M.k, 20, x, rfl, o.kk, o.kd, o.kc, by decide, by decide, tp_put ot, fun v t lv ot => ?_⟩
      walk_at "dl7"
      refine for_ind (fun xs τ g => ∃ (v : D) (t : DO) (x9 : Option D), τ = [some (.ref a), some (kD M.k), some (.tup [.int 20, x]), some (mD M), some (.int most), some (.tup w), some (tI S), some (.int i), some v, x9] ∧ isL M.k v = true ∧ g = put h a t ∧ TOk t) ?_ ?_ _ _ _ ⟨v, t, x9, rfl, lv.1, rfl, ot⟩
      · rintro τ g ⟨v, t, x9, rfl, iv, rfl, ot⟩
        rw [q_fnil]
        walk_at "dl7"
        refine ⟨Nat.le_trans (show w.length + 1 ≤ 1000 by omega) (by decide), ?_⟩
        refine ⟨M, S, v, rfl, o, iv, ?_⟩
        walk_at "dl7"
        refine ih _ _ ⟨i + 1, rem, w ++ [v], bhd M S v, t, _, _, _, rfl, rfl, by rw [List.length_append]; simp only [List.length_cons, List.length_nil]; omega, by simp only [allL, List.all_append, List.all_cons, List.all_nil, Bool.and_true, Bool.and_eq_true] at aw ⊢; exact ⟨aw, iv⟩, rfl, ot⟩
      · rintro y ys ih2 τ g ⟨v, t, x9, rfl, iv, rfl, ot⟩
        rw [q_fcons]
        walk_at "dl7"
        refine ⟨fun τ g => ∃ (v : D) (t : DO), τ = [some (.ref a), some (kD M.k), some (.tup [.int 20, x]), some (mD M), some (.int most), some (.tup w), some (tI S), some (.int i), some v, some y] ∧ isL M.k v = true ∧ g = put h a t ∧ TOk t, ?_, ?_⟩
        · walk_at "dl7"
          refine ⟨M, S, v, rfl, o, iv, ?_⟩
          unfold tI
          walk_at "dl7"
          refine sif_i (fun _ => ?_) (fun _ => ?_)
          · walk_at "dl7"
            refine ⟨a, M.k, 20, x, rfl, o.kk, o.kd, o.kc, by decide, by decide, tp_put ot, fun v t lv ot => ?_⟩
            walk_at "dl7"
            exact ⟨v, t, rfl, lv.1, rfl, ot⟩
          · walk_at "dl7"
            exact ⟨v, t, rfl, iv, rfl, ot⟩
        · rintro τ g ⟨v, t, rfl, iv, rfl, ot⟩
          exact ih2 _ _ ⟨v, t, _, rfl, iv, rfl, ot⟩
def spOther : Sp' := fun ds h Q _ => ∃ (a : Addr) (M : Mc) (top md : Int), ds = [.ref a, thy top md, mD M] ∧ M.ok ∧ 0 ≤ top ∧ top ≤ 1000000 ∧ Tp h a ∧ ∀ M' t, M'.ok → M'.k = M.k → TOk t → Q (mD M') (put h a t)
theorem sts_filter (n : Int) (b : Int → Bool) : stsOk n ((rngI n).filter b) := ⟨(rngI_asc n).filter _, fun q m => rngI_mem.mp (List.mem_filter.mp m).1⟩
theorem cD_head (c : Cn) : ∃ w xs, cD c = .tup (.str w :: xs) := by cases c <;> exact ⟨_, _, rfl⟩
theorem rd__law_other_machine (ds : List D) (h : DH) (Q : VK') (E' : XK') (q : spOther ds h Q E') : t__law_other_machine spDraw (spCond 8) (spVariedG wf3 tru 20) (ends Q) (slots n__law_other_machine ds) h := by
  obtain ⟨a, M, top, md, rfl, o, h0, h1, tp, q⟩ := q
  show t__law_other_machine _ _ _ (ends Q) [some (.ref a), some (.tup [.int top, .int md]), some (mD M), none, none, none, none, none, none, none, none, none, none] h
  unfold t__law_other_machine
  have n1 := o.n1
  have n9 := o.n9
  obtain ⟨k, n, S, E, sp⟩ := M
  simp only at n1 n9
  unfold mD tI
  walk_at "dl7"
  refine drw tp (fun ch t ch0 ch1 ot => ?_)
  walk_at "dl7"
  refine drw (tp_put ot) (fun s t s0 s1 ot => ?_) (by omega)
  walk_at "dl7"
  have tog : ∀ (W : List Int), stsOk n ((rngI n).filter fun x => !decide (W.contains x = decide (x = s))) := fun W => sts_filter n _
  have retA : ∀ {x10 x11 x12 : Option D}, tret (ttup (tac (tv 3) (tac (tv 4) (tac (tv 5) (tac (tcb caTup (tac (tlc (trg1 (tac (tv 4) tan)) 12 (tb' (to opNe (to (opIn false) (tv 12) (tv 6)) (to opEq (tv 12) (tv 9)))) (tv 12)) tan)) (tac (tv 7) tan)))))) (ends Q)
      [some (.ref a), some (.tup [.int top, .int md]), some (.tup [kD k, .int n, .tup (S.map .int), .tup (E.map .int), .tup (sp.map stD)]), some (kD k), some (.int n), some (.tup (S.map .int)), some (.tup (E.map .int)), some (.tup (sp.map stD)), some (.int ch), some (.int s), x10, x11, x12] (put h a t) := fun {x10 x11 x12} => by
    walk_at "dl7"
    rw [q_lc]
    walk_at "dl7"
    refine ⟨by omega, by omega, ?_⟩
    rw [rngD_I]
    intro p np
    refine lc_map D.int (fun x => !decide (E.contains x = decide (x = s))) D.int trivial (rngI n) [] (sz1000 (by rw [rngI_len]; simp only [List.length_nil]; omega)) ?_ ?_ ?_
    · intro x mx R r
      ((walk_at "dl7"); repeat (simp only [flat_int, inD_intl]; (walk_at "dl7")))
      exact ⟨rfl, r⟩
    · intro x mx _ R r
      walk_at "dl7"
      exact r
    · rw [List.nil_append]
      walk_at "dl7"
      rw [del_put np]
      exact fin (q ⟨k, n, S, _, sp⟩ t ⟨o.kk, o.kd, o.kc, n1, n9, o.st, tog E, o.sl, o.sp⟩ rfl ot)
  refine sif_i (fun b => retA) (fun b => ?_)
  have c0 : ¬ ch = 0 := by simpa using b
  walk_at "dl7"
  refine sif_i (fun b2 => retA) (fun b2 => ?_)
  have ne : sp ≠ [] := by
    intro z
    subst z
    simp at b2
  have spl := List.length_pos_iff.mpr ne
  have sl := o.sl
  simp only at sl
  walk_at "dl7"
  refine sif_i (fun b3 => ?_) (fun b3 => ?_)
  · walk_at "dl7"
    rw [q_lc]
    walk_at "dl7"
    refine ⟨by omega, by omega, ?_⟩
    rw [rngD_I]
    intro p np
    refine lc_map D.int (fun x => !decide (S.contains x = decide (x = s))) D.int trivial (rngI n) [] (sz1000 (by rw [rngI_len]; simp only [List.length_nil]; omega)) ?_ ?_ ?_
    · intro x mx R r
      ((walk_at "dl7"); repeat (simp only [flat_int, inD_intl]; (walk_at "dl7")))
      exact ⟨rfl, r⟩
    · intro x mx _ R r
      walk_at "dl7"
      exact r
    · rw [List.nil_append]
      walk_at "dl7"
      rw [del_put np]
      exact fin (q ⟨k, n, _, E, sp⟩ t ⟨o.kk, o.kd, o.kc, n1, n9, tog S, o.en, o.sl, o.sp⟩ rfl ot)
  · walk_at "dl7"
    refine drw (tp_put ot) (fun j t j0 j1 ot => ?_) (by rw [List.length_map]; omega)
    rw [List.length_map] at j1
    have hj : j.toNat < sp.length := by omega
    walk_at "dl7"
    rw [q_ixt]
    have ej : atI (sp.map stD) j = some (stD sp[j.toNat]) := by
      have z : atI (sp.map stD) ((j.toNat : Nat) : Int) = some (stD sp[j.toNat]) := atI_nat (by rw [List.getElem?_map, List.getElem?_eq_getElem hj]; rfl)
      rwa [show ((j.toNat : Nat) : Int) = j by omega] at z
    refine ⟨_, ej, ?_⟩
    have os := o.sp _ (List.getElem_mem hj)
    simp only at os
    generalize sp[j.toNat] = st at os
    obtain ⟨u, c, v⟩ := st
    simp only at os
    simp only [stD]
    walk_at "dl7"
    refine ⟨fun τ g => ∃ (st : Int × Cn × Int) (t : DO), τ = [some (.ref a), some (.tup [.int top, .int md]), some (.tup [kD k, .int n, .tup (S.map .int), .tup (E.map .int), .tup (sp.map stD)]), some (kD k), some (.int n), some (.tup (S.map .int)), some (.tup (E.map .int)), some (.tup (sp.map stD)), some (.int ch), some (.int s), some (.int j), some (stD st), none] ∧
      (0 ≤ st.1 ∧ st.1 < n ∧ 0 ≤ st.2.2 ∧ st.2.2 < n ∧ cnOk k st.2.1) ∧ g = put h a t ∧ TOk t, ?_, ?_⟩
    · walk_at "dl7"
      refine sif_i (fun b4 => ?_) (fun b4 => ?_)
      · walk_at "dl7"
        exact ⟨(u, c, s), t, rfl, ⟨os.1, os.2.1, s0, by show s < n; omega, os.2.2.2.2⟩, rfl, ot⟩
      · walk_at "dl7"
        refine ⟨fun τ g => ∃ (st : Int × Cn × Int) (t : DO), τ = [some (.ref a), some (.tup [.int top, .int md]), some (.tup [kD k, .int n, .tup (S.map .int), .tup (E.map .int), .tup (sp.map stD)]), some (kD k), some (.int n), some (.tup (S.map .int)), some (.tup (E.map .int)), some (.tup (sp.map stD)), some (.int ch), some (.int s), some (.int j), some (stD st), none] ∧
          (0 ≤ st.1 ∧ st.1 < n ∧ 0 ≤ st.2.2 ∧ st.2.2 < n ∧ cnOk k st.2.1) ∧ g = put h a t ∧ TOk t, ?_, ?_⟩
        · obtain ⟨wd, xs, ec⟩ := cD_head c
          rw [ec]
          walk_at "dl7"
          rw [← ec]
          obtain ⟨o1, o2, o3, o4⟩ := os.2.2.2.2
          refine sif_i (fun b5 => ?_) (fun b5 => ?_)
          · walk_at "dl7"
            refine ⟨a, k, top, md, 1, rfl, o.kk, o.kc, h0, h1, by decide, by decide, tp_put ot, fun c t dc cc ot => ?_⟩
            walk_at "dl7"
            exact ⟨(u, c, v), t, rfl, ⟨os.1, os.2.1, os.2.2.1, os.2.2.2.1, dr_cn dc (by show c.cnt ≤ 20; omega)⟩, rfl, ot⟩
          · walk_at "dl7"
            refine ⟨a, k, c, top, md, rfl, o.kk, o.kc, o4, ⟨o1, o2, o3⟩, h0, h1, tp_put ot, fun c' t dc cc ot => ?_⟩
            walk_at "dl7"
            exact ⟨(u, c', v), t, rfl, ⟨os.1, os.2.1, os.2.2.1, os.2.2.2.1, dc.1, dc.2.1, dc.2.2, by show c'.cnt ≤ 20; omega⟩, rfl, ot⟩
        · rintro τ g ⟨st, t, rfl, z, rfl, ot⟩
          exact ⟨st, t, rfl, z, rfl, ot⟩
    · rintro τ g ⟨st, t, rfl, z, rfl, ot⟩
      ((walk_at "dl7"); repeat (simp only [List.length_append]; (walk_at "dl7")))
      rw [cut_take j0 (by rw [List.length_map]; omega), cut_drop (by omega) (by rw [List.length_map]; omega)]
      refine ⟨Nat.le_trans (show _ ≤ 1000 by rw [List.length_take, List.length_map]; omega) (by decide), Nat.le_trans (show _ ≤ 1000 by simp only [List.length_append, List.length_take, List.length_drop, List.length_map, List.length_cons, List.length_nil]; omega) (by decide), ?_⟩
      have e : (sp.map stD).take j.toNat ++ [stD st] ++ (sp.map stD).drop (j + 1).toNat = (sp.take j.toNat ++ [st] ++ sp.drop (j + 1).toNat).map stD := by simp
      rw [e]
      refine fin (q ⟨k, n, S, E, sp.take j.toNat ++ [st] ++ sp.drop (j + 1).toNat⟩ t ⟨o.kk, o.kd, o.kc, n1, n9, o.st, o.en, ?_, ?_⟩ rfl ot)
      · simp only [List.length_append, List.length_take, List.length_drop, List.length_cons, List.length_nil]; omega
      · intro s' m
        simp only [List.mem_append, List.mem_cons, List.not_mem_nil, or_false] at m
        rcases m with (m | rfl) | m
        · exact o.sp _ (List.mem_of_mem_take m)
        · exact z
        · exact o.sp _ (List.mem_of_mem_drop m)
def spAnsw : Sp' := fun ds h Q _ => ∃ (M : Mc) (w : List D) (l : Int), ds = [mD M, .tup w, .int l] ∧ M.ok ∧ allL M.k w = true ∧ (∀ v ∈ w, val v 40 = true) ∧ (l = 0 ∨ l = 1) ∧ Q (.bl true) h
theorem rd__law_answers (bl : Addr) (ds : List D) (h : DH) (Q : VK') (E' : XK') (q : spAnsw ds h Q E') : t__law_answers spLed (spStsBehind bl) (K03.spSame 2) spHasEnd (spTakes bl) (ends Q) (slots n__law_answers ds) h := by
  obtain ⟨M, w, l, rfl, o, aw, vw, hl, q⟩ := q
  show t__law_answers _ _ _ _ _ (ends Q) [some (mD M), some (.tup w), some (.int l), none, none] h
  unfold t__law_answers
  have em : mD M = .tup [kD M.k, .int M.n, tI M.st, tI M.en, .tup (M.sp.map stD)] := rfl
  have aw' : ∀ v ∈ w, isL M.k v = true := by simpa [allL] using aw
  have no : ∀ {P : Prop}, allL M.k w = false → P := fun z => by rw [aw] at z; cases z
  rw [em]
  walk_at "dl7"
  rw [← em]
  refine ⟨M, M.st, w, rfl, o, aw', ?_⟩
  walk_at "dl7"
  have ob := bhw_ok M w _ o.st
  have sl := sts_len0 ob
  have n9 := o.n9
  refine for_ind (fun xs τ g => (∀ x ∈ xs, x = .int 0 ∨ x = .int 1) ∧ ∃ x4, τ = [some (mD M), some (.tup w), some (.int l), some (tI (bhw M M.st w)), x4] ∧ g = h) ?_ ?_ _ _ _ ⟨?_, none, rfl, rfl⟩
  · rintro τ g ⟨_, x4, rfl, rfl⟩
    rw [q_fnil]
    walk_at "dl7"
    exact fin q
  · rintro x xs ih τ g ⟨hx, x4, rfl, rfl⟩
    rw [q_fcons]
    rcases hx x List.mem_cons_self with rfl | rfl
    · walk_at "dl7"
      refine ⟨M, w, rfl, o, vw, fun _ => ?_, no⟩
      walk_at "dl7"
      refine ⟨_, 1, rfl, rfl, val_tI _, wid_tI (by omega), ?_⟩
      walk_at "dl7"
      exact ih _ _ ⟨fun y m => hx y (List.mem_cons_of_mem _ m), _, rfl, rfl⟩
    · walk_at "dl7"
      refine ⟨M, w, rfl, o, vw, fun _ => ?_, no⟩
      walk_at "dl7"
      refine ⟨M, _, rfl, o, ob, ?_⟩
      walk_at "dl7"
      refine ⟨_, 1, rfl, rfl, rfl, rfl, ?_⟩
      walk_at "dl7"
      exact ih _ _ ⟨fun y m => hx y (List.mem_cons_of_mem _ m), _, rfl, rfl⟩
  · intro x m
    simp only [List.mem_cons, List.not_mem_nil, or_false] at m
    rcases m with rfl | rfl
    · rcases hl with rfl | rfl
      · exact .inl rfl
      · exact .inr rfl
    · rcases hl with rfl | rfl
      · exact .inr rfl
      · exact .inl rfl
end K22

-- set2
set_option Elab.async false
set_option linter.all false
set_option maxRecDepth 100000
set_option maxHeartbeats 1000000
namespace K22
open PySem PySem.Spec PyProof.Rows L2 DL K00 K01 K04
theorem dok_lis {xs : List D} {n : Nat} (h : vals xs n = true) (hn : n ≤ 60 := by decide) : dOk (.lis xs) := by
  obtain ⟨ps, e, c, d⟩ := vals_py xs n h
  unfold dOk
  simp only [toPy, e, Option.map_some]
  show SeqAt.shaped (.list ps) = true
  unfold SeqAt.shaped
  have c2 : (PyData.list ps).canLay0 = true := by simpa [PyData.canLay0] using c
  have d2 : (PyData.list ps).depth ≤ 64 := by simp only [PyData.depth]; omega
  rw [c2, decide_eq_true d2]
  rfl
theorem eqLL {xs ys : List D} {n : Nat} {h : DH} {Q : VK'} (hx : vals xs n = true) (hy : vals ys n = true) (hn : n ≤ 60) (q : Q (.bl (deq (.lis xs) (.lis ys))) h) : opEq (.lis xs) (.lis ys) h Q :=
  ⟨dok_lis hx hn, dok_lis hy hn, q⟩
def cutG {α : Type} (l : List α) (lo hi : Option Int) : List α := (l.drop (HT.sIx l.length 0 lo)).take (HT.sIx l.length l.length hi - HT.sIx l.length 0 lo)
theorem cut_map {α : Type} (g : α → D) (l : List α) (lo hi : Option Int) : DL.cutD (l.map g) lo hi = (cutG l lo hi).map g := by
  unfold DL.cutD cutG
  rw [List.length_map, List.map_take, List.map_drop]
theorem vals_bl (bs : List Bool) (n : Nat) : vals (bs.map D.bl) n = true := by
  rw [vals_mem]
  intro x m
  obtain ⟨b, _, rfl⟩ := List.mem_map.mp m
  simp [val]
theorem cut_len {α : Type} (l : List α) (lo hi : Option Int) : (cutG l lo hi).length ≤ l.length := by
  unfold cutG; rw [List.length_take, List.length_drop]; omega
theorem cut_pre {α : Type} (l : List α) {m : Int} (h1 : 1 ≤ m) (h2 : m < (l.length : Int)) : 1 ≤ (cutG l none (some m)).length := by
  unfold cutG
  have e : HT.sIx l.length l.length (some m) = m.toNat := by
    unfold HT.sIx
    simp only [show ¬ m < 0 by omega, if_false]
    omega
  rw [e, HT.sIx_none, List.length_take, List.length_drop]
  omega
theorem cut_rot {α : Type} (l : List α) (h1 : 1 ≤ l.length) : (cutG l (some (-1)) none).length + (cutG l none (some (-1))).length = l.length := by
  unfold cutG
  have e : HT.sIx l.length l.length (some (-1)) = l.length - 1 := by
    unfold HT.sIx
    simp only [show (-1 : Int) < 0 by decide, if_true]
    omega
  have e2 : HT.sIx l.length 0 (some (-1)) = l.length - 1 := by
    unfold HT.sIx
    simp only [show (-1 : Int) < 0 by decide, if_true]
    omega
  rw [e, e2, HT.sIx_none, HT.sIx_none]
  simp only [List.length_take, List.length_drop]
  omega
/-- _law_shortest(truths): told loosely -/
def spShort : Sp' := fun ds h Q _ => ∃ bs : List Bool, ds = [.lis (bs.map .bl)] ∧ 1 ≤ bs.length ∧ bs.length ≤ 1000 ∧ ∀ cs : List Bool, 1 ≤ cs.length → cs.length ≤ bs.length → Q (.lis (cs.map .bl)) h
theorem rd__law_shortest (ds : List D) (h : DH) (Q : VK') (E' : XK') (q : spShort ds h Q E') : t__law_shortest (ends Q) (slots n__law_shortest ds) h := by
  obtain ⟨bs, rfl, b1, b9, q⟩ := q
  show t__law_shortest (ends Q) [some (.lis (bs.map .bl)), none] h
  unfold t__law_shortest
  ((walk_at "dl7"); repeat (simp only [List.length_map]; (walk_at "dl7")))
  refine ⟨⟨by omega, by omega⟩, ?_⟩
  refine for_ind (fun xs τ g => ∃ (i : Int) (rem : Nat) (x1 : Option D), xs = rngD i rem ∧ 1 ≤ i ∧ i + rem ≤ bs.length ∧ τ = [some (.lis (bs.map .bl)), x1] ∧ g = h) ?_ ?_ _ _ _ ⟨1, ((bs.length : Int) - 1).toNat, none, rfl, by decide, by omega, rfl, rfl⟩
  · rintro τ g ⟨i, rem, x1, e, i1, _, rfl, rfl⟩
    rw [q_fnil]
    walk_at "dl7"
    exact fin (q bs b1 (Nat.le_refl _))
  · rintro x xs ih τ g ⟨i, rem, x1, e, i1, ir, rfl, rfl⟩
    cases rem with
    | zero => cases e
    | succ rem =>
      rw [rngD_succ] at e
      cases e
      rw [q_fcons]
      ((walk_at "dl7"); repeat (simp only [List.length_map, cut_map]; (walk_at "dl7")))
      refine ⟨by omega, ?_⟩
      refine sif_i (fun c => ?_) (fun c => ?_)
      · ((walk_at "dl7"); repeat (simp only [List.length_map, cut_map]; (walk_at "dl7")))
        refine eqLL (vals_bl _ 1) (vals_bl _ 1) (by decide) ?_
        walk_at "dl7"
        refine sif_i (fun c => ?_) (fun c => ?_)
        · ((walk_at "dl7"); repeat (simp only [cut_map]; (walk_at "dl7")))
          exact fin (q _ (cut_pre bs i1 (by omega)) (cut_len _ _ _))
        · walk_at "dl7"
          exact ih _ _ ⟨i + 1, rem, _, rfl, by omega, by omega, rfl, rfl⟩
      · walk_at "dl7"
        exact ih _ _ ⟨i + 1, rem, _, rfl, by omega, by omega, rfl, rfl⟩
theorem rngD_Z (lo : Int) (n : Nat) : ∃ l : List Int, rngD lo n = l.map D.int ∧ l.length = n := ⟨(List.range n).map fun k : Nat => lo + (k : Int), by
  refine ⟨?_, by simp⟩
  unfold rngD
  rw [List.map_map]
  apply List.map_congr_left
  intro i _
  rfl⟩
theorem at_last {bs : List Bool} (h : 1 ≤ bs.length) : ∃ b, atI (bs.map D.bl) (-1) = some (.bl b) := by
  have hi : bs.length - 1 < bs.length := by omega
  refine ⟨bs[bs.length - 1], ?_⟩
  unfold atI ixN
  rw [List.length_map, if_neg (by omega), if_pos (by omega), Option.bind_some, show ((-1 : Int) + (bs.length : Int)).toNat = bs.length - 1 by omega, List.getElem?_map, List.getElem?_eq_getElem hi]
  rfl
/-- _law_integers_of(theory, found): a letter set of integers -/
def spIntsOf : Sp' := fun ds h Q _ => ∃ (top md : Int) (fs : List Int), ds = [thy top md, .lis (fs.map .int)] ∧ 0 ≤ top ∧ top ≤ 200 ∧ 1 ≤ md ∧ md ≤ 100 ∧ ∀ lo bel mem hi abv, tailOk bel → tailOk abv → mem.length ≤ 1000 → Q (sD (.it lo bel mem hi abv)) h
theorem rd__law_integers_of (ds : List D) (h : DH) (Q : VK') (E' : XK') (q : spIntsOf ds h Q E') : t__law_integers_of spShort (ends Q) (slots n__law_integers_of ds) h := by
  obtain ⟨top, md, fs, rfl, h0, h1, m0, m1, q⟩ := q
  show t__law_integers_of _ (ends Q) [some (.tup [.int top, .int md]), some (.lis (fs.map .int)), none, none, none, none, none, none, none] h
  unfold t__law_integers_of
  walk_at "dl7"
  rw [q_lc]
  walk_at "dl7"
  refine ⟨⟨by omega, by omega, by omega, by omega⟩, ?_⟩
  intro p np
  obtain ⟨l1, e1, n1⟩ := rngD_Z (top + 1) (top + 1 + md - (top + 1)).toNat
  rw [e1]
  refine lc_all D.int (fun x => D.bl (fs.contains x)) trivial l1 [] (sz1000 (by simp only [List.length_nil]; omega)) ?_ ?_
  · intro x mx R r
    ((walk_at "dl7"); repeat (simp only [flat_int, inD_intl]; (walk_at "dl7")))
    exact ⟨rfl, r⟩
  rw [List.nil_append, del_put np]
  have eb : l1.map (fun x => D.bl (fs.contains x)) = (l1.map fun x => fs.contains x).map D.bl := by rw [List.map_map]; rfl
  rw [eb]
  walk_at "dl7"
  refine ⟨_, rfl, by rw [List.length_map]; omega, by rw [List.length_map]; omega, fun b1 b11 b12 => ?_⟩
  rw [List.length_map] at b12
  walk_at "dl7"
  rw [q_lc]
  walk_at "dl7"
  refine ⟨⟨by omega, by omega, by omega, by omega⟩, ?_⟩
  intro p np
  obtain ⟨l2, e2, n2⟩ := rngD_Z (top + 1) (top + 1 + md - (top + 1)).toNat
  rw [e2]
  refine lc_all D.int (fun x => D.bl (fs.contains (-x))) trivial l2 [] (sz1000 (by simp only [List.length_nil]; omega)) ?_ ?_
  · intro x mx R r
    ((walk_at "dl7"); repeat (simp only [flat_int, inD_intl]; (walk_at "dl7")))
    exact ⟨rfl, r⟩
  rw [List.nil_append, del_put np]
  have eb : l2.map (fun x => D.bl (fs.contains (-x))) = (l2.map fun x => fs.contains (-x)).map D.bl := by rw [List.map_map]; rfl
  rw [eb]
  walk_at "dl7"
  refine ⟨_, rfl, by rw [List.length_map]; omega, by rw [List.length_map]; omega, fun b2 b21 b22 => ?_⟩
  rw [List.length_map] at b22
  walk_at "dl7"
  refine ⟨by omega, by omega, ?_⟩
  have last : ∀ {lo hi : Int} {b1 b2 : List Bool} {x6 x7 x8 : Option D}, 1 ≤ b1.length → b1.length ≤ 1000 → 1 ≤ b2.length → b2.length ≤ 1000 → -500 ≤ lo → lo ≤ 0 → hi ≤ 500 → 0 ≤ hi →
      (tseq (tasg (tcb caTup (tac (tlc (trg2 (tac (to opAdd (tv 3) (tc (.int 1))) (tac (tv 2) tan))) 8 (tb' (to (opIn false) (tv 8) (tv 1))) (tv 8)) tan)) (gn 7))
    (tret (ttup (tac (tc (.str "integers")) (tac (ttup (tac (tv 3) (tac (tcb caTup (tac (tv 5) tan)) tan))) (tac (tv 7) (tac (ttup (tac (tv 2) (tac (tcb caTup (tac (tv 4) tan)) tan))) tan)))))))
        (ends Q) [some (.tup [.int top, .int md]), some (.lis (fs.map .int)), some (.int hi), some (.int lo), some (.lis (b1.map .bl)), some (.lis (b2.map .bl)), x6, x7, x8] h := fun {lo hi b1 b2 x6 x7 x8} c1 c2 c3 c4 c5 c5' c6 c6' => by
    walk_at "dl7"
    rw [q_lc]
    walk_at "dl7"
    · refine ⟨⟨by omega, by omega, by omega, by omega⟩, ?_⟩
      intro p np
      obtain ⟨l3, e3, n3⟩ := rngD_Z (lo + 1) (hi - (lo + 1)).toNat
      rw [e3]
      refine lc_map D.int (fun x => fs.contains x) D.int trivial l3 [] (sz1000 (by simp only [List.length_nil]; omega)) ?_ ?_ ?_
      · intro x mx R r
        ((walk_at "dl7"); repeat (simp only [flat_int, inD_intl]; (walk_at "dl7")))
        exact ⟨rfl, r⟩
      · intro x mx _ R r
        walk_at "dl7"
        exact r
      · rw [List.nil_append, del_put np]
        walk_at "dl7"
        exact fin (q lo b2 _ hi b1 ⟨c3, c4⟩ ⟨c1, c2⟩ (Nat.le_trans (List.length_filter_le _ _) (by omega)))
  have second : ∀ {hi : Int} {b1 : List Bool} {x6 : Option D}, 1 ≤ b1.length → b1.length ≤ 1000 → hi ≤ 500 → 0 ≤ hi →
      (tseq (tfor (trg1 (tac (to opIx (tv 0) (tc (.int 0))) tan)) (gn 6) (tseq (tifs (tb' (to opNe (to (opIn false) (to opAdd (tv 3) (tc (.int 1))) (tv 1)) (to opIx (tv 5) (tu unNeg (tc (.int 1)))))) tbr tnx)
    (tseq (tasg (to opAdd (tv 3) (tc (.int 1))) (gn 3))
    (tasg (to opAdd (tsl (tv 5) (tpe (tu unNeg (tc (.int 1)))) tpn) (tsl (tv 5) tpn (tpe (tu unNeg (tc (.int 1)))))) (gn 5)))))
    (tseq (tasg (tcb caTup (tac (tlc (trg2 (tac (to opAdd (tv 3) (tc (.int 1))) (tac (tv 2) tan))) 8 (tb' (to (opIn false) (tv 8) (tv 1))) (tv 8)) tan)) (gn 7))
    (tret (ttup (tac (tc (.str "integers")) (tac (ttup (tac (tv 3) (tac (tcb caTup (tac (tv 5) tan)) tan))) (tac (tv 7) (tac (ttup (tac (tv 2) (tac (tcb caTup (tac (tv 4) tan)) tan))) tan))))))))
        (ends Q) [some (.tup [.int top, .int md]), some (.lis (fs.map .int)), some (.int hi), some (.int (-(top + 1))), some (.lis (b1.map .bl)), some (.lis (b2.map .bl)), x6, none, none] h := fun {hi b1 x6} c1 c2 c3 c4 => by
    walk_at "dl7"
    refine ⟨by omega, by omega, ?_⟩
    refine for_ind (fun xs τ g => ∃ (rem : Nat) (i lo : Int) (bs : List Bool) (x6 : Option D), xs = rngD i rem ∧ τ = [some (.tup [.int top, .int md]), some (.lis (fs.map .int)), some (.int hi), some (.int lo), some (.lis (b1.map .bl)), some (.lis (bs.map .bl)), x6, none, none] ∧ 1 ≤ bs.length ∧ bs.length ≤ 1000 ∧ -500 ≤ lo ∧ lo + rem ≤ 0 ∧ g = h) ?_ ?_ _ _ _ ⟨top.toNat, 0, -(top + 1), b2, x6, rfl, rfl, b21, by omega, by omega, by omega, rfl⟩
    · rintro τ g ⟨rem, i, lo, bs, x6, e, rfl, l1, l9, hi0, hi9, rfl⟩
      exact ⟨trivial, last c1 c2 l1 l9 hi0 (by omega) c3 c4⟩
    · rintro x xs ih τ g ⟨rem, i, lo, bs, x6, e, rfl, l1, l9, hi0, hi9, rfl⟩
      cases rem with
      | zero => cases e
      | succ rem =>
        rw [rngD_succ] at e
        cases e
        rw [q_fcons]
        ((walk_at "dl7"); repeat (simp only [flat_int, inD_intl]; (walk_at "dl7")))
        refine ⟨rfl, ?_⟩
        obtain ⟨b, eb⟩ := at_last l1
        rw [q_ixl]
        refine ⟨_, eb, ?_⟩
        walk_at "dl7"
        refine sif_i (fun c => ?_) (fun c => ?_)
        · exact last c1 c2 l1 l9 hi0 (by omega) c3 c4
        · ((walk_at "dl7"); repeat (simp only [cut_map]; (walk_at "dl7")))
          refine ⟨sz1000 (by have := cut_rot bs l1; simp only [List.length_map]; omega), ?_⟩
          rw [← List.map_append]
          exact ih _ _ ⟨rem, i + 1, lo + 1, _, _, rfl, rfl, by have := cut_rot bs l1; rw [List.length_append]; omega, by have := cut_rot bs l1; rw [List.length_append]; omega, by omega, by omega, rfl⟩
  refine for_ind (fun xs τ g => ∃ (rem : Nat) (i hi : Int) (bs : List Bool) (x6 : Option D), xs = rngD i rem ∧ τ = [some (.tup [.int top, .int md]), some (.lis (fs.map .int)), some (.int hi), some (.int (-(top + 1))), some (.lis (bs.map .bl)), some (.lis (b2.map .bl)), x6, none, none] ∧ 1 ≤ bs.length ∧ bs.length ≤ 1000 ∧ 0 ≤ hi - rem ∧ hi ≤ top + 1 ∧ g = h) ?_ ?_ _ _ _ ⟨(top + 1).toNat, 0, top + 1, b1, none, rfl, rfl, b11, by omega, by omega, by omega, rfl⟩
  · rintro τ g ⟨rem, i, hi, bs, x6, e, rfl, l1, l9, hi0, hi9, rfl⟩
    exact ⟨trivial, second l1 l9 (by omega) (by omega)⟩
  · rintro x xs ih τ g ⟨rem, i, hi, bs, x6, e, rfl, l1, l9, hi0, hi9, rfl⟩
    cases rem with
    | zero => cases e
    | succ rem =>
      rw [rngD_succ] at e
      cases e
      rw [q_fcons]
      ((walk_at "dl7"); repeat (simp only [flat_int, inD_intl]; (walk_at "dl7")))
      refine ⟨rfl, ?_⟩
      obtain ⟨b, eb⟩ := at_last l1
      rw [q_ixl]
      refine ⟨_, eb, ?_⟩
      walk_at "dl7"
      refine sif_i (fun c => ?_) (fun c => ?_)
      · exact second l1 l9 (by omega) (by omega)
      · ((walk_at "dl7"); repeat (simp only [cut_map]; (walk_at "dl7")))
        refine ⟨sz1000 (by have := cut_rot bs l1; simp only [List.length_map]; omega), ?_⟩
        rw [← List.map_append]
        exact ih _ _ ⟨rem, i + 1, hi - 1, _, _, rfl, rfl, by have := cut_rot bs l1; rw [List.length_append]; omega, by have := cut_rot bs l1; rw [List.length_append]; omega, by omega, by omega, rfl⟩
end K22

-- set2
set_option Elab.async false
set_option linter.all false
set_option maxRecDepth 100000
set_option maxHeartbeats 1000000
namespace K22
open PySem PySem.Spec PyProof.Rows L2 DL K00 K01 K04
theorem dPut_len (ps : List (Key × D)) (k : Key) (d : D) : (dPut ps k d).length ≤ ps.length + 1 := by
  unfold dPut; split
  · rw [List.length_map]; omega
  · simp
theorem dPut_mem {ps : List (Key × D)} {k : Key} {d : D} {p : Key × D} (m : p ∈ dPut ps k d) : p ∈ ps ∨ p.2 = d := by
  unfold dPut at m
  split at m
  · obtain ⟨q, mq, rfl⟩ := List.mem_map.mp m
    split
    · exact .inr rfl
    · exact .inl mq
  · rcases List.mem_append.mp m with m | m
    · exact .inl m
    · rw [List.mem_singleton.mp m]; exact .inr rfl
theorem dV_mem {ps : List (Key × D)} {k : Key} {d : D} (e : dV ps k = some d) : ∃ p ∈ ps, p.2 = d := by
  unfold dV at e
  cases f : ps.find? (fun p => decide (p.1 = k)) with
  | none => rw [f] at e; cases e
  | some p => rw [f] at e; cases e; exact ⟨p, List.mem_of_find?_eq_some f, rfl⟩
def allI (ps : List (Key × D)) : Prop := ∀ p ∈ ps, ∃ j : Int, p.2 = .int j
theorem dV_int {ps : List (Key × D)} (h : allI ps) (k : Key) (j : Int) : ∃ i : Int, (dV ps k).getD (.int j) = .int i := by
  cases e : dV ps k with
  | none => exact ⟨j, rfl⟩
  | some d =>
    obtain ⟨p, m, rfl⟩ := dV_mem e
    exact h p m
/-- _law_integer_groups(tape, theory, many) -/
def spGroups : Sp' := fun ds h Q _ => ∃ (a : Addr) (top md many : Int), ds = [.ref a, thy top md, .int many] ∧ 0 ≤ top ∧ top ≤ 200 ∧ 1 ≤ md ∧ md ≤ 100 ∧ 1 ≤ many ∧ many ≤ 10 ∧ Tp h a ∧
  ∀ (p : Addr) (ls : List Ls) (t : DO), h p = none → p ≠ a → (ls.length : Int) = many → (∀ s ∈ ls, wfS .it s) → TOk t → Q (.ref p) (put (put h a t) p (.lst (ls.map sD)))
theorem at_ints {xs : List Int} {i : Int} (h0 : 0 ≤ i) (h1 : i < (xs.length : Int)) : ∃ j ∈ xs, atI (xs.map D.int) i = some (.int j) := by
  obtain ⟨d, e, m⟩ := pick (xs := xs.map D.int) h0 (by rw [List.length_map]; exact h1)
  obtain ⟨j, mj, rfl⟩ := List.mem_map.mp m
  exact ⟨j, mj, e⟩
theorem draws {a : Addr} {h : DH} {n : Nat} {m : Int} {te : TE'} {τ : St'} {Q : List D → DH → Prop} {p : Addr} (pa : p ≠ a) (hm : 0 ≤ m) (hm9 : m < 1000000)
    (he : ∀ (x : D) (t : DO) (R : VK'), TOk t → (∀ (r : Int) t', TOk t' → R (.int r) (put (put h a t') p .hid)) → te (τ.set n (some x)) (put (put h a t) p .hid) R) :
    ∀ (xs : List D) (as : List Int) (t : DO), as.length + xs.length ≤ 1000 → TOk t → (∀ (bs : List Int) t, bs.length = as.length + xs.length → TOk t → Q (bs.map .int) (put (put h a t) p .hid)) → lcS n tyes te (fun _ => True) τ Q xs (as.map .int) (put (put h a t) p .hid)
  | [], as, t, _, ot, q => by rw [q_lnil]; exact ⟨trivial, q as t (by simp) ot⟩
  | x :: xs, as, t, hl, ot, q => by
    simp only [List.length_cons] at hl
    rw [q_lcons]
    refine ⟨trivial, ?_⟩
    rw [q_yes, sif_t]
    refine he x t _ ot fun r t' ot' => ⟨Nat.lt_of_le_of_lt (show _ ≤ 1000 by rw [List.length_map]; omega) (by decide), ?_⟩
    have e : as.map D.int ++ [.int r] = (as ++ [r]).map D.int := by simp
    rw [e]
    exact draws pa hm hm9 he xs (as ++ [r]) t' (by simp only [List.length_append, List.length_cons, List.length_nil]; omega) ot' fun bs t el ot => q bs t (by rw [el]; simp only [List.length_append, List.length_cons, List.length_nil]; omega) ot
theorem rd__law_integer_groups (ds : List D) (h : DH) (Q : VK') (E' : XK') (q : spGroups ds h Q E') : t__law_integer_groups spDraw spIntsOf (ends Q) (slots n__law_integer_groups ds) h := by
  obtain ⟨a, top, md, many, rfl, h0, h1, m0, m1, y1, y9, tp, q⟩ := q
  show t__law_integer_groups _ _ (ends Q) [some (.ref a), some (.tup [.int top, .int md]), some (.int many), none, none, none, none, none, none, none, none, none, none, none, none, none, none] h
  unfold t__law_integer_groups
  obtain ⟨t0, et, ot⟩ := tp
  have hh : h = put h a t0 := (put_get et).symm
  walk_at "dl7"
  rw [q_lc]
  walk_at "dl7"
  intro p np
  have i0 : 0 ≤ min top 19 := by omega
  have i9 : min top 19 ≤ 19 := by omega
  generalize ht : min top 19 = tp0 at i0 i9 ⊢
  refine lc_map D.int (fun x => decide (md % x = 0)) D.int trivial [1, 1, 2, 3, 4, 6, 12] [] (by decide) ?_ ?_ ?_
  · intro x mx R r
    have hx : 0 < x := by
      simp only [List.mem_cons, List.not_mem_nil, or_false] at mx
      omega
    walk_at "dl7"
    exact ⟨hx, r⟩
  · intro x mx _ R r
    walk_at "dl7"
    exact r
  rw [List.nil_append, del_put np]
  have sz : ∀ x ∈ [1, 1, 2, 3, 4, 6, 12].filter (fun x : Int => decide (md % x = 0)), 1 ≤ x ∧ x ≤ 12 := fun x m => by
    have m := (List.mem_filter.mp m).1
    simp only [List.mem_cons, List.not_mem_nil, or_false] at m
    omega
  have s1 : 1 ≤ ([1, 1, 2, 3, 4, 6, 12].filter (fun x : Int => decide (md % x = 0))).length := List.length_pos_of_mem (a := 1) (List.mem_filter.mpr ⟨by simp, by simp [Int.emod_one]⟩)
  have s9 : ([1, 1, 2, 3, 4, 6, 12].filter (fun x : Int => decide (md % x = 0))).length ≤ 7 := List.length_filter_le _ _
  generalize [1, 1, 2, 3, 4, 6, 12].filter (fun x : Int => decide (md % x = 0)) = szs at sz s1 s9
  ((walk_at "dl7"); repeat (simp only [List.length_map]; (walk_at "dl7")))
  rw [q_lc]
  ((walk_at "dl7"); repeat (simp only [List.length_map]; (walk_at "dl7")))
  refine drw ⟨t0, et, ot⟩ (fun r t r0 r1 ot => ?_) (by omega)
  obtain ⟨j, mj, ej⟩ := at_ints (xs := szs) r0 (by omega)
  have jj := sz j mj
  walk_at "dl7"
  rw [q_ixl]
  refine ⟨_, ej, ?_⟩
  walk_at "dl7"
  refine ⟨by omega, by omega, ?_⟩
  intro p np
  have pa := ne_put np
  have nh := free_put np
  have rl : (rngD 0 j.toNat).length = j.toNat := by obtain ⟨l, e, n⟩ := rngD_Z 0 j.toNat; rw [e, List.length_map, n]
  refine draws (m := many + 1) pa (by omega) (by omega) ?_ _ [] t (by simp only [List.length_nil, rl]; omega) ot ?_
  · intro x t R ot hr
    walk_at "dl7"
    refine drwU pa ot (fun r t r0 r1 ot => ?_) (by omega)
    exact hr r t ot
  intro ab t abl ot
  rw [List.length_nil, Nat.zero_add, rl] at abl
  rw [del_put (by rw [put_ne pa]; exact nh)]
  ((walk_at "dl7"); repeat (simp only [List.length_map]; (walk_at "dl7")))
  rw [q_lc]
  ((walk_at "dl7"); repeat (simp only [List.length_map]; (walk_at "dl7")))
  refine drw (tp_put ot) (fun r t r0 r1 ot => ?_) (by omega)
  obtain ⟨j2, mj2, ej2⟩ := at_ints (xs := szs) r0 (by omega)
  have jj2 := sz j2 mj2
  walk_at "dl7"
  rw [q_ixl]
  refine ⟨_, ej2, ?_⟩
  walk_at "dl7"
  refine ⟨by omega, by omega, ?_⟩
  intro p np
  have pa := ne_put np
  have nh := free_put np
  have rl2 : (rngD 0 j2.toNat).length = j2.toNat := by obtain ⟨l, e, n⟩ := rngD_Z 0 j2.toNat; rw [e, List.length_map, n]
  refine draws (m := many + 1) pa (by omega) (by omega) ?_ _ [] t (by simp only [List.length_nil, rl2]; omega) ot ?_
  · intro x t R ot hr
    walk_at "dl7"
    refine drwU pa ot (fun r t r0 r1 ot => ?_) (by omega)
    exact hr r t ot
  intro be t bel ot
  rw [List.length_nil, Nat.zero_add, rl2] at bel
  rw [del_put (by rw [put_ne pa]; exact nh)]
  walk_at "dl7"
  refine drw (tp_put ot) (fun c t c0 c1 ot => ?_) (by omega)
  walk_at "dl7"
  refine drw (tp_put ot) (fun r t r0 r1 ot => ?_)
  walk_at "dl7"
  obtain ⟨cut, _, ec⟩ := at_ints (xs := [0, c - tp0]) r0 (by simp only [List.length_cons, List.length_nil]; omega)
  simp only [List.map_cons, List.map_nil] at ec
  rw [q_ixl]
  refine ⟨_, ec, ?_⟩
  walk_at "dl7"
  intro p1 np1
  have pa1 := ne_put np1
  have nh1 := free_put np1
  refine drwU pa1 ot (fun z t z0 z1 ot => ?_)
  walk_at "dl7"
  refine ⟨by omega, by omega, ?_⟩
  refine for_ind (fun xs τ g => ∃ (i : Int) (rem : Nat) (ps : List (Key × D)) (t : DO) (x5 : Option D), xs = rngD i rem ∧ τ = [some (.ref a), some (.tup [.int top, .int md]), some (.int many), some (.tup [.int tp0, .int md]), some (.lis (szs.map .int)), x5, some (.lis (ab.map .int)), some (.lis (be.map .int)), some (.int cut), some (.ref p1), none, none, none, none, none, none, none] ∧
    ps.length + rem ≤ 10 ∧ allI ps ∧ g = put (put h a t) p1 (.dct ps) ∧ TOk t) ?_ ?_ _ _ _ ⟨0, z.toNat, [], t, _, rfl, rfl, by simp only [List.length_nil]; omega, (fun _ m => by cases m), rfl, ot⟩
  · rintro τ g ⟨i, rem, ps, t, x5, e, rfl, pl, hp, rfl, ot⟩
    rw [q_fnil]
    walk_at "dl7"
    intro p2 np2
    have p21 := ne_put np2
    have np2' := free_put np2
    have p2a := ne_put np2'
    have nh2 := free_put np2'
    refine ⟨⟨by omega, by omega, by omega, by omega⟩, ?_⟩
    refine for_ind (fun xs τ g => ∃ (i : Int) (rem : Nat) (ns : List Int) (x5 x12 x13 : Option D), xs = rngD i rem ∧ τ = [some (.ref a), some (.tup [.int top, .int md]), some (.int many), some (.tup [.int tp0, .int md]), some (.lis (szs.map .int)), x5, some (.lis (ab.map .int)), some (.lis (be.map .int)), some (.int cut), some (.ref p1), some (.int (tp0 + md)), some (.ref p2), x12, x13, none, none, none] ∧
      ns.length + rem = (tp0 + md + 1 - -(tp0 + md)).toNat ∧ g = put (put (put h a t) p1 (.dct ps)) p2 (.lst (ns.map .int))) ?_ ?_ _ _ _ ⟨-(tp0 + md), (tp0 + md + 1 - -(tp0 + md)).toNat, [], x5, none, none, rfl, rfl, by simp, rfl⟩
    · rintro τ g ⟨i, rem, ns, x5, x12, x13, e, rfl, nl, rfl⟩
      have r0 : rem = 0 := by
        cases rem with
        | zero => rfl
        | succ n => rw [rngD_succ] at e; cases e
      subst r0
      rw [q_fnil]
      walk_at "dl7"
      intro p3 np3
      have p32 := ne_put np3
      have np3' := free_put np3
      have p31 := ne_put np3'
      have np3'' := free_put np3'
      have p3a := ne_put np3''
      have nh3 := free_put np3''
      refine ⟨by omega, by omega, ?_⟩
      refine for_ind (fun xs τ g => ∃ (i : Int) (rem : Nat) (ls : List Ls) (x5 x12 x13 x15 : Option D), xs = rngD i rem ∧ τ = [some (.ref a), some (.tup [.int top, .int md]), some (.int many), some (.tup [.int tp0, .int md]), some (.lis (szs.map .int)), x5, some (.lis (ab.map .int)), some (.lis (be.map .int)), some (.int cut), some (.ref p1), some (.int (tp0 + md)), some (.ref p2), x12, x13, some (.ref p3), x15, none] ∧
        (ls.length : Int) + rem = many ∧ (∀ s ∈ ls, wfS .it s) ∧ g = put (put (put (put h a t) p1 (.dct ps)) p2 (.lst (ns.map .int))) p3 (.lst (ls.map sD))) ?_ ?_ _ _ _ ⟨0, many.toNat, [], x5, x12, x13, none, rfl, rfl, by simp only [List.length_nil]; omega, (fun _ m => by cases m), rfl⟩
      · rintro τ g ⟨i, rem, ls, x5, x12, x13, x15, e, rfl, ll, hs, rfl⟩
        have r0 : rem = 0 := by
          cases rem with
          | zero => rfl
          | succ n => rw [rngD_succ] at e; cases e
        subst r0
        rw [q_fnil]
        walk_at "dl7"
        have n1 : put h a t p1 = none := by rw [put_ne pa1]; exact nh1
        have n2 : put h a t p2 = none := by rw [put_ne p2a]; exact nh2
        refine ⟨put (put h a t) p3 (.lst (ls.map sD)), Sub.put2 (Sub.put (Sub.putO Sub.refl n1 rfl) ?_), q p3 ls t nh3 p3a (by omega) hs ot⟩
        exact n2
      · rintro x xs ih τ g ⟨i, rem, ls, x5, x12, x13, x15, e, rfl, ll, hs, rfl⟩
        cases rem with
        | zero => cases e
        | succ rem =>
          rw [rngD_succ] at e
          cases e
          rw [q_fcons]
          ((walk_at "dl7"); repeat (simp only [ownK]; (walk_at "dl7")))
          rw [q_lc]
          walk_at "dl7"
          refine ⟨⟨by omega, by omega, by omega, by omega⟩, ?_⟩
          intro p4 np4
          have p43 := ne_put np4
          have np4' := free_put np4
          have p42 := ne_put np4'
          have lkp : ∀ {o : DO}, put (put (put (put (put h a t) p1 (.dct ps)) p2 (.lst (ns.map .int))) p3 (.lst (ls.map sD))) p4 o p2 = some (.lst (ns.map .int)) := fun {o} => by
            rw [put_ne (Ne.symm p42), put_ne (Ne.symm p32), put_same]
          let pk (x : Int) : Int := (ns.getD (x + (tp0 + md)).toNat 0)
          obtain ⟨zl, ez, zn⟩ := rngD_Z (-(tp0 + md)) (tp0 + md + 1 - -(tp0 + md)).toNat
          have zm : ∀ x ∈ zl, -(tp0 + md) ≤ x ∧ x ≤ tp0 + md := fun x mx => by
            have : D.int x ∈ rngD (-(tp0 + md)) (tp0 + md + 1 - -(tp0 + md)).toNat := by rw [ez]; exact List.mem_map.mpr ⟨x, mx, rfl⟩
            unfold rngD at this
            obtain ⟨k, mk, ek⟩ := List.mem_map.mp this
            have := List.mem_range.mp mk
            cases ek
            omega
          rw [ez]
          refine lc_map D.int (fun x => decide (pk x = i)) D.int trivial zl [] (sz1000 (by simp only [List.length_nil]; omega)) ?_ ?_ ?_
          · intro x mx R r
            have xx := zm x mx
            have hk : (x + (tp0 + md)).toNat < ns.length := by omega
            have ex : atI (ns.map D.int) (x + (tp0 + md)) = some (.int (pk x)) := by
              have z : atI (ns.map D.int) (((x + (tp0 + md)).toNat : Nat) : Int) = some (.int (pk x)) := atI_nat (by
                rw [List.getElem?_map, List.getElem?_eq_getElem hk]
                show some (D.int _) = some (D.int (ns.getD _ 0))
                rw [List.getD_eq_getElem?_getD, List.getElem?_eq_getElem hk]; rfl)
              rwa [show (((x + (tp0 + md)).toNat : Nat) : Int) = x + (tp0 + md) by omega] at z
            ((walk_at "dl7"); repeat (simp only [ownK, lkp]; (walk_at "dl7")))
            rw [q_ixl]
            refine ⟨_, ex, ?_⟩
            walk_at "dl7"
            exact r
          · intro x mx _ R r
            walk_at "dl7"
            exact r
          · rw [List.nil_append, del_put np4]
            walk_at "dl7"
            refine ⟨tp0, md, _, rfl, by omega, by omega, by omega, by omega, fun lo bel mem hi abv w1 w2 w3 => ?_⟩
            ((walk_at "dl7"); repeat (simp only [ownK]; (walk_at "dl7")))
            refine ⟨Nat.lt_of_le_of_lt (show _ ≤ 1000 by rw [List.length_map]; omega) (by decide), ?_⟩
            refine ih _ _ ⟨i + 1, rem, ls ++ [.it lo bel mem hi abv], x5, _, x13, _, rfl, rfl, by rw [List.length_append]; simp only [List.length_cons, List.length_nil]; omega, fun s m => ?_, by rw [List.map_append]; rfl⟩
            rcases List.mem_append.mp m with m | m
            · exact hs s m
            · rw [List.mem_singleton.mp m]; simp only [wfS]; exact ⟨w1, w2, w3⟩
    · rintro x xs ih τ g ⟨i, rem, ns, x5, x12, x13, e, rfl, nl, rfl⟩
      cases rem with
      | zero => cases e
      | succ rem =>
        rw [rngD_succ] at e
        cases e
        rw [q_fcons]
        have lk1 : put (put (put h a t) p1 (.dct ps)) p2 (.lst (ns.map .int)) p1 = some (.dct ps) := by rw [put_ne (Ne.symm p21), put_same]
        ((walk_at "dl7"); repeat (simp only [ownK]; (walk_at "dl7")))
        obtain ⟨sd, es, sl1, sl9⟩ : ∃ sd : List Int, atI [D.lis (be.map .int), .lis (ab.map .int)] (if decide (cut ≤ i) = true then 1 else 0) = some (.lis (sd.map .int)) ∧ 1 ≤ sd.length ∧ sd.length ≤ 12 := by
          by_cases hc : cut ≤ i
          · exact ⟨ab, by rw [decide_eq_true hc]; rfl, by omega, by omega⟩
          · exact ⟨be, by rw [decide_eq_false hc]; rfl, by omega, by omega⟩
        rw [q_ixl]
        refine ⟨_, es, ?_⟩
        ((walk_at "dl7"); repeat (simp only [ownK, List.length_map]; (walk_at "dl7")))
        refine ⟨⟨ps, lk1⟩, by omega, ?_⟩
        rw [q_ixl]
        obtain ⟨dj, _, edj⟩ := at_ints (xs := sd) (i := (i - cut).natAbs % (sd.length : Int)) (Int.emod_nonneg _ (by omega)) (Int.emod_lt_of_pos _ (by omega))
        refine ⟨_, edj, ?_⟩
        refine ⟨p1, ps, .inl i, rfl, rfl, lk1, ?_⟩
        obtain ⟨u, eu⟩ := dV_int hp (.inl i) dj
        rw [eu]
        ((walk_at "dl7"); repeat (simp only [ownK]; (walk_at "dl7")))
        refine ⟨Nat.lt_of_le_of_lt (show _ ≤ 1000 by rw [List.length_map]; omega) (by decide), ?_⟩
        refine ih _ _ ⟨i + 1, rem, ns ++ [u], x5, _, _, rfl, rfl, by rw [List.length_append]; simp only [List.length_cons, List.length_nil]; omega, by rw [List.map_append]; rfl⟩
  · rintro x xs ih τ g ⟨i, rem, ps, t, x5, e, rfl, pl, hp, rfl, ot⟩
    cases rem with
    | zero => cases e
    | succ rem =>
      rw [rngD_succ] at e
      cases e
      rw [q_fcons]
      walk_at "dl7"
      refine drwU pa1 ot (fun v t v0 v1 ot => ?_) (by omega)
      walk_at "dl7"
      refine drwU pa1 ot (fun w t w0 w1 ot => ?_) (by omega)
      walk_at "dl7"
      refine ⟨p1, ps, .inl (w - tp0), rfl, rfl, put_same, Nat.lt_of_le_of_lt (show _ ≤ 10 by omega) (by decide), ?_⟩
      rw [put_put]
      refine ih _ _ ⟨i + 1, rem, _, t, _, rfl, rfl, by have := dPut_len ps (.inl (w - tp0)) (.int v); omega, fun p m => ?_, rfl, ot⟩
      rcases dPut_mem m with m | m
      · exact hp p m
      · exact ⟨v, m⟩
end K22

-- set2
set_option Elab.async false
set_option linter.all false
set_option maxRecDepth 100000
set_option maxHeartbeats 1000000
namespace K22
open PySem PySem.Spec PyProof.Rows L2 DL K00 K01 K04
/-- _law_leaf_set(tape, kind, theory) -/
def spLeafSet (n : Nat) : Sp' := fun ds h Q _ => ∃ (a : Addr) (k : Kd) (top md : Int), ds = [.ref a, kD k, thy top md] ∧ k.ok ∧ k.depth ≤ n ∧ 0 ≤ top ∧ top ≤ 200 ∧ 1 ≤ md ∧ md ≤ 100 ∧ k.cnt ≤ 100 ∧ Tp h a ∧ ∀ c t, Gd wf3 tru k c → c.cnt ≤ n → TOk t → Q (cD c) (put h a t)
theorem rd__law_leaf_set (n : Nat) (ds : List D) (h : DH) (Q : VK') (E' : XK') (q : spLeafSet (n + 1) ds h Q E') : t__law_leaf_set spDraw (spLeafSet n) spGroups (ends Q) (slots n__law_leaf_set ds) h := by
  obtain ⟨a, k, top, md, rfl, hk, hd, h0, h1, m0, m1, hc, tp, q⟩ := q
  show t__law_leaf_set _ _ _ (ends Q) [some (.ref a), some (kD k), some (.tup [.int top, .int md]), none, none, none] h
  unfold t__law_leaf_set
  obtain ⟨t0, et, ot⟩ := tp
  have hh : h = put h a t0 := (put_get et).symm
  cases k with
  | nm ns =>
    simp only [kD]
    walk_at "dl7"
    rw [q_lc]
    walk_at "dl7"
    intro p np
    have pa : p ≠ a := fun e => by rw [e, et] at np; cases np
    refine lc_ind (fun xs acc g => ∃ (rs as : List Str) (t : DO), xs = rs.map D.str ∧ acc = as.map D.str ∧ as.length + rs.length ≤ 4 ∧ g = put (put h a t) p .hid ∧ TOk t) ?_ ?_ _ _ _ ⟨ns, [], t0, rfl, rfl, by simpa using hk.2.1, by rw [← hh], ot⟩
    · rintro acc g ⟨rs, as, t, e, rfl, hl, rfl, ot⟩
      rw [q_lnil]
      walk_at "dl7"
      rw [del_put (by rw [put_ne pa]; exact np)]
      exact fin (q (.inn (.nm as)) t ⟨trivial, by simp only [domC]; exact ⟨show 1 ≤ 3 by decide, by simp only [wfS]; omega⟩, rfl⟩ (by simp only [Cn.cnt]; omega) ot)
    · rintro x xs ih acc g ⟨rs, as, t, e, rfl, hl, rfl, ot⟩
      cases rs with
      | nil => cases e
      | cons s rs =>
        simp only [List.map_cons, List.cons.injEq] at e
        obtain ⟨rfl, rfl⟩ := e
        simp only [List.length_cons] at hl
        rw [q_lcons]
        walk_at "dl7"
        refine drwU pa ot (fun r t r0 r1 ot => ?_)
        walk_at "dl7"
        refine sif_i (fun c => ?_) (fun c => ?_)
        · walk_at "dl7"
          refine ⟨Nat.lt_of_le_of_lt (show _ ≤ 1000 by rw [List.length_map]; omega) (by decide), ih _ _ ⟨rs, as ++ [s], t, rfl, by simp, by rw [List.length_append]; simp only [List.length_cons, List.length_nil]; omega, rfl, ot⟩⟩
        · exact ih _ _ ⟨rs, as, t, rfl, rfl, by omega, rfl, ot⟩
  | it =>
    simp only [kD]
    walk_at "dl7"
    refine ⟨a, top, md, 1, rfl, h0, h1, m0, m1, by decide, by decide, ⟨t0, et, ot⟩, fun p ls t np pa ll hs ot => ?_⟩
    ((walk_at "dl7"); repeat (simp only [ownK]; (walk_at "dl7")))
    cases ls with
    | nil => simp at ll
    | cons s ls =>
      rw [List.map_cons, q_ixl]
      refine ⟨sD s, (show atI (sD s :: ls.map sD) ((0 : Nat) : Int) = some (sD s) from atI_nat rfl), ?_⟩
      walk_at "dl7"
      exact ⟨put h a t, Sub.put Sub.refl (by rw [put_ne pa]; exact np), q (.inn s) t ⟨trivial, by simp only [domC]; exact ⟨show 1 ≤ 3 by decide, hs s List.mem_cons_self⟩, rfl⟩ (by simp only [Cn.cnt]; omega) ot⟩
  | pr k1 k2 =>
    simp only [Kd.depth] at hd
    simp only [Kd.cnt] at hc
    simp only [kD]
    walk_at "dl7"
    refine drw ⟨t0, et, ot⟩ (fun r t r0 r1 ot => ?_)
    have rr : r = 0 ∨ r = 1 := by omega
    rcases rr with rfl | rfl
    · walk_at "dl7"
      refine ⟨a, k1, top, md, rfl, hk.1, by omega, h0, h1, m0, m1, by omega, tp_put ot, fun c t g cc ot => ?_⟩
      walk_at "dl7"
      exact fin (q (.fs c) t ⟨g.1, by simpa [domC] using g.2.1, by simpa [fitsC] using g.2.2⟩ (by simp only [Cn.cnt]; omega) ot)
    · walk_at "dl7"
      refine ⟨a, k2, top, md, rfl, hk.2, by omega, h0, h1, m0, m1, by omega, tp_put ot, fun c t g cc ot => ?_⟩
      walk_at "dl7"
      exact fin (q (.sn c) t ⟨g.1, by simpa [domC] using g.2.1, by simpa [fitsC] using g.2.2⟩ (by simp only [Cn.cnt]; omega) ot)
  | ei ks =>
    simp only [Kd.depth] at hd
    simp only [Kd.cnt] at hc
    have ln := Kd.len_cnts ks
    have l1 : 1 ≤ ks.length := hk.1
    simp only [kD]
    walk_at "dl7"
    refine drw ⟨t0, et, ot⟩ (fun r t r0 r1 ot => ?_) (by rw [len_kDs]; omega)
    rw [len_kDs] at r1
    have hr : r.toNat < ks.length := by omega
    have eg := List.getElem?_eq_getElem hr
    have mk := List.getElem_mem hr
    have m1' := Kd.depth_mem mk
    have m2 := Kd.cnt_mem mk
    walk_at "dl7"
    rw [q_ixt]
    refine ⟨_, atI_kDs r0 eg, ?_⟩
    walk_at "dl7"
    refine ⟨a, ks[r.toNat], top, md, rfl, Kd.oks_mem.mp hk.2 _ mk, by omega, h0, h1, m0, m1, by omega, tp_put ot, fun c t g cc ot => ?_⟩
    walk_at "dl7"
    exact fin (q (.cs r c) t ⟨⟨r0, g.1⟩, by simp only [domC]; intro k e2; rw [eg] at e2; cases e2; exact g.2.1, by simpa [fitsC, eg] using g.2.2⟩ (by simp only [Cn.cnt]; omega) ot)
  | mb k1 =>
    simp only [Kd.depth] at hd
    simp only [Kd.cnt] at hc
    simp only [kD]
    walk_at "dl7"
    refine ⟨a, k1, top, md, rfl, hk, by omega, h0, h1, m0, m1, by omega, ⟨t0, et, ot⟩, fun c t g cc ot => ?_⟩
    walk_at "dl7"
    exact fin (q (.so c) t ⟨g.1, by simpa [domC] using g.2.1, by simpa [fitsC] using g.2.2⟩ (by simp only [Cn.cnt]; omega) ot)
theorem allL_take {k : Kd} {w : List D} (h : allL k w = true) (n : Nat) : allL k (w.take n) = true := by
  unfold allL at h ⊢
  rw [List.all_eq_true] at h ⊢
  exact fun x m => h x (List.mem_of_mem_take m)
theorem allL_drop {k : Kd} {w : List D} (h : allL k w = true) (n : Nat) : allL k (w.drop n) = true := by
  unfold allL at h ⊢
  rw [List.all_eq_true] at h ⊢
  exact fun x m => h x (List.mem_of_mem_drop m)
theorem allL_val {k : Kd} {w : List D} (o : k.ok) (hd : k.depth ≤ 3) (h : allL k w = true) : ∀ v ∈ w, val v 40 = true := by
  unfold allL at h
  rw [List.all_eq_true] at h
  exact fun v m => val_mono _ _ _ (by omega) (val_of o (h v m))
theorem rd_law (ds : List D) (h : DH) (Q : VK') (E' : XK') (q : spLaw ds h Q E') : t_law spTape spAnyKind spDraw spMachine (spLeafSet 3) spOther spGoing spAnsw (spNear 3) K02.spWord (ends Q) (slots n_law ds) h := by
  obtain ⟨ns, rfl, hl, hn, q⟩ := q
  show t_law _ _ _ _ _ _ _ _ _ _ (ends Q) [some (.scr ns), none, none, none, none, none, none, none, none, none, none, none] h
  unfold t_law
  have done : ∀ h', (ends Q).rt (.bl true) h' := fun h' => fin (q h')
  walk_at "dl7"
  refine ⟨ns, rfl, fun a t na ot => ?_⟩
  walk_at "dl7"
  refine ⟨a, rfl, tp_put ot, fun k t hk kd kc ot => ?_⟩
  walk_at "dl7"
  refine drw (tp_put ot) (fun r t r0 r1 ot => ?_)
  walk_at "dl7"
  obtain ⟨room, mr, er⟩ := at_ints (xs := [2, 4, 8]) r0 (by simp only [List.length_cons, List.length_nil]; omega)
  have rr : 1 ≤ room ∧ room ≤ 8 := by
    simp only [List.mem_cons, List.not_mem_nil, or_false] at mr
    omega
  rw [q_ixl]
  refine ⟨_, er, ?_⟩
  walk_at "dl7"
  refine ⟨a, k, 20, 12, 4, 6, room, rfl, hk, kd, by omega, by decide, by decide, by decide, by decide, by decide, by decide, rr.1, rr.2, tp_put ot, fun M t dm ml mn ot => ?_⟩
  obtain ⟨oM, rfl, dM⟩ := dm
  unfold mD tI
  walk_at "dl7"
  intro p np
  have pa := ne_put np
  have nh := free_put np
  refine ⟨fun τ g => ∃ (sp : List (Int × Cn × Int)) (t : DO) (x6 : Option D), τ = [some (.scr ns), some (.ref a), some (kD M.k), some (.tup [.int 20, .int 12]), some (.tup [kD M.k, .int M.n, .tup (M.st.map .int), .tup (M.en.map .int), .tup (M.sp.map stD)]), some (.ref p), x6, none, none, none, none, none] ∧
    sp.length ≤ 50 ∧ (∀ s ∈ sp, 0 ≤ s.1 ∧ s.1 < M.n ∧ 0 ≤ s.2.2 ∧ s.2.2 < M.n ∧ cnOk M.k s.2.1) ∧ g = put (put h a t) p (.lst (sp.map stD)) ∧ TOk t, ?_, ?_⟩
  · ((walk_at "dl7"); repeat (simp only [ownK]; (walk_at "dl7")))
    refine ⟨_, put_same, ?_⟩
    refine sif_i (fun b1 => ?_) (fun b1 => ?_)
    · have ne : M.sp ≠ [] := by
        intro z
        rw [z] at b1
        cases b1
      have l1 := List.length_pos_iff.mpr ne
      have sl := oM.sl
      walk_at "dl7"
      refine drwU pa ot (fun r t r0 r1 ot => ?_)
      walk_at "dl7"
      refine sif_i (fun b2 => ?_) (fun b2 => ?_)
      · ((walk_at "dl7"); repeat (simp only [ownK, List.length_map]; (walk_at "dl7")))
        refine drwU pa ot (fun j t j0 j1 ot => ?_) (by omega)
        ((walk_at "dl7"); repeat (simp only [ownK, List.length_map]; (walk_at "dl7")))
        have hj : j.toNat < M.sp.length := by omega
        have ej : atI (M.sp.map stD) j = some (stD M.sp[j.toNat]) := by
          have z : atI (M.sp.map stD) ((j.toNat : Nat) : Int) = some (stD M.sp[j.toNat]) := atI_nat (by rw [List.getElem?_map, List.getElem?_eq_getElem hj]; rfl)
          rwa [show ((j.toNat : Nat) : Int) = j by omega] at z
        have os := oM.sp _ (List.getElem_mem hj)
        rw [q_ixl]
        refine ⟨_, ej, ?_⟩
        generalize M.sp[j.toNat] = st at os ej
        obtain ⟨u, c, v⟩ := st
        simp only at os
        simp only [stD] at ej ⊢
        walk_at "dl7"
        refine ⟨a, M.k, 20, 12, rfl, hk, kd, by decide, by decide, by decide, by decide, by omega, tp_under pa ot, fun c' t g cc ot => ?_⟩
        rw [put3 pa]
        ((walk_at "dl7"); repeat (simp only [ownK, List.length_map]; (walk_at "dl7")))
        rw [q_ixl]
        refine ⟨_, ej, ?_⟩
        ((walk_at "dl7"); repeat (simp only [ownK, List.length_map]; (walk_at "dl7")))
        refine ⟨j.toNat, by unfold ixN; rw [List.length_map, if_pos j0, if_pos (by omega)], ?_⟩
        refine ⟨M.sp.set j.toNat (u, c', v), t, _, rfl, by rw [List.length_set]; omega, fun s m => ?_, by rw [List.map_set]; rfl, ot⟩
        rcases List.mem_or_eq_of_mem_set m with m | rfl
        · exact oM.sp s m
        · exact ⟨os.1, os.2.1, os.2.2.1, os.2.2.2.1, g.1, g.2.1, g.2.2, by show c'.cnt ≤ 20; omega⟩
      · walk_at "dl7"
        exact ⟨M.sp, t, none, rfl, oM.sl, oM.sp, rfl, ot⟩
    · walk_at "dl7"
      exact ⟨M.sp, t, none, rfl, oM.sl, oM.sp, rfl, ot⟩
  · rintro τ g ⟨sp, t, x6, rfl, sl, os, rfl, ot⟩
    rw [put_comm (Ne.symm pa)]
    have hp : put h p (.lst (sp.map stD)) p = some (.lst (sp.map stD)) := put_same
    have lkp : ∀ {t : DO}, put (put h p (.lst (sp.map stD))) a t p = some (.lst (sp.map stD)) := fun {t} => by rw [put_ne pa, put_same]
    generalize put h p (.lst (sp.map stD)) = h' at lkp
    ((walk_at "dl7"); repeat (simp only [ownK, lkp]; (walk_at "dl7")))
    have em : D.tup [kD M.k, .int M.n, .tup (M.st.map .int), .tup (M.en.map .int), .tup (sp.map stD)] = mD ⟨M.k, M.n, M.st, M.en, sp⟩ := rfl
    have ek : kD M.k = kD (Mc.mk M.k M.n M.st M.en sp).k := rfl
    have oN : (Mc.mk M.k M.n M.st M.en sp).ok := ⟨oM.kk, oM.kd, oM.kc, oM.n1, oM.n9, oM.st, oM.en, sl, os⟩
    rw [em, ek]
    have ekk : (Mc.mk M.k M.n M.st M.en sp).k = M.k := rfl
    generalize hN : Mc.mk M.k M.n M.st M.en sp = N at *
    generalize M.k = k' at *
    subst ekk
    refine ⟨a, N, 20, 12, rfl, oN, by decide, by decide, tp_put ot, fun O t oO kO ot => ?_⟩
    walk_at "dl7"
    refine ⟨a, N, _, 8, rfl, oN, by decide, by decide, tp_put ot, fun w t aw wl ot => ?_⟩
    walk_at "dl7"
    refine drw (tp_put ot) (fun late t l0 l1 ot => ?_)
    have hlate : late = 0 ∨ late = 1 := by omega
    walk_at "dl7"
    refine ⟨by omega, by omega, ?_⟩
    have vw : ∀ {v : List D}, allL N.k v = true → ∀ x ∈ v, val x 40 = true := fun {v} z => allL_val oN.kk oN.kd z
    refine for_ind (fun xs τ g => ∃ (i : Int) (rem : Nat) (x6 : Option D), xs = rngD i rem ∧ 0 ≤ i ∧ i + rem = w.length + 1 ∧ τ = [some (.scr ns), some (.ref a), some (kD N.k), some (.tup [.int 20, .int 12]), some (mD N), some (.ref p), x6, some (mD O), some (.tup w), some (.int late), none, none] ∧ g = put h' a t) ?_ ?_ _ _ _ ⟨0, ((w.length : Int) + 1).toNat, x6, rfl, by decide, by omega, rfl, rfl⟩
    · rintro τ g ⟨i, rem, x6, e, _, _, rfl, rfl⟩
      rw [q_fnil]
      walk_at "dl7"
      refine ⟨fun τ g => ∃ (c : List D) (t : DO) (x6 : Option D), τ = [some (.scr ns), some (.ref a), some (kD N.k), some (.tup [.int 20, .int 12]), some (mD N), some (.ref p), x6, some (mD O), some (.tup w), some (.int late), some (.tup c), none] ∧ allL N.k c = true ∧ g = put h' a t ∧ TOk t, ?_, ?_⟩
      · walk_at "dl7"
        refine sif_i (fun b => ?_) (fun b => ?_)
        · have ne : w ≠ [] := by
            intro z
            rw [z] at b
            cases b
          have l1 := List.length_pos_iff.mpr ne
          walk_at "dl7"
          refine drw (tp_put ot) (fun j t j0 j1 ot => ?_) (by omega)
          walk_at "dl7"
          rw [q_ixt]
          obtain ⟨v, ev, mv⟩ := pick (xs := w) j0 (by omega)
          refine ⟨v, ev, ?_⟩
          have iv : isL N.k v = true := by
            have := aw
            unfold allL at this
            rw [List.all_eq_true] at this
            exact this v mv
          walk_at "dl7"
          refine ⟨a, N.k, v, rfl, oN.kk, oN.kd, oN.kd, oN.kc, iv, tp_put ot, fun u t iu ot => ?_⟩
          walk_at "dl7"
          rw [cut_take j0 (by omega), cut_drop (by omega) (by omega)]
          refine ⟨Nat.le_trans (show _ ≤ 1000 by rw [List.length_take]; omega) (by decide), Nat.le_trans (show _ ≤ 1000 by simp only [List.length_append, List.length_take, List.length_drop, List.length_cons, List.length_nil]; omega) (by decide), ?_⟩
          refine ⟨_, t, _, rfl, ?_, rfl, ot⟩
          have z1 := allL_take aw j.toNat
          have z2 := allL_drop aw (j + 1).toNat
          unfold allL at z1 z2 ⊢
          simp only [List.all_append, List.all_cons, List.all_nil, z1, z2, iu, Bool.and_self]
        · walk_at "dl7"
          exact ⟨w, t, _, rfl, aw, rfl, ot⟩
      · rintro τ g ⟨c, t, x6, rfl, ac, rfl, ot⟩
        walk_at "dl7"
        refine ⟨a, N.k, 8, rfl, oN.kk, oN.kd, oN.kc, by decide, by decide, tp_put ot, fun w2 t aw2 wl2 ot => ?_⟩
        walk_at "dl7"
        refine for_ind (fun xs τ g => (∀ x ∈ xs, ∃ (P : Mc) (v : List D), x = .tup [mD P, .tup v] ∧ P.ok ∧ P.k = N.k ∧ allL N.k v = true) ∧ ∃ x11, τ = [some (.scr ns), some (.ref a), some (kD N.k), some (.tup [.int 20, .int 12]), some (mD N), some (.ref p), x6, some (mD O), some (.tup w), some (.int late), some (.tup c), x11] ∧ g = put h' a t) ?_ ?_ _ _ _ ⟨?_, none, rfl, rfl⟩
        · rintro τ g ⟨_, x11, rfl, rfl⟩
          rw [q_fnil]
          walk_at "dl7"
          exact done _
        · rintro x xs ih τ g ⟨hx, x11, rfl, rfl⟩
          obtain ⟨P, v, rfl, oP, kP, av⟩ := hx x List.mem_cons_self
          rw [q_fcons]
          walk_at "dl7"
          refine ⟨P, v, late, rfl, oP, by rw [kP]; exact av, vw av, hlate, ?_⟩
          walk_at "dl7"
          exact ih _ _ ⟨fun y m => hx y (List.mem_cons_of_mem _ m), _, rfl, rfl⟩
        · intro x m
          simp only [List.mem_cons, List.not_mem_nil, or_false] at m
          rcases m with rfl | rfl | rfl | rfl
          · exact ⟨O, w, rfl, oO, kO, aw⟩
          · exact ⟨N, c, rfl, oN, rfl, ac⟩
          · exact ⟨N, w2, rfl, oN, rfl, aw2⟩
          · exact ⟨N, w, rfl, oN, rfl, aw⟩
    · rintro x xs ih τ g ⟨i, rem, x6, e, i0, ir, rfl, rfl⟩
      cases rem with
      | zero => cases e
      | succ rem =>
        rw [rngD_succ] at e
        cases e
        rw [q_fcons]
        walk_at "dl7"
        rw [cut_take i0 (by omega)]
        have aw2 := allL_take aw i.toNat
        refine ⟨N, _, late, rfl, oN, aw2, vw aw2, hlate, ?_⟩
        walk_at "dl7"
        exact ih _ _ ⟨i + 1, rem, _, rfl, by omega, by omega, rfl, rfl⟩
end K22

set_option Elab.async false
set_option linter.all false
set_option maxRecDepth 100000
namespace WK22
open PySem PySem.Spec PyProof.Rows L2 DL
section
variable {P : Program} {w : World} {K : PySem.W.Frag} {mg : Str → Option Value} {base : Heap}
theorem g_is_integer (T : Tx K mg) : FnD P w K mg base 1 T.f_is_integer T.d_is_integer p_is_integer K00.sp_is_integer := ok_is_integer T (fun ds h Q E ⟨v, e, _⟩ => by rw [e]; rfl) (fun ds h Q E' q => K00.rd_is_integer ds h Q E' q)
theorem g__law_whole (T : Tx K mg) : FnD P w K mg base 1 T.f__law_whole T.d__law_whole p__law_whole K00.sp_is_integer := ok__law_whole T (fun ds h Q E ⟨v, e, _⟩ => by rw [e]; rfl) (fun ds h Q E' q => K00.rd__law_whole ds h Q E' q)
theorem g__law_tape (T : Tx K mg) : FnD P w K mg base 1 T.f__law_tape T.d__law_tape p__law_tape spTape := ok__law_tape T (fun ds h Q E ⟨v, e, _⟩ => by rw [e]; rfl) (fun ds h Q E' q => K00.rd__law_tape ds h Q E' q)
theorem g__law_draw (T : Tx K mg) : FnD P w K mg base 1 T.f__law_draw T.d__law_draw p__law_draw spDraw := ok__law_draw T (fun ds h Q E ⟨a, k, e, _⟩ => by rw [e]; rfl) (fun ds h Q E' q => K00.rd__law_draw ds h Q E' q)
theorem g__law_names (T : Tx K mg) : FnD P w K mg base 2 T.f__law_names T.d__law_names p__law_names K00.spNames := ok__law_names T (g__law_draw T) (fun ds h Q E ⟨a, e, _⟩ => by rw [e]; rfl) (fun ds h Q E' q => K00.rd__law_names ds h Q E' q)
theorem g__law_kinds (T : Tx K mg) : ∀ n : Nat, FnD P w K mg base n T.f__law_kinds T.d__law_kinds p__law_kinds (K00.spKinds n)
  | 0 => FnD.none fun ds h Q E ⟨k, _, hd, _⟩ => by have := k.depth_pos; omega
  | n + 1 => ok__law_kinds T (g__law_kinds T n) (fun ds h Q E ⟨k, e, _⟩ => by rw [e]; rfl) (fun ds h Q E' q => K00.rd__law_kinds n ds h Q E' q)
theorem g__law_kind (T : Tx K mg) : ∀ n : Nat, n ≤ 50 → FnD P w K mg base (n + 50) T.f__law_kind T.d__law_kind p__law_kind (K00.spKind n)
  | 0, _ => FnD.none fun ds h Q E ⟨a, d, m, _, h1, h2, _⟩ => by omega
  | n + 1, hn => (ok__law_kind (k := n + 50) T ((g__law_draw T).mono (by omega)) ((g__law_names T).mono (by omega)) (g__law_kind T n (by omega)) ((g__law_kinds T 50).mono (by omega)) (fun ds h Q E ⟨a, d, m, e, _⟩ => by rw [e]; rfl) (fun ds h Q E' q => K00.rd__law_kind n (by omega) ds h Q E' q)).mono (by omega)
theorem g__law_any_kind (T : Tx K mg) : FnD P w K mg base 54 T.f__law_any_kind T.d__law_any_kind p__law_any_kind K04.spAnyKind := ok__law_any_kind T ((g__law_draw T).mono (by omega)) (g__law_kind T 3 (by omega)) (fun ds h Q E ⟨_, e, _⟩ => by rw [e]; rfl) (fun ds h Q E' q => K04.rd__law_any_kind ds h Q E' q)
theorem g__law_integer (T : Tx K mg) : FnD P w K mg base 2 T.f__law_integer T.d__law_integer p__law_integer K00.spInt := ok__law_integer T (g__law_draw T) (fun ds h Q E ⟨a, k, e, _⟩ => by rw [e]; rfl) (fun ds h Q E' q => K00.rd__law_integer ds h Q E' q)
theorem g__law_letter (T : Tx K mg) : ∀ n : Nat, FnD P w K mg base (n + 2) T.f__law_letter T.d__law_letter p__law_letter (K00.spLetter n)
  | 0 => FnD.none fun ds h Q E ⟨a, k, top, x, _, _, hd, _⟩ => by have := k.depth_pos; omega
  | n + 1 => ok__law_letter T ((g__law_draw T).mono (by omega)) ((g__law_integer T).mono (by omega)) (g__law_letter T n) (fun ds h Q E ⟨a, k, top, x, e, _⟩ => by rw [e]; rfl) (fun ds h Q E' q => K00.rd__law_letter n ds h Q E' q)
theorem g_is_letter (T : Tx K mg) : ∀ n : Nat, FnD P w K mg base (n + 1) T.f_is_letter T.d_is_letter p_is_letter (K00.sp_is_letter n)
  | 0 => FnD.none fun ds h Q E ⟨k, v, _, hd, _⟩ => by have := k.depth_pos; omega
  | n + 1 => ok_is_letter T ((g_is_integer T).mono (by omega)) (g_is_letter T n) (fun ds h Q E ⟨k, v, e, _⟩ => by rw [e]; rfl) (fun ds h Q E' q => K00.rd_is_letter n ds h Q E' q)
theorem g_check_letter (T : Tx K mg) : FnD P w K mg base 5 T.f_check_letter T.d_check_letter p_check_letter (K01.sp_check_letter T.c_BadLetter) := ok_check_letter T (g_is_letter T 3) (fun ds h Q E ⟨_, _, e, _⟩ => by rw [e]; rfl) (fun ds h Q E' q => K01.rd_check_letter _ ds h Q E' q)
theorem g_check_word (T : Tx K mg) : FnD P w K mg base 6 T.f_check_word T.d_check_word p_check_word (K01.sp_check_word T.c_BadLetter) := ok_check_word T (g_check_letter T) (fun ds h Q E ⟨_, _, e, _⟩ => by rw [e]; rfl) (fun ds h Q E' q => K01.rd_check_word _ ds h Q E' q)
theorem g_has_integer (T : Tx K mg) : FnD P w K mg base 1 T.f_has_integer T.d_has_integer p_has_integer K04.sp_has_integer := ok_has_integer T (fun ds h Q E ⟨_, _, _, _, _, _, e, _⟩ => by rw [e]; rfl) (fun ds h Q E' q => K04.rd_has_integer ds h Q E' q)
theorem g_contains2 (T : Tx K mg) : ∀ n : Nat, FnD P w K mg base (2 * n + 2) T.f_contains T.d_contains p_contains (K04.spContN n) ∧ FnD P w K mg base (2 * n + 3) T.f_row_of T.d_row_of p_row_of (K04.spRowOf n)
  | 0 => ⟨FnD.none fun ds h Q E ⟨k, _, _, _, hd, _⟩ => by have := k.depth_pos; omega, FnD.none fun ds h Q E ⟨k, _, _, _, _, hd, _⟩ => by have := k.depth_pos; omega⟩
  | n + 1 => by
    have i := g_contains2 T n
    have c := ok_contains (k := 2 * n + 3) T ((g_has_integer T).mono (by omega)) i.2 (i.1.mono (by omega)) (fun ds h Q E ⟨_, _, _, e, _⟩ => by rw [e]; rfl) (fun ds h Q E' q => K04.rd_contains n ds h Q E' q)
    exact ⟨c.mono (by omega), (ok_row_of (k := 2 * n + 4) T c (fun ds h Q E ⟨_, _, _, _, e, _⟩ => by rw [e]; rfl) (fun ds h Q E' q => K04.rd_row_of (n + 1) ds h Q E' q)).mono (by omega)⟩
theorem g_contains (T : Tx K mg) : FnD P w K mg base 8 T.f_contains T.d_contains p_contains (K04.spContains wf3 (fun _ _ => true) inS) := (g_contains2 T 3).1.imp fun ds h Q E ⟨k, s, v, e, d, _, i, q⟩ => ⟨k, s, v, e, d.1, d.2, i, q⟩
theorem g_met_by_value (T : Tx K mg) : FnD P w K mg base 1 T.f_met_by_value T.d_met_by_value p_met_by_value K04.spMetVal := ok_met_by_value T (fun ds h Q E ⟨_, _, _, e, _⟩ => by rw [e]; rfl) (fun ds h Q E' q => K04.rd_met_by_value ds h Q E' q)
theorem g_met {dm : Kd → Ls → Prop} {S : Kd → Ls → Bool} {C : Ls → D → Bool} {j : Nat} (T : Tx K mg) (Gc : FnD P w K mg base j T.f_contains T.d_contains p_contains (K04.spContains dm S C)) : ∀ n : Nat, FnD P w K mg base (j + n + 1) T.f_met T.d_met p_met (K04.spMet dm S C n)
  | 0 => FnD.none fun ds h Q E ⟨k, c, v, _, hd, _⟩ => by have := c.depth_pos; omega
  | n + 1 => ok_met T (g_met T Gc n) (Gc.mono (show j ≤ j + n + 1 by omega)) ((g_met_by_value T).mono (show 1 ≤ j + n + 1 by omega)) (fun ds h Q E ⟨_, _, _, e, _⟩ => by rw [e]; rfl) (fun ds h Q E' q => K04.rd_met n ds h Q E' q)
theorem g__law_inN (T : Tx K mg) : ∀ n : Nat, FnD P w K mg base n T.f__law_in T.d__law_in p__law_in (K04.spInN n)
  | 0 => FnD.none fun ds h Q E ⟨k, _, _, _, hd, _⟩ => by have := k.depth_pos; omega
  | n + 1 => ok__law_in T (g__law_inN T n) (fun ds h Q E ⟨_, _, _, e, _⟩ => by rw [e]; rfl) (fun ds h Q E' q => K04.rd__law_in n ds h Q E' q)
theorem g__law_in (T : Tx K mg) : FnD P w K mg base 3 T.f__law_in T.d__law_in p__law_in (K04.spLawIn wf3 (fun _ _ => true) inS) := (g__law_inN T 3).imp fun ds h Q E ⟨k, s, v, e, d, _, i, q⟩ => ⟨k, s, v, e, d.1, d.2, i, q⟩
theorem g__law_meets {dm : Kd → Ls → Prop} {S : Kd → Ls → Bool} {C : Ls → D → Bool} {j : Nat} (T : Tx K mg) (Gc : FnD P w K mg base j T.f__law_in T.d__law_in p__law_in (K04.spLawIn dm S C)) : ∀ n : Nat, FnD P w K mg base (j + n) T.f__law_meets T.d__law_meets p__law_meets (K04.spLawMeets dm S C n)
  | 0 => FnD.none fun ds h Q E ⟨k, c, v, _, hd, _⟩ => by have := c.depth_pos; omega
  | n + 1 => ok__law_meets T (g__law_meets T Gc n) (Gc.mono (show j ≤ j + n by omega)) (fun ds h Q E ⟨_, _, _, e, _⟩ => by rw [e]; rfl) (fun ds h Q E' q => K04.rd__law_meets n ds h Q E' q)
theorem g__law_conditions (T : Tx K mg) : ∀ n : Nat, FnD P w K mg base n T.f__law_conditions T.d__law_conditions p__law_conditions (K04.spConds n)
  | 0 => FnD.none fun ds h Q E ⟨c, _, hd, _⟩ => by have := c.depth_pos; omega
  | n + 1 => ok__law_conditions T (g__law_conditions T n) (fun ds h Q E ⟨_, e, _⟩ => by rw [e]; rfl) (fun ds h Q E' q => K04.rd__law_conditions n ds h Q E' q)
theorem g__law_comparison (T : Tx K mg) : FnD P w K mg base 2 T.f__law_comparison T.d__law_comparison p__law_comparison K04.spComparison := ok__law_comparison T (g__law_draw T) (fun ds h Q E ⟨_, _, _, e, _⟩ => by rw [e]; rfl) (fun ds h Q E' q => K04.rd__law_comparison ds h Q E' q)
theorem g__law_modulus (T : Tx K mg) : FnD P w K mg base 2 T.f__law_modulus T.d__law_modulus p__law_modulus K04.spModulus := ok__law_modulus T (g__law_draw T) (fun ds h Q E ⟨_, _, _, e, _⟩ => by rw [e]; rfl) (fun ds h Q E' q => K04.rd__law_modulus ds h Q E' q)
theorem g__law_condition2 (T : Tx K mg) : ∀ n : Nat, n ≤ 50 → FnD P w K mg base (2 * n + 60) T.f__law_condition T.d__law_condition p__law_condition (K04.spCond n) ∧ FnD P w K mg base (2 * n + 59) T.f__law_leaf T.d__law_leaf p__law_leaf (K04.spCond n)
  | 0, _ => ⟨FnD.none fun ds h Q E ⟨_, _, _, _, _, _, _, _, _, _, h1, h2, _⟩ => by omega, FnD.none fun ds h Q E ⟨_, _, _, _, _, _, _, _, _, _, h1, h2, _⟩ => by omega⟩
  | n + 1, hn => by
    have i := (g__law_condition2 T n (by omega)).1
    have lf : FnD P w K mg base (2 * n + 61) T.f__law_leaf T.d__law_leaf p__law_leaf (K04.spCond (n + 1)) := ok__law_leaf T ((g__law_draw T).mono (by omega)) ((g__law_modulus T).mono (by omega)) ((g__law_comparison T).mono (by omega)) i (fun ds h Q E ⟨_, _, _, _, _, e, _⟩ => by rw [e]; rfl) (fun ds h Q E' q => K04.rd__law_leaf n ds h Q E' q)
    exact ⟨(ok__law_condition T ((g__law_draw T).mono (by omega)) (i.mono (by omega)) ((g__law_conditions T 50).mono (by omega)) lf (fun ds h Q E ⟨_, _, _, _, _, e, _⟩ => by rw [e]; rfl) (fun ds h Q E' q => K04.rd__law_condition n (by omega) ds h Q E' q)).mono (by omega), lf.mono (by omega)⟩
theorem g__law_same (T : Tx K mg) : ∀ n : Nat, FnD P w K mg base (n + 1) T.f__law_same T.d__law_same p__law_same (K03.spSame n)
  | 0 => FnD.none fun ds h Q E ⟨x, m, e, _⟩ => by cases e
  | n + 1 => ok__law_same T (g__law_same T n) ((g__law_whole T).mono (by omega)) (fun ds h Q E ⟨_, _, _, e, _⟩ => by rw [e]; rfl) (fun ds h Q E' q => K03.rd__law_same n ds h Q E' q)
theorem g__law_word (T : Tx K mg) : FnD P w K mg base 6 T.f__law_word T.d__law_word p__law_word K02.spWord := ok__law_word T ((g__law_draw T).mono (by omega)) (g__law_letter T 3) (fun ds h Q E ⟨_, _, _, e, _⟩ => by rw [e]; rfl) (fun ds h Q E' q => K02.rd__law_word ds h Q E' q)
theorem g__law_near (T : Tx K mg) : ∀ n : Nat, FnD P w K mg base (n + 6) T.f__law_near T.d__law_near p__law_near (K01.spNear n)
  | 0 => FnD.none fun ds h Q E ⟨_, k, _, _, _, hd, _⟩ => by have := k.depth_pos; omega
  | n + 1 => ok__law_near T ((g__law_draw T).mono (by omega)) (g__law_near T n) ((g__law_letter T 3).mono (by omega)) (fun ds h Q E ⟨_, _, _, e, _⟩ => by rw [e]; rfl) (fun ds h Q E' q => K01.rd__law_near n ds h Q E' q)
theorem g__law_part (T : Tx K mg) : FnD P w K mg base 2 T.f__law_part T.d__law_part p__law_part K22.spPart := ok__law_part T (g__law_draw T) (fun ds h Q E ⟨_, _, e, _⟩ => by rw [e]; rfl) (fun ds h Q E' q => K22.rd__law_part ds h Q E' q)
theorem g__law_machine (T : Tx K mg) : FnD P w K mg base 80 T.f__law_machine T.d__law_machine p__law_machine K22.spMachine := ok__law_machine (k := 79) T ((g__law_draw T).mono (by omega)) ((g__law_part T).mono (by omega)) ((g__law_condition2 T 8 (by omega)).1.mono (by omega)) ((g__law_conditions T 50).mono (by omega)) (fun ds h Q E ⟨_, _, _, _, _, _, _, e, _⟩ => by rw [e]; rfl) (fun ds h Q E' q => K22.rd__law_machine ds h Q E' q)
theorem g__law_behind (T : Tx K mg) : FnD P w K mg base 44 T.f__law_behind T.d__law_behind p__law_behind K22.spBehind := ok__law_behind (k := 43) T ((g__law_meets T (g__law_in T) 40).mono (by omega)) (fun ds h Q E ⟨_, _, _, e, _⟩ => by rw [e]; rfl) (fun ds h Q E' q => K22.rd__law_behind ds h Q E' q)
theorem g__law_going (T : Tx K mg) : FnD P w K mg base 60 T.f__law_going T.d__law_going p__law_going K22.spGoing := ok__law_going (k := 59) T ((g__law_draw T).mono (by omega)) ((g__law_letter T 3).mono (by omega)) ((g__law_behind T).mono (by omega)) (fun ds h Q E ⟨_, _, _, _, e, _⟩ => by rw [e]; rfl) (fun ds h Q E' q => K22.rd__law_going ds h Q E' q)
theorem g__law_variedG {dm : Kd → Ls → Prop} {S : Kd → Ls → Bool} (T : Tx K mg) : ∀ n : Nat, FnD P w K mg base (n + 70) T.f__law_varied T.d__law_varied p__law_varied (K04.spVariedG dm S n)
  | 0 => FnD.none fun ds h Q E ⟨_, k, c, _, _, _, _, _, hd, _⟩ => by have := c.cnt_pos; omega
  | n + 1 => ok__law_varied T ((g__law_draw T).mono (by omega)) (g__law_variedG T n) ((g__law_condition2 T 1 (by omega)).1.mono (by omega)) (fun ds h Q E ⟨_, _, _, _, _, e, _⟩ => by rw [e]; rfl) (fun ds h Q E' q => K04.rd__law_variedG n 0 ds h Q E' q)
theorem g__law_other_machine (T : Tx K mg) : FnD P w K mg base 100 T.f__law_other_machine T.d__law_other_machine p__law_other_machine K22.spOther := ok__law_other_machine (k := 99) T ((g__law_draw T).mono (by omega)) ((g__law_condition2 T 8 (by omega)).1.mono (by omega)) ((g__law_variedG T 20).mono (by omega)) (fun ds h Q E ⟨_, _, _, _, e, _⟩ => by rw [e]; rfl) (fun ds h Q E' q => K22.rd__law_other_machine ds h Q E' q)
theorem g__law_shortest (T : Tx K mg) : FnD P w K mg base 1 T.f__law_shortest T.d__law_shortest p__law_shortest K22.spShort := ok__law_shortest T (fun ds h Q E ⟨_, e, _⟩ => by rw [e]; rfl) (fun ds h Q E' q => K22.rd__law_shortest ds h Q E' q)
theorem g__law_integers_of (T : Tx K mg) : FnD P w K mg base 2 T.f__law_integers_of T.d__law_integers_of p__law_integers_of K22.spIntsOf := ok__law_integers_of T (g__law_shortest T) (fun ds h Q E ⟨_, _, _, e, _⟩ => by rw [e]; rfl) (fun ds h Q E' q => K22.rd__law_integers_of ds h Q E' q)
theorem g__law_integer_groups (T : Tx K mg) : FnD P w K mg base 3 T.f__law_integer_groups T.d__law_integer_groups p__law_integer_groups K22.spGroups := ok__law_integer_groups T ((g__law_draw T).mono (by omega)) (g__law_integers_of T) (fun ds h Q E ⟨_, _, _, _, e, _⟩ => by rw [e]; rfl) (fun ds h Q E' q => K22.rd__law_integer_groups ds h Q E' q)
theorem g__law_leaf_set (T : Tx K mg) : ∀ n : Nat, FnD P w K mg base (n + 4) T.f__law_leaf_set T.d__law_leaf_set p__law_leaf_set (K22.spLeafSet n)
  | 0 => FnD.none fun ds h Q E ⟨_, k, _, _, _, _, hd, _⟩ => by have := k.depth_pos; omega
  | n + 1 => ok__law_leaf_set T ((g__law_draw T).mono (by omega)) (g__law_leaf_set T n) ((g__law_integer_groups T).mono (by omega)) (fun ds h Q E ⟨_, _, _, _, e, _⟩ => by rw [e]; rfl) (fun ds h Q E' q => K22.rd__law_leaf_set n ds h Q E' q)
theorem g_behind_letter (T : Tx K mg) : FnD P w K mg base 60 T.f_behind_letter T.d_behind_letter p_behind_letter K22.spBehind := ok_behind_letter (k := 59) T ((g_met T (g_contains T) 40).mono (by omega)) (fun ds h Q E ⟨_, _, _, e, _⟩ => by rw [e]; rfl) (fun ds h Q E' q => K22.rd_behind_letter ds h Q E' q)
theorem g_states_behind (T : Tx K mg) : FnD P w K mg base 61 T.f_states_behind T.d_states_behind p_states_behind (K22.spStsBehind T.c_BadLetter) := ok_states_behind T ((g_check_word T).mono (by omega)) (g_behind_letter T) (fun ds h Q E ⟨_, _, e, _⟩ => by rw [e]; rfl) (fun ds h Q E' q => K22.rd_states_behind _ ds h Q E' q)
theorem g_has_end (T : Tx K mg) : FnD P w K mg base 1 T.f_has_end T.d_has_end p_has_end K22.spHasEnd := ok_has_end T (fun ds h Q E ⟨_, _, e, _⟩ => by rw [e]; rfl) (fun ds h Q E' q => K22.rd_has_end ds h Q E' q)
theorem g_takes (T : Tx K mg) : FnD P w K mg base 62 T.f_takes T.d_takes p_takes (K22.spTakes T.c_BadLetter) := ok_takes T (g_states_behind T) ((g_has_end T).mono (by omega)) (fun ds h Q E ⟨_, _, e, _⟩ => by rw [e]; rfl) (fun ds h Q E' q => K22.rd_takes _ ds h Q E' q)
theorem g__law_has_end (T : Tx K mg) : FnD P w K mg base 1 T.f__law_has_end T.d__law_has_end p__law_has_end K22.spHasEnd := ok__law_has_end T (fun ds h Q E ⟨_, _, e, _⟩ => by rw [e]; rfl) (fun ds h Q E' q => K22.rd__law_has_end ds h Q E' q)
theorem g__law_led (T : Tx K mg) : FnD P w K mg base 45 T.f__law_led T.d__law_led p__law_led K22.spLed := ok__law_led T (g__law_behind T) (fun ds h Q E ⟨_, _, _, e, _⟩ => by rw [e]; rfl) (fun ds h Q E' q => K22.rd__law_led ds h Q E' q)
theorem g__law_answers (T : Tx K mg) : FnD P w K mg base 70 T.f__law_answers T.d__law_answers p__law_answers K22.spAnsw := ok__law_answers (k := 69) T ((g__law_led T).mono (by omega)) ((g_states_behind T).mono (by omega)) ((g__law_same T 2).mono (by omega)) ((g__law_has_end T).mono (by omega)) ((g_takes T).mono (by omega)) (fun ds h Q E ⟨_, _, _, e, _⟩ => by rw [e]; rfl) (fun ds h Q E' q => K22.rd__law_answers _ ds h Q E' q)
theorem ok_all (T : Tx K mg) : FnD P w K mg base 200 T.f_law T.d_law p_law spLaw :=
  ok_law (k := 199) T ((g__law_tape T).mono (by omega)) ((g__law_any_kind T).mono (by omega)) ((g__law_draw T).mono (by omega)) ((g__law_machine T).mono (by omega)) ((g__law_leaf_set T 3).mono (by omega)) ((g__law_other_machine T).mono (by omega)) ((g__law_going T).mono (by omega)) ((g__law_answers T).mono (by omega)) ((g__law_near T 3).mono (by omega)) ((g__law_word T).mono (by omega))
    (fun ds h Q E ⟨ns, e, _⟩ => by rw [e]; rfl) (fun ds h Q E' q => K22.rd_law ds h Q E' q)
end
end WK22

set_option Elab.async false
set_option linter.all false
namespace WK22
open PySem PySem.Spec PyProof.Rows L2 DL
theorem walk {l : PySem.W.OpenLaw} {q : Program} {loose : List Str} {XP : (Str → Option Value) → Heap → Prop} {YP : World → Heap → Prop}
    {d : DefRec} {K : Params → PySem.W.Frag} (hn : l.most = some 63) (hdf : d.params.defaults = [])
    (hY : ∀ (w : World) (h : Heap),
      YP w h → (K w.params).In h)
    (hd : d.name = "law")
    (F : ∀ (w : World) (mg : Str → Option Value) (h : Heap), (K w.params).In h → h.Ns mainGlobals mg →
      ∃ T : Tx (K w.params) mg, ∀ (s : Shared) (v : Value), BindsTo s T.d_law ⟨[v], []⟩ [("script", v)]) :
    PySem.W.WalkO q loose XP YP l.row.toRowW d []
      (fun f vs => PySem.call f vs) := by
  refine L2.walk_of (n := 63) (k := 200) (x := "script") (CX := fun w => L2N.CX l.prog w) (sp := fun w => lSp (K w.params) spLaw) hn (by decide) hdf ⟨rfl, by decide, by decide⟩ hY (fun w mg fa h hK hG hm => ?_) (fun w H a ns hl hO hS => ?_) fun w H s e s' z => ?_
  · obtain ⟨T, b⟩ := F w mg h hK hG
    rw [hd] at hm
    have e : T.f_law = fa := by
      have z := T.m_law.symm.trans hm
      cases z
      rfl
    exact ⟨T.d_law, b, fun base _ _ => e ▸ ok_all T⟩
  · refine ⟨[.scr ns], fun _ => none, fun d _ => d = .bl true, fun _ _ => False, ⟨.ref a, [], rfl, ⟨a, rfl, ?_⟩, rfl⟩, (fun a o e => by cases e), ⟨ns, rfl, hl, fun _ => rfl, fun _ => rfl⟩, fun d h' v H' _ _ r q => ?_, fun _ _ _ _ _ z => z⟩
    · exact hS.elim (fun z => .inl ⟨rfl, z⟩) .inr
    · subst q; exact r
  · obtain ⟨_, _, _, _, _, _, _, _, _, _, _, _, z⟩ := z
    exact z
end WK22
open PySem PySem.W PyProof.Rows
set_option maxRecDepth 100000 in
set_option maxHeartbeats 0 in
theorem PySem.Challenge.cw_guardwords_k22_states_behind_a_word_holds : PySem.Challenge.rw_guardwords_k22_states_behind_a_word.Holds := by
  w_on; o_law; k_head; (case hw => w_witness2)
  k_fill
  refine WK22.walk (l := PySem.Challenge.rw_guardwords_k22_states_behind_a_word) rfl rfl (fun w h Y => PySem.W.kIn_of Y) rfl ?F
  case F =>
    intro w mg h KX G
    refine' WK22.tx_mk KX G ?a0 ?l0 ?c0 ?k0 ?a1 ?l1 ?c1 ?k1 ?a2 ?l2 ?c2 ?k2 ?a3 ?l3 ?c3 ?k3 ?a4 ?l4 ?c4 ?k4 ?a5 ?l5 ?c5 ?k5 ?a6 ?l6 ?c6 ?k6 ?a7 ?l7 ?c7 ?k7 ?a8 ?l8 ?c8 ?k8 ?a9 ?l9 ?c9 ?k9 ?a10 ?l10 ?c10 ?k10 ?a11 ?l11 ?c11 ?k11 ?a12 ?l12 ?c12 ?k12 ?a13 ?l13 ?c13 ?k13 ?a14 ?l14 ?c14 ?k14 ?a15 ?l15 ?c15 ?k15 ?a16 ?l16 ?c16 ?k16 ?a17 ?l17 ?c17 ?k17 ?a18 ?l18 ?c18 ?k18 ?a19 ?l19 ?c19 ?k19 ?a20 ?l20 ?c20 ?k20 ?a21 ?l21 ?c21 ?k21 ?a22 ?l22 ?c22 ?k22 ?a23 ?l23 ?c23 ?k23 ?a24 ?l24 ?c24 ?k24 ?a25 ?l25 ?c25 ?k25 ?a26 ?l26 ?c26 ?k26 ?a27 ?l27 ?c27 ?k27 ?a28 ?l28 ?c28 ?k28 ?a29 ?l29 ?c29 ?k29 ?a30 ?l30 ?c30 ?k30 ?a31 ?l31 ?c31 ?k31 ?a32 ?l32 ?c32 ?k32 ?a33 ?l33 ?c33 ?k33 ?a34 ?l34 ?c34 ?k34 ?a35 ?l35 ?c35 ?k35 ?a36 ?l36 ?c36 ?k36 ?a37 ?l37 ?c37 ?k37 ?a38 ?l38 ?c38 ?k38 ?a39 ?l39 ?c39 ?k39 ?a40 ?l40 ?c40 ?k40 ?a41 ?l41 ?c41 ?k41 ?a42 ?l42 ?c42 ?k42 ?a43 ?l43 ?c43 ?k43 ?a44 ?l44 ?c44 ?k44 ?a45 ?l45 ?c45 ?k45 ?z_abs ?z_any ?z_bool ?z_int ?z_isinstance ?z_len ?z_list ?z_max ?z_min ?z_range ?z_sorted ?z_str ?z_sum ?z_tuple ?m_BadLetter ?x_BadLetter ?k_BadLetter ?b_BadLetter ?t_BadLetter
    (case a0 => k_is)
    (case l0 => k_is)
    (case c0 => k_is)
    (case k0 => k_is)
    (case a1 => k_is)
    (case l1 => k_is)
    (case c1 => k_is)
    (case k1 => k_is)
    (case a2 => k_is)
    (case l2 => k_is)
    (case c2 => k_is)
    (case k2 => k_is)
    (case a3 => k_is)
    (case l3 => k_is)
    (case c3 => k_is)
    (case k3 => k_is)
    (case a4 => k_is)
    (case l4 => k_is)
    (case c4 => k_is)
    (case k4 => k_is)
    (case a5 => k_is)
    (case l5 => k_is)
    (case c5 => k_is)
    (case k5 => k_is)
    (case a6 => k_is)
    (case l6 => k_is)
    (case c6 => k_is)
    (case k6 => k_is)
    (case a7 => k_is)
    (case l7 => k_is)
    (case c7 => k_is)
    (case k7 => k_is)
    (case a8 => k_is)
    (case l8 => k_is)
    (case c8 => k_is)
    (case k8 => k_is)
    (case a9 => k_is)
    (case l9 => k_is)
    (case c9 => k_is)
    (case k9 => k_is)
    (case a10 => k_is)
    (case l10 => k_is)
    (case c10 => k_is)
    (case k10 => k_is)
    (case a11 => k_is)
    (case l11 => k_is)
    (case c11 => k_is)
    (case k11 => k_is)
    (case a12 => k_is)
    (case l12 => k_is)
    (case c12 => k_is)
    (case k12 => k_is)
    (case a13 => k_is)
    (case l13 => k_is)
    (case c13 => k_is)
    (case k13 => k_is)
    (case a14 => k_is)
    (case l14 => k_is)
    (case c14 => k_is)
    (case k14 => k_is)
    (case a15 => k_is)
    (case l15 => k_is)
    (case c15 => k_is)
    (case k15 => k_is)
    (case a16 => k_is)
    (case l16 => k_is)
    (case c16 => k_is)
    (case k16 => k_is)
    (case a17 => k_is)
    (case l17 => k_is)
    (case c17 => k_is)
    (case k17 => k_is)
    (case a18 => k_is)
    (case l18 => k_is)
    (case c18 => k_is)
    (case k18 => k_is)
    (case a19 => k_is)
    (case l19 => k_is)
    (case c19 => k_is)
    (case k19 => k_is)
    (case a20 => k_is)
    (case l20 => k_is)
    (case c20 => k_is)
    (case k20 => k_is)
    (case a21 => k_is)
    (case l21 => k_is)
    (case c21 => k_is)
    (case k21 => k_is)
    (case a22 => k_is)
    (case l22 => k_is)
    (case c22 => k_is)
    (case k22 => k_is)
    (case a23 => k_is)
    (case l23 => k_is)
    (case c23 => k_is)
    (case k23 => k_is)
    (case a24 => k_is)
    (case l24 => k_is)
    (case c24 => k_is)
    (case k24 => k_is)
    (case a25 => k_is)
    (case l25 => k_is)
    (case c25 => k_is)
    (case k25 => k_is)
    (case a26 => k_is)
    (case l26 => k_is)
    (case c26 => k_is)
    (case k26 => k_is)
    (case a27 => k_is)
    (case l27 => k_is)
    (case c27 => k_is)
    (case k27 => k_is)
    (case a28 => k_is)
    (case l28 => k_is)
    (case c28 => k_is)
    (case k28 => k_is)
    (case a29 => k_is)
    (case l29 => k_is)
    (case c29 => k_is)
    (case k29 => k_is)
    (case a30 => k_is)
    (case l30 => k_is)
    (case c30 => k_is)
    (case k30 => k_is)
    (case a31 => k_is)
    (case l31 => k_is)
    (case c31 => k_is)
    (case k31 => k_is)
    (case a32 => k_is)
    (case l32 => k_is)
    (case c32 => k_is)
    (case k32 => k_is)
    (case a33 => k_is)
    (case l33 => k_is)
    (case c33 => k_is)
    (case k33 => k_is)
    (case a34 => k_is)
    (case l34 => k_is)
    (case c34 => k_is)
    (case k34 => k_is)
    (case a35 => k_is)
    (case l35 => k_is)
    (case c35 => k_is)
    (case k35 => k_is)
    (case a36 => k_is)
    (case l36 => k_is)
    (case c36 => k_is)
    (case k36 => k_is)
    (case a37 => k_is)
    (case l37 => k_is)
    (case c37 => k_is)
    (case k37 => k_is)
    (case a38 => k_is)
    (case l38 => k_is)
    (case c38 => k_is)
    (case k38 => k_is)
    (case a39 => k_is)
    (case l39 => k_is)
    (case c39 => k_is)
    (case k39 => k_is)
    (case a40 => k_is)
    (case l40 => k_is)
    (case c40 => k_is)
    (case k40 => k_is)
    (case a41 => k_is)
    (case l41 => k_is)
    (case c41 => k_is)
    (case k41 => k_is)
    (case a42 => k_is)
    (case l42 => k_is)
    (case c42 => k_is)
    (case k42 => k_is)
    (case a43 => k_is)
    (case l43 => k_is)
    (case c43 => k_is)
    (case k43 => k_is)
    (case a44 => k_is)
    (case l44 => k_is)
    (case c44 => k_is)
    (case k44 => k_is)
    (case a45 => k_is)
    (case l45 => k_is)
    (case c45 => k_is)
    (case k45 => k_is)
    (case z_abs => k_is)
    (case z_any => k_is)
    (case z_bool => k_is)
    (case z_int => k_is)
    (case z_isinstance => k_is)
    (case z_len => k_is)
    (case z_list => k_is)
    (case z_max => k_is)
    (case z_min => k_is)
    (case z_range => k_is)
    (case z_sorted => k_is)
    (case z_str => k_is)
    (case z_sum => k_is)
    (case z_tuple => k_is)
    (case m_BadLetter => first | k_is | k_exc | kit_is)
    (case x_BadLetter => first | k_is | k_exc | kit_is)
    (case k_BadLetter => first | k_is | k_exc | kit_is)
    (case b_BadLetter => first | k_is | k_exc | kit_is)
    (case t_BadLetter => first | k_is | k_exc | kit_is)

